import PyProof.Rows.All
import Wide.All
import OpenK.AllK
import Wide.FinOn
import HandS.ForMost
import HandS.ForExc
import HandS.More
import HandS.Wide
import HandS.TupAny
import HandS.TupMul
import HandS.FStr
import HandS.RaiseMore
import HandS.IsInst
import HandS.Flow
import HandS.TryOnly
import PyProof.ReprRoads
import HandS.ExcOwn
import HandS.CallSlots
import HandS.Property
import HandS.Comp
import HandS.Defaults
import HandS.Head0
import HandS.Head1
import HandS.Head2
import HandS.HeadEnd
import HandS.HeadHook1
import HandS.HeadHook2
import KE.KStateDown
import PyProof.Walk
import PyProof.WalkLemmas
import PyProof.Pure
import KE.KOpsOwn
import HandS.SlotsOwn
import KE.KCallOwn
import PyProof.DictUpdate
import HandS.Small
import HandS.DictComp
import HandS.CallLocal
import HandS.MakeKwOnly
import HandS.HeadHook3
import HandS.ListItems
import HandS.NoneIn
import HandS.Style
import HandS.SortInts
import HandS.Iter
import HandS.Conv
import HandS.ClsMeth
import OpenK.KMeth
import HandS.DictTup
import HandS.TupLen
import HandS.Zip
import HandS.Deep
import KE.GoesMore
import PyProof.P3Eq
import PySem.Challenge.RW_gatheredbells_k80_whole_levels_and_stret
set_option Elab.async false
set_option autoImplicit false
set_option linter.all false
set_option maxRecDepth 100000
set_option maxHeartbeats 4000000
/-! VL, part A: plain values, what they stand for in the heap, who may change what. -/
namespace VL
open PySem L2

/-- how a dict's keys are kept: ints and texts, flat tuples, any data -/
inductive DK where
  | k | t | n
  deriving DecidableEq

/-- a value as a tree; o: whether it may still be changed by the one who holds it -/
inductive Val where
  | non | bl (b : Bool) | int (i : Int) | str (x : Str) | ty (n : String) | cn (n : Nat)
  | tup (xs : List Val)
  | lst (o : Bool) (xs : List Val)
  | dct (o : Bool) (d : DK) (ks : List Val) (xs : List Val)
  | obj (o : Bool) (C : Nat) (fs : List Str) (xs : List Val)
  | exn (C : Nat) (fs : List Str) (xs : List Val)
  /-- the script -/
  | scr (ns : List Int)
  /-- a dict of the module's own -/
  | wdk (ks : List Val) (xs : List Val)
  /-- a tuple of the module's own -/
  | wtp (xs : List Val)
  /-- a def, held as a value -/
  | fn (n : Nat)

mutual
def Val.fz : Val → Bool
  | .non => true | .bl _ => true | .int _ => true | .str _ => true | .ty _ => true | .cn _ => true
  | .tup xs => fzs xs
  | .lst o xs => !o && fzs xs
  | .dct o _ _ xs => !o && fzs xs
  | .obj o _ _ xs => !o && fzs xs
  | .exn _ _ _ => true
  | .scr _ => true
  | .wdk _ _ => true
  | .wtp _ => true
  | .fn _ => true
def fzs : List Val → Bool
  | [] => true
  | x :: xs => x.fz && fzs xs
end
mutual
def Val.frz : Val → Val
  | .non => .non | .bl b => .bl b | .int i => .int i | .str x => .str x | .ty n => .ty n | .cn n => .cn n
  | .tup xs => .tup (frzs xs)
  | .lst _ xs => .lst false (frzs xs)
  | .dct _ d ks xs => .dct false d ks (frzs xs)
  | .obj _ C fs xs => .obj false C fs (frzs xs)
  | .exn C fs xs => .exn C fs xs
  | .scr ns => .scr ns
  | .wdk ks xs => .wdk ks xs
  | .wtp xs => .wtp xs
  | .fn n => .fn n
def frzs : List Val → List Val
  | [] => []
  | x :: xs => x.frz :: frzs xs
end
theorem frzs_map : ∀ xs : List Val, frzs xs = xs.map Val.frz
  | [] => by simp [frzs]
  | x :: xs => by simp [frzs, frzs_map xs]
theorem fzs_all : ∀ xs : List Val, fzs xs = xs.all Val.fz
  | [] => by simp [fzs]
  | x :: xs => by simp [fzs, fzs_all xs]

def ofKey : Key → Val
  | .inl i => .int i
  | .inr x => .str x

/-- what is fixed while the law runs -/
structure Gam where
  K : PySem.W.Frag
  cn : Nat → Option Addr
  fa : Nat → Option Addr
  hot : List (Addr × Value × Option Addr)
  w : World

/-- a dict of the module's own: what is found at each text -/
def WDct (K : PySem.W.Frag) (w : World) (a : Addr) (kvs : List (Key × V)) : Prop := (∃ es n, KDict K w a es n) ∧ (∀ z v, valV kvs (.inr z) = some v → KDct K w a z v) ∧ ∀ z, valV kvs (.inr z) = none → PySem.W.nsIn K a z = some none
def KT (K : PySem.W.Frag) (a : Addr) (xs : List V) : Prop := SqT K (fun _ => none) a xs
/-- it is there, and nobody changes it -/
def Fz (W : Addr → Prop) (H : Hp) (a : Addr) (u : HO) : Prop := H a = some u ∧ ¬ W a

/-- .. as a dict that may stand locked -/
def Fd (W : Addr → Prop) (H : Hp) (a : Addr) (u : HO) : Prop := Rd H a u ∧ ¬ W a
mutual
/-- x, in the heap H, is the tree v; the addresses of what may be changed: O -/
inductive Rep (G : Gam) (W : Addr → Prop) (H : Hp) : V → Val → List Addr → Prop
  | non : Rep G W H .non .non []
  | bl (b : Bool) : Rep G W H (.bl b) (.bl b) []
  | int (i : Int) : Rep G W H (.int i) (.int i) []
  | str (x : Str) : Rep G W H (.str x) (.str x) []
  | ty (n : String) : Rep G W H (.ty n) (.ty n) []
  | cn {n : Nat} {a : Addr} (h : G.cn n = some a) : Rep G W H (.ref a) (.cn n) []
  | fn {n : Nat} {a : Addr} (h : G.fa n = some a) : Rep G W H (.ref a) (.fn n) []
  | tup {a : Addr} {xs : List V} {vs : List Val} {O : List Addr} (h : Fz W H a (.tup xs)) (r : Reps G W H xs vs O) : Rep G W H (.ref a) (.tup vs) O
  | lstO {a : Addr} {xs : List V} {vs : List Val} {O : List Addr} (h : H a = some (.lst xs)) (r : Reps G W H xs vs O) : Rep G W H (.ref a) (.lst true vs) (a :: O)
  | lstF {a : Addr} {xs : List V} {vs : List Val} (h : Fz W H a (.lst xs)) (r : Reps G W H xs vs []) : Rep G W H (.ref a) (.lst false vs) []
  | dkO {a : Addr} {kvs : List (Key × V)} {ks vs : List Val} {O : List Addr} (h : H a = some (.dK kvs)) (hk : ks = kvs.map fun p => ofKey p.1) (r : Reps G W H (kvs.map (·.2)) vs O) : Rep G W H (.ref a) (.dct true .k ks vs) (a :: O)
  | dkF {a : Addr} {kvs : List (Key × V)} {ks vs : List Val} (h : Fd W H a (.dK kvs)) (hk : ks = kvs.map fun p => ofKey p.1) (r : Reps G W H (kvs.map (·.2)) vs []) : Rep G W H (.ref a) (.dct false .k ks vs) []
  | dtO {a : Addr} {kvs : List (List Key × V)} {ks vs : List Val} {O : List Addr} (h : H a = some (.dT kvs)) (hk : ks = kvs.map fun p => Val.tup (p.1.map ofKey)) (r : Reps G W H (kvs.map (·.2)) vs O) : Rep G W H (.ref a) (.dct true .t ks vs) (a :: O)
  | dtF {a : Addr} {kvs : List (List Key × V)} {ks vs : List Val} (h : Fz W H a (.dT kvs)) (hk : ks = kvs.map fun p => Val.tup (p.1.map ofKey)) (r : Reps G W H (kvs.map (·.2)) vs []) : Rep G W H (.ref a) (.dct false .t ks vs) []
  | objO {a C dx : Addr} {fs : List (Str × V)} {n : Nat} {ns : List Str} {vs : List Val} {O : List Addr} (h : H a = some (.ins C dx fs)) (hc : G.cn n = some C) (hn : ns = fs.map (·.1)) (r : Reps G W H (fs.map (·.2)) vs O) : Rep G W H (.ref a) (.obj true n ns vs) (a :: O)
  | objF {a C dx : Addr} {fs : List (Str × V)} {n : Nat} {ns : List Str} {vs : List Val} (h : Fz W H a (.ins C dx fs)) (hc : G.cn n = some C) (hn : ns = fs.map (·.1)) (r : Reps G W H (fs.map (·.2)) vs []) : Rep G W H (.ref a) (.obj false n ns vs) []
  | exn {a C d : Addr} {fs : List (Str × V)} {n : Nat} {ns : List Str} {vs : List Val} (hh : (a, Value.ref C, some d) ∈ G.hot) (hc : G.cn n = some C) (h : H d = some (.xd fs) ∧ ¬ W d) (hn : ns = fs.map (·.1)) (r : Reps G W H (fs.map (·.2)) vs []) : Rep G W H (.ref a) (.exn n ns vs) []
  | scr {a : Addr} {ns : List Int} (h : (∃ o, H a = some (.frz o (.lst (ns.map V.int))) ∧ ¬ W a) ∨ SqL G.K (fun _ => none) a (ns.map V.int)) : Rep G W H (.ref a) (.scr ns) []
  | wdk {a : Addr} {kvs : List (Key × V)} {ks vs : List Val} (h : WDct G.K G.w a kvs) (hk : ks = kvs.map fun p => ofKey p.1) (r : Reps G W H (kvs.map (·.2)) vs []) : Rep G W H (.ref a) (.wdk ks vs) []
  | wtp {a : Addr} {xs : List V} {vs : List Val} (h : KT G.K a xs) (r : Reps G W H xs vs []) : Rep G W H (.ref a) (.wtp vs) []
inductive Reps (G : Gam) (W : Addr → Prop) (H : Hp) : List V → List Val → List Addr → Prop
  | nil : Reps G W H [] [] []
  | cons {x : V} {v : Val} {xs : List V} {vs : List Val} {O O' : List Addr} (r : Rep G W H x v O) (t : Reps G W H xs vs O') : Reps G W H (x :: xs) (v :: vs) (O ++ O')
end

/-- nothing but what W names changes -/
def Keep (W : Addr → Prop) (H : Hp) (W' : Addr → Prop) (H' : Hp) : Prop := ∀ a o, H a = some o → ¬ W a → H' a = some o ∧ ¬ W' a

section
variable {G : Gam} {W W' : Addr → Prop} {H H' : Hp}
theorem Fd.mono {a : Addr} {u : HO} (h : Fd W H a u) (k : Keep W H W' H') : Fd W' H' a u := by
  obtain ⟨r, nw⟩ := h
  rcases r with r | ⟨o, r⟩
  · exact ⟨.inl (k a _ r nw).1, (k a _ r nw).2⟩
  · exact ⟨.inr ⟨o, (k a _ r nw).1⟩, (k a _ r nw).2⟩
theorem Fz.mono {a : Addr} {u : HO} (h : Fz W H a u) (k : Keep W H W' H') : Fz W' H' a u := by
  obtain ⟨r, nw⟩ := h
  exact k a _ r nw
mutual
theorem Rep.mono {x : V} {v : Val} {O : List Addr} (r : Rep G W H x v O) (k : Keep W H W' H') (ko : ∀ a ∈ O, ∀ o, H a = some o → H' a = some o) : Rep G W' H' x v O := by
  cases r with
  | non => exact .non
  | bl b => exact .bl b
  | int i => exact .int i
  | str x => exact .str x
  | ty n => exact .ty n
  | cn h => exact .cn h
  | fn h => exact .fn h
  | tup h r => exact .tup (h.mono k) (r.mono k ko)
  | wtp h r => exact .wtp h (r.mono k fun a ha => nomatch ha)
  | lstO h r => exact .lstO (ko _ List.mem_cons_self _ h) (r.mono k fun a ha => ko a (List.mem_cons_of_mem _ ha))
  | lstF h r => exact .lstF (h.mono k) (r.mono k fun a ha => nomatch ha)
  | scr h => exact .scr (h.imp (fun ⟨o, e, nw⟩ => ⟨o, k _ _ e nw⟩) id)
  | wdk h hk r => exact .wdk h hk (r.mono k fun a ha => nomatch ha)
  | dkO h hk r => exact .dkO (ko _ List.mem_cons_self _ h) hk (r.mono k fun a ha => ko a (List.mem_cons_of_mem _ ha))
  | dkF h hk r => exact .dkF (h.mono k) hk (r.mono k fun a ha => nomatch ha)
  | dtO h hk r => exact .dtO (ko _ List.mem_cons_self _ h) hk (r.mono k fun a ha => ko a (List.mem_cons_of_mem _ ha))
  | dtF h hk r => exact .dtF (h.mono k) hk (r.mono k fun a ha => nomatch ha)
  | objO h hc hn r => exact .objO (ko _ List.mem_cons_self _ h) hc hn (r.mono k fun a ha => ko a (List.mem_cons_of_mem _ ha))
  | objF h hc hn r => exact .objF (h.mono k) hc hn (r.mono k fun a ha => nomatch ha)
  | exn hh hc h hn r => exact .exn hh hc (k _ _ h.1 h.2) hn (r.mono k fun a ha => nomatch ha)
theorem Reps.mono {xs : List V} {vs : List Val} {O : List Addr} (r : Reps G W H xs vs O) (k : Keep W H W' H') (ko : ∀ a ∈ O, ∀ o, H a = some o → H' a = some o) : Reps G W' H' xs vs O := by
  cases r with
  | nil => exact .nil
  | cons r t => exact .cons (r.mono k fun a ha => ko a (List.mem_append_left _ ha)) (t.mono k fun a ha => ko a (List.mem_append_right _ ha))
end
mutual
theorem Rep.there {x : V} {v : Val} {O : List Addr} (r : Rep G W H x v O) : ∀ a ∈ O, ∃ o, H a = some o := by
  cases r with
  | tup h r => exact r.there
  | lstO h r => exact fun a ha => (List.mem_cons.mp ha).elim (fun e => ⟨_, e ▸ h⟩) (r.there a)
  | dkO h hk r => exact fun a ha => (List.mem_cons.mp ha).elim (fun e => ⟨_, e ▸ h⟩) (r.there a)
  | dtO h hk r => exact fun a ha => (List.mem_cons.mp ha).elim (fun e => ⟨_, e ▸ h⟩) (r.there a)
  | objO h hc hn r => exact fun a ha => (List.mem_cons.mp ha).elim (fun e => ⟨_, e ▸ h⟩) (r.there a)
  | _ => exact fun a ha => nomatch ha
theorem Reps.there {xs : List V} {vs : List Val} {O : List Addr} (r : Reps G W H xs vs O) : ∀ a ∈ O, ∃ o, H a = some o := by
  cases r with
  | nil => exact fun a ha => nomatch ha
  | cons r t => exact fun a ha => (List.mem_append.mp ha).elim (r.there a) (t.there a)
end
mutual
theorem Rep.none_of_fz {x : V} {v : Val} {O : List Addr} (r : Rep G W H x v O) (h : v.fz = true) : O = [] := by
  cases r with
  | tup h' r => exact r.none_of_fz (by simpa [Val.fz] using h)
  | lstO h' r => simp [Val.fz] at h
  | dkO h' hk r => simp [Val.fz] at h
  | dtO h' hk r => simp [Val.fz] at h
  | objO h' hc hn r => simp [Val.fz] at h
  | _ => rfl
theorem Reps.none_of_fz {xs : List V} {vs : List Val} {O : List Addr} (r : Reps G W H xs vs O) (h : fzs vs = true) : O = [] := by
  cases r with
  | nil => rfl
  | cons r t =>
    simp only [fzs, Bool.and_eq_true] at h
    rw [r.none_of_fz h.1, t.none_of_fz h.2]
    rfl
end
mutual
theorem Rep.fz_of_none {x : V} {v : Val} {O : List Addr} (r : Rep G W H x v O) (h : O = []) : v.fz = true := by
  cases r with
  | tup h' r => simpa [Val.fz] using r.fz_of_none h
  | lstO h' r => cases h
  | dkO h' hk r => cases h
  | dtO h' hk r => cases h
  | objO h' hc hn r => cases h
  | lstF h' r => simpa [Val.fz] using r.fz_of_none rfl
  | dkF h' hk r => simpa [Val.fz] using r.fz_of_none rfl
  | dtF h' hk r => simpa [Val.fz] using r.fz_of_none rfl
  | objF h' hc hn r => simpa [Val.fz] using r.fz_of_none rfl
  | _ => rfl
theorem Reps.fz_of_none {xs : List V} {vs : List Val} {O : List Addr} (r : Reps G W H xs vs O) (h : O = []) : fzs vs = true := by
  cases r with
  | nil => rfl
  | cons r t =>
    obtain ⟨h1, h2⟩ := List.append_eq_nil_iff.mp h
    simp only [fzs, Bool.and_eq_true]
    exact ⟨r.fz_of_none h1, t.fz_of_none h2⟩
end
mutual
/-- from now on nobody changes it -/
theorem Rep.freeze {x : V} {v : Val} {O : List Addr} (r : Rep G W H x v O) (k : ∀ a, ¬ W a → ¬ W' a) (ko : ∀ a ∈ O, ¬ W' a) : Rep G W' H x v.frz [] := by
  have kf : ∀ {a : Addr} {u : HO}, Fz W H a u → Fz W' H a u := fun z => ⟨z.1, k _ z.2⟩
  cases r with
  | non => simp only [Val.frz]; exact .non
  | bl b => simp only [Val.frz]; exact .bl b
  | int i => simp only [Val.frz]; exact .int i
  | str x => simp only [Val.frz]; exact .str x
  | ty n => simp only [Val.frz]; exact .ty n
  | cn h => simp only [Val.frz]; exact .cn h
  | fn h => simp only [Val.frz]; exact .fn h
  | tup h r => simp only [Val.frz]; exact .tup (kf h) (r.freeze k ko)
  | wtp h r => simp only [Val.frz]; exact .wtp h (r.mono (fun a o e nw => ⟨e, k a nw⟩) fun a ha => nomatch ha)
  | lstO h r => simp only [Val.frz]; exact .lstF ⟨h, ko _ List.mem_cons_self⟩ (r.freeze k fun a ha => ko a (List.mem_cons_of_mem _ ha))
  | lstF h r => simp only [Val.frz]; exact .lstF (kf h) (r.freeze k fun a ha => nomatch ha)
  | scr h => simp only [Val.frz]; exact .scr (h.imp (fun ⟨o, e, nw⟩ => ⟨o, e, k _ nw⟩) id)
  | wdk h hk r => simp only [Val.frz]; exact .wdk h hk (r.mono (fun a o e nw => ⟨e, k a nw⟩) fun a ha => nomatch ha)
  | dkO h hk r => simp only [Val.frz]; exact .dkF ⟨.inl h, ko _ List.mem_cons_self⟩ hk (r.freeze k fun a ha => ko a (List.mem_cons_of_mem _ ha))
  | dkF h hk r => simp only [Val.frz]; exact .dkF ⟨h.1, k _ h.2⟩ hk (r.freeze k fun a ha => nomatch ha)
  | dtO h hk r => simp only [Val.frz]; exact .dtF ⟨h, ko _ List.mem_cons_self⟩ hk (r.freeze k fun a ha => ko a (List.mem_cons_of_mem _ ha))
  | dtF h hk r => simp only [Val.frz]; exact .dtF (kf h) hk (r.freeze k fun a ha => nomatch ha)
  | objO h hc hn r => simp only [Val.frz]; exact .objF ⟨h, ko _ List.mem_cons_self⟩ hc hn (r.freeze k fun a ha => ko a (List.mem_cons_of_mem _ ha))
  | objF h hc hn r => simp only [Val.frz]; exact .objF (kf h) hc hn (r.freeze k fun a ha => nomatch ha)
  | exn hh hc h hn r => simp only [Val.frz]; exact .exn hh hc ⟨h.1, k _ h.2⟩ hn (r.mono (fun a o e nw => ⟨e, k a nw⟩) fun a ha => nomatch ha)
theorem Reps.freeze {xs : List V} {vs : List Val} {O : List Addr} (r : Reps G W H xs vs O) (k : ∀ a, ¬ W a → ¬ W' a) (ko : ∀ a ∈ O, ¬ W' a) : Reps G W' H xs (frzs vs) [] := by
  cases r with
  | nil => simp only [frzs]; exact .nil
  | cons r t =>
    simp only [frzs]
    exact .cons (O := []) (O' := []) (r.freeze k fun a ha => ko a (List.mem_append_left _ ha)) (t.freeze k fun a ha => ko a (List.mem_append_right _ ha))
end
theorem Reps.length {xs : List V} {vs : List Val} {O : List Addr} (r : Reps G W H xs vs O) : xs.length = vs.length := by
  induction vs generalizing xs O with
  | nil => cases r; rfl
  | cons v vs ih => cases r with | cons r t => simp [ih t]
/-- one of them -/
theorem Reps.split {xs : List V} {vs : List Val} {O : List Addr} (r : Reps G W H xs vs O) {i : Nat} {v : Val} (h : vs[i]? = some v) :
    ∃ x O1 Oi O2, xs[i]? = some x ∧ O = O1 ++ (Oi ++ O2) ∧ Rep G W H x v Oi := by
  induction vs generalizing xs O i with
  | nil => simp at h
  | cons w vs ih =>
    cases r with
    | @cons x _ xs' _ Oh Ot r t =>
      cases i with
      | zero =>
        simp at h
        subst h
        exact ⟨x, [], Oh, Ot, by simp, by simp, r⟩
      | succ i =>
        obtain ⟨y, O1, Oi, O2, e1, e2, q⟩ := ih t (by simpa using h)
        exact ⟨y, Oh ++ O1, Oi, O2, by simpa using e1, by rw [e2]; simp [List.append_assoc], q⟩
/-- one of them is exchanged -/
theorem Reps.set {xs : List V} {vs : List Val} {O : List Addr} (r : Reps G W H xs vs O) {i : Nat} {v : Val} (h : vs[i]? = some v) :
    ∃ x O1 Oi O2, xs[i]? = some x ∧ O = O1 ++ (Oi ++ O2) ∧ Rep G W H x v Oi ∧
      ∀ W' H' y w Ow, (∀ z u Oz, (∀ a ∈ Oz, a ∈ O1 ++ O2) → Rep G W H z u Oz → Rep G W' H' z u Oz) → Rep G W' H' y w Ow → Reps G W' H' (xs.set i y) (vs.set i w) (O1 ++ (Ow ++ O2)) := by
  induction vs generalizing xs O i with
  | nil => simp at h
  | cons w vs ih =>
    cases r with
    | @cons x _ xs' _ Oh Ot r t =>
      cases i with
      | zero =>
        simp at h
        subst h
        refine ⟨x, [], Oh, Ot, by simp, by simp, r, fun W' H' y w Ow k q => ?_⟩
        have t' : Reps G W' H' xs' vs Ot := by
          clear ih r q
          induction t using Reps.rec (motive_1 := fun _ _ _ _ => True) with
          | nil => exact .nil
          | cons r t _ ih => exact .cons (k _ _ _ (fun a ha => by simp [ha]) r) (ih fun z u Oz hz => k z u Oz fun a ha => by have := hz a ha; simp at this ⊢; exact .inr this)
          | _ => trivial
        simpa using Reps.cons q t'
      | succ i =>
        obtain ⟨y, O1, Oi, O2, e1, e2, q, c⟩ := ih t (by simpa using h)
        refine ⟨y, Oh ++ O1, Oi, O2, by simpa using e1, by rw [e2]; simp [List.append_assoc], q, fun W' H' y w Ow k q' => ?_⟩
        have r' := k _ _ _ (fun a ha => by simp [ha]) r
        have t' := c W' H' y w Ow (fun z u Oz hz => k z u Oz fun a ha => by have := hz a ha; simp at this ⊢; exact .inr this) q'
        simpa [List.append_assoc] using Reps.cons r' t'
theorem Reps.append {xs ys : List V} {vs ws : List Val} {O O' : List Addr} (r : Reps G W H xs vs O) (q : Reps G W H ys ws O') : Reps G W H (xs ++ ys) (vs ++ ws) (O ++ O') := by
  induction vs generalizing xs O with
  | nil => cases r; simpa using q
  | cons w vs ih =>
    cases r with
    | cons r t => simpa [List.append_assoc] using Reps.cons r (ih t)
end
end VL
/-! VL, part B: a frame's names as trees; expressions as functions on them. -/
namespace VL
open PySem L2

abbrev VEnv := List (Option Val)
def We (Os : Nat → List Addr) (a : Addr) : Prop := ∃ i, a ∈ Os i
def WW (R : Addr → Prop) (Os : Nat → List Addr) (a : Addr) : Prop := R a ∨ We Os a
/-- the frame's names stand for the trees; R: what is others' -/
structure Rel (G : Gam) (R : Addr → Prop) (H : Hp) (σ : St) (ρ : VEnv) (Os : Nat → List Addr) : Prop where
  len : σ.length = ρ.length
  rep : ∀ i v, ρ[i]? = some (some v) → ∃ x, σ[i]? = some (some x) ∧ Rep G (WW R Os) H x v (Os i)
  nil : ∀ i, (∀ v, ρ[i]? ≠ some (some v)) → Os i = []
  nd : ∀ i, (Os i).Nodup
  dj : ∀ i j a, a ∈ Os i → a ∈ Os j → i = j
  dr : ∀ i a, a ∈ Os i → ¬ R a
  rt : ∀ a, R a → ∃ o, H a = some o

/-- an exception: its class, its fields -/
structure Exc where
  cls : Val
  fs : List Str
  xs : List Val
def RepX (G : Gam) (W : Addr → Prop) (H : Hp) (c : Value) (d : Option Addr) (e : Exc) : Prop :=
  match e.cls with
  | .cn n => ∃ (C dd : Addr) (fs : List (Str × V)), c = .ref C ∧ G.cn n = some C ∧ d = some dd ∧ H dd = some (.xd fs) ∧ ¬ W dd ∧ e.fs = fs.map (·.1) ∧ Reps G W H (fs.map (·.2)) e.xs []
  | .ty n => c = .type n ∧ d = none ∧ e.fs = [] ∧ e.xs = []
  | _ => False
inductive RE where
  | ok (v : Val) (ρ : VEnv) | exc (e : Exc) (ρ : VEnv) | bad
abbrev ME := VEnv → RE

def KeepE (H : Hp) (Os : Nat → List Addr) (H' : Hp) (Os' : Nat → List Addr) (O : Addr → Prop) : Prop := ∀ a o, H a = some o → ¬ We Os a → H' a = some o ∧ ¬ We Os' a ∧ ¬ O a
def Rp (R : Addr → Prop) (s : Bool) (O : List Addr) (a : Addr) : Prop := R a ∨ (s = true ∧ a ∈ O)

section
variable {G : Gam} {R R' : Addr → Prop} {H H' H1 H2 : Hp} {σ : St} {ρ ρ' : VEnv} {Os Os' Os1 Os2 : Nat → List Addr}
theorem Rel.there (r : Rel G R H σ ρ Os) {i : Nat} : ∀ a ∈ Os i, ∃ o, H a = some o := fun a ha => by
  by_cases h : ∃ v, ρ[i]? = some (some v)
  · obtain ⟨v, hv⟩ := h
    obtain ⟨x, _, q⟩ := r.rep i v hv
    exact q.there a ha
  · rw [r.nil i fun v hv => h ⟨v, hv⟩] at ha
    cases ha
theorem Rel.we (r : Rel G R H σ ρ Os) {a : Addr} (h : We Os a) : ∃ o, H a = some o := let ⟨_, ha⟩ := h; r.there a ha
theorem Rel.ww (r : Rel G R H σ ρ Os) {a : Addr} (h : WW R Os a) : ∃ o, H a = some o := h.elim (r.rt a) r.we
theorem Rel.nr (r : Rel G R H σ ρ Os) {a : Addr} (h : R a) : ¬ We Os a := fun ⟨i, ha⟩ => r.dr i a ha h
theorem keepW_of_same (s : Same H H') (h : ∀ a o, H a = some o → ¬ WW R Os a → ¬ WW R' Os a) : Keep (WW R Os) H (WW R' Os) H' := fun a o e nw => ⟨s a o e, h a o e nw⟩
/-- the heap has grown -/
theorem Rel.grow (r : Rel G R H σ ρ Os) (s : Same H H') (hr : ∀ a, R' a → R a ∨ H a = none) (ht : ∀ a, R' a → ∃ o, H' a = some o) : Rel G R' H' σ ρ Os := by
  have kw : ∀ a o, H a = some o → ¬ WW R Os a → ¬ WW R' Os a := fun a o e nw z => z.elim (fun z => (hr a z).elim (fun z => nw (.inl z)) fun z => by rw [e] at z; cases z) fun z => nw (.inr z)
  refine ⟨r.len, fun i v h => ?_, r.nil, r.nd, r.dj, fun i a ha z => ?_, ht⟩
  · obtain ⟨x, e, q⟩ := r.rep i v h
    exact ⟨x, e, q.mono (keepW_of_same s kw) fun a _ o e => s a o e⟩
  · obtain ⟨o, e⟩ := r.there a ha
    exact (hr a z).elim (r.dr i a ha) fun z => by rw [e] at z; cases z
theorem Rel.weak (r : Rel G R H σ ρ Os) (hr : ∀ a, R' a → R a) : Rel G R' H σ ρ Os := r.grow (fun _ _ e => e) (fun a z => .inl (hr a z)) fun a z => r.rt a (hr a z)
theorem KeepE.refl : KeepE H Os H Os fun _ => False := fun a o e nw => ⟨e, nw, id⟩
theorem KeepE.trans {O1 O2 : Addr → Prop} (k1 : KeepE H Os H1 Os1 O1) (k2 : KeepE H1 Os1 H2 Os2 O2) : KeepE H Os H2 Os2 O2 := fun a o e nw =>
  let ⟨e1, n1, _⟩ := k1 a o e nw
  k2 a o e1 n1
theorem KeepE.grow {O O' : Addr → Prop} (k : KeepE H Os H1 Os1 O) (s : Same H1 H2) (f : ∀ a, O' a → O a ∨ H1 a = none) : KeepE H Os H2 Os1 O' := fun a o e nw => by
  obtain ⟨e1, n1, n2⟩ := k a o e nw
  exact ⟨s a o e1, n1, fun z => (f a z).elim n2 fun z => by rw [e1] at z; cases z⟩
theorem KeepE.imp {O O' : Addr → Prop} (k : KeepE H Os H1 Os1 O) (f : ∀ a, O' a → O a) : KeepE H Os H1 Os1 O' := fun a o e nw => by
  obtain ⟨e1, n1, n2⟩ := k a o e nw
  exact ⟨e1, n1, fun z => n2 (f a z)⟩
/-- what others hold, and what nobody changes, behind a step -/
theorem KeepE.keep {O : Addr → Prop} (k : KeepE H Os H1 Os1 O) (h : ∀ a o, H a = some o → R' a → WW R Os a ∨ O a) : Keep (WW R Os) H (WW R' Os1) H1 := fun a o e nw => by
  obtain ⟨e1, n1, n2⟩ := k a o e fun z => nw (.inr z)
  exact ⟨e1, fun z => z.elim (fun z => (h a o e z).elim nw n2) n1⟩
theorem RepX.mono {W W' : Addr → Prop} {c : Value} {d : Option Addr} {e : Exc} (r : RepX G W H c d e) (k : Keep W H W' H') : RepX G W' H' c d e := by
  unfold RepX at r ⊢
  split at r
  · obtain ⟨C, dd, fs, h1, h2, h3, h4, h5, h6, h7⟩ := r
    exact ⟨C, dd, fs, h1, h2, h3, (k _ _ h4 h5).1, (k _ _ h4 h5).2, h6, h7.mono k fun a ha => nomatch ha⟩
  · exact r
  · exact r
end

/-- what is wanted behind an expression; p: it changes none of the frame's names; s: nobody else can change what it gave -/
def Post (G : Gam) (R : Addr → Prop) (E : WX) (σ : St) (H : Hp) (Os : Nat → List Addr) (p s : Bool) (ρ : VEnv) (Q : VK) : RE → Prop
  | .ok v ρ' => ∀ x H' Os' O, Rel G (Rp R s O) H' σ ρ' Os' → Rep G (WW (Rp R s O) Os') H' x v O → (s = true → O.Nodup) → KeepE H Os H' Os' (fun a => s = true ∧ a ∈ O) → (p = true → ρ' = ρ ∧ Os' = Os ∧ Same H H') → Q x H'
  | .exc e ρ' => ∀ c d H' Os', Rel G R H' σ ρ' Os' → RepX G (WW R Os') H' c d e → KeepE H Os H' Os' (fun _ => False) → E c d σ H'
  | .bad => False
def rd (G : Gam) (E : WX) (p s : Bool) (m : ME) : TE := fun σ H Q => ∃ R ρ Os, Rel G R H σ ρ Os ∧ Post G R E σ H Os p s ρ Q (m ρ)
/-- the expression e computes m -/
def VE (G : Gam) (X : Cx) (E : WX) (p s : Bool) (e : Expr) (m : ME) : Prop := PE X e (rd G E p s m)
theorem PE.pre {X : Cx} {e : Expr} {t t' : TE} (h : PE X e t) (k : ∀ σ H Q, t' σ H Q → t σ H Q) : PE X e t' := ⟨fun pins s σ H Q I q => h.run pins s σ H Q I (k σ H Q q)⟩
theorem PT.pre {X : Cx} {e : Expr} {t t' : TT} (h : PT X e t) (k : ∀ σ H Q, t' σ H Q → t σ H Q) : PT X e t' := ⟨fun pins s σ H Q I q => h.run pins s σ H Q I (k σ H Q q)⟩
theorem PA.pre {X : Cx} {e : List Expr} {t t' : TA} (h : PA X e t) (k : ∀ σ H Q, t' σ H Q → t σ H Q) : PA X e t' := ⟨fun pos pins s σ H Q I q => h.run pos pins s σ H Q I (k σ H Q q)⟩
theorem PS.pre {X : Cx} {e : Stmt} {t t' : TS} (h : PS X e t) (k : ∀ D σ H, t' D σ H → t D σ H) : PS X e t' := ⟨fun pins s σ H D I q => h.run pins s σ H D I (k D σ H q)⟩
theorem PSs.pre {X : Cx} {e : List Stmt} {t t' : TS} (h : PSs X e t) (k : ∀ D σ H, t' D σ H → t D σ H) : PSs X e t' := ⟨fun pins s σ H D I q => h.run pins s σ H D I (k D σ H q)⟩

/-! ### several expressions in a row -/
structure Op where
  p : Bool
  s : Bool
  m : ME
inductive RA where
  | ok (vs : List Val) (ρ : VEnv) | exc (e : Exc) (ρ : VEnv) | bad
def evalA : List Op → VEnv → RA
  | [], ρ => .ok [] ρ
  | o :: os, ρ => match o.m ρ with
    | .ok v ρ1 => match evalA os ρ1 with
      | .ok vs ρ2 => .ok (v :: vs) ρ2
      | r => r
    | .exc e ρ1 => .exc e ρ1
    | .bad => .bad
def nest (G : Gam) (E : WX) : List Op → St → Hp → (List V → Hp → Prop) → Prop
  | [], _, H, K => K [] H
  | o :: os, σ, H, K => rd G E o.p o.s o.m σ H fun x H1 => nest G E os σ H1 fun xs H2 => K (x :: xs) H2
def wfA : List Op → Bool
  | [] => true
  | o :: os => (o.s || os.all (·.p)) && wfA os
inductive RepL (G : Gam) (W : Addr → Prop) (H : Hp) : List V → List Val → List (List Addr) → Prop
  | nil : RepL G W H [] [] []
  | cons {x : V} {v : Val} {O : List Addr} {xs : List V} {vs : List Val} {Ol : List (List Addr)} (r : Rep G W H x v O) (t : RepL G W H xs vs Ol) : RepL G W H (x :: xs) (v :: vs) (O :: Ol)
/-- the addresses of those that nobody else can change -/
def stab : List Op → List (List Addr) → List Addr
  | o :: os, O :: Ol => (if o.s then O else []) ++ stab os Ol
  | _, _ => []
def PostA (G : Gam) (R : Addr → Prop) (E : WX) (σ : St) (H : Hp) (Os : Nat → List Addr) (os : List Op) (ρ : VEnv) (K : List V → Hp → Prop) : RA → Prop
  | .ok vs ρ' => ∀ xs H' Os' Ol, Rel G (fun a => R a ∨ a ∈ stab os Ol) H' σ ρ' Os' → RepL G (WW (fun a => R a ∨ a ∈ stab os Ol) Os') H' xs vs Ol → (stab os Ol).Nodup → KeepE H Os H' Os' (fun a => a ∈ stab os Ol) →
      (os.all (·.p) = true → ρ' = ρ ∧ Os' = Os ∧ Same H H') → K xs H'
  | .exc e ρ' => ∀ c d H' Os', Rel G R H' σ ρ' Os' → RepX G (WW R Os') H' c d e → KeepE H Os H' Os' (fun _ => False) → E c d σ H'
  | .bad => False
section
variable {G : Gam} {E : WX} {σ : St}
theorem mem_stab1 {o : Op} {os : List Op} {O : List Addr} {Ol : List (List Addr)} {a : Addr} : a ∈ stab (o :: os) (O :: Ol) ↔ (o.s = true ∧ a ∈ O) ∨ a ∈ stab os Ol := by
  rw [stab]
  cases h : o.s <;> simp
theorem RepL.mono {W W' : Addr → Prop} {H H' : Hp} {xs : List V} {vs : List Val} {Ol : List (List Addr)} (r : RepL G W H xs vs Ol) (k : Keep W H W' H') (ko : ∀ O ∈ Ol, ∀ a ∈ O, ∀ o, H a = some o → H' a = some o) : RepL G W' H' xs vs Ol := by
  induction r with
  | nil => exact .nil
  | cons r t ih => exact .cons (r.mono k fun a ha => ko _ List.mem_cons_self a ha) (ih fun O hO => ko O (List.mem_cons_of_mem _ hO))
theorem nest_of {os : List Op} (wf : wfA os = true) : ∀ {R : Addr → Prop} {ρ : VEnv} {Os : Nat → List Addr} {H : Hp} {K : List V → Hp → Prop}, Rel G R H σ ρ Os → PostA G R E σ H Os os ρ K (evalA os ρ) → nest G E os σ H K := by
  induction os with
  | nil =>
    intro R ρ Os H K r h
    refine h [] H Os [] (r.weak fun a z => z.elim id fun z => nomatch z) .nil (by simp [stab]) (KeepE.refl.imp fun a z => nomatch z) fun _ => ⟨rfl, rfl, fun _ _ e => e⟩
  | cons o os ih =>
    intro R ρ Os H K r h
    simp only [wfA, Bool.and_eq_true, Bool.or_eq_true] at wf
    refine ⟨R, ρ, Os, r, ?_⟩
    unfold evalA at h
    cases hm : o.m ρ with
    | bad => rw [hm] at h; exact h
    | exc e ρ1 => rw [hm] at h; exact h
    | ok v ρ1 =>
      rw [hm] at h
      dsimp only at h
      intro x H1 Os1 O1 r1 q1 nd1 k1 p1
      refine ih wf.2 (R := Rp R o.s O1) (ρ := ρ1) (Os := Os1) r1 ?_
      have k1' : KeepE H Os H1 Os1 fun _ => False := k1.imp fun _ z => z.elim
      cases he : evalA os ρ1 with
      | bad => rw [he] at h; exact h
      | exc e ρ2 =>
        rw [he] at h
        intro c d H2 Os2 r2 q2 k2
        refine h c d H2 Os2 (r2.weak fun a z => .inl z) (q2.mono fun a o e nw => ⟨e, fun z => nw (z.elim (fun z => .inl (.inl z)) .inr)⟩) (k1'.trans k2)
      | ok vs ρ2 =>
        rw [he] at h
        intro xs H2 Os2 Ol r2 q2 nd2 k2 p2
        have eq : ∀ a, (Rp R o.s O1 a ∨ a ∈ stab os Ol) ↔ (R a ∨ a ∈ stab (o :: os) (O1 :: Ol)) := fun a => by
          rw [mem_stab1]; unfold Rp; exact or_assoc
        have efun : (fun a => Rp R o.s O1 a ∨ a ∈ stab os Ol) = (fun a => R a ∨ a ∈ stab (o :: os) (O1 :: Ol)) := funext fun a => propext (eq a)
        rw [efun] at r2 q2
        have same1 : ∀ a ∈ O1, ∀ ob, H1 a = some ob → H2 a = some ob ∧ ¬ a ∈ stab os Ol ∨ (o.s = false ∧ H2 a = some ob) := fun a ha ob e => by
          cases hs : o.s with
          | true =>
            have nw : ¬ We Os1 a := r1.nr (.inr ⟨hs, ha⟩)
            obtain ⟨e2, _, n2⟩ := k2 a ob e nw
            exact .inl ⟨e2, n2⟩
          | false =>
            have hp : os.all (·.p) = true := by simpa [hs] using wf.1
            exact .inr ⟨rfl, (p2 hp).2.2 a ob e⟩
        have head : Rep G (WW (fun a => R a ∨ a ∈ stab (o :: os) (O1 :: Ol)) Os2) H2 x v O1 := by
          refine q1.mono (k2.keep fun a ob e z => ?_) fun a ha ob e => (same1 a ha ob e).elim (·.1) (·.2)
          rcases (eq a).mpr z with z | z
          · exact .inl (.inl z)
          · exact .inr z
        refine h (x :: xs) H2 Os2 (O1 :: Ol) r2 (.cons head q2) ?_ (fun a ob e nw => ?_) fun hp => ?_
        · unfold stab
          refine List.nodup_append.mpr ⟨?_, nd2, fun a ha b hb => ?_⟩
          · cases hs : o.s with
            | true => simpa using nd1 hs
            | false => simp
          · cases hs : o.s with
            | true =>
              rw [hs] at ha
              have ha' : a ∈ O1 := by simpa using ha
              obtain ⟨ob, e⟩ := q1.there a ha'
              rcases same1 a ha' ob e with z | z
              · exact fun e' => z.2 (e' ▸ hb)
              · rw [hs] at z; cases z.1
            | false => rw [hs] at ha; simp at ha
        · obtain ⟨e1, n1, m1⟩ := k1 a ob e nw
          obtain ⟨e2, n2, m2⟩ := k2 a ob e1 n1
          exact ⟨e2, n2, fun z => (mem_stab1.mp z).elim m1 m2⟩
        · simp only [List.all_cons, Bool.and_eq_true] at hp
          obtain ⟨a1, a2, a3⟩ := p1 hp.1
          obtain ⟨b1, b2, b3⟩ := p2 hp.2
          exact ⟨b1.trans a1, b2.trans a2, a3.trans b3⟩
end
end VL
/-! VL, part C: expressions that run nothing of the program's own. -/
namespace VL
open PySem L2

def evalM : List ME → VEnv → RA
  | [], ρ => .ok [] ρ
  | m :: ms, ρ => match m ρ with
    | .ok v ρ1 => match evalM ms ρ1 with
      | .ok vs ρ2 => .ok (v :: vs) ρ2
      | .exc e ρ2 => .exc e ρ2
      | .bad => .bad
    | .exc e ρ1 => .exc e ρ1
    | .bad => .bad
theorem evalA_eq : ∀ (os : List Op) (ρ : VEnv), evalA os ρ = evalM (os.map Op.m) ρ
  | [], ρ => rfl
  | o :: os, ρ => by
    unfold evalA
    rw [List.map_cons]
    unfold evalM
    cases o.m ρ with
    | ok v ρ1 =>
      dsimp only
      rw [evalA_eq os ρ1]
      cases evalM (os.map Op.m) ρ1 <;> rfl
    | exc e ρ1 => rfl
    | bad => rfl
/-- a function of the values of some expressions -/
def mFun (sem : List Val → Option Val) (ms : List ME) : ME := fun ρ => match evalM ms ρ with
  | .ok vs ρ' => match sem vs with
    | some v => .ok v ρ'
    | none => .bad
  | .exc e ρ' => .exc e ρ'
  | .bad => .bad

/-- what a thing that is made anew may be -/
def Made (G : Gam) (W : Addr → Prop) (H : Hp) (v : Val) (Q : VK) : Prop := ∀ x H' O, Same H H' → (∀ a ∈ O, H a = none) → Rep G (fun z => W z ∨ z ∈ O) H' x v O → O.Nodup → Q x H'
def FunOk (G : Gam) (r : List V → Hp → VK → Prop) (sem : List Val → Option Val) : Prop := ∀ W H xs vs Ol v Q, RepL G W H xs vs Ol → sem vs = some v → Made G W H v Q → r xs H Q
section
variable {G : Gam} {W : Addr → Prop} {H : Hp} {v : Val} {Q : VK} {x : V}
/-- nothing new: a value that needs no object of its own, or one that is there and frozen -/
theorem Made.same (m : Made G W H v Q) (r : Rep G W H x v []) : Q x H := m x H [] (fun _ _ e => e) (fun _ z => nomatch z) (r.mono (fun a o e nw => ⟨e, fun z => z.elim nw fun z => nomatch z⟩) fun _ z => nomatch z) List.nodup_nil
theorem Rep.upd {W' : Addr → Prop} {a : Addr} {o : HO} {y : V} {u : Val} {O : List Addr} (r : Rep G W H y u O) (hn : H a = none) (k : ∀ z, W' z → W z ∨ H z = none) : Rep G W' (upd H a o) y u O :=
  r.mono (fun b ob e nw => ⟨by rw [upd_ne (ne_of_none e hn)]; exact e, fun z => (k b z).elim nw fun z => by rw [e] at z; cases z⟩) fun b hb ob e => by rw [upd_ne (ne_of_none e hn)]; exact e
theorem Reps.upd {W' : Addr → Prop} {a : Addr} {o : HO} {y : List V} {u : List Val} {O : List Addr} (r : Reps G W H y u O) (hn : H a = none) (k : ∀ z, W' z → W z ∨ H z = none) : Reps G W' (upd H a o) y u O :=
  r.mono (fun b ob e nw => ⟨by rw [upd_ne (ne_of_none e hn)]; exact e, fun z => (k b z).elim nw fun z => by rw [e] at z; cases z⟩) fun b hb ob e => by rw [upd_ne (ne_of_none e hn)]; exact e
theorem same_upd {a : Addr} {o : HO} (hn : H a = none) : Same H (upd H a o) := fun b ob e => by rw [upd_ne (ne_of_none e hn)]; exact e
/-- a new list -/
theorem Made.lst {xs : List V} {vs : List Val} (m : Made G W H (.lst true vs) Q) (r : Reps G W H xs vs []) : ∀ p, H p = none → Q (.ref p) (upd H p (.lst xs)) := fun p hp =>
  m (.ref p) _ [p] (same_upd hp) (fun a ha => by rw [List.mem_singleton.mp ha]; exact hp) (.lstO upd_same (r.upd hp fun z hz => hz.imp id fun q => by rw [List.mem_singleton.mp q]; exact hp)) (by simp)
theorem Made.tup {xs : List V} {vs : List Val} (m : Made G W H (.tup vs) Q) (r : Reps G W H xs vs []) (hw : ∀ p, H p = none → ¬ W p) : ∀ p, H p = none → Q (.ref p) (upd H p (.tup xs)) := fun p hp =>
  m (.ref p) _ [] (same_upd hp) (fun a ha => nomatch ha) (.tup ⟨upd_same, fun z => z.elim (hw p hp) fun z => nomatch z⟩ (r.upd hp fun z hz => .inl (hz.elim id fun z => nomatch z))) List.nodup_nil
end

theorem fun_pre {G : Gam} {E : WX} {os : List Op} {r : List V → Hp → VK → Prop} {sem : List Val → Option Val} {t : TE} (ht : ∀ σ H Q, nest G E os σ H (fun xs H' => r xs H' Q) → t σ H Q)
    (ok : ∀ (W : Addr → Prop) H xs vs Ol v Q, (∀ p, W p → ∃ o, H p = some o) → RepL G W H xs vs Ol → sem vs = some v → Made G W H v Q → r xs H Q) (wf : wfA os = true) : ∀ σ H Q, rd G E (os.all (·.p)) true (mFun sem (os.map Op.m)) σ H Q → t σ H Q := by
  intro σ H Q h
  refine ht σ H Q ?_
  obtain ⟨R, ρ, Os, rel, post⟩ := h
  refine nest_of wf rel ?_
  rw [evalA_eq]
  unfold mFun at post
  cases he : evalM (os.map Op.m) ρ with
  | bad => rw [he] at post; exact post
  | exc e ρ' => rw [he] at post; exact post
  | ok vs ρ' =>
    rw [he] at post
    dsimp only at post
    cases hs : sem vs with
    | none => rw [hs] at post; exact post.elim
    | some v =>
      rw [hs] at post
      intro xs H' Os' Ol rel' reps nd keep pure
      have hR : ∀ a, (R a ∨ a ∈ stab os Ol) → ∃ o, H' a = some o := rel'.rt
      refine ok _ H' xs vs Ol v Q (fun p hp => rel'.ww hp) reps hs fun x H2 O same fresh rep nd2 => ?_
      refine post x H2 Os' O (rel'.grow same (fun a z => z.elim (fun z => .inl (.inl z)) fun z => .inr (fresh a z.2)) fun a z => ?_) ?_ (fun _ => nd2) (keep.grow same fun a z => .inr (fresh a z.2)) fun hp => ?_
      · rcases z with z | z
        · obtain ⟨o, e⟩ := hR a (.inl z)
          exact ⟨o, same a o e⟩
        · exact rep.there a z.2
      · refine rep.mono (fun a o e nw => ⟨e, fun z => nw ?_⟩) fun _ _ _ e => e
        rcases z with (z | z) | z
        · exact .inl (.inl (.inl z))
        · exact .inr z.2
        · exact .inl (.inr z)
      · obtain ⟨h1, h2, h3⟩ := pure hp
        exact ⟨h1, h2, h3.trans same⟩
theorem ve_fun {G : Gam} {X : Cx} {E : WX} {e : Expr} {os : List Op} {r : List V → Hp → VK → Prop} {sem : List Val → Option Val} {t : TE} (pe : PE X e t) (ht : ∀ σ H Q, nest G E os σ H (fun xs H' => r xs H' Q) → t σ H Q)
    (ok : ∀ (W : Addr → Prop) H xs vs Ol v Q, (∀ p, W p → ∃ o, H p = some o) → RepL G W H xs vs Ol → sem vs = some v → Made G W H v Q → r xs H Q) (wf : wfA os = true) : VE G X E (os.all (·.p)) true e (mFun sem (os.map Op.m)) :=
  PE.pre pe (fun_pre ht ok wf)

/-! ### names, constants -/
def mVar (i : Nat) : ME := fun ρ => match ρ[i]? with
  | some (some v) => .ok v ρ
  | _ => .bad
def mC (v : Val) : ME := fun ρ => .ok v ρ
/-- only what nobody can change any more -/
def mStab (m : ME) : ME := fun ρ => match m ρ with
  | .ok v ρ' => if v.fz = true then .ok v ρ' else .bad
  | .exc e ρ' => .exc e ρ'
  | .bad => .bad
def mFrz (i : Nat) : ME := fun ρ => match ρ[i]? with
  | some (some v) => .ok v.frz (ρ.set i (some v.frz))
  | _ => .bad
def mMov (i : Nat) : ME := fun ρ => match ρ[i]? with
  | some (some v) => .ok v (ρ.set i none)
  | _ => .bad
section
variable {G : Gam} {X : Cx} {E : WX} {e : Expr}
theorem ve_var {i : Nat} (h : PE X e (tVar i)) : VE G X E true false e (mVar i) := by
  refine PE.pre h fun σ H Q z => ?_
  obtain ⟨R, ρ, Os, rel, post⟩ := z
  unfold mVar at post
  cases hv : ρ[i]? with
  | none => rw [hv] at post; exact post.elim
  | some o =>
    cases o with
    | none => rw [hv] at post; exact post.elim
    | some v =>
      rw [hv] at post
      obtain ⟨x, hx, rep⟩ := rel.rep i v hv
      refine ⟨x, hx, post x H Os (Os i) (rel.weak fun a z => z.elim id fun z => by cases z.1) (rep.mono (fun a o e nw => ⟨e, fun z => nw (z.imp (fun z => z.elim id fun z => by cases z.1) id)⟩) fun _ _ _ e => e) (fun z => by cases z) (KeepE.refl.imp fun a z => by cases z.1) fun _ => ⟨rfl, rfl, fun _ _ e => e⟩⟩
theorem Post.stab {R : Addr → Prop} {σ : L2.St} {H : Hp} {Os : Nat → List Addr} {p s : Bool} {ρ : VEnv} {Q : VK} {m : ME} (post : Post G R E σ H Os p true ρ Q (mStab m ρ)) : Post G R E σ H Os p s ρ Q (m ρ) := by
  unfold mStab at post
  cases hm : m ρ with
  | bad => rw [hm] at post; exact post
  | exc e ρ' => rw [hm] at post; exact post
  | ok v ρ' =>
    rw [hm] at post
    dsimp only at post
    by_cases hf : v.fz = true
    · rw [if_pos hf] at post
      intro x H' Os' O rel rep nd keep pure
      have hO := rep.none_of_fz hf
      subst hO
      have hw : ∀ a, Rp R true [] a → Rp R s [] a := fun a z => z.elim .inl fun z => nomatch z.2
      exact post x H' Os' [] (rel.weak hw) (rep.mono (fun a o e nw => ⟨e, fun z => nw (z.imp (hw a) id)⟩) fun _ z => nomatch z) (fun _ => List.nodup_nil) (keep.imp fun a z => nomatch z.2) pure
    · rw [if_neg hf] at post
      exact post.elim
theorem ve_stab {p s : Bool} {m : ME} (h : VE G X E p s e m) : VE G X E p true e (mStab m) := PE.pre h fun σ H Q ⟨R, ρ, Os, rel, post⟩ => ⟨R, ρ, Os, rel, post.stab⟩
/-- a name's tree, out of its name's hands -/
theorem Rel.take {R : Addr → Prop} {H : Hp} {σ : L2.St} {ρ : VEnv} {Os : Nat → List Addr} (rel : Rel G R H σ ρ Os) {i : Nat} {v : Val} (hv : ρ[i]? = some (some v)) :
    ∃ x, σ[i]? = some (some x) ∧ Rel G (fun a => R a ∨ a ∈ Os i) H σ (ρ.set i none) (fun j => if j = i then [] else Os j) ∧ Rep G (WW (fun a => R a ∨ a ∈ Os i) (fun j => if j = i then [] else Os j)) H x v (Os i) := by
  obtain ⟨x, hx, rep⟩ := rel.rep i v hv
  have eqW : ∀ a, WW (fun a => R a ∨ a ∈ Os i) (fun j => if j = i then [] else Os j) a → WW R Os a := fun a z => by
    rcases z with (z | z) | ⟨j, z⟩
    · exact .inl z
    · exact .inr ⟨i, z⟩
    · by_cases hj : j = i
      · simp only [hj, if_true] at z; cases z
      · simp only [hj, if_false] at z; exact .inr ⟨j, z⟩
  have mono : ∀ {y : V} {u : Val} {O : List Addr}, Rep G (WW R Os) H y u O → Rep G (WW (fun a => R a ∨ a ∈ Os i) (fun j => if j = i then [] else Os j)) H y u O := fun r => r.mono (fun a o e nw => ⟨e, fun z => nw (eqW a z)⟩) fun _ _ _ e => e
  have hi : i < ρ.length := (List.getElem?_eq_some_iff.mp hv).1
  refine ⟨x, hx, ⟨by rw [List.length_set]; exact rel.len, fun j u hu => ?_, fun j hj => ?_, fun j => ?_, fun j k a ha hb => ?_, fun j a ha z => ?_, fun a z => ?_⟩, mono rep⟩
  · by_cases hj : j = i
    · subst hj; rw [List.getElem?_set_self hi] at hu; cases hu
    · rw [List.getElem?_set_ne (Ne.symm hj)] at hu
      obtain ⟨y, hy, r⟩ := rel.rep j u hu
      exact ⟨y, hy, by rw [if_neg hj]; exact mono r⟩
  · by_cases h : j = i
    · simp [h]
    · simp only [h, if_false]
      refine rel.nil j fun u hu => hj u ?_
      rw [List.getElem?_set_ne (Ne.symm h)]; exact hu
  · by_cases h : j = i
    · simp [h]
    · simp only [h, if_false]; exact rel.nd j
  · by_cases h : j = i
    · simp [h] at ha
    · by_cases h' : k = i
      · simp [h'] at hb
      · simp only [h, h', if_false] at ha hb; exact rel.dj j k a ha hb
  · by_cases h : j = i
    · simp [h] at ha
    · simp only [h, if_false] at ha
      rcases z with z | z
      · exact rel.dr j a ha z
      · exact h (rel.dj j i a ha z)
  · exact z.elim (rel.rt a) (rel.there a)
theorem ve_mov {i : Nat} (h : PE X e (tVar i)) : VE G X E false true e (mMov i) := by
  refine PE.pre h fun σ H Q z => ?_
  obtain ⟨R, ρ, Os, rel, post⟩ := z
  unfold mMov at post
  cases hv : ρ[i]? with
  | none => rw [hv] at post; exact post.elim
  | some o =>
    cases o with
    | none => rw [hv] at post; exact post.elim
    | some v =>
      rw [hv] at post
      obtain ⟨x, hx, rel', rep⟩ := rel.take hv
      have ef : (fun a => R a ∨ a ∈ Os i) = Rp R true (Os i) := funext fun a => propext ⟨fun z => z.imp id fun z => ⟨rfl, z⟩, fun z => z.imp id fun z => z.2⟩
      rw [ef] at rel' rep
      refine ⟨x, hx, post x H _ (Os i) rel' rep (fun _ => rel.nd i) (fun a o e nw => ⟨e, fun z => nw ?_, fun z => nw ⟨i, z.2⟩⟩) fun z => by cases z⟩
      obtain ⟨j, z⟩ := z
      by_cases h : j = i
      · simp [h] at z
      · simp only [h, if_false] at z; exact ⟨j, z⟩
/-- what a name holds is put there -/
theorem Rel.put {R : Addr → Prop} {H : Hp} {σ : L2.St} {ρ : VEnv} {Os : Nat → List Addr} {O : List Addr} {x : V} {v : Val} {i : Nat} (rel : Rel G (fun a => R a ∨ a ∈ O) H σ ρ Os) (rep : Rep G (WW (fun a => R a ∨ a ∈ O) Os) H x v O) (nd : O.Nodup) (hi : i < ρ.length) (hO : ∀ a ∈ O, ¬ R a) :
    Rel G R H (σ.set i (some x)) (ρ.set i (some v)) (fun j => if j = i then O else Os j) := by
  have eqW : ∀ a, WW R (fun j => if j = i then O else Os j) a → WW (fun a => R a ∨ a ∈ O) Os a := fun a z => by
    rcases z with z | ⟨j, z⟩
    · exact .inl (.inl z)
    · by_cases hj : j = i
      · simp only [hj, if_true] at z; exact .inl (.inr z)
      · simp only [hj, if_false] at z; exact .inr ⟨j, z⟩
  have mono : ∀ {y : V} {u : Val} {P : List Addr}, Rep G (WW (fun a => R a ∨ a ∈ O) Os) H y u P → Rep G (WW R (fun j => if j = i then O else Os j)) H y u P := fun r => r.mono (fun a o e nw => ⟨e, fun z => nw (eqW a z)⟩) fun _ _ _ e => e
  refine ⟨by rw [List.length_set, List.length_set]; exact rel.len, fun j u hu => ?_, fun j hj => ?_, fun j => ?_, fun j k a ha hb => ?_, fun j a ha z => ?_, fun a z => rel.rt a (.inl z)⟩
  · by_cases hj : j = i
    · subst hj
      rw [List.getElem?_set_self hi] at hu
      cases hu
      exact ⟨x, List.getElem?_set_self (by rw [rel.len]; exact hi), by rw [if_pos rfl]; exact mono rep⟩
    · rw [List.getElem?_set_ne (Ne.symm hj)] at hu
      obtain ⟨y, hy, r⟩ := rel.rep j u hu
      exact ⟨y, by rw [List.getElem?_set_ne (Ne.symm hj)]; exact hy, by rw [if_neg hj]; exact mono r⟩
  · by_cases h : j = i
    · subst h
      exact absurd (List.getElem?_set_self hi) (hj v)
    · simp only [h, if_false]
      refine rel.nil j fun u hu => hj u ?_
      rw [List.getElem?_set_ne (Ne.symm h)]; exact hu
  · by_cases h : j = i
    · simp only [h, if_true]; exact nd
    · simp only [h, if_false]; exact rel.nd j
  · by_cases h : j = i <;> by_cases h' : k = i
    · rw [h, h']
    · simp only [h, h', if_true, if_false] at ha hb; exact absurd (.inr ha) (rel.dr k a hb)
    · simp only [h, h', if_true, if_false] at ha hb; exact absurd (.inr hb) (rel.dr j a ha)
    · simp only [h, h', if_false] at ha hb; exact rel.dj j k a ha hb
  · by_cases h : j = i
    · simp only [h, if_true] at ha; exact hO a ha z
    · simp only [h, if_false] at ha; exact rel.dr j a ha (.inl z)
theorem ve_frz {i : Nat} (h : PE X e (tVar i)) : VE G X E false true e (mFrz i) := by
  refine PE.pre h fun σ H Q z => ?_
  obtain ⟨R, ρ, Os, rel, post⟩ := z
  unfold mFrz at post
  cases hv : ρ[i]? with
  | none => rw [hv] at post; exact post.elim
  | some o =>
    cases o with
    | none => rw [hv] at post; exact post.elim
    | some v =>
      rw [hv] at post
      dsimp only at post
      obtain ⟨x, hx, rel', rep⟩ := rel.take hv
      have hi : i < ρ.length := (List.getElem?_eq_some_iff.mp hv).1
      have e1 : ((fun j => if j = i then [] else if j = i then ([] : List Addr) else Os j) : Nat → List Addr) = fun j => if j = i then [] else Os j := funext fun j => by by_cases h : j = i <;> simp [h]
      have rep2 : Rep G (WW R fun j => if j = i then [] else Os j) H x v.frz [] := rep.freeze (fun a nw z => nw (z.imp .inl id)) fun a ha z => by
        rcases z with z | ⟨j, z⟩
        · exact rel.dr i a ha z
        · by_cases h : j = i
          · simp [h] at z
          · simp only [h, if_false] at z; exact h (rel.dj j i a z ha)
      have relw : Rel G R H σ (ρ.set i none) (fun j => if j = i then [] else Os j) := rel'.weak fun a z => .inl z
      have e0 : (fun a => R a ∨ a ∈ ([] : List Addr)) = R := funext fun a => propext ⟨fun z => z.elim id (fun z => nomatch z), Or.inl⟩
      have rel2 := Rel.put (O := []) (i := i) (v := v.frz) (by rw [e0]; exact relw) (by rw [e0]; exact rep2) List.nodup_nil (by rw [List.length_set]; exact hi) (fun _ z => nomatch z)
      rw [e1, List.set_set] at rel2
      have hσ : σ.set i (some x) = σ := by
        apply List.ext_getElem?
        intro j
        by_cases h : j = i
        · subst h; rw [List.getElem?_set_self (by rw [rel.len]; exact hi)]; exact hx.symm
        · rw [List.getElem?_set_ne (Ne.symm h)]
      rw [hσ] at rel2
      have hw : ∀ a, Rp R true [] a → R a := fun a z => z.elim id fun z => nomatch z.2
      refine ⟨x, hx, post x H _ [] (rel2.weak hw) (rep2.mono (fun a o e nw => ⟨e, fun z => nw (z.imp (hw a) id)⟩) fun _ z => nomatch z) (fun _ => List.nodup_nil) (fun a o e nw => ⟨e, fun z => nw ?_, fun z => nomatch z.2⟩) fun z => by cases z⟩
      obtain ⟨j, z⟩ := z
      by_cases h : j = i
      · simp [h] at z
      · simp only [h, if_false] at z; exact ⟨j, z⟩
theorem ve_c {x : V} {v : Val} (h : PE X e (tC x)) (r : ∀ W H, Rep G W H x v []) : VE G X E true true e (mC v) := by
  refine PE.pre h fun σ H Q z => ?_
  obtain ⟨R, ρ, Os, rel, post⟩ := z
  exact post x H Os [] (rel.weak fun a z => z.elim id fun z => nomatch z.2) (r _ _) (fun _ => List.nodup_nil) (KeepE.refl.imp fun a z => nomatch z.2) fun _ => ⟨rfl, rfl, fun _ _ e => e⟩
end
end VL
/-! VL, part D: operators, comparisons, subscripts, calls of what is built in. -/
namespace VL
open PySem L2

def OkF (G : Gam) (r : List V → Hp → VK → Prop) (sem : List Val → Option Val) : Prop :=
  ∀ (W : Addr → Prop) (H : Hp) xs vs Ol v Q, (∀ p, W p → ∃ o, H p = some o) → RepL G W H xs vs Ol → sem vs = some v → Made G W H v Q → r xs H Q
def r2 (r : V → V → Hp → VK → Prop) : List V → Hp → VK → Prop := fun xs H Q => match xs with
  | [x, y] => r x y H Q
  | _ => False
def r1 (r : V → Hp → VK → Prop) : List V → Hp → VK → Prop := fun xs H Q => match xs with
  | [x] => r x H Q
  | _ => False
theorem fresh_nw {W : Addr → Prop} {H : Hp} (w : ∀ p, W p → ∃ o, H p = some o) : ∀ p, H p = none → ¬ W p := fun p hp z => by
  obtain ⟨o, e⟩ := w p z
  rw [hp] at e; cases e

theorem wf2 {p1 s1 p2 s2 : Bool} {m1 m2 : ME} (h : (s1 || p2) = true) : wfA [⟨p1, s1, m1⟩, ⟨p2, s2, m2⟩] = true := by
  cases s1 <;> cases p2 <;> cases s2 <;> first | rfl | cases h
theorem wf1 {p1 s1 : Bool} {m1 : ME} : wfA [⟨p1, s1, m1⟩] = true := by
  cases s1 <;> rfl
section
variable {G : Gam} {X : Cx} {E : WX} {a b : Expr} {pos : Pos} {p1 s1 p2 s2 : Bool} {m1 m2 : ME}
theorem ve_bin {op : Operator} {r : R2} {sem : List Val → Option Val} (ho : OpR X (binaryOp op) r) (ok : OkF G (r2 r) sem) (h1 : VE G X E p1 s1 a m1) (h2 : VE G X E p2 s2 b m2) (wf : (s1 || p2) = true := by rfl) :
    VE G X E (p1 && p2) true (.BinOp a op b pos) (mFun sem [m1, m2]) := by
  have h := ve_fun (G := G) (E := E) (os := [⟨p1, s1, m1⟩, ⟨p2, s2, m2⟩]) (r := r2 r) (pe_op (pos := pos) ho h1 h2) (fun σ H Q z => z) ok (wf2 wf)
  simpa using h
theorem ve_un {op : UnaryOp} {r : V → Hp → VK → Prop} {sem : List Val → Option Val} (ho : UnR X (unaryOp op) r) (ok : OkF G (r1 r) sem) (h1 : VE G X E p1 s1 a m1) : VE G X E p1 true (.UnaryOp op a pos) (mFun sem [m1]) := by
  have h := ve_fun (G := G) (E := E) (os := [⟨p1, s1, m1⟩]) (r := r1 r) (pe_un (pos := pos) ho h1) (fun σ H Q z => z) ok wf1
  simpa using h
theorem ve_cmp {op : CmpOp} {r : R2} {sem : List Val → Option Val} (ho : OpR X (compareOp op) r) (ok : OkF G (r2 r) sem) (h1 : VE G X E p1 s1 a m1) (h2 : VE G X E p2 s2 b m2) (hm : behindInMarks op b = false) (wf : (s1 || p2) = true := by rfl) :
    VE G X E (p1 && p2) true (.Compare a [op] [b] pos) (mFun sem [m1, m2]) := by
  have h := ve_fun (G := G) (E := E) (os := [⟨p1, s1, m1⟩, ⟨p2, s2, m2⟩]) (r := r2 r) (pe_cmpR (pos := pos) ho h1 h2 hm) (fun σ H Q z => z) ok (wf2 wf)
  simpa using h
theorem ve_ix {r : R2} {sem : List Val → Option Val} (hr : IxR X r) (ok : OkF G (r2 r) sem) (h1 : VE G X E p1 s1 a m1) (h2 : VE G X E p2 s2 b m2) (hs : PlainIx b) (wf : (s1 || p2) = true := by rfl) :
    VE G X E (p1 && p2) true (.Subscript a b pos) (mFun sem [m1, m2]) := by
  have h := ve_fun (G := G) (E := E) (os := [⟨p1, s1, m1⟩, ⟨p2, s2, m2⟩]) (r := r2 r) (pe_ix (pos := pos) hr h1 h2 hs) (fun σ H Q z => z) ok (wf2 wf)
  simpa using h

/-! ### arguments -/
def VAs (G : Gam) (X : Cx) (E : WX) (es : List Expr) (os : List Op) : Prop := PA X es (nest G E os)
theorem va_nil : VAs G X E [] [] := PA.pre pa_nil fun σ H Q h => h
theorem va_cons {e : Expr} {es : List Expr} {p s : Bool} {m : ME} {os : List Op} (h : VE G X E p s e m) (t : VAs G X E es os) (hs : starEach (e :: es) X.env = (false, eval e X.env) :: starEach es X.env := by rfl) : VAs G X E (e :: es) (⟨p, s, m⟩ :: os) :=
  PA.pre (pa_cons h t hs) fun σ H Q h => h
/-- f(e, ..), f a built-in function -/
theorem ve_callB {id : String} {x : Str} {p : Pos} {e : Expr} {es : List Expr} {os : List Op} {r : List V → Hp → VK → Prop} {sem : List Val → Option Val} (hc : CallR X (.builtin id) r) (ok : OkF G r sem) (hg : Gl X x) (hm : X.mg x = none) (hv : bootBuiltins x = some (.builtin id)) (ha : VAs G X E (e :: es) os) (wf : wfA os = true := by rfl)
    (hn : x ≠ "__name__" := by decide) (hdb : (x == ("__debug__" : Str)) = false := by decide)
    (he : starEach (e :: es) X.env = (false, eval e X.env) :: starEach es X.env := by rfl) (hpl : (backTo pos (starEach es X.env)).any (·.1) = false := by rfl) : VE G X E (os.all (·.p)) true (.Call (.Name x p) (e :: es) [] pos) (mFun sem (os.map Op.m)) :=
  ve_fun (pe_callB hc hg hm hv ha hn hdb he hpl) (fun σ H Q h => h) ok wf
theorem ve_callTy {T : String} {x : Str} {p : Pos} {e : Expr} {es : List Expr} {os : List Op} {r : List V → Hp → VK → Prop} {sem : List Val → Option Val} (hc : CallR X (.type T) r) (ok : OkF G r sem) (hg : Gl X x) (hm : X.mg x = none) (hv : bootBuiltins x = some (.type T)) (ha : VAs G X E (e :: es) os) (wf : wfA os = true := by rfl)
    (hn : x ≠ "__name__" := by decide) (hdb : (x == ("__debug__" : Str)) = false := by decide)
    (he : starEach (e :: es) X.env = (false, eval e X.env) :: starEach es X.env := by rfl) (hpl : (backTo pos (starEach es X.env)).any (·.1) = false := by rfl) : VE G X E (os.all (·.p)) true (.Call (.Name x p) (e :: es) [] pos) (mFun sem (os.map Op.m)) :=
  ve_fun (pe_callTy hc hg hm hv ha hn hdb he hpl) (fun σ H Q h => h) ok wf
end

/-! ### lists of flat things -/
section
variable {G : Gam} {W : Addr → Prop} {H : Hp}
theorem Reps.ints : ∀ {ns : List Int} {xs : List V} {O : List Addr}, Reps G W H xs (ns.map Val.int) O → xs = ns.map V.int ∧ O = []
  | [], xs, O, r => by cases r; exact ⟨rfl, rfl⟩
  | n :: ns, xs, O, r => by
    cases r with
    | cons r t =>
      cases r
      obtain ⟨rfl, rfl⟩ := Reps.ints t
      exact ⟨rfl, rfl⟩
theorem Reps.of_ints : ∀ (ns : List Int), Reps G W H (ns.map V.int) (ns.map Val.int) []
  | [] => .nil
  | n :: ns => .cons (O := []) (.int n) (Reps.of_ints ns)
theorem Reps.fz {xs : List V} {vs : List Val} {O : List Addr} (r : Reps G W H xs vs O) (h : fzs vs = true) : Reps G W H xs vs [] := by
  have e := r.none_of_fz h
  subst e
  exact r
theorem Rep.fz' {x : V} {v : Val} {O : List Addr} (r : Rep G W H x v O) (h : v.fz = true) : Rep G W H x v [] := by
  have e := r.none_of_fz h
  subst e
  exact r
theorem Reps.fzs_of {xs : List V} {vs : List Val} (r : Reps G W H xs vs []) : fzs vs = true := r.fz_of_none rfl
end

/-! ### numbers -/
def mulOk (i j : Int) : Prop := i.natAbs.log2 + j.natAbs.log2 < 1000000 ∨ ((-(2 ^ 64) < i ∧ i < 2 ^ 64) ∨ (-(2 ^ 64) < j ∧ j < 2 ^ 64))
instance (i j : Int) : Decidable (mulOk i j) := by unfold mulOk; infer_instance
def divOk (j : Int) : Prop := 0 < j ∧ j.natAbs.log2 < 9000
instance (j : Int) : Decidable (divOk j) := by unfold divOk; infer_instance
def powOk (i j : Int) : Prop := 0 ≤ j ∧ j ≤ 1000000 ∧ i.natAbs < 2 ^ 64
instance (i j : Int) : Decidable (powOk i j) := by unfold powOk; infer_instance
def semAdd : List Val → Option Val
  | [.int a, .int b] => some (.int (a + b))
  | [.str a, .str b] => if a.length + b.length ≤ 16777216 then some (.str (a ++ b)) else none
  | [.lst _ a, .lst _ b] => if a.length + b.length ≤ 16777216 ∧ fzs a = true ∧ fzs b = true then some (.lst true (a ++ b)) else none
  | [.tup a, .tup b] => if a.length + b.length ≤ 16777216 ∧ fzs a = true ∧ fzs b = true then some (.tup (a ++ b)) else none
  | _ => none
def semSub : List Val → Option Val
  | [.int a, .int b] => some (.int (a - b))
  | _ => none
def semMul : List Val → Option Val
  | [.int a, .int b] => if mulOk a b then some (.int (a * b)) else none
  | [.lst _ a, .int k] => if -(2 ^ 63) ≤ k ∧ k < 2 ^ 63 ∧ a.length * k.toNat ≤ 16777216 ∧ fzs a = true then some (.lst true (List.replicate k.toNat a).flatten) else none
  | [.tup a, .int k] => if a ≠ [] ∧ 2 ≤ k ∧ k ≤ 1000 ∧ a.length ≤ 1000 ∧ fzs a = true then some (.tup (List.replicate k.toNat a).flatten) else none
  | _ => none
def semDiv : List Val → Option Val
  | [.int a, .int b] => if divOk b then some (.int (a / b)) else none
  | _ => none
def semMod : List Val → Option Val
  | [.int a, .int b] => if 0 < b then some (.int (a % b)) else none
  | _ => none
def semPow : List Val → Option Val
  | [.int a, .int b] => if powOk a b then some (.int (a ^ b.toNat)) else none
  | _ => none
def semNeg : List Val → Option Val
  | [.int a] => some (.int (-a))
  | _ => none
theorem RepL.inv2 {G : Gam} {W : Addr → Prop} {H : Hp} {xs : List V} {a b : Val} {Ol : List (List Addr)} (r : RepL G W H xs [a, b] Ol) : ∃ x y O O', xs = [x, y] ∧ Rep G W H x a O ∧ Rep G W H y b O' := by
  cases r with
  | cons r t =>
    cases t with
    | cons r' t =>
      cases t
      exact ⟨_, _, _, _, rfl, r, r'⟩
theorem RepL.inv1 {G : Gam} {W : Addr → Prop} {H : Hp} {xs : List V} {a : Val} {Ol : List (List Addr)} (r : RepL G W H xs [a] Ol) : ∃ x O, xs = [x] ∧ Rep G W H x a O := by
  cases r with
  | cons r t =>
    cases t
    exact ⟨_, _, rfl, r⟩
theorem sz_le {n : Nat} (h : n ≤ 16777216) : n ≤ sizeLine := by rw [sizeLine_eq]; exact h
theorem le_sz {n : Nat} (h : n ≤ sizeLine) : n ≤ 16777216 := by rw [sizeLine_eq] at h; exact h
section
variable {G : Gam} {X : Cx}
def rAddV (K : PySem.W.Frag) : R2 := fun x y H Q => rI0 (fun i j => .int (i + j)) x y H Q ∨ ((∃ i j, x = .str i ∧ y = .str j ∧ i.length + j.length ≤ sizeLine ∧ Q (.str (i ++ j)) H) ∨ (rCat x y H Q ∨ rCatA K x y H Q))
theorem op_addV (hK : X.K = G.K) : OpR X (binaryOp .Add) (rAddV G.K) := by
  rw [← hK]
  exact op_add.or (op_add_str.or (op_cat.or op_catA))
theorem rep_tupT {W : Addr → Prop} {H : Hp} {x : V} {vs : List Val} {O : List Addr} (r : Rep G W H x (.tup vs) O) : ∃ a xs, x = .ref a ∧ SqT G.K H a xs ∧ Reps G W H xs vs O := by
  cases r with
  | tup h r => exact ⟨_, _, rfl, .inl (.inl h.1), r⟩
theorem rep_lstL {W : Addr → Prop} {H : Hp} {x : V} {o : Bool} {vs : List Val} {O : List Addr} (r : Rep G W H x (.lst o vs) O) : ∃ a xs O', x = .ref a ∧ H a = some (.lst xs) ∧ Reps G W H xs vs O' := by
  cases r with
  | lstO h r => exact ⟨_, _, _, rfl, h, r⟩
  | lstF h r => exact ⟨_, _, _, rfl, h.1, r⟩
theorem ok_add : OkF G (r2 (rAddV G.K)) semAdd := by
  intro W H xs vs Ol v Q w r hs m
  unfold semAdd at hs
  split at hs
  · obtain ⟨x, y, O, O', rfl, r1, r2⟩ := r.inv2
    cases r1; cases r2; cases hs
    exact .inl ⟨_, _, rfl, rfl, m.same (.int _)⟩
  · obtain ⟨x, y, O, O', rfl, r1, r2⟩ := r.inv2
    cases r1; cases r2
    split at hs
    · rename_i h
      cases hs
      exact .inr (.inl ⟨_, _, rfl, rfl, sz_le h, m.same (.str _)⟩)
    · cases hs
  · obtain ⟨x, y, O, O', rfl, r1, r2⟩ := r.inv2
    split at hs
    · rename_i h
      cases hs
      obtain ⟨a, xs, O1, rfl, e1, q1⟩ := rep_lstL r1
      obtain ⟨b, ys, O2, rfl, e2, q2⟩ := rep_lstL r2
      exact .inr (.inr (.inl ⟨a, b, xs, ys, rfl, rfl, e1, e2, sz_le (by rw [q1.length, q2.length]; exact h.1), m.lst (by simpa using (q1.fz h.2.1).append (q2.fz h.2.2))⟩))
    · cases hs
  · obtain ⟨x, y, O, O', rfl, r1, r2⟩ := r.inv2
    split at hs
    · rename_i h
      cases hs
      obtain ⟨a, xs, rfl, e1, q1⟩ := rep_tupT r1
      obtain ⟨b, ys, rfl, e2, q2⟩ := rep_tupT r2
      refine .inr (.inr (.inr ⟨a, b, xs, ys, rfl, rfl, e1, e2, sz_le (by rw [q1.length, q2.length]; exact h.1), fun hx => ?_, fun _ hy => ?_, fun _ _ => m.tup (by simpa using (q1.fz h.2.1).append (q2.fz h.2.2)) (fresh_nw w)⟩))
      · subst hx
        cases q1
        exact m.same (r2.fz' (by simpa [Val.fz] using h.2.2))
      · subst hy
        cases q2
        rw [List.append_nil] at m
        exact m.same (r1.fz' (by simpa [Val.fz] using h.2.1))
    · cases hs
  · cases hs
theorem ok_sub : OkF G (r2 (rI0 fun i j => .int (i - j))) semSub := by
  intro W H xs vs Ol v Q w r hs m
  unfold semSub at hs
  split at hs
  · obtain ⟨x, y, O, O', rfl, r1, r2⟩ := r.inv2
    cases r1; cases r2; cases hs
    exact ⟨_, _, rfl, rfl, m.same (.int _)⟩
  · cases hs
def rMulV (K : PySem.W.Frag) : R2 := fun x y H Q => rI CMulW (fun i j => .int (i * j)) x y H Q ∨ (rI CMul (fun i j => .int (i * j)) x y H Q ∨ (rRep x y H Q ∨ rRepT K x y H Q))
theorem op_mulV (hK : X.K = G.K) : OpR X (binaryOp .Mult) (rMulV G.K) := by
  rw [← hK]
  exact op_mulW.or (op_mul.or (op_rep.or op_repT))
theorem Reps.rep {W : Addr → Prop} {H : Hp} {xs : List V} {vs : List Val} (r : Reps G W H xs vs []) : ∀ n : Nat, Reps G W H (List.replicate n xs).flatten (List.replicate n vs).flatten []
  | 0 => by simpa using Reps.nil
  | n + 1 => by
    rw [List.replicate_succ, List.replicate_succ, List.flatten_cons, List.flatten_cons]
    exact r.append (Reps.rep r n)
theorem ok_mul : OkF G (r2 (rMulV G.K)) semMul := by
  intro W H xs vs Ol v Q w r hs m
  unfold semMul at hs
  split at hs
  · obtain ⟨x, y, O, O', rfl, r1, r2⟩ := r.inv2
    cases r1; cases r2
    split at hs
    · rename_i h
      cases hs
      rcases h with h | h
      · exact .inl ⟨_, _, rfl, rfl, h, m.same (.int _)⟩
      · exact .inr (.inl ⟨_, _, rfl, rfl, h, m.same (.int _)⟩)
    · cases hs
  · obtain ⟨x, y, O, O', rfl, r1, r2⟩ := r.inv2
    cases r2
    split at hs
    · rename_i h
      cases hs
      obtain ⟨a, xs, O1, rfl, e1, q1⟩ := rep_lstL r1
      exact .inr (.inr (.inl ⟨a, _, xs, rfl, rfl, e1, h.1, h.2.1, sz_le (by rw [q1.length]; exact h.2.2.1), m.lst (Reps.rep (q1.fz h.2.2.2) _)⟩))
    · cases hs
  · obtain ⟨x, y, O, O', rfl, r1, r2⟩ := r.inv2
    cases r2
    split at hs
    · rename_i h
      cases hs
      obtain ⟨a, xs, rfl, e1, q1⟩ := rep_tupT r1
      refine .inr (.inr (.inr ⟨a, _, xs, rfl, rfl, e1, fun z => ?_, h.2.1, h.2.2.1, by rw [q1.length]; exact h.2.2.2.1, m.tup (Reps.rep (q1.fz h.2.2.2.2) _) (fresh_nw w)⟩))
      subst z
      cases q1
      exact h.1 rfl
    · cases hs
  · cases hs
theorem ok_div : OkF G (r2 (rI CDivW fun i j => .int (i / j))) semDiv := by
  intro W H xs vs Ol v Q w r hs m
  unfold semDiv at hs
  split at hs
  · obtain ⟨x, y, O, O', rfl, r1, r2⟩ := r.inv2
    cases r1; cases r2
    split at hs
    · rename_i h
      cases hs
      exact ⟨_, _, rfl, rfl, h, m.same (.int _)⟩
    · cases hs
  · cases hs
theorem ok_mod : OkF G (r2 (rI (fun _ j => 0 < j) fun i j => .int (i % j))) semMod := by
  intro W H xs vs Ol v Q w r hs m
  unfold semMod at hs
  split at hs
  · obtain ⟨x, y, O, O', rfl, r1, r2⟩ := r.inv2
    cases r1; cases r2
    split at hs
    · rename_i h
      cases hs
      exact ⟨_, _, rfl, rfl, h, m.same (.int _)⟩
    · cases hs
  · cases hs
theorem ok_pow : OkF G (r2 (rI CPow fun i j => .int (i ^ j.toNat))) semPow := by
  intro W H xs vs Ol v Q w r hs m
  unfold semPow at hs
  split at hs
  · obtain ⟨x, y, O, O', rfl, r1, r2⟩ := r.inv2
    cases r1; cases r2
    split at hs
    · rename_i h
      cases hs
      exact ⟨_, _, rfl, rfl, h, m.same (.int _)⟩
    · cases hs
  · cases hs
theorem ok_neg : OkF G (r1 (rU fun i => .int (-i))) semNeg := by
  intro W H xs vs Ol v Q w r hs m
  unfold semNeg at hs
  split at hs
  · obtain ⟨x, O, rfl, r1⟩ := r.inv1
    cases r1; cases hs
    exact ⟨_, rfl, m.same (.int _)⟩
  · cases hs
end

/-! ### comparisons -/
def semCmp (f : Int → Int → Bool) : List Val → Option Val
  | [.int a, .int b] => some (.bl (f a b))
  | _ => none
theorem ok_cmp {G : Gam} {f : Int → Int → Bool} : OkF G (r2 (rI0 fun i j => .bl (f i j))) (semCmp f) := by
  intro W H xs vs Ol v Q w r hs m
  unfold semCmp at hs
  split at hs
  · obtain ⟨x, y, O, O', rfl, r1, r2⟩ := r.inv2
    cases r1; cases r2; cases hs
    exact ⟨_, _, rfl, rfl, m.same (.bl _)⟩
  · cases hs
mutual
/-- as plain data -/
def toD : Val → Option PyData
  | .non => some .none
  | .bl b => some (.bool b)
  | .int i => some (.int i)
  | .str x => some (.str x)
  | .tup xs => match toDs xs with
    | some ds => some (.tuple ds)
    | none => none
  | .lst _ xs => match toDs xs with
    | some ds => some (.list ds)
    | none => none
  | _ => none
def toDs : List Val → Option (List PyData)
  | [] => some []
  | x :: xs => match toD x, toDs xs with
    | some d, some ds => some (d :: ds)
    | _, _ => none
end
section
variable {G : Gam} {W : Addr → Prop} {H : Hp}
mutual
theorem Rep.dp {x : V} {v : Val} {O : List Addr} {d : PyData} (r : Rep G W H x v O) (h : toD v = some d) : Dp G.K H x d := by
  cases r with
  | non => simp only [toD] at h; cases h; exact .non
  | bl b => simp only [toD] at h; cases h; exact .bl b
  | int i => simp only [toD] at h; cases h; exact .int i
  | str x => simp only [toD] at h; cases h; exact .str x
  | tup h' r =>
    simp only [toD] at h
    split at h
    · rename_i ds hd
      cases h
      exact .tup (.inl (.inl h'.1)) (r.dp hd)
    · cases h
  | lstO h' r =>
    simp only [toD] at h
    split at h
    · rename_i ds hd
      cases h
      exact .lst (.inl (.inl h')) (r.dp hd)
    · cases h
  | lstF h' r =>
    simp only [toD] at h
    split at h
    · rename_i ds hd
      cases h
      exact .lst (.inl (.inl h'.1)) (r.dp hd)
    · cases h
  | _ => simp only [toD] at h; cases h
theorem Reps.dp {xs : List V} {vs : List Val} {O : List Addr} {ds : List PyData} (r : Reps G W H xs vs O) (h : toDs vs = some ds) : DpAll G.K H xs ds := by
  cases r with
  | nil => simp only [toDs] at h; cases h; exact .nil
  | cons r t =>
    simp only [toDs] at h
    split at h
    · rename_i d ds h1 h2
      cases h
      exact .cons (r.dp h1) (t.dp h2)
    · cases h
end
end
/-- == -/
def eqD (a b : Val) : Option Bool := match toD a, toD b with
  | some d, some e => if SeqAt.shaped d = true ∧ SeqAt.shaped e = true then some (PyData.eqv d e) else none
  | _, _ => none
def semEq : List Val → Option Val
  | [a, b] => match eqD a b with
    | some c => some (.bl c)
    | none => none
  | _ => none
def semNe : List Val → Option Val
  | [a, b] => match eqD a b with
    | some c => some (.bl (!c))
    | none => none
  | _ => none
section
variable {G : Gam} {X : Cx}
theorem eqD_some {a b : Val} {c : Bool} (h : eqD a b = some c) : ∃ d e, toD a = some d ∧ toD b = some e ∧ SeqAt.shaped d = true ∧ SeqAt.shaped e = true ∧ c = PyData.eqv d e := by
  unfold eqD at h
  split at h
  · rename_i d e h1 h2
    split at h
    · rename_i hs
      cases h
      exact ⟨d, e, h1, h2, hs.1, hs.2, rfl⟩
    · cases h
  · cases h
theorem ok_eq : OkF G (r2 (rEqD G.K)) semEq := by
  intro W H xs vs Ol v Q w r hs m
  unfold semEq at hs
  split at hs
  · obtain ⟨x, y, O, O', rfl, r1, r2⟩ := r.inv2
    split at hs
    · rename_i c hc
      cases hs
      obtain ⟨d, e, h1, h2, h3, h4, rfl⟩ := eqD_some hc
      exact ⟨d, e, r1.dp h1, r2.dp h2, h3, h4, m.same (.bl _)⟩
    · cases hs
  · cases hs
theorem ok_ne : OkF G (r2 (rNeD G.K)) semNe := by
  intro W H xs vs Ol v Q w r hs m
  unfold semNe at hs
  split at hs
  · obtain ⟨x, y, O, O', rfl, r1, r2⟩ := r.inv2
    split at hs
    · rename_i c hc
      cases hs
      obtain ⟨d, e, h1, h2, h3, h4, rfl⟩ := eqD_some hc
      exact ⟨d, e, r1.dp h1, r2.dp h2, h3, h4, m.same (.bl _)⟩
    · cases hs
  · cases hs
end
end VL
/-! VL, part E: subscripts, tests, what is asked of one thing only if another says so, displays, slices. -/
namespace VL
open PySem L2

/-! ### when two values are the same tree -/
mutual
def Val.beq : Val → Val → Bool
  | .non, .non => true
  | .bl a, .bl b => a == b
  | .int a, .int b => a == b
  | .str a, .str b => decide (a = b)
  | .ty a, .ty b => a == b
  | .cn a, .cn b => a == b
  | .tup a, .tup b => beqs a b
  | .lst o a, .lst p b => o == p && beqs a b
  | .dct o d ks xs, .dct p e ls ys => o == p && (decide (d = e) && (beqs ks ls && beqs xs ys))
  | .obj o C fs xs, .obj p D gs ys => o == p && (C == D && (decide (fs = gs) && beqs xs ys))
  | .exn C fs xs, .exn D gs ys => C == D && (decide (fs = gs) && beqs xs ys)
  | .scr a, .scr b => decide (a = b)
  | .wdk ks xs, .wdk ls ys => beqs ks ls && beqs xs ys
  | .wtp a, .wtp b => beqs a b
  | .fn a, .fn b => a == b
  | _, _ => false
def beqs : List Val → List Val → Bool
  | [], [] => true
  | a :: l, b :: r => a.beq b && beqs l r
  | _, _ => false
end
mutual
theorem Val.beq_eq : ∀ (a b : Val), a.beq b = true → a = b
  | .non, b, h => by cases b <;> simp_all [Val.beq]
  | .bl a, b, h => by cases b <;> simp_all [Val.beq]
  | .int a, b, h => by cases b <;> simp_all [Val.beq]
  | .str a, b, h => by cases b <;> simp_all [Val.beq]
  | .ty a, b, h => by cases b <;> simp_all [Val.beq]
  | .cn a, b, h => by cases b <;> simp_all [Val.beq]
  | .fn a, b, h => by cases b <;> simp_all [Val.beq]
  | .scr a, b, h => by cases b <;> simp_all [Val.beq]
  | .tup a, b, h => by
    cases b <;> simp only [Val.beq, Bool.false_eq_true] at h
    rw [beqs_eq _ _ h]
  | .wtp a, b, h => by
    cases b <;> simp only [Val.beq, Bool.false_eq_true] at h
    rw [beqs_eq _ _ h]
  | .lst o a, b, h => by
    cases b <;> simp only [Val.beq, Bool.false_eq_true, Bool.and_eq_true, beq_iff_eq] at h
    rw [h.1, beqs_eq _ _ h.2]
  | .dct o d ks xs, b, h => by
    cases b <;> simp only [Val.beq, Bool.false_eq_true, Bool.and_eq_true, beq_iff_eq, decide_eq_true_eq] at h
    rw [h.1, h.2.1, beqs_eq _ _ h.2.2.1, beqs_eq _ _ h.2.2.2]
  | .obj o C fs xs, b, h => by
    cases b <;> simp only [Val.beq, Bool.false_eq_true, Bool.and_eq_true, beq_iff_eq, decide_eq_true_eq] at h
    rw [h.1, h.2.1, h.2.2.1, beqs_eq _ _ h.2.2.2]
  | .exn C fs xs, b, h => by
    cases b <;> simp only [Val.beq, Bool.false_eq_true, Bool.and_eq_true, beq_iff_eq, decide_eq_true_eq] at h
    rw [h.1, h.2.1, beqs_eq _ _ h.2.2]
  | .wdk ks xs, b, h => by
    cases b <;> simp only [Val.beq, Bool.false_eq_true, Bool.and_eq_true] at h
    rw [beqs_eq _ _ h.1, beqs_eq _ _ h.2]
theorem beqs_eq : ∀ (a b : List Val), beqs a b = true → a = b
  | [], b, h => by cases b <;> simp_all [beqs]
  | x :: l, b, h => by
    cases b with
    | nil => simp [beqs] at h
    | cons y r =>
      simp only [beqs, Bool.and_eq_true] at h
      rw [Val.beq_eq _ _ h.1, beqs_eq _ _ h.2]
end
mutual
theorem Val.beq_refl : ∀ (a : Val), a.beq a = true
  | .non | .bl _ | .int _ | .str _ | .ty _ | .cn _ | .scr _ | .fn _ => by simp [Val.beq]
  | .tup a => by simp only [Val.beq]; exact beqs_refl a
  | .wtp a => by simp only [Val.beq]; exact beqs_refl a
  | .lst o a => by simp [Val.beq, beqs_refl a]
  | .dct o d ks xs => by simp [Val.beq, beqs_refl ks, beqs_refl xs]
  | .obj o C fs xs => by simp [Val.beq, beqs_refl xs]
  | .exn C fs xs => by simp [Val.beq, beqs_refl xs]
  | .wdk ks xs => by simp [Val.beq, beqs_refl ks, beqs_refl xs]
theorem beqs_refl : ∀ (a : List Val), beqs a a = true
  | [] => by simp [beqs]
  | x :: l => by simp [beqs, Val.beq_refl x, beqs_refl l]
end
instance : DecidableEq Val := fun a b => if h : a.beq b = true then .isTrue (Val.beq_eq a b h) else .isFalse fun e => h (by rw [e]; exact Val.beq_refl b)

/-! ### dicts -/
def lookK (k : Val) : List Val → List Val → Option Val
  | l :: ks, v :: vs => if l = k then some v else lookK k ks vs
  | _, _ => none
/-- a value that may be a key of a dict -/
def isKey : DK → Val → Bool
  | .k, .int _ => true
  | .k, .str _ => true
  | .t, .tup xs => xs.all fun x => match x with | .int _ => true | .str _ => true | _ => false
  | _, _ => false
theorem ofKey_inj {k l : Key} (h : ofKey k = ofKey l) : k = l := by
  cases k <;> cases l <;> simp [ofKey] at h <;> rw [h]
theorem ofKey_map_inj : ∀ {k l : List Key}, k.map ofKey = l.map ofKey → k = l
  | [], [], _ => rfl
  | [], _ :: _, h => by simp at h
  | _ :: _, [], h => by simp at h
  | a :: k, b :: l, h => by
    simp only [List.map_cons, List.cons.injEq] at h
    rw [ofKey_inj h.1, ofKey_map_inj h.2]
section
variable {G : Gam} {W : Addr → Prop} {H : Hp}
/-- what is found at a key, in the tree and in the heap -/
theorem look_of {κ : Type} [DecidableEq κ] {f : κ → Val} (inj : ∀ a b, f a = f b → a = b) (k : κ) : ∀ {kvs : List (κ × V)} {vs : List Val} {O : List Addr}, Reps G W H (kvs.map (·.2)) vs O →
    match lookK (f k) (kvs.map fun p => f p.1) vs with
    | some v => ∃ x O', valV kvs k = some x ∧ Rep G W H x v O' ∧ ∀ a ∈ O', a ∈ O
    | none => valV kvs k = none
  | [], vs, O, r => by
    cases r
    simp [lookK, valV]
  | p :: kvs, vs, O, r => by
    cases r with
    | @cons x v _ vs' O1 O2 r t =>
      simp only [List.map_cons, lookK]
      by_cases h : f p.1 = f k
      · rw [if_pos h]
        have e := inj _ _ h
        exact ⟨p.2, O1, valV_pos e, r, fun a ha => List.mem_append_left _ ha⟩
      · rw [if_neg h]
        have e : ¬ p.1 = k := fun z => h (by rw [z])
        have ih := look_of inj k t
        cases hv : lookK (f k) (kvs.map fun p => f p.1) vs' with
        | some v' =>
          rw [hv] at ih
          obtain ⟨x', O', e1, r', s⟩ := ih
          exact ⟨x', O', by rw [valV_neg e]; exact e1, r', fun a ha => List.mem_append_right _ (s a ha)⟩
        | none =>
          rw [hv] at ih
          dsimp only
          rw [valV_neg e]; exact ih
theorem isKey_k {v : Val} {x : V} {O : List Addr} (h : isKey .k v = true) (r : Rep G W H x v O) : ∃ k : Key, v = ofKey k ∧ x = kV k := by
  cases r <;> simp [isKey] at h
  · exact ⟨.inl _, rfl, rfl⟩
  · exact ⟨.inr _, rfl, rfl⟩
theorem isKeys {vs : List Val} (h : (vs.all fun x => match x with | .int _ => true | .str _ => true | _ => false) = true) : ∀ {xs : List V} {O : List Addr}, Reps G W H xs vs O → ∃ ks : List Key, vs = ks.map ofKey ∧ xs = ks.map kV := by
  induction vs with
  | nil => intro xs O r; cases r; exact ⟨[], rfl, rfl⟩
  | cons v vs ih =>
    intro xs O r
    simp only [List.all_cons, Bool.and_eq_true] at h
    cases r with
    | cons r t =>
      obtain ⟨ks, e1, e2⟩ := ih h.2 t
      obtain ⟨k, e3, e4⟩ := isKey_k (G := G) (W := W) (H := H) (v := v) (by have := h.1; cases v <;> simp_all [isKey]) r
      exact ⟨k :: ks, by simp [e1, e3], by simp [e2, e4]⟩
end

/-! ### subscripts -/
def semIx : List Val → Option Val
  | [.lst _ xs, .int i] => match atI xs i with
    | some v => if v.fz = true then some v else none
    | none => none
  | [.tup xs, .int i] => match atI xs i with
    | some v => if v.fz = true then some v else none
    | none => none
  | [.wtp xs, .int i] => match atI xs i with
    | some v => some v
    | none => none
  | [.scr ns, .int i] => match atI ns i with
    | some n => some (.int n)
    | none => none
  | [.str z, .int i] => if z.length ≤ 16777216 then (match atI z.cps.toList i with
    | some c => some (.str ⟨#[c]⟩)
    | none => none) else none
  | [.dct _ d ks vs, k] => if isKey d k = true then (match lookK k ks vs with
    | some v => if v.fz = true then some v else none
    | none => none) else none
  | [.wdk ks vs, .str z] => match lookK (.str z) ks vs with
    | some v => if v.fz = true then some v else none
    | none => none
  | _ => none
section
variable {G : Gam} {X : Cx}
def rIxDG : R2 := fun x y H Q => ∃ a v, x = .ref a ∧ DGet H a y (some v) ∧ Q v H
theorem ix_dict (hu : X.A.units + 1 < cLine) : IxR X rIxDG := by
  intro value slice pins s σ H x y v u Q I rx ry h hs
  obtain ⟨a, z, rfl, g, q⟩ := h
  obtain rfl : v = Value.ref a := rx
  exact PyProof.Rows.tail_any (dict_typeIs I g) PySem.F.slot_dict_getitem.lookup (d_getItem hu I g ry fun w' s3 I3 rw' => ⟨z, H, I3, rw', q⟩) hs
def rIxV (K : PySem.W.Frag) (w : World) : R2 := fun x y H Q => rIx K x y H Q ∨ (rIxDG x y H Q ∨ rIxD K w x y H Q)
theorem IxR.or' {r r' : R2} (h : IxR X r) (h' : IxR X r') : IxR X (fun x y H Q => r x y H Q ∨ r' x y H Q) := by
  intro value slice pins s σ H x y v u Q I rx ry q hs
  rcases q with q | q
  · exact h value slice pins s σ H x y v u Q I rx ry q hs
  · exact h' value slice pins s σ H x y v u Q I rx ry q hs
theorem ix_any (hK : X.K = G.K) (hw : X.w = G.w) (hu : X.A.units + 1 < cLine) : IxR X (rIxV G.K G.w) := by
  rw [← hK, ← hw]
  exact IxR.or' ix_seq (IxR.or' (ix_dict hu) ix_kdict)
theorem Reps.at {W : Addr → Prop} {H : Hp} {xs : List V} {vs : List Val} {O : List Addr} (r : Reps G W H xs vs O) {i : Int} {v : Val} (h : atI vs i = some v) : ∃ x Oi, atI xs i = some x ∧ Rep G W H x v Oi := by
  unfold atI at h ⊢
  rw [r.length]
  cases e : ixN vs.length i with
  | none => rw [e] at h; cases h
  | some j =>
    rw [e] at h
    simp only [Option.bind_some] at h ⊢
    obtain ⟨x, _, Oi, _, e1, _, q⟩ := r.split h
    exact ⟨x, Oi, e1, q⟩
theorem atI_map {α β : Type} (f : α → β) (l : List α) (i : Int) : atI (l.map f) i = (atI l i).map f := by
  unfold atI
  rw [List.length_map]
  cases ixN l.length i with
  | none => rfl
  | some j => simp
theorem atI_mem {α : Type} {l : List α} {i : Int} {v : α} (h : atI l i = some v) : v ∈ l := by
  unfold atI at h
  cases e : ixN l.length i with
  | none => rw [e] at h; cases h
  | some j => rw [e] at h; exact List.mem_of_getElem? (by simpa using h)
theorem ok_ix : OkF G (r2 (rIxV G.K G.w)) semIx := by
  intro W H xs vs Ol v Q w r hs m
  unfold semIx at hs
  split at hs
  · obtain ⟨x, y, O, O', rfl, r1, r2⟩ := r.inv2
    cases r2
    split at hs
    · rename_i v' hv
      split at hs
      · rename_i hf
        cases hs
        obtain ⟨a, ys, O1, rfl, e1, q1⟩ := rep_lstL r1
        obtain ⟨z, Oi, e2, q2⟩ := q1.at hv
        exact .inl (.inl ⟨a, ys, _, z, rfl, rfl, .inl (.inl e1), e2, m.same (q2.fz' hf)⟩)
      · cases hs
    · cases hs
  · obtain ⟨x, y, O, O', rfl, r1, r2⟩ := r.inv2
    cases r2
    split at hs
    · rename_i v' hv
      split at hs
      · rename_i hf
        cases hs
        obtain ⟨a, ys, rfl, e1, q1⟩ := rep_tupT r1
        obtain ⟨z, Oi, e2, q2⟩ := q1.at hv
        exact .inl (.inr (.inl ⟨a, ys, _, z, rfl, rfl, e1, e2, m.same (q2.fz' hf)⟩))
      · cases hs
    · cases hs
  · obtain ⟨x, y, O, O', rfl, r1, r2⟩ := r.inv2
    cases r2
    split at hs
    · rename_i v' hv
      cases hs
      cases r1 with
      | @wtp a ys us h q1 =>
        obtain ⟨z, Oi, e2, q2⟩ := q1.at hv
        have hf : Rep G W H z v [] := by
          have := q1.fz_of_none rfl
          rw [fzs_all, List.all_eq_true] at this
          exact q2.fz' (this v (atI_mem hv))
        exact .inl (.inr (.inl ⟨a, ys, _, z, rfl, rfl, h.elim (fun q => by rcases q with q | ⟨o, q⟩ <;> cases q) .inr, e2, m.same hf⟩))
    · cases hs
  · obtain ⟨x, y, O, O', rfl, r1, r2⟩ := r.inv2
    cases r2
    split at hs
    · rename_i n hv
      cases hs
      cases r1 with
      | scr h =>
        exact .inl (.inl ⟨_, _, _, .int _, rfl, rfl, h.elim (fun ⟨o, e, _⟩ => Or.inl (Or.inr ⟨o, e⟩)) (fun z => z.elim (fun q => by rcases q with q | ⟨o, q⟩ <;> cases q) .inr), by rw [atI_map, hv]; rfl, m.same (.int _)⟩)
    · cases hs
  · obtain ⟨x, y, O, O', rfl, r1, r2⟩ := r.inv2
    cases r2; cases r1
    split at hs
    · rename_i hz
      split at hs
      · rename_i c hc
        cases hs
        exact .inl (.inr (.inr ⟨_, _, c, rfl, rfl, sz_le hz, hc, m.same (.str _)⟩))
      · cases hs
    · cases hs
  · obtain ⟨x, y, O, O', rfl, r1, r2⟩ := r.inv2
    split at hs
    · rename_i hk
      split at hs
      · rename_i v' hv
        split at hs
        · rename_i hf
          cases hs
          cases r1 with
          | @dkO a kvs ks vs O1 h hk' q =>
            obtain ⟨k, rfl, rfl⟩ := isKey_k hk r2
            have l := look_of (f := ofKey) (fun a b => ofKey_inj) k q
            rw [← hk', hv] at l
            obtain ⟨x', O'', e1, r', _⟩ := l
            exact .inr (.inl ⟨a, x', rfl, .inl ⟨kvs, k, .inl h, rfl, e1.symm⟩, m.same (r'.fz' hf)⟩)
          | @dkF a kvs ks vs h hk' q =>
            obtain ⟨k, rfl, rfl⟩ := isKey_k hk r2
            have l := look_of (f := ofKey) (fun a b => ofKey_inj) k q
            rw [← hk', hv] at l
            obtain ⟨x', O'', e1, r', _⟩ := l
            exact .inr (.inl ⟨a, x', rfl, .inl ⟨kvs, k, h.1, rfl, e1.symm⟩, m.same (r'.fz' hf)⟩)
          | @dtO a kvs ks vs O1 h hk' q =>
            cases r2 <;> simp [isKey] at hk
            rename_i b ys us hb q2
            obtain ⟨kl, e2, e3⟩ := isKeys (by simpa using hk) q2
            subst e2 e3
            have l := look_of (f := fun k : List Key => Val.tup (k.map ofKey)) (fun a b e => ofKey_map_inj (by simpa using e)) kl q
            rw [← hk', hv] at l
            obtain ⟨x', O'', e1, r', _⟩ := l
            exact .inr (.inl ⟨a, x', rfl, .inr ⟨kvs, kl, b, .inl h, rfl, hb.1, e1.symm⟩, m.same (r'.fz' hf)⟩)
          | @dtF a kvs ks vs h hk' q =>
            cases r2 <;> simp [isKey] at hk
            rename_i b ys us hb q2
            obtain ⟨kl, e2, e3⟩ := isKeys (by simpa using hk) q2
            subst e2 e3
            have l := look_of (f := fun k : List Key => Val.tup (k.map ofKey)) (fun a b e => ofKey_map_inj (by simpa using e)) kl q
            rw [← hk', hv] at l
            obtain ⟨x', O'', e1, r', _⟩ := l
            exact .inr (.inl ⟨a, x', rfl, .inr ⟨kvs, kl, b, .inl h.1, rfl, hb.1, e1.symm⟩, m.same (r'.fz' hf)⟩)
        · cases hs
      · cases hs
    · cases hs
  · obtain ⟨x, y, O, O', rfl, r1, r2⟩ := r.inv2
    cases r2
    split at hs
    · rename_i v' hv
      split at hs
      · rename_i hf
        cases hs
        cases r1 with
        | @wdk a kvs ks vs h hk' q =>
          have l := look_of (f := ofKey) (fun a b => ofKey_inj) (.inr ‹Str›) q
          rw [← hk'] at l
          simp only [ofKey] at l
          rw [hv] at l
          obtain ⟨x', O'', e1, r', _⟩ := l
          exact .inr (.inr ⟨a, _, x', rfl, rfl, h.2.1 _ _ e1, m.same (r'.fz' hf)⟩)
      · cases hs
    · cases hs
  · cases hs
end
end VL
/-! VL, part F: tests; and, or, not; a if t else b; displays; slices. -/
namespace VL
open PySem L2

section
variable {G : Gam} {R : Addr → Prop} {E : WX} {σ : L2.St} {H H1 : Hp} {Os Os1 : Nat → List Addr} {ρ ρ1 : VEnv} {Q : VK} {r : RE}
/-- from a later place -/
theorem Post.later {p p1 p2 s s2 : Bool} (hp : p = true → p1 = true ∧ p2 = true) (hs : s = true → s2 = true) (post : Post G R E σ H Os p s ρ Q r) (k : KeepE H Os H1 Os1 fun _ => False) (pu : p1 = true → ρ1 = ρ ∧ Os1 = Os ∧ Same H H1) : Post G R E σ H1 Os1 p2 s2 ρ1 Q r := by
  cases r with
  | bad => exact post
  | exc e ρ' => exact fun c d H' Os' rel rx keep => post c d H' Os' rel rx (k.trans keep)
  | ok v ρ' =>
    intro x H' Os' O rel rep nd keep pure
    have hw : ∀ a, Rp R s O a → Rp R s2 O a := fun a z => z.imp id fun z => ⟨hs z.1, z.2⟩
    refine post x H' Os' O (rel.weak hw) (rep.mono (fun a o e nw => ⟨e, fun z => nw (z.imp (hw a) id)⟩) fun _ _ _ e => e) (fun z => nd (hs z)) ((k.trans keep).imp fun a z => ⟨hs z.1, z.2⟩) fun z => ?_
    obtain ⟨h1, h2⟩ := hp z
    obtain ⟨a1, a2, a3⟩ := pu h1
    obtain ⟨b1, b2, b3⟩ := pure h2
    exact ⟨b1.trans a1, b2.trans a2, a3.trans b3⟩
end

/-! ### tests -/
def PostT (G : Gam) (R : Addr → Prop) (E : WX) (σ : L2.St) (H : Hp) (Os : Nat → List Addr) (p : Bool) (ρ : VEnv) (Q : Bool → Hp → Prop) : RE → Prop
  | .ok (.bl b) ρ' => ∀ H' Os', Rel G R H' σ ρ' Os' → KeepE H Os H' Os' (fun _ => False) → (p = true → ρ' = ρ ∧ Os' = Os ∧ Same H H') → Q b H'
  | .ok _ _ => False
  | .exc e ρ' => ∀ c d H' Os', Rel G R H' σ ρ' Os' → RepX G (WW R Os') H' c d e → KeepE H Os H' Os' (fun _ => False) → E c d σ H'
  | .bad => False
def tT (G : Gam) (E : WX) (p : Bool) (m : ME) : TT := fun σ H Q => ∃ R ρ Os, Rel G R H σ ρ Os ∧ PostT G R E σ H Os p ρ Q (m ρ)
def VT (G : Gam) (X : Cx) (E : WX) (p : Bool) (e : Expr) (m : ME) : Prop := PT X e (tT G E p m)
section
variable {G : Gam} {R : Addr → Prop} {E : WX} {σ : L2.St} {H H1 : Hp} {Os Os1 : Nat → List Addr} {ρ ρ1 : VEnv}
theorem PostT.later {p p1 p2 : Bool} {Q : Bool → Hp → Prop} {r : RE} (hp : p = true → p1 = true ∧ p2 = true) (post : PostT G R E σ H Os p ρ Q r) (k : KeepE H Os H1 Os1 fun _ => False) (pu : p1 = true → ρ1 = ρ ∧ Os1 = Os ∧ Same H H1) : PostT G R E σ H1 Os1 p2 ρ1 Q r := by
  cases r with
  | bad => exact post
  | exc e ρ' => exact fun c d H' Os' rel rx keep => post c d H' Os' rel rx (k.trans keep)
  | ok v ρ' =>
    cases v with
    | bl b =>
      intro H' Os' rel keep pure
      refine post H' Os' rel (k.trans keep) fun z => ?_
      obtain ⟨h1, h2⟩ := hp z
      obtain ⟨a1, a2, a3⟩ := pu h1
      obtain ⟨b1, b2, b3⟩ := pure h2
      exact ⟨b1.trans a1, b2.trans a2, a3.trans b3⟩
    | _ => exact post.elim
/-- a test read off a value's reading -/
theorem PostT.post {p s : Bool} {Q : Bool → Hp → Prop} {r : RE} (post : PostT G R E σ H Os p ρ Q r) : Post G R E σ H Os p s ρ (fun x H' => ∃ c, x = .bl c ∧ Q c H') r := by
  cases r with
  | bad => exact post
  | exc e ρ' => exact post
  | ok v ρ' =>
    cases v with
    | bl b =>
      intro x H' Os' O rel rep nd keep pure
      cases rep
      exact ⟨b, rfl, post H' Os' (rel.weak fun a z => .inl z) (keep.imp fun _ z => z.elim) pure⟩
    | _ => exact post.elim
end
section
variable {G : Gam} {X : Cx} {E : WX} {e a b c : Expr} {pos : Pos} {p s p1 s1 p2 s2 p3 s3 : Bool} {m m1 m2 m3 : ME}
theorem vt_val (h : VE G X E p s e m) (he : ∀ whole, isTrue e X.env whole = (do let v ← whole; standAt e.pos; holding [v] (truthy v)) := by intro _; rfl) : VT G X E p e m :=
  PT.pre (pt_val h he) fun σ H Q ⟨R, ρ, Os, rel, post⟩ => ⟨R, ρ, Os, rel, post.post⟩
theorem vt_cmp {op : CmpOp} {r : R2} {sem : List Val → Option Val} (ho : OpR X (compareOp op) r) (ok : OkF G (r2 r) sem) (h1 : VE G X E p1 s1 a m1) (h2 : VE G X E p2 s2 b m2) (hm : behindInMarks op b = false) (wf : (s1 || p2) = true := by rfl) :
    VT G X E (p1 && p2) (.Compare a [op] [b] pos) (mFun sem [m1, m2]) := by
  refine PT.pre (pt_cmpR ho h1 h2 hm) fun σ H Q ⟨R, ρ, Os, rel, post⟩ => ?_
  have := fun_pre (G := G) (E := E) (os := [⟨p1, s1, m1⟩, ⟨p2, s2, m2⟩]) (r := r2 r) (t := tOp r (rd G E p1 s1 m1) (rd G E p2 s2 m2)) (fun σ H Q z => z) ok (wf2 wf) σ H (fun x H' => ∃ c, x = .bl c ∧ Q c H') ⟨R, ρ, Os, rel, ?_⟩
  · exact this
  · have := post.post (s := true)
    simpa using this
def mNot (m : ME) : ME := fun ρ => match m ρ with
  | .ok (.bl b) ρ' => .ok (.bl (!b)) ρ'
  | .ok _ _ => .bad
  | .exc e ρ' => .exc e ρ'
  | .bad => .bad
def mAnd (m1 m2 : ME) : ME := fun ρ => match m1 ρ with
  | .ok (.bl b) ρ' => if b = true then m2 ρ' else .ok (.bl false) ρ'
  | .ok _ _ => .bad
  | .exc e ρ' => .exc e ρ'
  | .bad => .bad
def mOr (m1 m2 : ME) : ME := fun ρ => match m1 ρ with
  | .ok (.bl b) ρ' => if b = true then .ok (.bl true) ρ' else m2 ρ'
  | .ok _ _ => .bad
  | .exc e ρ' => .exc e ρ'
  | .bad => .bad
def mIf (m1 m2 m3 : ME) : ME := fun ρ => match m1 ρ with
  | .ok (.bl b) ρ' => if b = true then m2 ρ' else m3 ρ'
  | .ok _ _ => .bad
  | .exc e ρ' => .exc e ρ'
  | .bad => .bad
theorem vt_not (h : VT G X E p e m) : VT G X E p (.UnaryOp .Not e pos) (mNot m) := by
  refine PT.pre (pt_not h) fun σ H Q ⟨R, ρ, Os, rel, post⟩ => ⟨R, ρ, Os, rel, ?_⟩
  unfold mNot at post
  cases hm : m ρ with
  | bad => rw [hm] at post; exact post
  | exc e ρ' => rw [hm] at post; exact post
  | ok v ρ' =>
    rw [hm] at post
    cases v with
    | bl b => exact post
    | _ => exact post.elim
/-- and, or over tests -/
def VW (G : Gam) (X : Cx) (E : WX) (p : Bool) (e : Expr) (m : ME) : Prop := PW X e (tT G E p m)
theorem vt_of (h : VW G X E p e m) : VT G X E p e m := PW.pt h
theorem PW.pre {X : Cx} {e : Expr} {t t' : TT} (h : PW X e t) (k : ∀ σ H Q, t' σ H Q → t σ H Q) : PW X e t' := ⟨fun wh pins s σ H Q I q => h.run wh pins s σ H Q I (k σ H Q q)⟩
theorem vw_and1 (h : VT G X E p a m) : VW G X E p (.BoolOp .And [a] pos) m := pw_and1 h
theorem vw_or1 (h : VT G X E p a m) : VW G X E p (.BoolOp .Or [a] pos) m := pw_or1 h
theorem vw_and {rest : List Expr} (h1 : VT G X E p1 a m1) (h2 : VW G X E p2 (.BoolOp .And (b :: rest) pos) m2) : VW G X E (p1 && p2) (.BoolOp .And (a :: b :: rest) pos) (mAnd m1 m2) := by
  refine PW.pre (pw_and h1 h2) fun σ H Q ⟨R, ρ, Os, rel, post⟩ => ⟨R, ρ, Os, rel, ?_⟩
  unfold mAnd at post
  cases hm : m1 ρ with
  | bad => rw [hm] at post; exact post
  | exc e ρ' => rw [hm] at post; exact post
  | ok v ρ' =>
    rw [hm] at post
    cases v with
    | bl b =>
      intro H' Os' rel' keep pure
      cases b with
      | true => exact ⟨R, ρ', Os', rel', PostT.later (p1 := p1) (by simp) post keep pure⟩
      | false => exact post H' Os' rel' keep fun z => pure (by simp at z; exact z.1)
    | _ => exact post.elim
theorem vw_or {rest : List Expr} (h1 : VT G X E p1 a m1) (h2 : VW G X E p2 (.BoolOp .Or (b :: rest) pos) m2) : VW G X E (p1 && p2) (.BoolOp .Or (a :: b :: rest) pos) (mOr m1 m2) := by
  refine PW.pre (pw_or h1 h2) fun σ H Q ⟨R, ρ, Os, rel, post⟩ => ⟨R, ρ, Os, rel, ?_⟩
  unfold mOr at post
  cases hm : m1 ρ with
  | bad => rw [hm] at post; exact post
  | exc e ρ' => rw [hm] at post; exact post
  | ok v ρ' =>
    rw [hm] at post
    cases v with
    | bl b =>
      intro H' Os' rel' keep pure
      cases b with
      | false => exact ⟨R, ρ', Os', rel', PostT.later (p1 := p1) (by simp) post keep pure⟩
      | true => exact post H' Os' rel' keep fun z => pure (by simp at z; exact z.1)
    | _ => exact post.elim
/-! ### .. as values -/
theorem ve_one {op} (h : VE G X E p s a m) : VE G X E p s (.BoolOp op [a] pos) m := pe_one h
theorem ve_and {rest : List Expr} (h1 : VE G X E p1 s1 a m1) (h2 : VE G X E p2 s2 (.BoolOp .And (b :: rest) pos) m2) : VE G X E (p1 && p2) s2 (.BoolOp .And (a :: b :: rest) pos) (mAnd m1 m2) := by
  refine PE.pre (pe_and h1 h2) fun σ H Q ⟨R, ρ, Os, rel, post⟩ => ⟨R, ρ, Os, rel, ?_⟩
  unfold mAnd at post
  cases hm : m1 ρ with
  | bad => rw [hm] at post; exact post
  | exc e ρ' => rw [hm] at post; exact post
  | ok v ρ' =>
    rw [hm] at post
    cases v with
    | bl b =>
      intro x H' Os' O rel' rep nd keep pure
      cases rep
      refine ⟨b, rfl, ?_⟩
      have hr : Rel G R H' σ ρ' Os' := rel'.weak fun a z => .inl z
      cases b with
      | true =>
        rw [if_pos rfl]
        exact ⟨R, ρ', Os', hr, Post.later (p1 := p1) (by simp) id post (keep.imp fun _ z => z.elim) pure⟩
      | false =>
        rw [if_neg Bool.false_ne_true]
        exact post (.bl false) H' Os' [] (hr.weak fun a z => z.elim id fun z => nomatch z.2) (.bl false) (fun _ => List.nodup_nil) (keep.imp fun a z => nomatch z.2) fun z => pure (by simp at z; exact z.1)
    | _ => exact post.elim
theorem ve_or {rest : List Expr} (h1 : VE G X E p1 s1 a m1) (h2 : VE G X E p2 s2 (.BoolOp .Or (b :: rest) pos) m2) : VE G X E (p1 && p2) s2 (.BoolOp .Or (a :: b :: rest) pos) (mOr m1 m2) := by
  refine PE.pre (pe_or h1 h2) fun σ H Q ⟨R, ρ, Os, rel, post⟩ => ⟨R, ρ, Os, rel, ?_⟩
  unfold mOr at post
  cases hm : m1 ρ with
  | bad => rw [hm] at post; exact post
  | exc e ρ' => rw [hm] at post; exact post
  | ok v ρ' =>
    rw [hm] at post
    cases v with
    | bl b =>
      intro x H' Os' O rel' rep nd keep pure
      cases rep
      refine ⟨b, rfl, ?_⟩
      have hr : Rel G R H' σ ρ' Os' := rel'.weak fun a z => .inl z
      cases b with
      | false =>
        rw [if_neg Bool.false_ne_true]
        exact ⟨R, ρ', Os', hr, Post.later (p1 := p1) (by simp) id post (keep.imp fun _ z => z.elim) pure⟩
      | true =>
        rw [if_pos rfl]
        exact post (.bl true) H' Os' [] (hr.weak fun a z => z.elim id fun z => nomatch z.2) (.bl true) (fun _ => List.nodup_nil) (keep.imp fun a z => nomatch z.2) fun z => pure (by simp at z; exact z.1)
    | _ => exact post.elim
theorem ve_not (h : VE G X E p s e m) : VE G X E p true (.UnaryOp .Not e pos) (mNot m) := by
  refine PE.pre (pe_not h) fun σ H Q ⟨R, ρ, Os, rel, post⟩ => ⟨R, ρ, Os, rel, ?_⟩
  unfold mNot at post
  cases hm : m ρ with
  | bad => rw [hm] at post; exact post
  | exc e ρ' => rw [hm] at post; exact post
  | ok v ρ' =>
    rw [hm] at post
    cases v with
    | bl b =>
      intro x H' Os' O rel' rep nd keep pure
      cases rep
      exact ⟨b, rfl, post (.bl (!b)) H' Os' [] (rel'.weak fun a z => .inl (z.elim id fun z => nomatch z.2)) (.bl _) (fun _ => List.nodup_nil) (keep.imp fun a z => nomatch z.2) pure⟩
    | _ => exact post.elim
theorem ve_if (hc : VT G X E p1 c m1) (ha : VE G X E p2 s2 a m2) (hb : VE G X E p3 s3 b m3) : VE G X E (p1 && (p2 && p3)) (s2 && s3) (.IfExp c a b pos) (mIf m1 m2 m3) := by
  refine PE.pre (pe_ifExp hc ha hb) fun σ H Q ⟨R, ρ, Os, rel, post⟩ => ⟨R, ρ, Os, rel, ?_⟩
  unfold mIf at post
  cases hm : m1 ρ with
  | bad => rw [hm] at post; exact post
  | exc e ρ' => rw [hm] at post; exact post
  | ok v ρ' =>
    rw [hm] at post
    cases v with
    | bl b =>
      intro H' Os' rel' keep pure
      cases b with
      | true =>
        rw [if_pos rfl]
        exact ⟨R, ρ', Os', rel', Post.later (p1 := p1) (by simp; intros; simp [*]) (by simp; intros; simp [*]) post keep pure⟩
      | false =>
        rw [if_neg Bool.false_ne_true]
        exact ⟨R, ρ', Os', rel', Post.later (p1 := p1) (by simp; intros; simp [*]) (by simp) post keep pure⟩
    | _ => exact post.elim

/-! ### a < b < c of whole numbers -/
def mChain (f g : Int → Int → Bool) (m1 m2 m3 : ME) : ME := fun ρ => match evalM [m1, m2] ρ with
  | .ok [.int i, .int j] ρ1 => if f i j = true then (match m3 ρ1 with
    | .ok (.int k) ρ2 => .ok (.bl (g j k)) ρ2
    | .ok _ _ => .bad
    | .exc e ρ2 => .exc e ρ2
    | .bad => .bad) else .ok (.bl false) ρ1
  | .ok _ _ => .bad
  | .exc e ρ1 => .exc e ρ1
  | .bad => .bad
theorem chain_pre {f g : Int → Int → Bool} (wf : (s1 || p2) = true) (σ : L2.St) (H : Hp) (Q : VK) (h : rd G E (p1 && (p2 && p3)) true (mChain f g m1 m2 m3) σ H Q) :
    tChain (rI0 fun i j => .bl (f i j)) (rI0 fun i j => .bl (g i j)) (rd G E p1 s1 m1) (rd G E p2 s2 m2) (rd G E p3 s3 m3) σ H Q := by
  obtain ⟨R, ρ, Os, rel, post⟩ := h
  have key := nest_of (G := G) (E := E) (σ := σ) (os := [⟨p1, s1, m1⟩, ⟨p2, s2, m2⟩]) (wf2 wf) rel (K := fun xs H2 => match xs with
    | [x, y] => ∃ i j, x = .int i ∧ y = .int j ∧ ∃ k, V.bl (f i j) = .bl k ∧ (if k = true then rd G E p3 s3 m3 σ H2 fun w' H4 => ∃ j' k, y = .int j' ∧ w' = .int k ∧ Q (.bl (g j' k)) H4 else Q (.bl false) H2)
    | _ => False) ?_
  · exact key
  · rw [evalA_eq]
    unfold mChain at post
    simp only [List.map_cons, List.map_nil]
    cases he : evalM [m1, m2] ρ with
    | bad => rw [he] at post; exact post
    | exc e ρ' => rw [he] at post; exact post
    | ok vs ρ1 =>
      rw [he] at post
      intro xs H1 Os1 Ol rel1 reps nd keep pure
      match vs, reps, post with
      | [.int i, .int j], reps, post =>
        obtain ⟨x, y, O, O', rfl, r1, r2⟩ := reps.inv2
        cases r1; cases r2
        have keep' : KeepE H Os H1 Os1 fun _ => False := keep.imp fun _ z => z.elim
        refine ⟨i, j, rfl, rfl, f i j, rfl, ?_⟩
        cases hf : f i j with
        | false =>
          rw [if_neg Bool.false_ne_true]
          simp only [hf, Bool.false_eq_true, if_false] at post
          exact post (.bl false) H1 Os1 [] (rel1.weak fun a z => .inl (z.elim id fun z => nomatch z.2)) (.bl false) (fun _ => List.nodup_nil) (keep'.imp fun a z => nomatch z.2) fun z => pure (by simp at z ⊢; exact ⟨z.1, z.2.1⟩)
        | true =>
          rw [if_pos rfl]
          simp only [hf, if_true] at post
          refine ⟨R, ρ1, Os1, rel1.weak fun a z => .inl z, ?_⟩
          have pure' : (p1 && p2) = true → ρ1 = ρ ∧ Os1 = Os ∧ Same H H1 := fun z => pure (by simpa using z)
          cases hm : m3 ρ1 with
          | bad => rw [hm] at post; exact post
          | exc e ρ' => rw [hm] at post; exact fun c d H' Os' rel' rx k => post c d H' Os' rel' rx (keep'.trans k)
          | ok v ρ2 =>
            rw [hm] at post
            cases v with
            | int k =>
              intro x H' Os' O rel' rep nd' k' pu'
              cases rep
              refine ⟨j, k, rfl, rfl, ?_⟩
              refine post (.bl (g j k)) H' Os' [] (rel'.weak fun a z => .inl (z.elim id fun z => nomatch z.2)) (.bl _) (fun _ => List.nodup_nil) ((keep'.trans k').imp fun a z => nomatch z.2) fun z => ?_
              simp only [Bool.and_eq_true] at z
              obtain ⟨a1, a2, a3⟩ := pure' (by simp [z.1, z.2.1])
              obtain ⟨b1, b2, b3⟩ := pu' z.2.2
              exact ⟨b1.trans a1, b2.trans a2, a3.trans b3⟩
            | _ => exact post.elim
theorem ve_chain {op op' : CmpOp} {f g : Int → Int → Bool} (ho : OpR X (compareOp op) (rI0 fun i j => .bl (f i j))) (ho' : OpR X (compareOp op') (rI0 fun i j => .bl (g i j))) (h1 : VE G X E p1 s1 a m1) (h2 : VE G X E p2 s2 b m2) (h3 : VE G X E p3 s3 c m3) (wf : (s1 || p2) = true := by rfl)
    (hm : lastMarks [op, op'] [b, c] = false := by with_unfolding_all rfl) : VE G X E (p1 && (p2 && p3)) true (.Compare a [op, op'] [b, c] pos) (mChain f g m1 m2 m3) :=
  PE.pre (pe_chain ho ho' h1 h2 h3 hm) (chain_pre wf)
theorem vt_chain {op op' : CmpOp} {f g : Int → Int → Bool} (ho : OpR X (compareOp op) (rI0 fun i j => .bl (f i j))) (ho' : OpR X (compareOp op') (rI0 fun i j => .bl (g i j))) (h1 : VE G X E p1 s1 a m1) (h2 : VE G X E p2 s2 b m2) (h3 : VE G X E p3 s3 c m3) (wf : (s1 || p2) = true := by rfl)
    (hm : lastMarks [op, op'] [b, c] = false := by with_unfolding_all rfl) : VT G X E (p1 && (p2 && p3)) (.Compare a [op, op'] [b, c] pos) (mChain f g m1 m2 m3) :=
  PT.pre (pt_chain ho ho' h1 h2 h3 hm) fun σ H Q ⟨R, ρ, Os, rel, post⟩ => chain_pre wf σ H _ ⟨R, ρ, Os, rel, post.post⟩
end
end VL
/-! VL, part G: displays, slices, len, int, str, repr, max, min, isinstance. -/
namespace VL
open PySem L2

/-! ### displays -/
def mTup (ms : List ME) : ME := fun ρ => match evalM ms ρ with
  | .ok vs ρ' => .ok (.tup vs) ρ'
  | .exc e ρ' => .exc e ρ'
  | .bad => .bad
def mLst (ms : List ME) : ME := fun ρ => match evalM ms ρ with
  | .ok vs ρ' => .ok (.lst true vs) ρ'
  | .exc e ρ' => .exc e ρ'
  | .bad => .bad
section
variable {G : Gam} {X : Cx} {E : WX} {es : List Expr} {os : List Op} {pos : Pos}
theorem RepL.reps {W : Addr → Prop} {H : Hp} {xs : List V} {vs : List Val} {Ol : List (List Addr)} (r : RepL G W H xs vs Ol) : Reps G W H xs vs Ol.flatten := by
  induction r with
  | nil => exact .nil
  | cons r t ih => rw [List.flatten_cons]; exact .cons r ih
theorem stab_all : ∀ {os : List Op} {Ol : List (List Addr)}, os.all (·.s) = true → os.length = Ol.length → stab os Ol = Ol.flatten
  | [], [], _, _ => rfl
  | [], _ :: _, _, h => by simp at h
  | _ :: _, [], _, h => by simp at h
  | o :: os, O :: Ol, h, hl => by
    simp only [List.all_cons, Bool.and_eq_true] at h
    unfold stab
    rw [if_pos h.1, List.flatten_cons, stab_all h.2 (by simpa using hl)]
theorem RepL.len {W : Addr → Prop} {H : Hp} {xs : List V} {vs : List Val} {Ol : List (List Addr)} (r : RepL G W H xs vs Ol) : xs.length = vs.length ∧ vs.length = Ol.length := by
  induction r with
  | nil => exact ⟨rfl, rfl⟩
  | cons r t ih => exact ⟨by simp [ih.1], by simp [ih.2]⟩
theorem evalM_len : ∀ {ms : List ME} {ρ ρ' : VEnv} {vs : List Val}, evalM ms ρ = .ok vs ρ' → vs.length = ms.length
  | [], ρ, ρ', vs, h => by cases h; rfl
  | m :: ms, ρ, ρ', vs, h => by
    unfold evalM at h
    cases hm : m ρ with
    | bad => rw [hm] at h; cases h
    | exc e ρ1 => rw [hm] at h; cases h
    | ok v ρ1 =>
      rw [hm] at h
      dsimp only at h
      cases he : evalM ms ρ1 with
      | bad => rw [he] at h; cases h
      | exc e ρ2 => rw [he] at h; cases h
      | ok us ρ2 =>
        rw [he] at h
        cases h
        simp [evalM_len he]
theorem wf_all {os : List Op} (h : os.all (·.s) = true) : wfA os = true := by
  induction os with
  | nil => rfl
  | cons o os ih =>
    simp only [List.all_cons, Bool.and_eq_true] at h
    simp [wfA, h.1, ih h.2]
theorem ve_tup {k : Nat} (h : VAs G X E es os) (hs : os.all (·.s) = true := by rfl) (hl : os.length ≤ 1000 := by decide) : VE G X E (os.all (·.p)) true (.Tuple es k pos) (mTup (os.map Op.m)) := by
  refine PE.pre (pe_tup h) fun σ H Q ⟨R, ρ, Os, rel, post⟩ => ?_
  refine nest_of (wf_all hs) rel ?_
  rw [evalA_eq]
  unfold mTup at post
  cases he : evalM (os.map Op.m) ρ with
  | bad => rw [he] at post; exact post
  | exc e ρ' => rw [he] at post; exact post
  | ok vs ρ' =>
    rw [he] at post
    intro xs H' Os' Ol rel' reps nd keep pure
    have hlen := reps.len
    have hv := evalM_len he
    rw [List.length_map] at hv
    refine ⟨sz_le (by omega), fun q hq => ?_⟩
    have es := stab_all hs (hv.symm.trans hlen.2)
    have hR : ∀ a, Rp R true Ol.flatten a ↔ (R a ∨ a ∈ stab os Ol) := fun a => by
      rw [es]; exact ⟨fun z => z.imp id fun z => z.2, fun z => z.imp id fun z => ⟨rfl, z⟩⟩
    have ef : Rp R true Ol.flatten = fun a => R a ∨ a ∈ stab os Ol := funext fun a => propext (hR a)
    have nq : ¬ WW (fun a => R a ∨ a ∈ stab os Ol) Os' q := fresh_nw (fun p hp => rel'.ww hp) q hq
    refine post (.ref q) _ Os' Ol.flatten ?_ ?_ (fun _ => es ▸ nd) ?_ fun z => ?_
    · rw [ef]
      exact rel'.grow (same_upd hq) (fun a z => .inl z) fun a z => let ⟨o, e⟩ := rel'.rt a z; ⟨o, same_upd hq a o e⟩
    · rw [ef]
      exact .tup ⟨upd_same, nq⟩ (reps.reps.upd hq fun z hz => .inl hz)
    · exact (keep.grow (same_upd hq) fun a z => .inl (by rw [es]; exact z.2))
    · obtain ⟨h1, h2, h3⟩ := pure z
      exact ⟨h1, h2, h3.trans (same_upd hq)⟩
theorem ve_lst (h : VAs G X E es os) (hs : os.all (·.s) = true := by rfl) (hl : os.length ≤ 1000 := by decide) : VE G X E (os.all (·.p)) true (.List es pos) (mLst (os.map Op.m)) := by
  refine PE.pre (pe_lst h) fun σ H Q ⟨R, ρ, Os, rel, post⟩ => ?_
  refine nest_of (wf_all hs) rel ?_
  rw [evalA_eq]
  unfold mLst at post
  cases he : evalM (os.map Op.m) ρ with
  | bad => rw [he] at post; exact post
  | exc e ρ' => rw [he] at post; exact post
  | ok vs ρ' =>
    rw [he] at post
    intro xs H' Os' Ol rel' reps nd keep pure
    have hlen := reps.len
    have hv := evalM_len he
    rw [List.length_map] at hv
    refine ⟨sz_le (by omega), fun q hq => ?_⟩
    have es := stab_all hs (hv.symm.trans hlen.2)
    rw [es] at rel' nd keep
    rw [es] at reps
    have hR : ∀ a, Rp R true (q :: Ol.flatten) a → (R a ∨ a ∈ Ol.flatten) ∨ H' a = none := fun a z => by
      rcases z with z | ⟨_, z⟩
      · exact .inl (.inl z)
      · rcases List.mem_cons.mp z with z | z
        · exact .inr (z ▸ hq)
        · exact .inl (.inr z)
    refine post (.ref q) _ Os' (q :: Ol.flatten) (rel'.grow (same_upd hq) hR fun a z => ?_) (.lstO upd_same (reps.reps.upd hq fun z hz => ?_)) (fun _ => ?_) (keep.grow (same_upd hq) fun a z => ?_) fun z => ?_
    · rcases z with z | ⟨_, z⟩
      · obtain ⟨o, e⟩ := rel'.rt a (.inl z)
        exact ⟨o, same_upd hq a o e⟩
      · rcases List.mem_cons.mp z with z | z
        · subst z; exact ⟨_, upd_same⟩
        · obtain ⟨o, e⟩ := rel'.rt a (.inr z)
          exact ⟨o, same_upd hq a o e⟩
    · exact hz.elim (fun z => (hR _ z).imp .inl id) fun z => .inl (.inr z)
    · refine List.nodup_cons.mpr ⟨fun hm => ?_, nd⟩
      obtain ⟨o, e⟩ := reps.reps.there q hm
      rw [hq] at e; cases e
    · rcases List.mem_cons.mp z.2 with z | z
      · exact .inr (z ▸ hq)
      · exact .inl z
    · obtain ⟨h1, h2, h3⟩ := pure z
      exact ⟨h1, h2, h3.trans (same_upd hq)⟩
end

/-! ### slices -/
def cutL {α : Type} (xs : List α) (lo hi : Option Int) : List α := (xs.drop (HT.sIx xs.length 0 lo)).take (HT.sIx xs.length xs.length hi - HT.sIx xs.length 0 lo)
def semSl (lo hi : Option Int) : Val → Option Val
  | .lst _ xs => if fzs xs = true then some (.lst true (cutL xs lo hi)) else none
  | .tup xs => if fzs xs = true then some (.tup (cutL xs lo hi)) else none
  | .str z => if z.length ≤ 16777216 then some (.str (cutS z lo hi)) else none
  | _ => none
def rSlV (K : PySem.W.Frag) : V → Option Int → Option Int → Hp → VK → Prop := fun x lo hi H Q => rSlL K x lo hi H Q ∨ (rSlA K x lo hi H Q ∨ rSlS x lo hi H Q)
section
variable {G : Gam} {X : Cx}
theorem sl_any (hK : X.K = G.K) : SlR X (rSlV G.K) := by
  rw [← hK]
  exact sl_list.or (sl_tupA.or sl_str)
theorem Reps.inv0 {W : Addr → Prop} {H : Hp} {ys : List V} {v : Val} {vs : List Val} (r : Reps G W H ys (v :: vs) []) : ∃ x xs, ys = x :: xs ∧ Rep G W H x v [] ∧ Reps G W H xs vs [] := by
  generalize hO : ([] : List Addr) = O at r
  cases r with
  | @cons x _ xs' _ O1 O2 r t =>
    have := hO.symm
    simp at this
    obtain ⟨e1, e2⟩ := this
    subst e1 e2
    exact ⟨x, xs', rfl, r, t⟩
theorem Reps.drop {W : Addr → Prop} {H : Hp} : ∀ (n : Nat) {xs : List V} {vs : List Val}, Reps G W H xs vs [] → Reps G W H (xs.drop n) (vs.drop n) []
  | 0, _, _, r => r
  | n + 1, _, [], r => by cases r; exact .nil
  | n + 1, _, v :: vs, r => by
    obtain ⟨x, xs, rfl, _, t⟩ := r.inv0
    exact Reps.drop n t
theorem Reps.take {W : Addr → Prop} {H : Hp} : ∀ (n : Nat) {xs : List V} {vs : List Val}, Reps G W H xs vs [] → Reps G W H (xs.take n) (vs.take n) []
  | 0, _, _, r => .nil
  | n + 1, _, [], r => by cases r; exact .nil
  | n + 1, _, v :: vs, r => by
    obtain ⟨x, xs, rfl, q, t⟩ := r.inv0
    exact .cons (O := []) (O' := []) q (Reps.take n t)
theorem Reps.cut {W : Addr → Prop} {H : Hp} {xs : List V} {vs : List Val} (r : Reps G W H xs vs []) (lo hi : Option Int) : Reps G W H (cutV xs lo hi) (cutL vs lo hi) [] := by
  unfold cutV cutL
  rw [r.length]
  exact Reps.take _ (Reps.drop _ r)
theorem cut_whole {α : Type} {xs : List α} {lo hi : Option Int} (h : HT.sIx xs.length 0 lo = 0 ∧ HT.sIx xs.length xs.length hi = xs.length) : cutL xs lo hi = xs := by
  unfold cutL
  rw [h.1, h.2]
  simp
theorem ok_sl {W : Addr → Prop} {H : Hp} {x : V} {v u : Val} {O : List Addr} {lo hi : Option Int} {Q : VK} (w : ∀ p, W p → ∃ o, H p = some o) (r : Rep G W H x v O) (hs : semSl lo hi v = some u) (m : Made G W H u Q) : rSlV G.K x lo hi H Q := by
  unfold semSl at hs
  split at hs
  · split at hs
    · rename_i hf
      cases hs
      obtain ⟨a, ys, O1, rfl, e1, q1⟩ := rep_lstL r
      exact .inl ⟨a, ys, rfl, .inl (.inl e1), m.lst ((q1.fz hf).cut lo hi)⟩
    · cases hs
  · split at hs
    · rename_i hf
      cases hs
      obtain ⟨a, ys, rfl, e1, q1⟩ := rep_tupT r
      refine .inr (.inl ⟨a, ys, rfl, e1, fun z => ?_, fun z => m.tup ((q1.fz hf).cut lo hi) (fresh_nw w)⟩)
      rw [q1.length] at z
      rw [cut_whole z] at m
      exact m.same (r.fz' (by simpa [Val.fz] using hf))
    · cases hs
  · split at hs
    · rename_i hz
      cases hs
      cases r
      exact .inr (.inr ⟨_, rfl, sz_le hz, m.same (.str _)⟩)
    · cases hs
  · cases hs
def semSlL : List Val → Option Val
  | [v, .int i] => semSl (some i) none v
  | _ => none
def semSlU : List Val → Option Val
  | [v, .int i] => semSl none (some i) v
  | _ => none
def semSlB : List Val → Option Val
  | [v, .int i, .int j] => semSl (some i) (some j) v
  | _ => none
theorem RepL.inv3 {W : Addr → Prop} {H : Hp} {xs : List V} {a b c : Val} {Ol : List (List Addr)} (r : RepL G W H xs [a, b, c] Ol) : ∃ x y z O O' O'', xs = [x, y, z] ∧ Rep G W H x a O ∧ Rep G W H y b O' ∧ Rep G W H z c O'' := by
  cases r with
  | cons r t =>
    cases t with
    | cons r' t =>
      cases t with
      | cons r'' t =>
        cases t
        exact ⟨_, _, _, _, _, _, rfl, r, r', r''⟩
theorem wf3 {p1 s1 p2 s2 p3 s3 : Bool} {m1 m2 m3 : ME} (h : ((s1 || (p2 && p3)) && (s2 || p3)) = true) : wfA [⟨p1, s1, m1⟩, ⟨p2, s2, m2⟩, ⟨p3, s3, m3⟩] = true := by
  cases s1 <;> cases p2 <;> cases s2 <;> cases p3 <;> cases s3 <;> first | rfl | cases h
variable {E : WX} {e a b : Expr} {pos p2' : Pos} {p s p1 s1 p2 s2 : Bool} {m m1 m2 : ME}
theorem ve_slL (hK : X.K = G.K) (h : VE G X E p s e m) (h1 : VE G X E p1 s1 a m1) (wf : (s || p1) = true := by rfl) : VE G X E (p && p1) true (.Subscript e (.Slice (some a) none none p2') pos) (mFun semSlL [m, m1]) := by
  have := ve_fun (G := G) (E := E) (os := [⟨p, s, m⟩, ⟨p1, s1, m1⟩]) (pe_slice (pos := pos) (p2 := p2') (sl_any hK) h (po_some h1) po_none) (r := fun xs H Q => match xs with
    | [x, y] => ∃ i, y = .int i ∧ rSlV G.K x (some i) none H Q
    | _ => False) (fun σ H Q z => z) (sem := semSlL) (fun W H xs vs Ol v Q w r hs mk => by
      unfold semSlL at hs
      split at hs
      · obtain ⟨x, y, O, O', rfl, r1, r2⟩ := r.inv2
        cases r2
        exact ⟨_, rfl, ok_sl w r1 hs mk⟩
      · cases hs) (wf2 wf)
  simpa using this
theorem ve_slU (hK : X.K = G.K) (h : VE G X E p s e m) (h1 : VE G X E p1 s1 a m1) (wf : (s || p1) = true := by rfl) : VE G X E (p && p1) true (.Subscript e (.Slice none (some a) none p2') pos) (mFun semSlU [m, m1]) := by
  have := ve_fun (G := G) (E := E) (os := [⟨p, s, m⟩, ⟨p1, s1, m1⟩]) (pe_slice (pos := pos) (p2 := p2') (sl_any hK) h po_none (po_some h1)) (r := fun xs H Q => match xs with
    | [x, y] => ∃ i, y = .int i ∧ rSlV G.K x none (some i) H Q
    | _ => False) (fun σ H Q z => z) (sem := semSlU) (fun W H xs vs Ol v Q w r hs mk => by
      unfold semSlU at hs
      split at hs
      · obtain ⟨x, y, O, O', rfl, r1, r2⟩ := r.inv2
        cases r2
        exact ⟨_, rfl, ok_sl w r1 hs mk⟩
      · cases hs) (wf2 wf)
  simpa using this
def mInt (m : ME) : ME := fun ρ => match m ρ with
  | .ok (.int i) ρ' => .ok (.int i) ρ'
  | .ok _ _ => .bad
  | .exc e ρ' => .exc e ρ'
  | .bad => .bad
theorem rd_int {p s : Bool} {m : ME} {σ : L2.St} {H : Hp} {P : V → Hp → Prop} (h : rd G E p s (mInt m) σ H P) : rd G E p s m σ H fun y H2 => ∃ i, y = .int i ∧ P (.int i) H2 := by
  obtain ⟨R, ρ, Os, rel, post⟩ := h
  refine ⟨R, ρ, Os, rel, ?_⟩
  unfold mInt at post
  cases hm : m ρ with
  | bad => rw [hm] at post; exact post
  | exc e ρ' => rw [hm] at post; exact post
  | ok v ρ' =>
    rw [hm] at post
    cases v with
    | int i =>
      intro x H' Os' O rel' rep nd keep pure
      have e : x = .int i := by cases rep; rfl
      subst e
      exact ⟨i, rfl, post _ H' Os' O rel' rep nd keep pure⟩
    | _ => exact post.elim
theorem rd_mono {p s : Bool} {m : ME} {σ : L2.St} {H : Hp} {P P' : V → Hp → Prop} (h : rd G E p s m σ H P) (k : ∀ x H', P x H' → P' x H') : rd G E p s m σ H P' := by
  obtain ⟨R, ρ, Os, rel, post⟩ := h
  refine ⟨R, ρ, Os, rel, ?_⟩
  cases hm : m ρ with
  | bad => rw [hm] at post; exact post
  | exc e ρ' => rw [hm] at post; exact post
  | ok v ρ' =>
    rw [hm] at post
    exact fun x H' Os' O rel' rep nd keep pure => k _ _ (post _ H' Os' O rel' rep nd keep pure)
theorem ve_slB (hK : X.K = G.K) (h : VE G X E p s e m) (h1 : VE G X E p1 s1 a m1) (h2 : VE G X E p2 s2 b m2) (wf : ((s || (p1 && p2)) && (s1 || p2)) = true := by rfl) : VE G X E (p && (p1 && p2)) true (.Subscript e (.Slice (some a) (some b) none p2') pos) (mFun semSlB [m, mInt m1, m2]) := by
  have := ve_fun (G := G) (E := E) (os := [⟨p, s, m⟩, ⟨p1, s1, mInt m1⟩, ⟨p2, s2, m2⟩]) (pe_slice (pos := pos) (p2 := p2') (sl_any hK) h (po_some h1) (po_some h2)) (r := fun xs H Q => match xs with
    | [x, .int i, z] => ∃ j, z = .int j ∧ rSlV G.K x (some i) (some j) H Q
    | _ => False) (fun σ H Q z => ?_) (sem := semSlB) (fun W H xs vs Ol v Q w r hs mk => by
      unfold semSlB at hs
      split at hs
      · obtain ⟨x, y, z, O, O', O'', rfl, r1, r2, r3⟩ := r.inv3
        cases r2; cases r3
        exact ⟨_, rfl, ok_sl w r1 hs mk⟩
      · cases hs) (wf3 wf)
  · simpa using this
  · exact rd_mono z fun x H1 z1 => rd_int z1
end
end VL
/-! VL, part H: len, int, str, repr, max, min, isinstance, list, tuple; f-strings. -/
namespace VL
open PySem L2

theorem CallR.or {X : Cx} {f : Value} {r r' : List V → Hp → VK → Prop} (h : CallR X f r) (h' : CallR X f r') : CallR X f (fun xs H Q => r xs H Q ∨ r' xs H Q) := by
  intro pins s σ H xs us Q I rv q
  rcases q with q | q
  · exact h pins s σ H xs us Q I rv q
  · exact h' pins s σ H xs us Q I rv q

def semLen : List Val → Option Val
  | [.str z] => if z.length ≤ 16777216 then some (.int z.length) else none
  | [.lst _ xs] => some (.int xs.length)
  | [.tup xs] => some (.int xs.length)
  | [.wtp xs] => some (.int xs.length)
  | [.scr ns] => some (.int ns.length)
  | [.dct _ .k ks _] => some (.int ks.length)
  | _ => none
def semInt : List Val → Option Val
  | [.int i] => some (.int i)
  | [.bl b] => some (.int (if b then 1 else 0))
  | _ => none
def semStr : List Val → Option Val
  | [.int i] => if i.natAbs.log2 < 1920 then some (.str (toString i)) else none
  | _ => none
def semMax2 : List Val → Option Val
  | [.int i, .int j] => some (.int (if j > i then j else i))
  | _ => none
def semMin2 : List Val → Option Val
  | [.int i, .int j] => some (.int (if j < i then j else i))
  | _ => none
def semRepr : List Val → Option Val
  | [v] => match toD v with
    | some d => if d.showable = true ∧ d.depth ≤ 64 ∧ d.shown.length ≤ 16777216 then some (.str d.shown) else none
    | none => none
  | _ => none
def semList : List Val → Option Val
  | [.lst _ xs] => if fzs xs = true then some (.lst true xs) else none
  | [.tup xs] => if fzs xs = true then some (.lst true xs) else none
  | [.wtp xs] => some (.lst true xs)
  | _ => none
def semTuple : List Val → Option Val
  | [.lst _ xs] => if fzs xs = true then some (.tup xs) else none
  | [.tup xs] => if fzs xs = true then some (.tup xs) else none
  | _ => none

section
variable {G : Gam} {X : Cx}
theorem rep_scr {W : Addr → Prop} {H : Hp} {x : V} {ns : List Int} {O : List Addr} (r : Rep G W H x (.scr ns) O) : ∃ a, x = .ref a ∧ SqL G.K H a (ns.map V.int) := by
  cases r with
  | scr h => exact ⟨_, rfl, h.elim (fun ⟨o, e, _⟩ => Or.inl (Or.inr ⟨o, e⟩)) (fun z => z.elim (fun q => by rcases q with q | ⟨o, q⟩ <;> cases q) .inr)⟩
theorem rep_wtp {W : Addr → Prop} {H : Hp} {x : V} {vs : List Val} {O : List Addr} (r : Rep G W H x (.wtp vs) O) : ∃ a xs, x = .ref a ∧ SqT G.K H a xs ∧ Reps G W H xs vs [] := by
  cases r with
  | wtp h r => exact ⟨_, _, rfl, h.elim (fun q => by rcases q with q | ⟨o, q⟩ <;> cases q) .inr, r⟩
def rLenV (K : PySem.W.Frag) : List V → Hp → VK → Prop := fun xs H Q => (∃ x n, xs = [x] ∧ LenV K x H n ∧ Q (.int n) H) ∨ (∃ (d : Addr) (kvs : List (Key × V)), xs = [.ref d] ∧ Rd H d (.dK kvs) ∧ Q (.int kvs.length) H)
theorem call_lenV (hK : X.K = G.K) : CallR X (.builtin "len") (rLenV G.K) := by
  rw [← hK]
  refine CallR.or call_len ?_
  intro pins s σ H xs us Q I r h
  obtain ⟨d, kvs, e, hd, q⟩ := h
  subst e
  obtain ⟨u1, rfl, r1⟩ := vals1 r
  cases (show u1 = Value.ref d from r1)
  exact d_len I hd fun t s' I' => ⟨.int kvs.length, H, I', ⟨t, rfl⟩, q⟩
theorem ok_len : OkF G (rLenV G.K) semLen := by
  intro W H xs vs Ol v Q w r hs m
  unfold semLen at hs
  split at hs
  · obtain ⟨x, O, rfl, r1⟩ := r.inv1
    split at hs
    · rename_i hz
      cases hs; cases r1
      exact .inl ⟨_, _, rfl, ⟨sz_le hz, rfl⟩, m.same (.int _)⟩
    · cases hs
  · obtain ⟨x, O, rfl, r1⟩ := r.inv1
    cases hs
    obtain ⟨a, ys, O1, rfl, e1, q1⟩ := rep_lstL r1
    exact .inl ⟨_, _, rfl, .inl ⟨ys, .inl (.inl e1), q1.length.symm⟩, m.same (.int _)⟩
  · obtain ⟨x, O, rfl, r1⟩ := r.inv1
    cases hs
    obtain ⟨a, ys, rfl, e1, q1⟩ := rep_tupT r1
    exact .inl ⟨_, _, rfl, .inr ⟨ys, e1, q1.length.symm⟩, m.same (.int _)⟩
  · obtain ⟨x, O, rfl, r1⟩ := r.inv1
    cases hs
    obtain ⟨a, ys, rfl, e1, q1⟩ := rep_wtp r1
    exact .inl ⟨_, _, rfl, .inr ⟨ys, e1, q1.length.symm⟩, m.same (.int _)⟩
  · obtain ⟨x, O, rfl, r1⟩ := r.inv1
    cases hs
    obtain ⟨a, rfl, e1⟩ := rep_scr r1
    exact .inl ⟨_, _, rfl, .inl ⟨_, e1, by simp⟩, m.same (.int _)⟩
  · obtain ⟨x, O, rfl, r1⟩ := r.inv1
    cases hs
    cases r1 with
    | dkO h hk q => exact .inr ⟨_, _, rfl, .inl h, m.same (by rw [hk, List.length_map]; exact .int _)⟩
    | dkF h hk q => exact .inr ⟨_, _, rfl, h.1, m.same (by rw [hk, List.length_map]; exact .int _)⟩
  · cases hs
theorem ok_int : OkF G (fun xs H Q => (∃ i, xs = [.int i] ∧ Q (.int i) H) ∨ ∃ k, xs = [.bl k] ∧ Q (.int (if k then 1 else 0)) H) semInt := by
  intro W H xs vs Ol v Q w r hs m
  unfold semInt at hs
  split at hs
  · obtain ⟨x, O, rfl, r1⟩ := r.inv1
    cases hs; cases r1
    exact .inl ⟨_, rfl, m.same (.int _)⟩
  · obtain ⟨x, O, rfl, r1⟩ := r.inv1
    cases hs; cases r1
    exact .inr ⟨_, rfl, m.same (.int _)⟩
  · cases hs
theorem ok_str : OkF G (fun xs H Q => ∃ i : Int, xs = [.int i] ∧ i.natAbs.log2 < 1920 ∧ Q (.str (toString i)) H) semStr := by
  intro W H xs vs Ol v Q w r hs m
  unfold semStr at hs
  split at hs
  · obtain ⟨x, O, rfl, r1⟩ := r.inv1
    cases r1
    split at hs
    · rename_i h
      cases hs
      exact ⟨_, rfl, h, m.same (.str _)⟩
    · cases hs
  · cases hs
theorem ok_max2 : OkF G (fun xs H Q => ∃ i j : Int, xs = [.int i, .int j] ∧ Q (.int (if j > i then j else i)) H) semMax2 := by
  intro W H xs vs Ol v Q w r hs m
  unfold semMax2 at hs
  split at hs
  · obtain ⟨x, y, O, O', rfl, r1, r2⟩ := r.inv2
    cases r1; cases r2; cases hs
    exact ⟨_, _, rfl, m.same (.int _)⟩
  · cases hs
theorem ok_min2 : OkF G (fun xs H Q => ∃ i j : Int, xs = [.int i, .int j] ∧ Q (.int (if j < i then j else i)) H) semMin2 := by
  intro W H xs vs Ol v Q w r hs m
  unfold semMin2 at hs
  split at hs
  · obtain ⟨x, y, O, O', rfl, r1, r2⟩ := r.inv2
    cases r1; cases r2; cases hs
    exact ⟨_, _, rfl, m.same (.int _)⟩
  · cases hs
/-- repr of plain data -/
def rReprD (K : PySem.W.Frag) : List V → Hp → VK → Prop := fun xs H Q => ∃ x d, xs = [x] ∧ Dp K H x d ∧ d.showable = true ∧ d.depth ≤ 64 ∧ d.shown.length ≤ sizeLine ∧ Q (.str d.shown) H
theorem Reads.noDict {h : Heap} {v : Value} {d : PyData} : True := trivial
mutual
theorem dp_hasDict {K : PySem.W.Frag} {H : Hp} {x : V} {d : PyData} (h : Dp K H x d) : d.hasDict = false := by
  cases h with
  | non => rfl
  | bl b => rfl
  | int i => rfl
  | str x => rfl
  | lst hs r => simp only [PyData.hasDict]; exact dp_hasDictAll r
  | tup hs r => simp only [PyData.hasDict]; exact dp_hasDictAll r
theorem dp_hasDictAll {K : PySem.W.Frag} {H : Hp} {xs : List V} {ds : List PyData} (h : DpAll K H xs ds) : PyData.hasDictAll ds = false := by
  cases h with
  | nil => simp [PyData.hasDictAll]
  | cons h t => simp only [PyData.hasDictAll]; rw [dp_hasDict h, dp_hasDictAll t]; rfl
end
theorem call_reprD (hK : X.K = G.K) (hg : X.A.guards = some []) (hu : X.A.units + 70 < cLine) : CallR X (.builtin "repr") (rReprD G.K) := by
  rw [← hK]
  intro pins s σ H xs us Q I r h
  obtain ⟨x, d, rfl, dp, hs, hd, hz, q⟩ := h
  obtain ⟨u, rfl, rx⟩ := vals1 r
  have fin : ∀ (h' : Heap) (u : Tok) (tk : Nat), (∀ b o, s.heap.get? b = some o → h'.get? b = some o) → EP X pins σ Q (.str d.shown u) { s with heap := h', toks := tk } := fun h' u tk k => ⟨.str d.shown, H, I.kept k, ⟨_, rfl⟩, q⟩
  cases dp with
  | non => cases rx; exact PySem.P.repr_of_none (fin s.heap _ _ fun _ _ e => e)
  | bl b => cases rx; exact PySem.P.repr_of_bool (fin s.heap _ _ fun _ _ e => e)
  | int i =>
    obtain ⟨t, rfl⟩ := rx
    exact PySem.P.repr_of_int (by simpa [PyData.showable] using hs) (fin s.heap _ _ fun _ _ e => e)
  | str y =>
    obtain ⟨t, rfl⟩ := rx
    exact PySem.P.repr_of_str (fin s.heap _ _ fun _ _ e => e) (by simpa [PyData.shown] using hz)
  | @lst a ys ds hs' r' =>
    cases (show u = Value.ref a from rx)
    obtain ⟨as, rd⟩ := Dp.reads I (.list ds) (.ref a) (.ref a) (.lst hs' r') rfl
    have hn := dp_hasDict (K := X.K) (H := H) (x := .ref a) (.lst hs' r')
    exact PySem.repr_of_reads' rd hs (fun z => by rw [hn] at z; cases z) hg (by omega) (fun _ _ e => e) fin hz
  | @tup a ys ds hs' r' =>
    cases (show u = Value.ref a from rx)
    obtain ⟨as, rd⟩ := Dp.reads I (.tuple ds) (.ref a) (.ref a) (.tup hs' r') rfl
    have hn := dp_hasDict (K := X.K) (H := H) (x := .ref a) (.tup hs' r')
    exact PySem.repr_of_reads' rd hs (fun z => by rw [hn] at z; cases z) hg (by omega) (fun _ _ e => e) fin hz
theorem ok_repr : OkF G (rReprD G.K) semRepr := by
  intro W H xs vs Ol v Q w r hs m
  unfold semRepr at hs
  split at hs
  · obtain ⟨x, O, rfl, r1⟩ := r.inv1
    split at hs
    · rename_i d hd
      split at hs
      · rename_i h
        cases hs
        exact ⟨x, d, rfl, r1.dp hd, h.1, h.2.1, sz_le h.2.2, m.same (.str _)⟩
      · cases hs
    · cases hs
  · cases hs
theorem ok_list (hK : X.K = G.K) : OkF G (fun xs H Q => ∃ p ys, xs = [.ref p] ∧ (SqL X.K H p ys ∨ SqT X.K H p ys) ∧ ∀ l, H l = none → Q (.ref l) (upd H l (.lst ys))) semList := by
  rw [hK]
  intro W H xs vs Ol v Q w r hs m
  unfold semList at hs
  split at hs
  · obtain ⟨x, O, rfl, r1⟩ := r.inv1
    split at hs
    · rename_i hf
      cases hs
      obtain ⟨a, ys, O1, rfl, e1, q1⟩ := rep_lstL r1
      exact ⟨a, ys, rfl, .inl (.inl (.inl e1)), m.lst (q1.fz hf)⟩
    · cases hs
  · obtain ⟨x, O, rfl, r1⟩ := r.inv1
    split at hs
    · rename_i hf
      cases hs
      obtain ⟨a, ys, rfl, e1, q1⟩ := rep_tupT r1
      exact ⟨a, ys, rfl, .inr e1, m.lst (q1.fz hf)⟩
    · cases hs
  · obtain ⟨x, O, rfl, r1⟩ := r.inv1
    cases hs
    obtain ⟨a, ys, rfl, e1, q1⟩ := rep_wtp r1
    exact ⟨a, ys, rfl, .inr e1, m.lst q1⟩
  · cases hs
theorem ok_tuple (hK : X.K = G.K) : OkF G (fun xs H Q => ∃ p ys, xs = [.ref p] ∧ ((SqL X.K H p ys ∧ ∀ l, H l = none → Q (.ref l) (upd H l (.tup ys))) ∨ (SqT X.K H p ys ∧ Q (.ref p) H))) semTuple := by
  rw [hK]
  intro W H xs vs Ol v Q w r hs m
  unfold semTuple at hs
  split at hs
  · obtain ⟨x, O, rfl, r1⟩ := r.inv1
    split at hs
    · rename_i hf
      cases hs
      obtain ⟨a, ys, O1, rfl, e1, q1⟩ := rep_lstL r1
      exact ⟨a, ys, rfl, .inl ⟨.inl (.inl e1), m.tup (q1.fz hf) (fresh_nw w)⟩⟩
    · cases hs
  · obtain ⟨x, O, rfl, r1⟩ := r.inv1
    split at hs
    · rename_i hf
      cases hs
      obtain ⟨a, ys, rfl, e1, q1⟩ := rep_tupT r1
      exact ⟨a, ys, rfl, .inr ⟨e1, m.same (r1.fz' (by simpa [Val.fz] using hf))⟩⟩
    · cases hs
  · cases hs
end

/-! ### isinstance -/
/-- of what built-in type -/
def tyName : Val → Option String
  | .non => some "NoneType" | .bl _ => some "bool" | .int _ => some "int" | .str _ => some "str"
  | .tup _ => some "tuple" | .wtp _ => some "tuple" | .lst _ _ => some "list" | .scr _ => some "list" | .dct _ _ _ _ => some "dict"
  | _ => none
/-- what the text's classes are, as isinstance asks -/
structure IsiFacts (G : Gam) (sub : Nat → Nat → Bool) : Prop where
  own : ∀ n C m D, G.cn n = some C → G.cn m = some D → PySem.W.kitOne G.K (.ref C) (.ref D) = some (sub n m)
  toOwn : ∀ t m D, t ∈ ["NoneType", "bool", "int", "str", "tuple", "list", "dict"] → G.cn m = some D → PySem.W.kitOne G.K (.type t) (.ref D) = some false
  ofOwn : ∀ n C t, t ∈ ["NoneType", "bool", "int", "str", "tuple", "list", "dict"] → G.cn n = some C → PySem.W.kitOne G.K (.ref C) (.type t) = some false
  cls : ∀ n C, G.cn n = some C → Cls G.K C ∧ PySem.W.findIn G.K (.ref C) "__class__" = some (some (.builtin "object.__class__")) ∧ PySem.W.specialIn G.K (.builtin "object.__class__") "__get__" = some (some (.builtin "getset_descriptor.__get__")) ∧
    PySem.W.takesIn G.K (.builtin "object.__class__") = some true ∧ PySem.W.mroIn G.K C (.type "object") = some true
def isiB (t u : String) : Option Bool := if t ∈ ["NoneType", "bool", "int", "str", "tuple", "list", "dict"] ∧ u ∈ ["bool", "int", "str", "tuple", "list", "dict"] then some (t == u || (t == "bool" && u == "int")) else none
def semIsi (sub : Nat → Nat → Bool) : List Val → Option Val
  | [.obj _ n _ _, .cn m] => some (.bl (sub n m))
  | [.obj _ n _ _, .ty u] => if u ∈ ["NoneType", "bool", "int", "str", "tuple", "list", "dict"] then some (.bl false) else none
  | [v, .cn _] => match tyName v with
    | some t => some (.bl false)
    | none => none
  | [v, .ty u] => match tyName v with
    | some t => (isiB t u).map Val.bl
    | none => none
  | _ => none

def tyAll : List String := ["NoneType", "bool", "int", "str", "tuple", "list", "dict"]
theorem tyName_mem {v : Val} {t : String} (h : tyName v = some t) : t ∈ ["NoneType", "bool", "int", "str", "tuple", "list", "dict"] := by
  cases v <;> simp [tyName] at h <;> subst h <;> decide
theorem isiB_ok {K : PySem.W.Frag} {t u : String} {b : Bool} (h : isiB t u = some b) : PySem.W.kitOne K (.type t) (.type u) = some b := by
  unfold isiB at h
  split at h
  · rename_i hm
    cases h
    refine kit_ty ?_
    have all : ∀ t ∈ ["NoneType", "bool", "int", "str", "tuple", "list", "dict"], ∀ u ∈ ["bool", "int", "str", "tuple", "list", "dict"], kitB t u = some (t == u || (t == "bool" && u == "int")) := by decide +kernel
    exact all t hm.1 u hm.2
  · cases h
section
variable {G : Gam} {X : Cx}
theorem rep_tyX {W : Addr → Prop} {H : Hp} {x : V} {v : Val} {O : List Addr} {t : String} (r : Rep G W H x v O) (h : tyName v = some t) : TyX G.K H x (.type t) := by
  cases r with
  | non => simp [tyName] at h; subst h; exact .base .non
  | bl b => simp [tyName] at h; subst h; exact .base (.bl b)
  | int i => simp [tyName] at h; subst h; exact .base (.int i)
  | str s => simp [tyName] at h; subst h; exact .base (.str s)
  | tup h' r => simp [tyName] at h; subst h; exact .base (.tup h'.1)
  | wtp h' r =>
    simp [tyName] at h; subst h
    rcases h' with q | ⟨o, its, n, e, c, _⟩
    · rcases q with q | ⟨o, q⟩ <;> cases q
    · exact .kTuple e c
  | lstO h' r => simp [tyName] at h; subst h; exact .base (.lst h')
  | lstF h' r => simp [tyName] at h; subst h; exact .base (.lst h'.1)
  | scr h' =>
    simp [tyName] at h; subst h
    rcases h' with ⟨o, e, _⟩ | q | ⟨o, its, n, e, c, _⟩
    · exact .base (.frz e)
    · rcases q with q | ⟨o, q⟩ <;> cases q
    · exact .kList e c
  | dkO h' hk r => simp [tyName] at h; subst h; exact .base (.dK h')
  | dkF h' hk r =>
    simp [tyName] at h; subst h
    rcases h'.1 with e | ⟨o, e⟩
    · exact .base (.dK e)
    · exact .fDict e
  | dtO h' hk r => simp [tyName] at h; subst h; exact .base (.dT h')
  | dtF h' hk r => simp [tyName] at h; subst h; exact .base (.dT h'.1)
  | _ => simp [tyName] at h
theorem rep_obj {W : Addr → Prop} {H : Hp} {x : V} {o : Bool} {n : Nat} {ns : List Str} {vs : List Val} {O : List Addr} (r : Rep G W H x (.obj o n ns vs) O) : ∃ a C dx fs, x = .ref a ∧ H a = some (.ins C dx fs) ∧ G.cn n = some C ∧ ns = fs.map (·.1) := by
  cases r with
  | objO h hc hn r => exact ⟨_, _, _, _, rfl, h, hc, hn⟩
  | objF h hc hn r => exact ⟨_, _, _, _, rfl, h.1, hc, hn⟩
theorem ok_isi {sub : Nat → Nat → Bool} (F : IsiFacts G sub) : OkF G (rIsi G.K) (semIsi sub) := by
  intro W H xs vs Ol v Q w r hs m
  unfold semIsi at hs
  split at hs
  · obtain ⟨x, y, O, O', rfl, r1, r2⟩ := r.inv2
    cases r2 with
    | cn hc =>
      cases hs
      obtain ⟨a, C, dx, fs, rfl, e, hC, _⟩ := rep_obj r1
      obtain ⟨c1, c2, c3, c4, c5⟩ := F.cls _ C hC
      exact ⟨_, _, _, _, _, rfl, .own _, .base (.ins e c1 c2 c3 c4 c5), F.own _ C _ _ hC hc, m.same (.bl _)⟩
  · obtain ⟨x, y, O, O', rfl, r1, r2⟩ := r.inv2
    split at hs
    · rename_i hu
      cases hs
      cases r2
      obtain ⟨a, C, dx, fs, rfl, e, hC, _⟩ := rep_obj r1
      obtain ⟨c1, c2, c3, c4, c5⟩ := F.cls _ C hC
      exact ⟨_, _, _, _, _, rfl, .ty _, .base (.ins e c1 c2 c3 c4 c5), F.ofOwn _ C _ hu hC, m.same (.bl _)⟩
    · cases hs
  · obtain ⟨x, y, O, O', rfl, r1, r2⟩ := r.inv2
    split at hs
    · rename_i t ht
      cases hs
      cases r2 with
      | cn hc => exact ⟨_, _, _, _, _, rfl, .own _, rep_tyX r1 ht, F.toOwn t _ _ (tyName_mem ht) hc, m.same (.bl _)⟩
    · cases hs
  · obtain ⟨x, y, O, O', rfl, r1, r2⟩ := r.inv2
    split at hs
    · rename_i t ht
      cases r2
      cases hb : isiB t _ with
      | none => rw [hb] at hs; cases hs
      | some b =>
        rw [hb] at hs
        cases hs
        exact ⟨_, _, _, _, _, rfl, .ty _, rep_tyX r1 ht, isiB_ok hb, m.same (.bl _)⟩
    · cases hs
  · cases hs
end

/-! ### f-strings -/
def semFmt : Val → Option Str
  | .str y => if y.length ≤ 16777216 then some y else none
  | .int i => if i.natAbs.log2 < 1920 then some (toString i) else none
  | _ => none
def fmtAll : Str → List Val → Option Str
  | acc, [] => some acc
  | acc, v :: vs => match semFmt v with
    | some y => if (acc ++ y).length ≤ 16777216 then fmtAll (acc ++ y) vs else none
    | none => none
end VL
/-! VL, part I: calls of what the text defines: values, names whose tree the callee may change, defaults. -/
namespace VL
open PySem L2

/-- an argument: a value; a name; a default -/
inductive Arg where
  | v (o : Op) | r (i : Nat) | k (x : V) (u : Val)
def vals : List Arg → List Op
  | [] => []
  | .v o :: as => o :: vals as
  | .r _ :: as => vals as
  | .k _ _ :: as => vals as
def slotOk (ρ : VEnv) (i : Nat) : Bool := match ρ[i]? with
  | some (some _) => true
  | _ => false
def refsOk (ρ : VEnv) : List Arg → Bool
  | [] => true
  | .r i :: as => slotOk ρ i && refsOk ρ as
  | _ :: as => refsOk ρ as
def nestG (G : Gam) (E : WX) : List Arg → L2.St → Hp → (List V → Hp → Prop) → Prop
  | [], _, H, K => K [] H
  | .v o :: as, σ, H, K => rd G E o.p o.s o.m σ H fun x H1 => nestG G E as σ H1 fun xs H2 => K (x :: xs) H2
  | .r i :: as, σ, H, K => ∃ x, σ[i]? = some (some x) ∧ nestG G E as σ H fun xs H2 => K (x :: xs) H2
  | .k x _ :: as, σ, H, K => nestG G E as σ H fun xs H2 => K (x :: xs) H2
def at0 (σ : L2.St) (i : Nat) : V := match σ[i]? with
  | some (some x) => x
  | _ => .non
def merge (σ : L2.St) : List Arg → List V → List V
  | [], _ => []
  | .v _ :: as, x :: xs => x :: merge σ as xs
  | .v _ :: as, [] => .non :: merge σ as []
  | .r i :: as, xs => at0 σ i :: merge σ as xs
  | .k x _ :: as, xs => x :: merge σ as xs
def fill : List Arg → VEnv → List Val → Option (List Val × VEnv)
  | [], ρ, [] => some ([], ρ)
  | [], _, _ :: _ => none
  | .v _ :: as, ρ, v :: vs => match fill as ρ vs with
    | some (us, ρ') => some (v :: us, ρ')
    | none => none
  | .v _ :: _, _, [] => none
  | .r i :: as, ρ, vs => match ρ[i]? with
    | some (some v) => (match fill as (ρ.set i none) vs with
      | some (us, ρ') => some (v :: us, ρ')
      | none => none)
    | _ => none
  | .k _ u :: as, ρ, vs => match fill as ρ vs with
    | some (us, ρ') => some (u :: us, ρ')
    | none => none
/-- what the callee left in the names that it was given -/
def back : List Arg → VEnv → VEnv → VEnv
  | [], _, ρ => ρ
  | _ :: _, [], ρ => ρ
  | .r i :: as, some f :: fs, ρ => back as fs (ρ.set i (some f))
  | _ :: as, _ :: fs, ρ => back as fs ρ
abbrev MF := List Val → RE
def mCall (mf : MF) (as : List Arg) : ME := fun ρ => if refsOk ρ as = true then (match evalM ((vals as).map Op.m) ρ with
  | .ok vs ρ1 => (match fill as ρ1 vs with
    | some (us, ρ2) => (match mf us with
      | .ok v fs => .ok v (back as fs ρ2)
      | .exc e fs => .exc e (back as fs ρ2)
      | .bad => .bad)
    | none => .bad)
  | .exc e ρ1 => .exc e ρ1
  | .bad => .bad) else .bad
/-- a def's promise -/
def spV (G : Gam) (n : Nat) (mf : MF) : Sp := fun xs H Q E => xs.length = n ∧ ∃ R vs Oa, Rel G R H (xs.map some) (vs.map some) Oa ∧ Post G R (fun c d _ H => E c d H) (xs.map some) H Oa false true (vs.map some) Q (mf vs)
def noRefs : List Arg → Bool
  | [] => true
  | .r _ :: _ => false
  | _ :: as => noRefs as
def argsP : List Arg → Bool
  | [] => true
  | .v o :: as => o.p && argsP as
  | .r _ :: _ => false
  | .k _ _ :: as => argsP as
/-- the defaults are what they are, in every heap -/
def Dfl (G : Gam) : List Arg → Prop
  | [] => True
  | .k x u :: as => (∀ W H, Rep G W H x u []) ∧ Dfl G as
  | _ :: as => Dfl G as

section
variable {G : Gam} {E : WX} {σ : L2.St}
theorem nestG_of {as : List Arg} : ∀ {ρ : VEnv} {H : Hp} {K : List V → Hp → Prop}, (∀ (i : Nat) (v : Val), ρ[i]? = some (some v) → ∃ x, σ[i]? = some (some x)) → refsOk ρ as = true → nest G E (vals as) σ H (fun xs H' => K (merge σ as xs) H') → nestG G E as σ H K := by
  induction as with
  | nil => intro ρ H K hs ok h; exact h
  | cons a as ih =>
    intro ρ H K hs ok h
    cases a with
    | v o => exact rd_mono h fun x H1 h1 => ih hs ok h1
    | k x u => exact ih hs ok h
    | r i =>
      simp only [refsOk, Bool.and_eq_true] at ok
      obtain ⟨o1, o2⟩ := ok
      unfold slotOk at o1
      split at o1
      · rename_i v hv
        obtain ⟨x, hx⟩ := hs i v hv
        refine ⟨x, hx, ih hs o2 ?_⟩
        have e : at0 σ i = x := by unfold at0; rw [hx]
        have h' : nest G E (vals as) σ H (fun xs H' => K (merge σ (.r i :: as) xs) H') := h
        simpa only [merge, e] using h'
      · cases o1
theorem nestG_app {as : List Arg} {ks : List (V × Val)} : ∀ {H : Hp} {K : List V → Hp → Prop}, nestG G E (as ++ ks.map fun p => Arg.k p.1 p.2) σ H K → nestG G E as σ H (fun xs H' => K (xs ++ ks.map (·.1)) H') := by
  induction as with
  | nil =>
    intro H K h
    simp only [List.nil_append] at h
    unfold nestG
    induction ks generalizing K with
    | nil => exact h
    | cons k ks ih => simpa using ih h
  | cons a as ih =>
    intro H K h
    cases a with
    | v o => exact rd_mono h fun x H1 h1 => by simpa using ih h1
    | r i => obtain ⟨x, hx, h⟩ := h; exact ⟨x, hx, by simpa using ih h⟩
    | k x u =>
      unfold nestG
      have := ih (K := fun xs H' => K (x :: xs) H') h
      simpa using this

/-! ### what a call is handed -/
structure Held (G : Gam) (R : Addr → Prop) (H : Hp) (σ : L2.St) (ρ : VEnv) (Os : Nat → List Addr) (xs : List V) (vs : List Val) (Ol : List (List Addr)) : Prop where
  rel : Rel G (fun a => R a ∨ a ∈ Ol.flatten) H σ ρ Os
  rep : RepL G (WW (fun a => R a ∨ a ∈ Ol.flatten) Os) H xs vs Ol
  nd : Ol.flatten.Nodup
  nr : ∀ a ∈ Ol.flatten, ¬ R a
theorem setEq {p q : Addr → Prop} (h : ∀ a, p a ↔ q a) : p = q := funext fun a => propext (h a)
theorem Held.fill {as : List Arg} (df : Dfl G as) : ∀ {R : Addr → Prop} {H : Hp} {ρ ρ' : VEnv} {Os : Nat → List Addr} {xs : List V} {vs us : List Val} {Ol : List (List Addr)}, Held G R H σ ρ Os xs vs Ol → VL.fill as ρ vs = some (us, ρ') →
    ∃ Os' Ul, Held G R H σ ρ' Os' (merge σ as xs) us Ul ∧ (∀ a, (We Os' a ∨ a ∈ Ul.flatten) ↔ (We Os a ∨ a ∈ Ol.flatten)) ∧ (noRefs as = true → ρ' = ρ ∧ Os' = Os) := by
  induction as with
  | nil =>
    intro R H ρ ρ' Os xs vs us Ol h e
    cases vs with
    | cons v vs => simp [VL.fill] at e
    | nil =>
      simp only [VL.fill, Option.some.injEq, Prod.mk.injEq] at e
      obtain ⟨rfl, rfl⟩ := e
      obtain ⟨h1, h2, h3, h4⟩ := h
      cases h2
      exact ⟨Os, [], ⟨h1, .nil, h3, h4⟩, fun a => Iff.rfl, fun _ => ⟨rfl, rfl⟩⟩
  | cons a as ih =>
    intro R H ρ ρ' Os xs vs us Ol h e
    cases a with
    | v o =>
      cases vs with
      | nil => simp [VL.fill] at e
      | cons v vs =>
        simp only [VL.fill] at e
        cases hf : VL.fill as ρ vs with
        | none => rw [hf] at e; cases e
        | some p =>
          obtain ⟨us', ρ2⟩ := p
          rw [hf] at e
          simp only [Option.some.injEq, Prod.mk.injEq] at e
          obtain ⟨rfl, rfl⟩ := e
          obtain ⟨h1, h2, h3, h4⟩ := h
          cases h2 with
          | @cons x _ O xs' _ Ol' r t =>
            rw [List.flatten_cons] at h1 r t h3 h4
            have s1 : (fun a => R a ∨ a ∈ O ++ Ol'.flatten) = fun a => (R a ∨ a ∈ O) ∨ a ∈ Ol'.flatten := setEq fun a => by rw [List.mem_append]; exact or_assoc.symm
            obtain ⟨n1, n2, n3⟩ := List.nodup_append.mp h3
            rw [s1] at h1 r t
            have H' : Held G (fun a => R a ∨ a ∈ O) H σ ρ Os xs' vs Ol' := ⟨h1, t, n2, fun a ha z => z.elim (h4 a (List.mem_append_right _ ha)) fun z => n3 a z a ha rfl⟩
            obtain ⟨Os', Ul, g, eqv, nrf⟩ := ih df H' hf
            have s2 : (fun a => (R a ∨ a ∈ O) ∨ a ∈ Ul.flatten) = fun a => R a ∨ a ∈ (O :: Ul).flatten := setEq fun a => by rw [List.flatten_cons, List.mem_append]; exact or_assoc
            have s3 : WW (fun a => (R a ∨ a ∈ O) ∨ a ∈ Ol'.flatten) Os = WW (fun a => (R a ∨ a ∈ O) ∨ a ∈ Ul.flatten) Os' := setEq fun a => by
              unfold WW
              have := eqv a
              constructor
              · rintro ((z | z) | z)
                · exact .inl (.inl z)
                · exact (this.mpr (.inr z)).elim .inr fun z => .inl (.inr z)
                · exact (this.mpr (.inl z)).elim .inr fun z => .inl (.inr z)
              · rintro ((z | z) | z)
                · exact .inl (.inl z)
                · exact (this.mp (.inr z)).elim .inr fun z => .inl (.inr z)
                · exact (this.mp (.inl z)).elim .inr fun z => .inl (.inr z)
            rw [s3] at r
            obtain ⟨g1, g2, g3, g4⟩ := g
            rw [s2] at g1 g2 r
            refine ⟨Os', O :: Ul, ⟨g1, .cons r g2, ?_, fun a ha => ?_⟩, fun a => ?_, nrf⟩
            · rw [List.flatten_cons]
              exact List.nodup_append.mpr ⟨n1, g3, fun a ha b hb e => g4 b hb (.inr (e ▸ ha))⟩
            · rw [List.flatten_cons] at ha
              rcases List.mem_append.mp ha with z | z
              · exact h4 a (List.mem_append_left _ z)
              · exact fun q => g4 a z (.inl q)
            · rw [List.flatten_cons, List.flatten_cons, List.mem_append, List.mem_append]
              have := eqv a
              constructor
              · rintro (z | z | z)
                · exact (this.mp (.inl z)).imp id .inr
                · exact .inr (.inl z)
                · exact (this.mp (.inr z)).imp id .inr
              · rintro (z | z | z)
                · exact (this.mpr (.inl z)).imp id .inr
                · exact .inr (.inl z)
                · exact (this.mpr (.inr z)).imp id .inr
    | k x u =>
      simp only [VL.fill] at e
      cases hf : VL.fill as ρ vs with
      | none => rw [hf] at e; cases e
      | some p =>
        obtain ⟨us', ρ2⟩ := p
        rw [hf] at e
        simp only [Option.some.injEq, Prod.mk.injEq] at e
        obtain ⟨rfl, rfl⟩ := e
        obtain ⟨Os', Ul, g, eqv, nrf⟩ := ih df.2 h hf
        obtain ⟨g1, g2, g3, g4⟩ := g
        refine ⟨Os', [] :: Ul, ⟨by simpa using g1, by simpa [merge] using RepL.cons (df.1 _ _) g2, by simpa using g3, by simpa using g4⟩, by simpa using eqv, nrf⟩
    | r i =>
      simp only [VL.fill] at e
      cases hv : ρ[i]? with
      | none => rw [hv] at e; cases e
      | some q =>
        cases q with
        | none => rw [hv] at e; cases e
        | some v =>
          rw [hv] at e
          dsimp only at e
          cases hf : VL.fill as (ρ.set i none) vs with
          | none => rw [hf] at e; cases e
          | some p =>
            obtain ⟨us', ρ2⟩ := p
            rw [hf] at e
            simp only [Option.some.injEq, Prod.mk.injEq] at e
            obtain ⟨rfl, rfl⟩ := e
            obtain ⟨h1, h2, h3, h4⟩ := h
            obtain ⟨x, hx, rel', rep⟩ := h1.take hv
            have weq : ∀ a, (We (fun j => if j = i then [] else Os j) a ∨ a ∈ Os i) ↔ We Os a := fun a => by
              constructor
              · rintro (⟨j, z⟩ | z)
                · by_cases hj : j = i
                  · simp [hj] at z
                  · simp only [hj, if_false] at z; exact ⟨j, z⟩
                · exact ⟨i, z⟩
              · rintro ⟨j, z⟩
                by_cases hj : j = i
                · exact .inr (hj ▸ z)
                · exact .inl ⟨j, by simp only [hj, if_false]; exact z⟩
            have s1 : (fun a => (R a ∨ a ∈ Ol.flatten) ∨ a ∈ Os i) = fun a => (R a ∨ a ∈ Os i) ∨ a ∈ Ol.flatten := setEq fun a => by
              constructor
              · rintro ((z | z) | z)
                · exact .inl (.inl z)
                · exact .inr z
                · exact .inl (.inr z)
              · rintro ((z | z) | z)
                · exact .inl (.inl z)
                · exact .inr z
                · exact .inl (.inr z)
            have s0 : WW (fun a => R a ∨ a ∈ Ol.flatten) Os = WW (fun a => (R a ∨ a ∈ Os i) ∨ a ∈ Ol.flatten) (fun j => if j = i then [] else Os j) := setEq fun a => by
              unfold WW
              rw [← weq a]
              constructor
              · rintro ((z | z) | z | z)
                · exact .inl (.inl (.inl z))
                · exact .inl (.inr z)
                · exact .inr z
                · exact .inl (.inl (.inr z))
              · rintro (((z | z) | z) | z)
                · exact .inl (.inl z)
                · exact .inr (.inr z)
                · exact .inl (.inr z)
                · exact .inr (.inl z)
            rw [s1] at rel' rep
            rw [s0] at h2
            have H' : Held G (fun a => R a ∨ a ∈ Os i) H σ (ρ.set i none) (fun j => if j = i then [] else Os j) xs vs Ol := ⟨rel', h2, h3, fun a ha z => z.elim (h4 a ha) fun z => h1.dr i a z (.inr ha)⟩
            obtain ⟨Os', Ul, g, eqv, nrf⟩ := ih df H' hf
            obtain ⟨g1, g2, g3, g4⟩ := g
            have s2 : (fun a => (R a ∨ a ∈ Os i) ∨ a ∈ Ul.flatten) = fun a => R a ∨ a ∈ (Os i :: Ul).flatten := setEq fun a => by rw [List.flatten_cons, List.mem_append]; exact or_assoc
            have s3 : WW (fun a => (R a ∨ a ∈ Os i) ∨ a ∈ Ol.flatten) (fun j => if j = i then [] else Os j) = WW (fun a => (R a ∨ a ∈ Os i) ∨ a ∈ Ul.flatten) Os' := setEq fun a => by
              unfold WW
              have := eqv a
              constructor
              · rintro ((z | z) | z)
                · exact .inl (.inl z)
                · exact (this.mpr (.inr z)).elim .inr fun z => .inl (.inr z)
                · exact (this.mpr (.inl z)).elim .inr fun z => .inl (.inr z)
              · rintro ((z | z) | z)
                · exact .inl (.inl z)
                · exact (this.mp (.inr z)).elim .inr fun z => .inl (.inr z)
                · exact (this.mp (.inl z)).elim .inr fun z => .inl (.inr z)
            rw [s3] at rep
            rw [s2] at g1 g2 rep
            have ea : at0 σ i = x := by unfold at0; rw [hx]
            refine ⟨Os', Os i :: Ul, ⟨g1, ?_, ?_, fun a ha => ?_⟩, fun a => ?_, fun z => by cases z⟩
            · unfold merge
              rw [ea]
              exact .cons rep g2
            · rw [List.flatten_cons]
              exact List.nodup_append.mpr ⟨h1.nd i, g3, fun a ha b hb e => g4 b hb (.inr (e ▸ ha))⟩
            · rw [List.flatten_cons] at ha
              rcases List.mem_append.mp ha with z | z
              · exact fun q => h1.dr i a z (.inl q)
              · exact fun q => g4 a z (.inl q)
            · rw [List.flatten_cons, List.mem_append, ← weq a]
              have := eqv a
              constructor
              · rintro (z | z | z)
                · exact (this.mp (.inl z)).imp .inl id
                · exact .inl (.inr z)
                · exact (this.mp (.inr z)).imp .inl id
              · rintro ((z | z) | z)
                · exact (this.mpr (.inl z)).imp id .inr
                · exact .inr (.inl z)
                · exact (this.mpr (.inr z)).imp id .inr

theorem flat_get : ∀ {Ul : List (List Addr)} {i : Nat} {a : Addr}, a ∈ Ul.getD i [] → a ∈ Ul.flatten
  | [], i, a, h => by simp at h
  | O :: Ul, 0, a, h => by rw [List.flatten_cons]; exact List.mem_append_left _ (by simpa using h)
  | O :: Ul, i + 1, a, h => by rw [List.flatten_cons]; exact List.mem_append_right _ (flat_get (i := i) (by simpa using h))
theorem get_flat : ∀ {Ul : List (List Addr)} {a : Addr}, a ∈ Ul.flatten → ∃ i, a ∈ Ul.getD i []
  | [], a, h => by simp at h
  | O :: Ul, a, h => by
    rw [List.flatten_cons] at h
    rcases List.mem_append.mp h with z | z
    · exact ⟨0, by simpa using z⟩
    · obtain ⟨i, q⟩ := get_flat z
      exact ⟨i + 1, by simpa using q⟩
theorem flat_nd : ∀ {Ul : List (List Addr)} {i : Nat}, Ul.flatten.Nodup → (Ul.getD i []).Nodup
  | [], i, _ => by simp
  | O :: Ul, 0, h => by rw [List.flatten_cons] at h; simpa using (List.nodup_append.mp h).1
  | O :: Ul, i + 1, h => by rw [List.flatten_cons] at h; simpa using flat_nd (i := i) (List.nodup_append.mp h).2.1
theorem flat_dj : ∀ {Ul : List (List Addr)} {i j : Nat} {a : Addr}, Ul.flatten.Nodup → a ∈ Ul.getD i [] → a ∈ Ul.getD j [] → i = j
  | [], i, j, a, _, h, _ => by simp at h
  | O :: Ul, 0, 0, a, _, _, _ => rfl
  | O :: Ul, 0, j + 1, a, h, h1, h2 => by
    rw [List.flatten_cons] at h
    exact absurd rfl ((List.nodup_append.mp h).2.2 a (by simpa using h1) a (flat_get (i := j) (by simpa using h2)))
  | O :: Ul, i + 1, 0, a, h, h1, h2 => by
    rw [List.flatten_cons] at h
    exact absurd rfl ((List.nodup_append.mp h).2.2 a (by simpa using h2) a (flat_get (i := i) (by simpa using h1)))
  | O :: Ul, i + 1, j + 1, a, h, h1, h2 => by
    rw [List.flatten_cons] at h
    exact congrArg (· + 1) (flat_dj (i := i) (j := j) (List.nodup_append.mp h).2.1 (by simpa using h1) (by simpa using h2))
theorem RepL.get {W : Addr → Prop} {H : Hp} {xs : List V} {vs : List Val} {Ol : List (List Addr)} (r : RepL G W H xs vs Ol) : ∀ {i : Nat} {v : Val}, vs[i]? = some v → ∃ x, xs[i]? = some x ∧ Rep G W H x v (Ol.getD i []) := by
  induction r with
  | nil => intro i v h; simp at h
  | cons r t ih =>
    intro i v h
    cases i with
    | zero => simp at h; subst h; exact ⟨_, List.getElem?_cons_zero, by simpa using r⟩
    | succ i => obtain ⟨x, e, q⟩ := ih (i := i) (by simpa using h); exact ⟨x, by simpa using e, by simpa using q⟩
/-- the callee's view of what it was handed -/
theorem Held.view {R : Addr → Prop} {H : Hp} {ρ : VEnv} {Os : Nat → List Addr} {xs : List V} {us : List Val} {Ul : List (List Addr)} (h : Held G R H σ ρ Os xs us Ul) :
    Rel G (fun a => R a ∨ We Os a) H (xs.map some) (us.map some) (fun j => Ul.getD j []) := by
  have wf : ∀ a, We (fun j => Ul.getD j []) a ↔ a ∈ Ul.flatten := fun a => ⟨fun ⟨i, z⟩ => flat_get z, fun z => get_flat z⟩
  have hw : WW (fun a => R a ∨ a ∈ Ul.flatten) Os = WW (fun a => R a ∨ We Os a) (fun j => Ul.getD j []) := setEq fun a => by
    unfold WW
    rw [wf a]
    constructor
    · rintro ((z | z) | z)
      · exact .inl (.inl z)
      · exact .inr z
      · exact .inl (.inr z)
    · rintro ((z | z) | z)
      · exact .inl (.inl z)
      · exact .inr z
      · exact .inl (.inr z)
  obtain ⟨h1, h2, h3, h4⟩ := h
  rw [hw] at h2
  obtain ⟨l1, l2⟩ := h2.len
  refine ⟨by simp [l1], fun i v hv => ?_, fun i hi => ?_, fun i => flat_nd h3, fun i j a ha hb => flat_dj h3 ha hb, fun i a ha z => ?_, fun a z => ?_⟩
  · rw [List.getElem?_map] at hv
    cases e : us[i]? with
    | none => rw [e] at hv; cases hv
    | some u =>
      rw [e] at hv
      cases hv
      obtain ⟨x, e1, r⟩ := h2.get e
      exact ⟨x, by rw [List.getElem?_map, e1]; rfl, r⟩
  · have : us.length ≤ i := by
      by_cases q : i < us.length
      · exact absurd (by rw [List.getElem?_map, List.getElem?_eq_getElem q]; rfl) (hi us[i])
      · omega
    show Ul.getD i [] = []
    rw [List.getD_eq_getElem?_getD, List.getElem?_eq_none (by omega)]
    rfl
  · rcases z with z | z
    · exact h4 a (flat_get ha) z
    · exact h1.nr (.inr (flat_get ha)) z
  · exact z.elim (fun z => h1.rt a (.inl z)) fun z => h1.we z
/-- one more of the callee's names is not looked at -/
theorem Rel.tail {R : Addr → Prop} {H : Hp} {x : Option V} {xs : L2.St} {f : Option Val} {fs : VEnv} {Oa : Nat → List Addr} (r : Rel G R H (x :: xs) (f :: fs) Oa) : Rel G (fun a => R a ∨ a ∈ Oa 0) H xs fs (fun j => Oa (j + 1)) := by
  have we : ∀ a, WW R Oa a ↔ WW (fun a => R a ∨ a ∈ Oa 0) (fun j => Oa (j + 1)) a := fun a => by
    constructor
    · rintro (z | ⟨i, z⟩)
      · exact .inl (.inl z)
      · cases i with
        | zero => exact .inl (.inr z)
        | succ i => exact .inr ⟨i, z⟩
    · rintro ((z | z) | ⟨i, z⟩)
      · exact .inl z
      · exact .inr ⟨0, z⟩
      · exact .inr ⟨i + 1, z⟩
  have hw := setEq we
  refine ⟨by have := r.len; simpa using this, fun i v hv => ?_, fun i hi => r.nil (i + 1) fun v hv => hi v (by simpa using hv), fun i => r.nd (i + 1), fun i j a ha hb => by have := r.dj (i + 1) (j + 1) a ha hb; omega, fun i a ha z => ?_, fun a z => ?_⟩
  · obtain ⟨y, e, q⟩ := r.rep (i + 1) v (by simpa using hv)
    exact ⟨y, by simpa using e, by rw [← hw]; exact q⟩
  · rcases z with z | z
    · exact r.dr (i + 1) a ha z
    · have := r.dj (i + 1) 0 a ha z; omega
  · exact z.elim (r.rt a) fun z => r.there a z
/-- the names that the callee was given are the caller's again -/
theorem back_of {as : List Arg} : ∀ {R : Addr → Prop} {H : Hp} {ρ : VEnv} {Os Oa : Nat → List Addr} {xs : List V} {ys : L2.St} {fs : VEnv}, Rel G (fun a => R a ∨ We Oa a) H σ ρ Os → (∀ a, R a → ¬ We Oa a) → Rel G (fun a => R a ∨ We Os a) H ((merge σ as xs).map some ++ ys) fs Oa → refsOk (σ.map fun o => o.map fun _ => Val.non) as = true → (∀ i, Arg.r i ∈ as → i < ρ.length) →
    ∃ Os', Rel G R H σ (back as fs ρ) Os' ∧ (∀ a, We Os' a → We Os a ∨ We Oa a) ∧ (noRefs as = true → back as fs ρ = ρ ∧ Os' = Os) := by
  induction as with
  | nil => intro R H ρ Os Oa xs ys fs h hd c ok il; exact ⟨Os, h.weak fun a z => .inl z, fun a z => .inl z, fun _ => ⟨rfl, rfl⟩⟩
  | cons a as ih =>
    intro R H ρ Os Oa xs ys fs h hd c ok il
    cases fs with
    | nil => have := c.len; cases a <;> cases xs <;> simp [merge] at this
    | cons f fs =>
      obtain ⟨x, xs', e, ex⟩ : ∃ x xs', merge σ (a :: as) xs = x :: merge σ as xs' ∧ ∀ i, a = .r i → x = at0 σ i := by
        cases a with
        | v o => cases xs with
          | nil => exact ⟨_, [], rfl, fun i z => by cases z⟩
          | cons x xs => exact ⟨x, xs, rfl, fun i z => by cases z⟩
        | r i => exact ⟨_, xs, rfl, fun j z => by cases z; rfl⟩
        | k x u => exact ⟨x, xs, rfl, fun i z => by cases z⟩
      rw [e] at c
      have il' : ∀ i, Arg.r i ∈ as → i < ρ.length := fun i hi => il i (List.mem_cons_of_mem _ hi)
      have ok' : refsOk (σ.map fun o => o.map fun _ => Val.non) as = true := by
        cases a with
        | v o => exact ok
        | k x u => exact ok
        | r i => simp only [refsOk, Bool.and_eq_true] at ok; exact ok.2
      have sW : ∀ a, We Oa a ↔ (a ∈ Oa 0 ∨ We (fun j => Oa (j + 1)) a) := fun a => by
        constructor
        · rintro ⟨i, z⟩
          cases i with
          | zero => exact .inl z
          | succ i => exact .inr ⟨i, z⟩
        · rintro (z | ⟨i, z⟩)
          · exact ⟨0, z⟩
          · exact ⟨i + 1, z⟩
      have drop : ∃ Os', Rel G R H σ (back as fs ρ) Os' ∧ (∀ a, We Os' a → We Os a ∨ We Oa a) ∧ (noRefs as = true → back as fs ρ = ρ ∧ Os' = Os) := by
        obtain ⟨Os', h1, h2, h3⟩ := ih (R := R) (ρ := ρ) (Os := Os) (Oa := fun j => Oa (j + 1)) (h.weak fun a z => z.imp id fun z => (sW a).mpr (.inr z)) (fun a z q => hd a z ((sW a).mpr (.inr q))) (c.tail.weak fun a z => .inl z) ok' il'
        exact ⟨Os', h1, fun a z => (h2 a z).imp id fun z => (sW a).mpr (.inr z), h3⟩
      cases a with
      | v o => cases f <;> exact drop
      | k x u => cases f <;> exact drop
      | r i =>
        cases f with
        | none =>
          obtain ⟨Os', h1, h2, h3⟩ := drop
          exact ⟨Os', h1, h2, fun z => by cases z⟩
        | some u =>
          obtain ⟨y, ey, ru⟩ := c.rep 0 u rfl
          have ey' : x = y := by simpa using ey
          subst ey'
          have s1 : (fun a => R a ∨ We Oa a) = fun a => (R a ∨ We (fun j => Oa (j + 1)) a) ∨ a ∈ Oa 0 := setEq fun a => by
            rw [sW a]
            constructor
            · rintro (z | z | z)
              · exact .inl (.inl z)
              · exact .inr z
              · exact .inl (.inr z)
            · rintro ((z | z) | z)
              · exact .inl z
              · exact .inr (.inr z)
              · exact .inr (.inl z)
          rw [s1] at h
          have s2 : WW (fun a => R a ∨ We Os a) Oa = WW (fun a => (R a ∨ We (fun j => Oa (j + 1)) a) ∨ a ∈ Oa 0) Os := setEq fun a => by
            unfold WW
            rw [sW a]
            constructor
            · rintro ((z | z) | z | z)
              · exact .inl (.inl (.inl z))
              · exact .inr z
              · exact .inl (.inr z)
              · exact .inl (.inl (.inr z))
            · rintro (((z | z) | z) | z)
              · exact .inl (.inl z)
              · exact .inr (.inr z)
              · exact .inr (.inl z)
              · exact .inl (.inr z)
          rw [s2] at ru
          have hi := il i List.mem_cons_self
          have put := h.put ru (c.nd 0) hi (fun a ha z => z.elim (fun z => hd a z ⟨0, ha⟩) fun ⟨j, z⟩ => by have := c.dj 0 (j + 1) a ha z; omega)
          have es : σ.set i (some x) = σ := by
            have hx := ex i rfl
            have ok1 : slotOk (σ.map fun o => o.map fun _ => Val.non) i = true := by simp only [refsOk, Bool.and_eq_true] at ok; exact ok.1
            unfold slotOk at ok1
            unfold at0 at hx
            rw [List.getElem?_map] at ok1
            cases q : σ[i]? with
            | none => rw [q] at ok1; cases ok1
            | some o =>
              cases o with
              | none => rw [q] at ok1; cases ok1
              | some y =>
                rw [q] at hx
                simp only at hx
                subst hx
                apply List.ext_getElem?
                intro j
                by_cases hj : j = i
                · subst hj
                  rw [List.getElem?_set_self (by have := (List.getElem?_eq_some_iff.mp q).1; exact this), q]
                · rw [List.getElem?_set_ne (Ne.symm hj)]
          rw [es] at put
          have weq : ∀ a, We (fun j => if j = i then Oa 0 else Os j) a → We Os a ∨ a ∈ Oa 0 := fun a ⟨j, z⟩ => by
            by_cases hj : j = i
            · simp only [hj, if_true] at z; exact .inr z
            · simp only [hj, if_false] at z; exact .inl ⟨j, z⟩
          obtain ⟨Os', h1, h2, h3⟩ := ih (R := R) (ρ := ρ.set i (some u)) (Oa := fun j => Oa (j + 1)) put (fun a z q => hd a z ((sW a).mpr (.inr q))) (c.tail.weak fun a z => z.elim (fun z => .inl (.inl z)) fun z => (weq a z).elim (fun z => .inl (.inr z)) .inr) ok' (fun j hj => by rw [List.length_set]; exact il' j hj)
          refine ⟨Os', h1, fun a z => ?_, fun z => by cases z⟩
          rcases h2 a z with z | z
          · exact (weq a z).imp id fun z => (sW a).mpr (.inl z)
          · exact .inr ((sW a).mpr (.inr z))

theorem refs_some {as : List Arg} {ρ : VEnv} (hs : ∀ (i : Nat) (v : Val), ρ[i]? = some (some v) → ∃ x, σ[i]? = some (some x)) (ok : refsOk ρ as = true) : refsOk (σ.map fun o => o.map fun _ => Val.non) as = true := by
  induction as with
  | nil => rfl
  | cons a as ih =>
    cases a with
    | v o => exact ih ok
    | k x u => exact ih ok
    | r i =>
      simp only [refsOk, Bool.and_eq_true] at ok ⊢
      refine ⟨?_, ih ok.2⟩
      have o1 := ok.1
      unfold slotOk at o1 ⊢
      split at o1
      · rename_i v hv
        obtain ⟨x, hx⟩ := hs i v hv
        rw [List.getElem?_map, hx]
        rfl
      · cases o1
theorem refs_lt {as : List Arg} {ρ : VEnv} (ok : refsOk ρ as = true) : ∀ i, Arg.r i ∈ as → i < ρ.length := by
  induction as with
  | nil => intro i h; cases h
  | cons a as ih =>
    intro i h
    cases a with
    | v o => rcases List.mem_cons.mp h with z | z
             · cases z
             · exact ih ok i z
    | k x u => rcases List.mem_cons.mp h with z | z
               · cases z
               · exact ih ok i z
    | r j =>
      simp only [refsOk, Bool.and_eq_true] at ok
      rcases List.mem_cons.mp h with z | z
      · cases z
        have o1 := ok.1
        unfold slotOk at o1
        split at o1
        · rename_i v hv
          exact (List.getElem?_eq_some_iff.mp hv).1
        · cases o1
      · exact ih ok.2 i z
theorem fill_len : ∀ {as : List Arg} {ρ ρ' : VEnv} {vs us : List Val}, fill as ρ vs = some (us, ρ') → us.length = as.length ∧ ρ'.length = ρ.length
  | [], ρ, ρ', vs, us, h => by
    cases vs with
    | nil => simp only [fill, Option.some.injEq, Prod.mk.injEq] at h; obtain ⟨rfl, rfl⟩ := h; exact ⟨rfl, rfl⟩
    | cons v vs => simp [fill] at h
  | .v o :: as, ρ, ρ', vs, us, h => by
    cases vs with
    | nil => simp [fill] at h
    | cons v vs =>
      simp only [fill] at h
      cases hf : fill as ρ vs with
      | none => rw [hf] at h; cases h
      | some p => obtain ⟨a, b⟩ := p; rw [hf] at h; simp only [Option.some.injEq, Prod.mk.injEq] at h; obtain ⟨rfl, rfl⟩ := h; obtain ⟨h1, h2⟩ := fill_len hf; exact ⟨by simp [h1], h2⟩
  | .k x u :: as, ρ, ρ', vs, us, h => by
    simp only [fill] at h
    cases hf : fill as ρ vs with
    | none => rw [hf] at h; cases h
    | some p => obtain ⟨a, b⟩ := p; rw [hf] at h; simp only [Option.some.injEq, Prod.mk.injEq] at h; obtain ⟨rfl, rfl⟩ := h; obtain ⟨h1, h2⟩ := fill_len hf; exact ⟨by simp [h1], h2⟩
  | .r i :: as, ρ, ρ', vs, us, h => by
    simp only [fill] at h
    cases hv : ρ[i]? with
    | none => rw [hv] at h; cases h
    | some q =>
      cases q with
      | none => rw [hv] at h; cases h
      | some v =>
        rw [hv] at h
        dsimp only at h
        cases hf : fill as (ρ.set i none) vs with
        | none => rw [hf] at h; cases h
        | some p => obtain ⟨a, b⟩ := p; rw [hf] at h; simp only [Option.some.injEq, Prod.mk.injEq] at h; obtain ⟨rfl, rfl⟩ := h; obtain ⟨h1, h2⟩ := fill_len hf; exact ⟨by simp [h1], by simpa using h2⟩
theorem argsP_iff : ∀ {as : List Arg}, argsP as = true → noRefs as = true ∧ (vals as).all (·.p) = true
  | [], _ => ⟨rfl, rfl⟩
  | .v o :: as, h => by
    simp only [argsP, Bool.and_eq_true] at h
    obtain ⟨h1, h2⟩ := argsP_iff h.2
    exact ⟨h1, by simp [vals, h.1, h2]⟩
  | .k x u :: as, h => argsP_iff (as := as) h
  | .r i :: as, h => by cases h
/-- THE CALL -/
theorem call_of {as : List Arg} {mf : MF} (df : Dfl G as) (hs : (vals as).all (·.s) = true) {H : Hp} {Q : VK} {n : Nat} (hn : as.length = n) (h : rd G E (argsP as) true (mCall mf as) σ H Q) : nestG G E as σ H (fun xs H1 => spV G n mf xs H1 Q (WE E σ)) := by
  obtain ⟨R, ρ, Os, rel, post⟩ := h
  unfold mCall at post
  by_cases ok : refsOk ρ as = true
  rotate_left
  · rw [if_neg ok] at post; exact post.elim
  rw [if_pos ok] at post
  refine nestG_of (ρ := ρ) (fun i v hv => let ⟨x, hx, _⟩ := rel.rep i v hv; ⟨x, hx⟩) ok (nest_of (wf_all hs) rel ?_)
  rw [evalA_eq]
  cases he : evalM ((vals as).map Op.m) ρ with
  | bad => rw [he] at post; exact post
  | exc e ρ' => rw [he] at post; exact post
  | ok vs ρ1 =>
    rw [he] at post
    dsimp only at post
    cases hf : fill as ρ1 vs with
    | none => rw [hf] at post; exact post.elim
    | some q =>
      obtain ⟨us, ρ2⟩ := q
      rw [hf] at post
      dsimp only at post
      intro xs H1 Os1 Ol rel1 reps nd1 keep1 pure1
      have hlen := reps.len
      have hv := evalM_len he
      rw [List.length_map] at hv
      have es := stab_all hs (hv.symm.trans hlen.2)
      rw [es] at rel1 nd1 reps keep1
      have hnr : ∀ a ∈ Ol.flatten, ¬ R a := fun a ha z => by
        obtain ⟨o, e⟩ := rel.rt a z
        obtain ⟨_, _, n⟩ := keep1 a o e (rel.nr z)
        exact n ha
      obtain ⟨Os2, Ul, held, eqv, nrf⟩ := Held.fill df ⟨rel1, reps, nd1, hnr⟩ hf
      have view := held.view
      have wf : ∀ a, We (fun j => Ul.getD j []) a ↔ a ∈ Ul.flatten := fun a => ⟨fun ⟨i, z⟩ => flat_get z, fun z => get_flat z⟩
      have mlen : (merge σ as xs).length = n := by
        have := held.rep.len.1
        rw [this, (fill_len hf).1, hn]
      refine ⟨mlen, fun a => R a ∨ We Os2 a, us, fun j => Ul.getD j [], view, ?_⟩
      have okσ : refsOk (σ.map fun o => o.map fun _ => Val.non) as = true := refs_some (fun i v hv => let ⟨x, hx, _⟩ := rel.rep i v hv; ⟨x, hx⟩) ok
      have il : ∀ i, Arg.r i ∈ as → i < ρ2.length := fun i hi => by
        have l1 := rel.len
        have l2 := held.rel.len
        rw [← l2, l1]
        exact refs_lt ok i hi
      /- behind the callee: the caller's names, O what is left over -/
      have after : ∀ {O : List Addr} {s : Bool} {H2 : Hp} {Oa2 : Nat → List Addr} {fs : VEnv}, Rel G (Rp (fun a => R a ∨ We Os2 a) s O) H2 ((merge σ as xs).map some) fs Oa2 → KeepE H1 (fun j => Ul.getD j []) H2 Oa2 (fun a => s = true ∧ a ∈ O) →
          ∃ Os3, Rel G (Rp R s O) H2 σ (back as fs ρ2) Os3 ∧ (∀ a, We Os3 a → We Os2 a ∨ We Oa2 a) ∧ (noRefs as = true → back as fs ρ2 = ρ2 ∧ Os3 = Os2) ∧ KeepE H Os H2 Os3 (fun a => s = true ∧ a ∈ O) := by
        intro O s H2 Oa2 fs rel2 k2
        have nWe2 : ∀ a, We Os2 a → ¬ We (fun j => Ul.getD j []) a := fun a z q => view.nr (.inr z) q
        have kept : ∀ a o, H1 a = some o → ¬ a ∈ Ul.flatten → H2 a = some o ∧ ¬ We Oa2 a ∧ ¬ (s = true ∧ a ∈ O) := fun a o e nw => k2 a o e fun z => nw ((wf a).mp z)
        have relC : Rel G (fun a => Rp R s O a ∨ We Oa2 a) H2 σ ρ2 Os2 := by
          have hr := held.rel
          refine ⟨hr.len, fun i v hv => ?_, hr.nil, hr.nd, hr.dj, fun i a ha z => ?_, fun a z => ?_⟩
          · obtain ⟨x, hx, r⟩ := hr.rep i v hv
            refine ⟨x, hx, r.mono (fun a o e nw => ?_) fun a ha o e => (kept a o e fun z => hr.dr i a ha (.inr z)).1⟩
            obtain ⟨e2, n1, n2⟩ := kept a o e fun z => nw (.inl (.inr z))
            refine ⟨e2, fun z => ?_⟩
            rcases z with ((z | z) | z) | z
            · exact nw (.inl (.inl z))
            · exact n2 z
            · exact n1 z
            · exact nw (.inr z)
          · obtain ⟨o, e⟩ := hr.there a ha
            obtain ⟨_, n1, n2⟩ := kept a o e fun z => hr.dr i a ha (.inr z)
            rcases z with (z | z) | z
            · exact hr.dr i a ha (.inl z)
            · exact n2 z
            · exact n1 z
          · rcases z with (z | z) | z
            · exact rel2.rt a (.inl (.inl z))
            · exact rel2.rt a (.inr z)
            · exact rel2.we z
        have rel2' : Rel G (fun a => Rp R s O a ∨ We Os2 a) H2 ((merge σ as xs).map some ++ []) fs Oa2 := by
          rw [List.append_nil]
          exact rel2.weak fun a z => by
            rcases z with (z | z) | z
            · exact .inl (.inl z)
            · exact .inr z
            · exact .inl (.inr z)
        obtain ⟨Os3, r3, w3, n3⟩ := back_of (as := as) relC (fun a z q => by
          rcases z with z | z
          · exact rel2.nr (.inl (.inl z)) q
          · exact rel2.nr (.inr z) q) rel2' okσ il
        refine ⟨Os3, r3, w3, n3, fun a o e nw => ?_⟩
        obtain ⟨e1, m1, m2⟩ := keep1 a o e nw
        have m3 : ¬ (We Os2 a ∨ a ∈ Ul.flatten) := fun z => ((eqv a).mp z).elim m1 m2
        obtain ⟨e2, m4, m5⟩ := kept a o e1 fun z => m3 (.inr z)
        exact ⟨e2, fun z => (w3 a z).elim (fun z => m3 (.inl z)) m4, m5⟩
      cases hm : mf us with
      | bad => rw [hm] at post; exact post
      | exc e fs =>
        rw [hm] at post
        intro c d H2 Oa2 rel2 rx k2
        have e0 : Rp (fun a => R a ∨ We Os2 a) false [] = fun a => R a ∨ We Os2 a := setEq fun a => ⟨fun z => z.elim id (fun z => by cases z.1), .inl⟩
        have e1 : Rp R false [] = R := setEq fun a => ⟨fun z => z.elim id (fun z => by cases z.1), .inl⟩
        obtain ⟨Os3, r3, w3, n3, k3⟩ := after (s := false) (O := []) (by rw [e0]; exact rel2) (k2.imp fun a z => by cases z.1)
        rw [e1] at r3
        refine post c d H2 Os3 r3 (rx.mono fun a o e nw => ⟨e, fun z => nw ?_⟩) (k3.imp fun _ z => z.elim)
        rcases z with z | z
        · exact .inl (.inl z)
        · exact (w3 a z).elim (fun z => .inl (.inr z)) .inr
      | ok v fs =>
        rw [hm] at post
        intro x H2 Oa2 O rel2 rep2 nd2 k2 _
        obtain ⟨Os3, r3, w3, n3, k3⟩ := after rel2 k2
        refine post x H2 Os3 O r3 (rep2.mono (fun a o e nw => ⟨e, fun z => nw ?_⟩) fun _ _ _ e => e) nd2 k3 fun hp => ?_
        · rcases z with (z | z) | z
          · exact .inl (.inl (.inl z))
          · exact .inl (.inr z)
          · exact (w3 a z).elim (fun z => .inl (.inl (.inr z))) .inr
        · obtain ⟨p1, p2⟩ := argsP_iff hp
          obtain ⟨a1, a2, a3⟩ := pure1 p2
          obtain ⟨b1, b2⟩ := nrf p1
          obtain ⟨c1, c2⟩ := n3 p1
          refine ⟨c1.trans (b1.trans a1), c2.trans (b2.trans a2), fun a o e => ?_⟩
          have e1 := a3 a o e
          have hno : ¬ We (fun j => Ul.getD j []) a := fun z => by
            have z' := (wf a).mp z
            by_cases q : We Os a
            · exact held.rel.nr (.inr z') (by rw [b2, a2]; exact q)
            · obtain ⟨_, m1, m2⟩ := keep1 a o e q
              exact ((eqv a).mp (.inr z')).elim m1 m2
          exact (k2 a o e1 hno).1
end
end VL
/-! VL, part J: statements as functions on the names' trees; loops; targets. -/
namespace VL
open PySem L2

inductive RS where
  | nx (ρ : VEnv) | rt (v : Val) (ρ : VEnv) | bk (ρ : VEnv) | ct (ρ : VEnv) | exc (e : Exc) (ρ : VEnv) | bad
abbrev MS := VEnv → RS
/-- the parameters that a call hands over as names are never set anew -/
def PinB (bs : List Bool) (σ0 σ : L2.St) : Prop := ∀ j : Nat, bs[j]? = some true → σ[j]? = σ0[j]?
theorem PinB.set {bs : List Bool} {σ0 σ : L2.St} (p : PinB bs σ0 σ) {i : Nat} {x : Option V} (h : bs[i]? ≠ some true) : PinB bs σ0 (σ.set i x) := fun j hj => by
  by_cases e : i = j
  · subst e; exact absurd hj h
  · rw [List.getElem?_set_ne e]; exact p j hj
def PostS (G : Gam) (R : Addr → Prop) (E : WX) (D : Ends) (bs : List Bool) (σ0 : L2.St) (H : Hp) (Os : Nat → List Addr) : RS → Prop
  | .nx ρ' => ∀ σ' H' Os', PinB bs σ0 σ' → Rel G R H' σ' ρ' Os' → KeepE H Os H' Os' (fun _ => False) → D.nx σ' H'
  | .bk ρ' => ∀ σ' H' Os', PinB bs σ0 σ' → Rel G R H' σ' ρ' Os' → KeepE H Os H' Os' (fun _ => False) → D.bk σ' H'
  | .ct ρ' => ∀ σ' H' Os', PinB bs σ0 σ' → Rel G R H' σ' ρ' Os' → KeepE H Os H' Os' (fun _ => False) → D.ct σ' H'
  | .rt v ρ' => ∀ x σ' H' Os' O, PinB bs σ0 σ' → Rel G (Rp R true O) H' σ' ρ' Os' → Rep G (WW (Rp R true O) Os') H' x v O → O.Nodup → KeepE H Os H' Os' (fun a => true = true ∧ a ∈ O) → D.rt x H'
  | .exc e ρ' => ∀ c d σ' H' Os', PinB bs σ0 σ' → Rel G R H' σ' ρ' Os' → RepX G (WW R Os') H' c d e → KeepE H Os H' Os' (fun _ => False) → E c d σ' H'
  | .bad => False
def tS (G : Gam) (E : WX) (bs : List Bool) (σ0 : L2.St) (m : MS) : TS := fun D σ H => ∃ R ρ Os, Rel G R H σ ρ Os ∧ PinB bs σ0 σ ∧ PostS G R E D bs σ0 H Os (m ρ)
def VS (G : Gam) (X : Cx) (E : WX) (bs : List Bool) (σ0 : L2.St) (st : Stmt) (m : MS) : Prop := PS X st (tS G E bs σ0 m)
def VSs (G : Gam) (X : Cx) (E : WX) (bs : List Bool) (σ0 : L2.St) (st : List Stmt) (m : MS) : Prop := PSs X st (tS G E bs σ0 m)

def mNext : MS := fun ρ => .nx ρ
def mSeq (m1 m2 : MS) : MS := fun ρ => match m1 ρ with
  | .nx ρ' => m2 ρ'
  | r => r
def mDrop (m : ME) : MS := fun ρ => match m ρ with
  | .ok _ ρ' => .nx ρ'
  | .exc e ρ' => .exc e ρ'
  | .bad => .bad
def mRet (m : ME) : MS := fun ρ => match m ρ with
  | .ok v ρ' => .rt v ρ'
  | .exc e ρ' => .exc e ρ'
  | .bad => .bad
def mRetN : MS := fun ρ => .rt .non ρ
def mBrk : MS := fun ρ => .bk ρ
def mCnt : MS := fun ρ => .ct ρ
def mNever : MS := fun _ => .bad
def mIfS (c : ME) (a b : MS) : MS := fun ρ => match c ρ with
  | .ok (.bl t) ρ' => if t = true then a ρ' else b ρ'
  | .ok _ _ => .bad
  | .exc e ρ' => .exc e ρ'
  | .bad => .bad
def mSet (i : Nat) (m : ME) : MS := fun ρ => match m ρ with
  | .ok v ρ' => if i < ρ'.length then .nx (ρ'.set i (some v)) else .bad
  | .exc e ρ' => .exc e ρ'
  | .bad => .bad

section
variable {G : Gam} {R : Addr → Prop} {E : WX} {D : Ends} {bs : List Bool} {σ0 σ : L2.St} {H H1 : Hp} {Os Os1 : Nat → List Addr} {ρ ρ1 : VEnv}
theorem PostS.later {r : RS} (post : PostS G R E D bs σ0 H Os r) (k : KeepE H Os H1 Os1 fun _ => False) : PostS G R E D bs σ0 H1 Os1 r := by
  cases r with
  | bad => exact post
  | nx ρ' => exact fun σ' H' Os' p r q => post σ' H' Os' p r (k.trans q)
  | bk ρ' => exact fun σ' H' Os' p r q => post σ' H' Os' p r (k.trans q)
  | ct ρ' => exact fun σ' H' Os' p r q => post σ' H' Os' p r (k.trans q)
  | rt v ρ' => exact fun x σ' H' Os' O p r rx nd q => post x σ' H' Os' O p r rx nd (k.trans q)
  | exc e ρ' => exact fun c d σ' H' Os' p r rx q => post c d σ' H' Os' p r rx (k.trans q)
theorem PostS.ends {D' : Ends} {r : RS} (post : PostS G R E D bs σ0 H Os r) (h1 : ∀ ρ', r = .nx ρ' → PostS G R E D bs σ0 H Os (.nx ρ') → PostS G R E D' bs σ0 H Os (.nx ρ')) (h2 : D'.rt = D.rt) (h3 : ∀ ρ', r = .bk ρ' → PostS G R E D bs σ0 H Os (.bk ρ') → PostS G R E D' bs σ0 H Os (.bk ρ'))
    (h4 : ∀ ρ', r = .ct ρ' → PostS G R E D bs σ0 H Os (.ct ρ') → PostS G R E D' bs σ0 H Os (.ct ρ')) : PostS G R E D' bs σ0 H Os r := by
  cases r with
  | bad => exact post
  | nx ρ' => exact h1 _ rfl post
  | bk ρ' => exact h3 _ rfl post
  | ct ρ' => exact h4 _ rfl post
  | rt v ρ' => intro x σ' H' Os' O p r rx nd q; rw [h2]; exact post x σ' H' Os' O p r rx nd q
  | exc e ρ' => exact post
end
section
variable {G : Gam} {X : Cx} {E : WX} {bs : List Bool} {σ0 : L2.St} {e a b c : Expr} {st : Stmt} {rest s1 s2 : List Stmt} {pos : Pos} {p s : Bool} {m : ME} {m1 m2 : MS}
theorem vss_nil : VSs G X E bs σ0 [] mNext := PSs.pre pss_nil fun D σ H ⟨R, ρ, Os, rel, pin, post⟩ => post σ H Os pin rel KeepE.refl
theorem vss_one (h : VS G X E bs σ0 st m1) : VSs G X E bs σ0 [st] m1 := pss_one h
theorem vss_cons (h1 : VS G X E bs σ0 st m1) (h2 : VSs G X E bs σ0 rest m2) : VSs G X E bs σ0 (st :: rest) (mSeq m1 m2) := by
  refine PSs.pre (pss_cons h1 h2) fun D σ H ⟨R, ρ, Os, rel, pin, post⟩ => ⟨R, ρ, Os, rel, pin, ?_⟩
  unfold mSeq at post
  cases hm : m1 ρ with
  | nx ρ' => rw [hm] at post; exact fun σ' H' Os' p r k => ⟨R, ρ', Os', r, p, post.later k⟩
  | bad => rw [hm] at post; exact post
  | bk ρ' => rw [hm] at post; exact post
  | ct ρ' => rw [hm] at post; exact post
  | rt v ρ' => rw [hm] at post; exact post
  | exc e ρ' => rw [hm] at post; exact post
theorem vs_pass : VS G X E bs σ0 (.Pass pos) mNext := PS.pre ps_pass fun D σ H ⟨R, ρ, Os, rel, pin, post⟩ => post σ H Os pin rel KeepE.refl
theorem vs_doc {x j pos pos'} : VS G X E bs σ0 (.Expr (.Constant (.str x) j pos) pos') mNext := PS.pre ps_doc fun D σ H ⟨R, ρ, Os, rel, pin, post⟩ => post σ H Os pin rel KeepE.refl
theorem vs_break : VS G X E bs σ0 (.Break pos) mBrk := PS.pre ps_break fun D σ H ⟨R, ρ, Os, rel, pin, post⟩ => post σ H Os pin rel KeepE.refl
theorem vs_continue : VS G X E bs σ0 (.Continue pos) mCnt := PS.pre ps_continue fun D σ H ⟨R, ρ, Os, rel, pin, post⟩ => post σ H Os pin rel KeepE.refl
theorem vs_never : VS G X E bs σ0 st mNever := PS.pre ps_never fun D σ H ⟨R, ρ, Os, rel, pin, post⟩ => post
theorem vss_never : VSs G X E bs σ0 rest mNever := PSs.pre pss_never fun D σ H ⟨R, ρ, Os, rel, pin, post⟩ => post
theorem vs_retN : VS G X E bs σ0 (.Return none pos) mRetN := PS.pre ps_retN fun D σ H ⟨R, ρ, Os, rel, pin, post⟩ =>
  post .non σ H Os [] pin (rel.weak fun a z => z.elim id fun z => nomatch z.2) .non List.nodup_nil (KeepE.refl.imp fun a z => nomatch z.2)
/-- an expression's post, by what is wanted behind it -/
theorem PostS.post {R : Addr → Prop} {D : Ends} {σ : L2.St} {H : Hp} {Os : Nat → List Addr} {ρ : VEnv} {r : RE} {Q : VK} {f : Val → VEnv → RS} (pin : PinB bs σ0 σ)
    (post : PostS G R E D bs σ0 H Os (match (generalizing := false) r with | .ok v ρ' => f v ρ' | .exc e ρ' => .exc e ρ' | .bad => .bad))
    (h : ∀ v ρ' x H' Os' O, r = .ok v ρ' → PostS G R E D bs σ0 H Os (f v ρ') → Rel G (Rp R s O) H' σ ρ' Os' → Rep G (WW (Rp R s O) Os') H' x v O → (s = true → O.Nodup) → KeepE H Os H' Os' (fun a => s = true ∧ a ∈ O) → Q x H') : Post G R E σ H Os p s ρ Q r := by
  cases r with
  | bad => exact post
  | exc e ρ' => exact fun c d H' Os' rel rx k => post c d σ H' Os' pin rel rx k
  | ok v ρ' => exact fun x H' Os' O rel rep nd k _ => h v ρ' x H' Os' O rfl post rel rep nd k
theorem vs_expr (he : VE G X E p s e m) (hs : swapsWith e none pos.line X.env = pure false := by rfl) : VS G X E bs σ0 (.Expr e pos) (mDrop m) := by
  refine PS.pre (ps_expr he hs) fun D σ H ⟨R, ρ, Os, rel, pin, post⟩ => ⟨R, ρ, Os, rel, ?_⟩
  refine PostS.post (f := fun _ ρ' => .nx ρ') pin post fun v ρ' x H' Os' O _ post rel rep nd k => ?_
  exact post σ H' Os' pin (rel.weak fun a z => .inl z) (k.imp fun _ z => z.elim)
theorem vs_ret (he : VE G X E p true e m) : VS G X E bs σ0 (.Return (some e) pos) (mRet m) := by
  refine PS.pre (ps_ret he) fun D σ H ⟨R, ρ, Os, rel, pin, post⟩ => ⟨R, ρ, Os, rel, ?_⟩
  exact PostS.post (f := fun v ρ' => .rt v ρ') pin post fun v ρ' x H' Os' O _ post rel rep nd k => post x σ H' Os' O pin rel rep (nd rfl) k
theorem vs_if (hc : VT G X E p c m) (ha : VSs G X E bs σ0 s1 m1) (hb : VSs G X E bs σ0 s2 m2) : VS G X E bs σ0 (.If c s1 s2 pos) (mIfS m m1 m2) := by
  refine PS.pre (ps_if hc ha hb) fun D σ H ⟨R, ρ, Os, rel, pin, post⟩ => ⟨R, ρ, Os, rel, ?_⟩
  unfold mIfS at post
  cases hm : m ρ with
  | bad => rw [hm] at post; exact post
  | exc e ρ' => rw [hm] at post; exact fun c d H' Os' rel rx k => post c d σ H' Os' pin rel rx k
  | ok v ρ' =>
    rw [hm] at post
    cases v with
    | bl t =>
      intro H' Os' rel k _
      cases t with
      | true => exact ⟨R, ρ', Os', rel, pin, PostS.later post k⟩
      | false => exact ⟨R, ρ', Os', rel, pin, PostS.later post k⟩
    | _ => exact post.elim
/-- a name set: the names' trees -/
theorem set_of {R : Addr → Prop} {D : Ends} {σ : L2.St} {H H' : Hp} {Os Os' : Nat → List Addr} {ρ' : VEnv} {x : V} {v : Val} {O : List Addr} {i : Nat} (relH : Rel G R H σ ρ' Os ∨ True) (hr : ∀ a, R a → ∃ o, H a = some o ∧ ¬ We Os a) (rel : Rel G (Rp R true O) H' σ ρ' Os') (rep : Rep G (WW (Rp R true O) Os') H' x v O) (nd : O.Nodup) (k : KeepE H Os H' Os' (fun a => true = true ∧ a ∈ O)) (hi : i < ρ'.length) :
    ∃ Os2, Rel G R H' (σ.set i (some x)) (ρ'.set i (some v)) Os2 ∧ KeepE H Os H' Os2 (fun _ => False) := by
  have e0 : Rp R true O = fun a => R a ∨ a ∈ O := setEq fun a => ⟨fun z => z.imp id fun z => z.2, fun z => z.imp id fun z => ⟨rfl, z⟩⟩
  rw [e0] at rel rep
  refine ⟨_, rel.put rep nd hi (fun a ha z => ?_), fun a o e nw => ?_⟩
  · obtain ⟨o, e, nw⟩ := hr a z
    exact (k a o e nw).2.2 ⟨rfl, ha⟩
  · obtain ⟨e1, n1, n2⟩ := k a o e nw
    refine ⟨e1, fun ⟨j, z⟩ => ?_, id⟩
    by_cases hj : j = i
    · simp only [hj, if_true] at z; exact n2 ⟨rfl, z⟩
    · simp only [hj, if_false] at z; exact n1 ⟨j, z⟩
theorem Rel.hr {R : Addr → Prop} {σ : L2.St} {H : Hp} {Os : Nat → List Addr} {ρ : VEnv} (rel : Rel G R H σ ρ Os) : ∀ a, R a → ∃ o, H a = some o ∧ ¬ We Os a := fun a z => let ⟨o, e⟩ := rel.rt a z; ⟨o, e, rel.nr z⟩
theorem vs_set {i : Nat} {x : Str} {pos' : Pos} (hN : X.N.Nodup) (hi : X.N[i]? = some x) (hx : Loc X.env.scope x) (he : VE G X E p true e m) (hb : bs[i]? ≠ some true := by decide) (hs : swapsWith e (some (.Name x pos')) pos.line X.env = pure false := by rfl)
    (hf : X.fn x = true ∨ X.env.scope.names.lookup x = some .local := by first | exact .inl rfl | exact .inr rfl | assumption) : VS G X E bs σ0 (.Assign [.Name x pos'] e pos) (mSet i m) := by
  refine PS.pre (ps_set hN hi hx he hs hf) fun D σ H ⟨R, ρ, Os, rel, pin, post⟩ => ⟨R, ρ, Os, rel, ?_⟩
  refine PostS.post (s := true) (f := fun v ρ' => if i < ρ'.length then .nx (ρ'.set i (some v)) else .bad) pin post fun v ρ' x H' Os' O _ post rel' rep nd k => ?_
  by_cases hi' : i < ρ'.length
  · rw [if_pos hi'] at post
    obtain ⟨Os2, r2, k2⟩ := set_of (D := D) (.inr trivial) rel.hr rel' rep (nd rfl) k hi'
    exact post _ _ Os2 (pin.set hb) r2 k2
  · rw [if_neg hi'] at post
    exact post.elim

/-! ### targets -/
/-- a target: what it does to the names' trees -/
abbrev MG := Val → VEnv → Option VEnv
abbrev MGs := List Val → VEnv → Option VEnv
/-- what is there ahead of a store: v's own addresses O -/
def tG (G : Gam) (bs : List Bool) (σ0 : L2.St) (g : MG) : TG := fun x σ H Q => ∃ R ρ Os v O, Rel G (fun a => R a ∨ a ∈ O) H σ ρ Os ∧ Rep G (WW (fun a => R a ∨ a ∈ O) Os) H x v O ∧ O.Nodup ∧ (∀ a ∈ O, ¬ R a) ∧ PinB bs σ0 σ ∧
  (match g v ρ with
    | some ρ' => ∀ σ' Os', PinB bs σ0 σ' → σ'.length = σ.length → Rel G R H σ' ρ' Os' → (∀ a, We Os' a → We Os a ∨ a ∈ O) → Q σ' H
    | none => False)
def tGs (G : Gam) (bs : List Bool) (σ0 : L2.St) (g : MGs) : TGs := fun xs σ H Q => ∃ R ρ Os vs O, Rel G (fun a => R a ∨ a ∈ O) H σ ρ Os ∧ Reps G (WW (fun a => R a ∨ a ∈ O) Os) H xs vs O ∧ O.Nodup ∧ (∀ a ∈ O, ¬ R a) ∧ PinB bs σ0 σ ∧
  (match g vs ρ with
    | some ρ' => ∀ σ' Os', PinB bs σ0 σ' → σ'.length = σ.length → Rel G R H σ' ρ' Os' → (∀ a, We Os' a → We Os a ∨ a ∈ O) → Q σ' H
    | none => False)
def VG (G : Gam) (X : Cx) (bs : List Bool) (σ0 : L2.St) (tg : Expr) (g : MG) : Prop := PG X tg (tG G bs σ0 g)
def VGs (G : Gam) (X : Cx) (bs : List Bool) (σ0 : L2.St) (tg : List Expr) (g : MGs) : Prop := PGs X tg (tGs G bs σ0 g)
theorem PG.pre {X : Cx} {e : Expr} {t t' : TG} (h : PG X e t) (k : ∀ v σ H Q, t' v σ H Q → t v σ H Q) : PG X e t' := ⟨fun pins s σ H v u Q I r q => h.run pins s σ H v u Q I r (k v σ H Q q)⟩
theorem PGs.pre {X : Cx} {e : List Expr} {t t' : TGs} (h : PGs X e t) (k : ∀ v σ H Q, t' v σ H Q → t v σ H Q) : PGs X e t' := ⟨fun pins s σ H v u Q I r q => h.run pins s σ H v u Q I r (k v σ H Q q)⟩
def gV (i : Nat) : MG := fun v ρ => if i < ρ.length then some (ρ.set i (some v)) else none
def gTupV (g : MGs) (n : Nat) : MG := fun v ρ => match v with
  | .tup vs => if vs.length = n then g vs ρ else none
  | .wtp vs => if vs.length = n then g vs ρ else none
  | _ => none
def gNilV : MGs := fun vs ρ => match vs with
  | [] => some ρ
  | _ => none
def gConsV (g : MG) (gs : MGs) : MGs := fun vs ρ => match vs with
  | v :: vs => (match g v ρ with
    | some ρ' => gs vs ρ'
    | none => none)
  | [] => none
theorem vg_name {i : Nat} {x : Str} (hN : X.N.Nodup) (hi : X.N[i]? = some x) (hx : Loc X.env.scope x) (hb : bs[i]? ≠ some true := by decide) (hf : X.fn x = true ∨ X.env.scope.names.lookup x = some .local := by first | exact .inl rfl | exact .inr rfl | assumption) : VG G X bs σ0 (.Name x pos) (gV i) := by
  refine PG.pre (pg_name hN hi hx hf) fun x σ H Q ⟨R, ρ, Os, v, O, rel, rep, nd, nr, pin, post⟩ => ?_
  unfold gV at post
  by_cases hi' : i < ρ.length
  · rw [if_pos hi'] at post
    refine post _ _ (pin.set hb) (by rw [List.length_set]) (rel.put rep nd hi' nr) fun a ⟨j, z⟩ => ?_
    by_cases hj : j = i
    · simp only [hj, if_true] at z; exact .inr z
    · simp only [hj, if_false] at z; exact .inl ⟨j, z⟩
  · rw [if_neg hi'] at post
    exact post.elim
theorem vgs_nil : VGs G X bs σ0 [] gNilV := by
  refine PGs.pre pgs_nil fun xs σ H Q ⟨R, ρ, Os, vs, O, rel, reps, nd, nr, pin, post⟩ => ?_
  unfold gNilV at post
  cases vs with
  | cons v vs => exact post.elim
  | nil =>
    cases reps
    exact ⟨rfl, post σ Os pin rfl (rel.weak fun a z => .inl z) fun a z => .inl z⟩
theorem vgs_cons {es : List Expr} {g : MG} {gs : MGs} (h1 : VG G X bs σ0 e g) (h2 : VGs G X bs σ0 es gs) (hs : (assignEach (e :: es) X.env).map (·.2) = assign e X.env :: (assignEach es X.env).map (·.2) := by rfl) : VGs G X bs σ0 (e :: es) (gConsV g gs) := by
  refine PGs.pre (pgs_cons h1 h2 hs) fun xs σ H Q ⟨R, ρ, Os, vs, O, rel, reps, nd, nr, pin, post⟩ => ?_
  unfold gConsV at post
  cases vs with
  | nil => exact post.elim
  | cons v vs =>
    dsimp only at post
    cases reps with
    | @cons x _ xs' _ O1 O2 r t =>
      obtain ⟨n1, n2, n3⟩ := List.nodup_append.mp nd
      have s1 : (fun a => R a ∨ a ∈ O1 ++ O2) = fun a => (R a ∨ a ∈ O2) ∨ a ∈ O1 := setEq fun a => by
        rw [List.mem_append]
        constructor
        · rintro (z | z | z)
          · exact .inl (.inl z)
          · exact .inr z
          · exact .inl (.inr z)
        · rintro ((z | z) | z)
          · exact .inl z
          · exact .inr (.inr z)
          · exact .inr (.inl z)
      rw [s1] at rel r t
      refine ⟨x, xs', rfl, fun a => R a ∨ a ∈ O2, ρ, Os, v, O1, rel, r, n1, fun a ha z => z.elim (nr a (List.mem_append_left _ ha)) fun z => n3 a ha a z rfl, pin, ?_⟩
      cases hg : g v ρ with
      | none => rw [hg] at post; exact post
      | some ρ' =>
        rw [hg] at post
        dsimp only at post
        intro σ' Os' pin' hl' rel' we'
        have hw : ∀ a, WW (fun a => R a ∨ a ∈ O2) Os' a → WW (fun a => (R a ∨ a ∈ O2) ∨ a ∈ O1) Os a := fun a z => by
          rcases z with z | z
          · exact .inl (.inl z)
          · exact (we' a z).elim .inr fun z => .inl (.inr z)
        refine ⟨R, ρ', Os', vs, O2, rel', t.mono (fun a o e nw => ⟨e, fun z => nw (hw a z)⟩) fun _ _ _ e => e, n2, fun a ha => nr a (List.mem_append_right _ ha), pin', ?_⟩
        cases hgs : gs vs ρ' with
        | none => rw [hgs] at post; exact post
        | some ρ2 =>
          rw [hgs] at post
          intro σ2 Os2 p2 l2 r2 w2
          refine post σ2 Os2 p2 (l2.trans hl') r2 fun a z => ?_
          rcases w2 a z with z | z
          · exact (we' a z).imp id fun z => List.mem_append_left _ z
          · exact .inr (List.mem_append_right _ z)
theorem vg_tup {es : List Expr} {k : Nat} {gs : MGs} {n : Nat} (hK : X.K = G.K) (hc : X.calm = true) (h : VGs G X bs σ0 es gs) (hn : (assignEach es X.env).length = n := by rfl) (hst : (assignEach es X.env).findIdx? (·.1) = none := by rfl) :
    VG G X bs σ0 (.Tuple es k pos) (gTupV gs n) := by
  refine PG.pre (pg_tup hc h hn hst) fun x σ H Q ⟨R, ρ, Os, v, O, rel, rep, nd, nr, pin, post⟩ => ?_
  unfold gTupV at post
  rw [hK]
  cases v with
  | tup vs =>
    dsimp only at post
    by_cases hl : vs.length = n
    · rw [if_pos hl] at post
      obtain ⟨a, xs, rfl, hq, reps⟩ := rep_tupT rep
      exact ⟨a, xs, rfl, hq, by rw [reps.length]; exact hl, R, ρ, Os, vs, O, rel, reps, nd, nr, pin, post⟩
    · rw [if_neg hl] at post
      exact post.elim
  | wtp vs =>
    dsimp only at post
    by_cases hl : vs.length = n
    · rw [if_pos hl] at post
      obtain ⟨a, xs, rfl, hq, reps⟩ := rep_wtp rep
      cases rep
      exact ⟨a, xs, rfl, hq, by rw [reps.length]; exact hl, R, ρ, Os, vs, [], rel, reps, nd, nr, pin, post⟩
    · rw [if_neg hl] at post
      exact post.elim
  | _ => exact post.elim
/-- target = value -/
def mAsg (m : ME) (g : MG) : MS := fun ρ => match m ρ with
  | .ok v ρ' => (match g v ρ' with
    | some ρ2 => .nx ρ2
    | none => .bad)
  | .exc e ρ' => .exc e ρ'
  | .bad => .bad
theorem tG_of {R : Addr → Prop} {σ : L2.St} {H H' : Hp} {Os Os' : Nat → List Addr} {ρ' : VEnv} {x : V} {v : Val} {O : List Addr} {g : MG} {Q : L2.St → Hp → Prop} (hr : ∀ a, R a → ∃ o, H a = some o ∧ ¬ We Os a) (rel : Rel G (Rp R true O) H' σ ρ' Os') (rep : Rep G (WW (Rp R true O) Os') H' x v O) (nd : O.Nodup)
    (k : KeepE H Os H' Os' (fun a => true = true ∧ a ∈ O)) (pin : PinB bs σ0 σ)
    (h : match g v ρ' with
      | some ρ2 => ∀ σ' Os2, PinB bs σ0 σ' → Rel G R H' σ' ρ2 Os2 → KeepE H Os H' Os2 (fun _ => False) → Q σ' H'
      | none => False) : tG G bs σ0 g x σ H' Q := by
  have e0 : Rp R true O = fun a => R a ∨ a ∈ O := setEq fun a => ⟨fun z => z.imp id fun z => z.2, fun z => z.imp id fun z => ⟨rfl, z⟩⟩
  rw [e0] at rel rep
  refine ⟨R, ρ', Os', v, O, rel, rep, nd, fun a ha z => let ⟨o, e, nw⟩ := hr a z; (k a o e nw).2.2 ⟨rfl, ha⟩, pin, ?_⟩
  cases hg : g v ρ' with
  | none => rw [hg] at h; exact h
  | some ρ2 =>
    rw [hg] at h
    exact fun σ' Os2 p _ r w => h σ' Os2 p r fun a o e nw => let ⟨e1, n1, n2⟩ := k a o e nw; ⟨e1, fun z => (w a z).elim n1 fun z => n2 ⟨rfl, z⟩, id⟩
theorem vs_asg {tg : Expr} {g : MG} (he : VE G X E p true e m) (hg : VG G X bs σ0 tg g) (hs : swapsWithSole [tg] e pos.line X.env = pure false := by rfl) (hw : swappedStores [tg] e X.env = pure none := by rfl) (h1 : (assignEach [tg] X.env).map (·.2) = [assign tg X.env] := by rfl) :
    VS G X E bs σ0 (.Assign [tg] e pos) (mAsg m g) := by
  refine PS.pre (ps_asg he hg hs hw h1) fun D σ H ⟨R, ρ, Os, rel, pin, post⟩ => ⟨R, ρ, Os, rel, ?_⟩
  refine PostS.post (s := true) (f := fun v ρ' => match g v ρ' with
    | some ρ2 => .nx ρ2
    | none => .bad) pin post fun v ρ' x H' Os' O _ post rel' rep nd k => ?_
  refine tG_of rel.hr rel' rep (nd rfl) k pin ?_
  cases hg : g v ρ' with
  | none => rw [hg] at post; exact post
  | some ρ2 => rw [hg] at post; exact fun σ' Os2 p r k => post σ' H' Os2 p r k
end
end VL
/-! VL, part K: a, b = x, y; for, while. -/
namespace VL
open PySem L2

def mPar (i j : Nat) (m1 m2 : ME) : MS := fun ρ => match evalM [m1, m2] ρ with
  | .ok [v, w] ρ' => if i < ρ'.length ∧ j < ρ'.length then .nx ((ρ'.set i (some v)).set j (some w)) else .bad
  | .ok _ _ => .bad
  | .exc e ρ' => .exc e ρ'
  | .bad => .bad
section
variable {G : Gam} {X : Cx} {E : WX} {bs : List Bool} {σ0 : L2.St} {e a b c : Expr} {st : Stmt} {rest s1 s2 : List Stmt} {pos : Pos} {p p1 p2 s : Bool} {m m1' m2' : ME} {m1 m2 : MS}
theorem vs_par {i j : Nat} {x y : Str} {px py pt : Pos} {kt k2 : Nat} {pt2 : Pos} (hc : X.calm = true) (hN : X.N.Nodup) (hi : X.N[i]? = some x) (hj : X.N[j]? = some y) (hij : i ≠ j) (hx : X.env.scope.names.lookup x = some .local) (hy : X.env.scope.names.lookup y = some .local)
    (ha : VE G X E p1 true a m1') (hb : VE G X E p2 true b m2') (hw : swappedStores [.Tuple [.Name x px, .Name y py] kt pt] (.Tuple [a, b] k2 pt2) X.env = pure (some [x, y])) (b1 : bs[i]? ≠ some true := by decide) (b2 : bs[j]? ≠ some true := by decide)
    (hs : swapsWithSole [.Tuple [.Name x px, .Name y py] kt pt] (.Tuple [a, b] k2 pt2) pos.line X.env = pure false := by rfl) (hst : starEach [a, b] X.env = (false, eval a X.env) :: starEach [b] X.env := by rfl) (hst2 : starEach [b] X.env = (false, eval b X.env) :: starEach [] X.env := by rfl) :
    VS G X E bs σ0 (.Assign [.Tuple [.Name x px, .Name y py] kt pt] (.Tuple [a, b] k2 pt2) pos) (mPar i j m1' m2') := by
  refine PS.pre (ps_par hc hN hi hj hij hx hy (pa_cons ha (pa_cons hb pa_nil hst2) hst) hw hs) fun D σ H ⟨R, ρ, Os, rel, pin, post⟩ => ?_
  have key := nest_of (G := G) (E := E) (σ := σ) (os := [⟨p1, true, m1'⟩, ⟨p2, true, m2'⟩]) rfl rel (K := fun vs H1 => ∃ v w, vs = [v, w] ∧ D.nx ((σ.set i (some v)).set j (some w)) H1) ?_
  · exact key
  rw [evalA_eq]
  unfold mPar at post
  simp only [List.map_cons, List.map_nil]
  cases he : evalM [m1', m2'] ρ with
  | bad => rw [he] at post; exact post
  | exc e ρ' => rw [he] at post; exact fun c d H' Os' rel rx k => post c d σ H' Os' pin rel rx k
  | ok vs ρ' =>
    rw [he] at post
    intro xs H1 Os1 Ol rel1 reps nd keep _
    match vs, reps, post with
    | [v, w], reps, post =>
      dsimp only at post
      by_cases hl : i < ρ'.length ∧ j < ρ'.length
      rotate_left
      · rw [if_neg hl] at post; exact post.elim
      rw [if_pos hl] at post
      cases reps with
      | @cons x1 _ O1 _ _ _ r1 t =>
        cases t with
        | @cons x2 _ O2 _ _ _ r2 t2 =>
          cases t2
          refine ⟨x1, x2, rfl, ?_⟩
          have es : stab [⟨p1, true, m1'⟩, ⟨p2, true, m2'⟩] [O1, O2] = O1 ++ (O2 ++ []) := rfl
          rw [es, List.append_nil] at rel1 r1 r2 nd keep
          obtain ⟨n1, n2, n3⟩ := List.nodup_append.mp nd
          have nr : ∀ a ∈ O1 ++ O2, ¬ R a := fun a ha z => let ⟨o, e, nw⟩ := rel.hr a z; (keep a o e nw).2.2 ha
          have s1 : (fun a => R a ∨ a ∈ O1 ++ O2) = fun a => (R a ∨ a ∈ O2) ∨ a ∈ O1 := setEq fun a => by
            rw [List.mem_append]
            constructor
            · rintro (z | z | z)
              · exact .inl (.inl z)
              · exact .inr z
              · exact .inl (.inr z)
            · rintro ((z | z) | z)
              · exact .inl z
              · exact .inr (.inr z)
              · exact .inr (.inl z)
          rw [s1] at rel1 r1 r2
          have q1 := rel1.put r1 n1 hl.1 fun a ha z => z.elim (nr a (List.mem_append_left _ ha)) fun z => n3 a ha a z rfl
          have r2' : Rep G (WW (fun a => R a ∨ a ∈ O2) fun j => if j = i then O1 else Os1 j) H1 x2 w O2 := r2.mono (fun a o e nw => ⟨e, fun z => nw (by
            rcases z with z | ⟨j', z⟩
            · exact .inl (.inl z)
            · by_cases hj' : j' = i
              · simp only [hj', if_true] at z; exact .inl (.inr z)
              · simp only [hj', if_false] at z; exact .inr ⟨j', z⟩)⟩) fun _ _ _ e => e
          have q2 := q1.put r2' n2 (i := j) (by rw [List.length_set]; exact hl.2) fun a ha => nr a (List.mem_append_right _ ha)
          refine post _ H1 _ ((pin.set b1).set b2) q2 fun a o e nw => ?_
          obtain ⟨e1, m1, m2⟩ := keep a o e nw
          refine ⟨e1, fun ⟨j', z⟩ => ?_, id⟩
          by_cases h1 : j' = j
          · simp only [h1, if_true] at z; exact m2 (List.mem_append_right _ z)
          · simp only [h1, if_false] at z
            by_cases h2 : j' = i
            · simp only [h2, if_true] at z; exact m2 (List.mem_append_left _ z)
            · simp only [h2, if_false] at z; exact m1 ⟨j', z⟩

/-! ### what is walked -/
/-- the iterator gives these trees, as long as nothing that nobody may change changes -/
def Walk (G : Gam) (W : Addr → Prop) (H : Hp) (J : It) (us : List Val) : Prop :=
  ∀ W' H', Keep W H W' H' → ∀ i, (us.length ≤ i → J.stop i H') ∧ ∀ u, us[i]? = some u → J.go i H' ∧ ∀ x H'', J.yld i H' x H'' → Same H' H'' ∧ ((∀ p, W' p → ∃ o, H' p = some o) → Rep G W' H'' x u [])
inductive RI where
  | ok (us : List Val) (ρ : VEnv) | exc (e : Exc) (ρ : VEnv) | bad
abbrev MI := VEnv → RI
def tI (G : Gam) (E : WX) (m : MI) : TI := fun σ H K => ∃ R ρ Os, Rel G R H σ ρ Os ∧ (match m ρ with
  | .ok us ρ' => ∀ J H' Os', Rel G R H' σ ρ' Os' → Walk G (WW R Os') H' J us → KeepE H Os H' Os' (fun _ => False) → K J H'
  | .exc e ρ' => ∀ c d H' Os', Rel G R H' σ ρ' Os' → RepX G (WW R Os') H' c d e → KeepE H Os H' Os' (fun _ => False) → E c d σ H'
  | .bad => False)
def VI (G : Gam) (X : Cx) (E : WX) (tg iter : Expr) (m : MI) : Prop := PI X tg iter (tI G E m)
theorem PI.pre {tg iter : Expr} {t t' : TI} (h : PI X tg iter t) (k : ∀ σ H K, t' σ H K → t σ H K) : PI X tg iter t' := ⟨fun pins s σ H K I q => h.run pins s σ H K I (k σ H K q)⟩

def forL (g : MG) (body : MS) : List Val → VEnv → RS
  | [], ρ => .nx ρ
  | u :: us, ρ => match g u ρ with
    | none => .bad
    | some ρ1 => match body ρ1 with
      | .nx ρ2 => forL g body us ρ2
      | .ct ρ2 => forL g body us ρ2
      | .bk ρ2 => .nx ρ2
      | .rt v ρ2 => .rt v ρ2
      | .exc e ρ2 => .exc e ρ2
      | .bad => .bad
def mFor (mi : MI) (g : MG) (body : MS) : MS := fun ρ => match mi ρ with
  | .ok us ρ' => forL g body us ρ'
  | .exc e ρ' => .exc e ρ'
  | .bad => .bad
theorem keep_of {R : Addr → Prop} {σ : L2.St} {H H' : Hp} {Os Os' : Nat → List Addr} {ρ : VEnv} (rel : Rel G R H σ ρ Os) (k : KeepE H Os H' Os' fun _ => False) : Keep (WW R Os) H (WW R Os') H' := fun a o e nw =>
  let ⟨e1, n1, _⟩ := k a o e fun z => nw (.inr z)
  ⟨e1, fun z => z.elim (fun z => nw (.inl z)) n1⟩
theorem for_reading {tb : TS} {mi : MI} {g : MG} {mb : MS} {D : Ends} {σ : L2.St} {H : Hp} (htb : tb = tS G E bs σ0 mb) (h : tS G E bs σ0 (mFor mi g mb) D σ H) : tFor (tI G E mi) (tG G bs σ0 g) tb D σ H := by
  subst htb
  obtain ⟨R, ρ, Os, rel, pin, post⟩ := h
  refine ⟨R, ρ, Os, rel, ?_⟩
  unfold mFor at post
  cases hm : mi ρ with
  | bad => rw [hm] at post; exact post
  | exc e ρ' => rw [hm] at post; exact fun c d H' Os' rel rx k => post c d σ H' Os' pin rel rx k
  | ok us ρ' =>
    rw [hm] at post
    dsimp only at post
    intro J H1 Os1 rel1 walk keep1
    have post1 := PostS.later post keep1
    refine ⟨fun i n σ' H' => n = us.length - i ∧ i ≤ us.length ∧ ∃ ρ2 Os2, Rel G R H' σ' ρ2 Os2 ∧ PinB bs σ0 σ' ∧ KeepE H1 Os1 H' Os2 (fun _ => False) ∧ PostS G R E D bs σ0 H1 Os1 (forL g mb (us.drop i) ρ2), ⟨us.length, by simp, Nat.zero_le _, ρ', Os1, rel1, pin, KeepE.refl, by simpa using post1⟩, ?_⟩
    rintro i n σ' H' ⟨rfl, hile, ρ2, Os2, rel2, pin2, keep2, post2⟩
    obtain ⟨hstop, hgo⟩ := walk _ _ (keep_of rel1 keep2) i
    by_cases hlt : i < us.length
    · refine .inr ?_
      obtain ⟨go, yld⟩ := hgo us[i] (List.getElem?_eq_getElem hlt)
      refine ⟨go, fun σ3 H3 => i + 1 ≤ us.length ∧ ∃ ρ3 Os3, Rel G R H3 σ3 ρ3 Os3 ∧ PinB bs σ0 σ3 ∧ KeepE H1 Os1 H3 Os3 (fun _ => False) ∧ PostS G R E D bs σ0 H1 Os1 (forL g mb (us.drop (i + 1)) ρ3), fun σ3 H3 ⟨h1, h2⟩ => ⟨us.length - (i + 1), by omega, rfl, h1, h2⟩, fun x H'' y => ?_⟩
      obtain ⟨same, repw⟩ := yld x H'' y
      have rep := repw fun p hp => rel2.ww hp
      have rel2' : Rel G R H'' σ' ρ2 Os2 := rel2.grow same (fun a z => .inl z) fun a z => let ⟨o, e⟩ := rel2.rt a z; ⟨o, same a o e⟩
      have keep2' : KeepE H1 Os1 H'' Os2 fun _ => False := keep2.grow same fun a z => z.elim
      rw [List.drop_eq_getElem_cons hlt] at post2
      unfold forL at post2
      have e0 : R = fun a => R a ∨ a ∈ ([] : List Addr) := setEq fun a => ⟨.inl, fun z => z.elim id fun z => nomatch z⟩
      have relE : Rel G (fun a => R a ∨ a ∈ ([] : List Addr)) H'' σ' ρ2 Os2 := e0 ▸ rel2'
      have repE : Rep G (WW (fun a => R a ∨ a ∈ ([] : List Addr)) Os2) H'' x us[i] [] := e0 ▸ rep
      refine ⟨R, ρ2, Os2, us[i], [], relE, repE, List.nodup_nil, fun a z => (nomatch z), pin2, ?_⟩
      cases hg : g us[i] ρ2 with
      | none => rw [hg] at post2; exact post2
      | some ρ3 =>
        rw [hg] at post2
        dsimp only at post2
        intro σ3 Os3 pin3 _ rel3 we3
        have keep3 : KeepE H1 Os1 H'' Os3 fun _ => False := fun a o e nw => let ⟨e1, n1, n2⟩ := keep2' a o e nw; ⟨e1, fun z => (we3 a z).elim n1 (fun z => nomatch z), n2⟩
        refine ⟨R, ρ3, Os3, rel3, pin3, ?_⟩
        refine PostS.later (H := H1) (Os := Os1) ?_ keep3
        cases hbm : mb ρ3 with
        | bad => rw [hbm] at post2; exact post2
        | exc e ρ4 => rw [hbm] at post2; exact post2
        | rt v ρ4 => rw [hbm] at post2; exact post2
        | bk ρ4 => rw [hbm] at post2; exact post2
        | nx ρ4 => rw [hbm] at post2; exact fun σ4 H4 Os4 p4 r4 k4 => ⟨hlt, ρ4, Os4, r4, p4, k4, post2⟩
        | ct ρ4 => rw [hbm] at post2; exact fun σ4 H4 Os4 p4 r4 k4 => ⟨hlt, ρ4, Os4, r4, p4, k4, post2⟩
    · refine .inl ⟨hstop (by omega), ?_⟩
      have e : us.drop i = [] := List.drop_eq_nil_of_le (by omega)
      rw [e] at post2
      exact post2 σ' H' Os2 pin2 rel2 keep2

theorem vs_for {tg iter : Expr} {body : List Stmt} {mi : MI} {g : MG} {mb : MS} (hp : PassesOwn (model X.prog X.w) X.A X.env X.xe) (hc : X.calm = true) (hi : VI G X E tg iter mi) (hg : VG G X bs σ0 tg g) (hb : VSs G X E bs σ0 body mb) (hs : ∀ x, foldedSetIterable iter X.env x = pure x := by intro _; rfl) :
    VS G X E bs σ0 (.For tg iter body [] pos) (mFor mi g mb) := PS.pre (ps_for hp hc hi hg hb hs) fun D σ H h => for_reading rfl h

/-! ### while: with a bound on the turns -/
def whileN (c : ME) (body : MS) : Nat → VEnv → RS
  | 0, _ => .bad
  | n + 1, ρ => match c ρ with
    | .ok (.bl t) ρ1 => if t = true then (match body ρ1 with
      | .nx ρ2 => whileN c body n ρ2
      | .ct ρ2 => whileN c body n ρ2
      | .bk ρ2 => .nx ρ2
      | .rt v ρ2 => .rt v ρ2
      | .exc e ρ2 => .exc e ρ2
      | .bad => .bad) else .nx ρ1
    | .ok _ _ => .bad
    | .exc e ρ1 => .exc e ρ1
    | .bad => .bad
def mWhile (fuel : VEnv → Nat) (c : ME) (body : MS) : MS := fun ρ => whileN c body (fuel ρ) ρ
theorem vs_while {body : List Stmt} {mb : MS} (fuel : VEnv → Nat) (hp : PassesOwn (model X.prog X.w) X.A X.env X.xe) (hc : VT G X E p c m) (hb : VSs G X E bs σ0 body mb) : VS G X E bs σ0 (.While c body [] pos) (mWhile fuel m mb) := by
  refine PS.pre (ps_while hp hc hb) fun D σ H ⟨R, ρ, Os, rel, pin, post⟩ => ?_
  unfold mWhile at post
  refine ⟨fun n σ' H' => ∃ ρ2 Os2, Rel G R H' σ' ρ2 Os2 ∧ PinB bs σ0 σ' ∧ KeepE H Os H' Os2 (fun _ => False) ∧ PostS G R E D bs σ0 H Os (whileN m mb n ρ2), ⟨fuel ρ, ρ, Os, rel, pin, KeepE.refl, post⟩, ?_⟩
  rintro n σ' H' ⟨ρ2, Os2, rel2, pin2, keep2, post2⟩
  refine ⟨R, ρ2, Os2, rel2, ?_⟩
  cases n with
  | zero => exact post2.elim
  | succ n =>
    unfold whileN at post2
    cases hm : m ρ2 with
    | bad => rw [hm] at post2; exact post2
    | exc e ρ3 => rw [hm] at post2; exact fun c d H3 Os3 rel3 rx k => post2 c d σ' H3 Os3 pin2 rel3 rx (keep2.trans k)
    | ok v ρ3 =>
      rw [hm] at post2
      cases v with
      | bl t =>
        intro H3 Os3 rel3 k3 _
        have keep3 := keep2.trans k3
        cases t with
        | false => exact post2 σ' H3 Os3 pin2 rel3 keep3
        | true =>
          simp only [if_true] at post2
          refine ⟨fun σ4 H4 => ∃ ρ4 Os4, Rel G R H4 σ4 ρ4 Os4 ∧ PinB bs σ0 σ4 ∧ KeepE H Os H4 Os4 (fun _ => False) ∧ PostS G R E D bs σ0 H Os (whileN m mb n ρ4), fun σ4 H4 h4 => ⟨n, by omega, h4⟩, R, ρ3, Os3, rel3, pin2, ?_⟩
          refine PostS.later (H := H) (Os := Os) ?_ keep3
          cases hbm : mb ρ3 with
          | bad => rw [hbm] at post2; exact post2
          | exc e ρ4 => rw [hbm] at post2; exact post2
          | rt v ρ4 => rw [hbm] at post2; exact post2
          | bk ρ4 => rw [hbm] at post2; exact post2
          | nx ρ4 => rw [hbm] at post2; exact fun σ4 H4 Os4 p4 r4 k4 => ⟨ρ4, Os4, r4, p4, k4, post2⟩
          | ct ρ4 => rw [hbm] at post2; exact fun σ4 H4 Os4 p4 r4 k4 => ⟨ρ4, Os4, r4, p4, k4, post2⟩
      | _ => exact post2.elim

/-! ### ranges, frozen lists and tuples -/
def mRng1 (m : ME) : MI := fun ρ => match m ρ with
  | .ok (.int j) ρ' => if -(2 ^ 62) ≤ j ∧ j < 2 ^ 62 then .ok ((List.range j.toNat).map fun (i : Nat) => Val.int i) ρ' else .bad
  | .ok _ _ => .bad
  | .exc e ρ' => .exc e ρ'
  | .bad => .bad
def mRng2 (m1 m2 : ME) : MI := fun ρ => match evalM [m1, m2] ρ with
  | .ok [.int i, .int j] ρ' => if -(2 ^ 62) ≤ i ∧ i < 2 ^ 62 ∧ -(2 ^ 62) ≤ j ∧ j < 2 ^ 62 then .ok ((List.range (j - i).toNat).map fun (k : Nat) => Val.int (i + k)) ρ' else .bad
  | .ok _ _ => .bad
  | .exc e ρ' => .exc e ρ'
  | .bad => .bad
/-- the items of a frozen thing -/
def mItems (m : ME) : MI := fun ρ => match m ρ with
  | .ok (.lst false us) ρ' => if fzs us = true then .ok us ρ' else .bad
  | .ok (.tup us) ρ' => if fzs us = true then .ok us ρ' else .bad
  | .ok (.wtp us) ρ' => .ok us ρ'
  | .ok (.scr ns) ρ' => .ok (ns.map .int) ρ'
  | .ok _ _ => .bad
  | .exc e ρ' => .exc e ρ'
  | .bad => .bad
theorem walk_rng {W : Addr → Prop} {H : Hp} (i : Int) (n : Nat) : Walk G W H (Itr i n) ((List.range n).map fun (k : Nat) => Val.int (i + k)) := by
  intro W' H' _ j
  refine ⟨fun h => (show n ≤ j from by simpa using h), fun u hu => ?_⟩
  rw [List.getElem?_map] at hu
  have hj : j < n := by
    by_cases h : j < n
    · exact h
    · rw [List.getElem?_eq_none (by simpa using h)] at hu; cases hu
  rw [List.getElem?_range hj] at hu
  cases hu
  exact ⟨hj, fun x H'' ⟨e1, e2⟩ => by subst e1 e2; exact ⟨fun _ _ e => e, fun _ => .int _⟩⟩
theorem vi_rng1 {tg a : Expr} {x1 : Pos} (hg : Gl X "range") (hm : X.mg "range" = none) (ha : VE G X E p s a m) (hs : starEach [a] X.env = [(false, eval a X.env)] := by rfl) (hs2 : starEach [a] X.env = (false, eval a X.env) :: starEach [] X.env := by rfl) : VI G X E tg (.Call (.Name "range" x1) [a] [] pos) (mRng1 m) := by
  refine PI.pre (pi_range1 hg hm (pa_cons ha pa_nil hs2) hs) fun σ H K ⟨R, ρ, Os, rel, post⟩ => ⟨R, ρ, Os, rel, ?_⟩
  unfold mRng1 at post
  cases hm : m ρ with
  | bad => rw [hm] at post; exact post
  | exc e ρ' => rw [hm] at post; exact post
  | ok v ρ' =>
    rw [hm] at post
    cases v with
    | int j =>
      dsimp only at post
      intro x H' Os' O rel' rep nd k _
      cases rep
      by_cases h : -(2 ^ 62) ≤ j ∧ j < 2 ^ 62
      · rw [if_pos h] at post
        refine ⟨j, rfl, h.1, h.2, post _ H' Os' (rel'.weak fun a z => .inl z) ?_ (k.imp fun _ z => z.elim)⟩
        have := walk_rng (G := G) (W := WW R Os') (H := H') 0 j.toNat
        simpa using this
      · rw [if_neg h] at post; exact post.elim
    | _ => exact post.elim
theorem walk_lst {W : Addr → Prop} {H : Hp} {a : Addr} {xs : List V} {us : List Val} (h : (Fz W H a (.lst xs)) ∨ (∃ o, H a = some (.frz o (.lst xs)) ∧ ¬ W a) ∨ SqL G.K (fun _ => none) a xs) (r : Reps G W H xs us []) : Walk G W H (Itl G.K a) us := by
  intro W' H' kp i
  have hl := r.length
  have h' : H' a = some (.lst xs) ∨ (∃ o, H' a = some (.frz o (.lst xs))) ∨ SqL G.K (fun _ => none) a xs := h.imp (fun z => (kp _ _ z.1 z.2).1) fun z => z.imp (fun ⟨o, e, nw⟩ => ⟨o, (kp _ _ e nw).1⟩) id
  have hq : SqL G.K H' a xs := h'.elim (fun e => Or.inl (Or.inl e)) fun z => z.elim (fun ⟨o, e⟩ => Or.inl (Or.inr ⟨o, e⟩)) fun z => z.elim (fun q => by rcases q with q | ⟨o, q⟩ <;> cases q) .inr
  refine ⟨fun h => ⟨xs, hq, by omega⟩, fun u hu => ?_⟩
  obtain ⟨x, O1, Oi, O2, e1, e2, q⟩ := r.split hu
  have eO : Oi = [] := by
    have := e2.symm
    simp at this
    exact this.2.1
  subst eO
  refine ⟨⟨xs, x, hq, e1⟩, fun y H'' ⟨e3, e4⟩ => ?_⟩
  subst e3
  have := e4 xs hq
  rw [e1] at this
  cases this
  exact ⟨fun _ _ e => e, fun _ => q.mono kp fun _ z => nomatch z⟩

theorem Reps.one {W : Addr → Prop} {H : Hp} {xs : List V} {us : List Val} (r : Reps G W H xs us []) {i : Nat} {u : Val} (hu : us[i]? = some u) : ∃ x, xs[i]? = some x ∧ Rep G W H x u [] := by
  obtain ⟨x, O1, Oi, O2, e1, e2, q⟩ := r.split hu
  have eO : Oi = [] := by
    have := e2.symm
    simp at this
    exact this.2.1
  subst eO
  exact ⟨x, e1, q⟩
theorem walk_tup {W : Addr → Prop} {H : Hp} {a : Addr} {xs : List V} {us : List Val} (h : Fz W H a (.tup xs) ∨ SqT G.K (fun _ => none) a xs) (r : Reps G W H xs us []) : Walk G W H (Itt G.K a) us := by
  intro W' H' kp i
  have hl := r.length
  have hq : SqT G.K H' a xs := h.elim (fun z => .inl (.inl (kp _ _ z.1 z.2).1)) fun z => z.elim (fun q => by rcases q with q | ⟨o, q⟩ <;> cases q) .inr
  refine ⟨fun h => ⟨xs, hq, by omega⟩, fun u hu => ?_⟩
  obtain ⟨x, e1, q⟩ := r.one hu
  refine ⟨⟨xs, x, hq, e1⟩, fun y H'' ⟨e3, e4⟩ => ?_⟩
  subst e3
  have := e4 xs hq
  rw [e1] at this
  cases this
  exact ⟨fun _ _ e => e, fun _ => q.mono kp fun _ z => nomatch z⟩
/-- over a list or a tuple, whatever expression gives it; the items' trees; L: it is a list -/
def mItemsL (m : ME) : MI := fun ρ => match m ρ with
  | .ok (.lst false us) ρ' => .ok us ρ'
  | .ok (.scr ns) ρ' => .ok (ns.map .int) ρ'
  | .ok _ _ => .bad
  | .exc e ρ' => .exc e ρ'
  | .bad => .bad
def mItemsT (m : ME) : MI := fun ρ => match m ρ with
  | .ok (.tup us) ρ' => if fzs us = true then .ok us ρ' else .bad
  | .ok (.wtp us) ρ' => .ok us ρ'
  | .ok _ _ => .bad
  | .exc e ρ' => .exc e ρ'
  | .bad => .bad
theorem Rep.weakW {W W' : Addr → Prop} {H : Hp} {x : V} {v : Val} {O : List Addr} (r : Rep G W H x v O) (h : ∀ a, W' a → W a) : Rep G W' H x v O := r.mono (fun a o e nw => ⟨e, fun z => nw (h a z)⟩) fun _ _ _ e => e
theorem Reps.weakW {W W' : Addr → Prop} {H : Hp} {x : List V} {v : List Val} {O : List Addr} (r : Reps G W H x v O) (h : ∀ a, W' a → W a) : Reps G W' H x v O := r.mono (fun a o e nw => ⟨e, fun z => nw (h a z)⟩) fun _ _ _ e => e
theorem WW.up {R : Addr → Prop} {Os : Nat → List Addr} {s : Bool} {O : List Addr} : ∀ a, WW R Os a → WW (Rp R s O) Os a := fun a z => z.imp .inl id
theorem vi_list {tg : Expr} (hK : X.K = G.K) (ha : VE G X E p s a m) : VI G X E tg a (mItemsL m) := by
  refine PI.pre (pi_list ha) fun σ H K ⟨R, ρ, Os, rel, post⟩ => ⟨R, ρ, Os, rel, ?_⟩
  unfold mItemsL at post
  cases hm : m ρ with
  | bad => rw [hm] at post; exact post
  | exc e ρ' => rw [hm] at post; exact post
  | ok v ρ' =>
    rw [hm] at post
    intro x H' Os' O rel' rep nd k _
    rw [hK]
    have rl : Rel G R H' σ ρ' Os' := rel'.weak fun a z => .inl z
    have kl : KeepE H Os H' Os' fun _ => False := k.imp fun _ z => z.elim
    cases v with
    | lst o us =>
      cases o with
      | true => exact post.elim
      | false =>
        cases rep with
        | @lstF b xs _ h r => exact ⟨b, rfl, ⟨xs, .inl (.inl h.1)⟩, post _ H' Os' rl (walk_lst (xs := xs) (.inl ⟨h.1, fun z => h.2 (WW.up _ z)⟩) (r.weakW WW.up)) kl⟩
    | scr ns =>
      cases rep with
      | @scr b _ h =>
        refine ⟨b, rfl, ⟨ns.map .int, h.elim (fun ⟨o, e, _⟩ => Or.inl (Or.inr ⟨o, e⟩)) (fun z => z.elim (fun q => by rcases q with q | ⟨o, q⟩ <;> cases q) .inr)⟩, post _ H' Os' rl (walk_lst (xs := ns.map .int) (.inr (h.imp (fun ⟨o, e, nw⟩ => ⟨o, e, fun z => nw (WW.up _ z)⟩) id)) (Reps.of_ints ns)) kl⟩
    | _ => exact post.elim
theorem vi_tup {tg : Expr} (hK : X.K = G.K) (ha : VE G X E p s a m) : VI G X E tg a (mItemsT m) := by
  refine PI.pre (pi_tup ha) fun σ H K ⟨R, ρ, Os, rel, post⟩ => ⟨R, ρ, Os, rel, ?_⟩
  unfold mItemsT at post
  cases hm : m ρ with
  | bad => rw [hm] at post; exact post
  | exc e ρ' => rw [hm] at post; exact post
  | ok v ρ' =>
    rw [hm] at post
    intro x H' Os' O rel' rep nd k _
    rw [hK]
    have rl : Rel G R H' σ ρ' Os' := rel'.weak fun a z => .inl z
    have kl : KeepE H Os H' Os' fun _ => False := k.imp fun _ z => z.elim
    cases v with
    | tup us =>
      cases rep with
      | @tup b xs _ O h r =>
        dsimp only at post
        by_cases hf : fzs us = true
        · rw [if_pos hf] at post
          exact ⟨b, rfl, ⟨xs, .inl (.inl h.1)⟩, post _ H' Os' rl (walk_tup (xs := xs) (.inl ⟨h.1, fun z => h.2 (WW.up _ z)⟩) ((r.fz hf).weakW WW.up)) kl⟩
        · rw [if_neg hf] at post; exact post.elim
    | wtp us =>
      cases rep with
      | @wtp b xs _ h r =>
        exact ⟨b, rfl, ⟨xs, h.elim (fun q => by rcases q with q | ⟨o, q⟩ <;> cases q) .inr⟩, post _ H' Os' rl (walk_tup (xs := xs) (.inr h) (r.weakW WW.up)) kl⟩
    | _ => exact post.elim
/-- nobody changes the result any more -/
def mFz (m : ME) : ME := fun ρ => match m ρ with
  | .ok v ρ' => .ok v.frz ρ'
  | .exc e ρ' => .exc e ρ'
  | .bad => .bad
theorem Post.fz {R : Addr → Prop} {σ : L2.St} {H : Hp} {Os : Nat → List Addr} {ρ : VEnv} {Q : VK} {r : RE} (rel0 : ∀ a, R a → ∃ o, H a = some o ∧ ¬ We Os a)
    (post : Post G R E σ H Os p true ρ Q (match (generalizing := false) r with | .ok v ρ' => .ok v.frz ρ' | .exc e ρ' => .exc e ρ' | .bad => .bad)) : Post G R E σ H Os p true ρ Q r := by
  cases r with
  | bad => exact post
  | exc e ρ' => exact post
  | ok v ρ' =>
    intro x H' Os' O rel rep nd k pure
    have hw : ∀ a, Rp R true [] a → Rp R true O a := fun a z => .inl (z.elim id fun z => nomatch z.2)
    refine post x H' Os' [] (rel.weak hw) (rep.freeze (fun a nw z => nw (z.imp (hw a) id)) fun a ha z => ?_) (fun _ => List.nodup_nil) (k.imp fun a z => nomatch z.2) pure
    rcases z with z | z
    · obtain ⟨o, e, nw⟩ := rel0 a (z.elim id fun z => nomatch z.2)
      exact (k a o e nw).2.2 ⟨rfl, ha⟩
    · exact rel.nr (.inr ⟨rfl, ha⟩) z
theorem ve_fz (h : VE G X E p true e m) : VE G X E p true e (mFz m) := PE.pre h fun σ H Q ⟨R, ρ, Os, rel, post⟩ => ⟨R, ρ, Os, rel, post.fz rel.hr⟩
end
end VL
/-! VL, part M: calls by name, of methods, of classes; properties; attributes; a def by its body. -/
namespace VL
open PySem L2

/-- a callee that is known: what it promises of the values that it is called with -/
def CalR (X : Cx) (f : Value) (r : L2.St → List V → Hp → VK → Prop) : Prop :=
  ∀ (pins : List (Addr × Obj)) (s : Shared) (σ : L2.St) (H : Hp) (xs : List V) (us : List Value) (Q : VK), Inv X pins σ H s → Vals xs us → r σ xs H Q → wpAny (model X.prog X.w) X.A (call f us) (EP X pins σ Q) X.xe s
/-- .. and is an MF -/
def CalV (G : Gam) (X : Cx) (E : WX) (f : Value) (n : Nat) (mf : MF) (dks : List (V × Val)) : Prop := CalR X f fun σ xs H Q => spV G n mf (xs ++ dks.map (·.1)) H Q (WE E σ)
def VAg (G : Gam) (X : Cx) (E : WX) (es : List Expr) (as : List Arg) : Prop := PA X es fun σ H K => nestG G E as σ H K
section
variable {G : Gam} {X : Cx} {E : WX} {es : List Expr} {e o : Expr} {as : List Arg} {p s : Bool} {m : ME} {pos apos px : Pos}
theorem vg_nil : VAg G X E [] [] := pa_nil
theorem vg_v (h : VE G X E p s e m) (t : VAg G X E es as) (hs : starEach (e :: es) X.env = (false, eval e X.env) :: starEach es X.env := by rfl) : VAg G X E (e :: es) (.v ⟨p, s, m⟩ :: as) := pa_cons h t hs
theorem vg_r {i : Nat} (h : PE X e (tVar i)) (t : VAg G X E es as) (hs : starEach (e :: es) X.env = (false, eval e X.env) :: starEach es X.env := by rfl) : VAg G X E (e :: es) (.r i :: as) := pa_cons h t hs

/-- the defaults as arguments -/
def dArgs (dks : List (V × Val)) : List Arg := dks.map fun q => Arg.k q.1 q.2
def DflL (G : Gam) (dks : List (V × Val)) : Prop := ∀ q ∈ dks, ∀ W H, Rep G W H q.1 q.2 []
theorem dfl_of {dks : List (V × Val)} (h : DflL G dks) : Dfl G (dArgs dks) := by
  induction dks with
  | nil => trivial
  | cons q t ih => exact ⟨h q List.mem_cons_self, ih fun z hz => h z (List.mem_cons_of_mem _ hz)⟩
def noK : List Arg → Bool
  | [] => true
  | .k _ _ :: _ => false
  | _ :: as => noK as
theorem dfl_app {dks : List (V × Val)} (h : DflL G dks) : ∀ {as : List Arg}, noK as = true → Dfl G (as ++ dArgs dks)
  | [], _ => dfl_of h
  | .v o :: as, z => dfl_app h (as := as) z
  | .r i :: as, z => dfl_app h (as := as) z
  | .k _ _ :: as, z => by cases z
theorem vals_k (dks : List (V × Val)) : vals (dArgs dks) = [] := by
  induction dks with
  | nil => rfl
  | cons q t ih => exact ih
theorem vals_app {dks : List (V × Val)} : ∀ {as : List Arg}, vals (as ++ dArgs dks) = vals as
  | [] => vals_k dks
  | .v o :: as => congrArg (o :: ·) (vals_app (as := as))
  | .r i :: as => vals_app (as := as)
  | .k _ _ :: as => vals_app (as := as)
/-- what any call comes to -/
theorem call_dk {mf : MF} {n : Nat} {dks : List (V × Val)} {σ : L2.St} {H : Hp} {Q : VK} (hd : DflL G dks) (hk : noK as = true) (hs : (vals as).all (·.s) = true) (hn : as.length + dks.length = n) (h : rd G E (argsP (as ++ dArgs dks)) true (mCall mf (as ++ dArgs dks)) σ H Q) :
    nestG G E as σ H (fun xs H1 => spV G n mf (xs ++ dks.map (·.1)) H1 Q (WE E σ)) := by
  have := call_of (n := n) (dfl_app hd hk) (by rw [vals_app]; exact hs) (by simp [dArgs, hn]) h
  exact nestG_app (K := fun xs H1 => spV G n mf xs H1 Q (WE E σ)) this
/-- f(e, ..) -/
theorem ve_call {x : Str} {u : Value} {n : Nat} {mf : MF} {dks : List (V × Val)} (hc : CalV G X E u n mf dks) (hg : Gl X x) (hm : X.mg x = some u) (hk : PySem.W.keepIn X.K u = true) (ha : VAg G X E (e :: es) as) (hd : DflL G dks) (hs : (vals as).all (·.s) = true := by rfl) (hnk : noK as = true := by rfl) (hn : as.length + dks.length = n := by rfl)
    (hdb : (x == ("__debug__" : Str)) = false := by decide) (he : starEach (e :: es) X.env = (false, eval e X.env) :: starEach es X.env := by rfl) (hpl : (backTo pos (starEach es X.env)).any (·.1) = false := by rfl) :
    VE G X E (argsP (as ++ dArgs dks)) true (.Call (.Name x px) (e :: es) [] pos) (mCall mf (as ++ dArgs dks)) := by
  refine ⟨fun pins s1 σ H Q I h => wpAny_Call_Name_kw (ld_glob I hg hm (PySem.W.callWith_K (h₀ := X.base) I.ok.mod.kin hk ?_ he hpl) hdb)⟩
  exact thn (ha.run pos pins s1 σ H _ I (call_dk hd hnk hs hn h)) fun us s2 ⟨xs, H1, I1, r, q⟩ => ⟨I1.kIn, hc pins s2 σ H1 xs us Q I1 r q⟩
/-- f() -/
theorem ve_call0 {x : Str} {u : Value} {n : Nat} {mf : MF} {dks : List (V × Val)} (hc : CalV G X E u n mf dks) (hg : Gl X x) (hm : X.mg x = some u) (hk : PySem.W.keepIn X.K u = true) (hd : DflL G dks) (hn : dks.length = n := by rfl) (hdb : (x == ("__debug__" : Str)) = false := by decide) :
    VE G X E (argsP (dArgs dks)) true (.Call (.Name x px) [] [] pos) (mCall mf (dArgs dks)) := by
  refine ⟨fun pins s1 σ H Q I h => wpAny_Call_Name_kw (ld_glob I hg hm (PySem.W.callWith_K0 I.kIn hk ?_) hdb)⟩
  exact hc pins s1 σ H [] [] Q I .nil (call_dk (as := []) (n := n) hd rfl rfl (by simpa using hn) h)

/-! ### a def, a class -/
theorem cal_fn {k : Nat} {f : Addr} {fd : FuncData} {ps : List Str} {n : Nat} {mf : MF} {dks : List (V × Val)} {ds : List Value} (F : FnOk X.prog X.w X.K X.mg X.base (L2.CX X.prog X.w) k f fd ps (spV G n mf)) (hr : Room k X.A) (hb : Binds X.K fd ps ds) (hd : Vals (dks.map (·.1)) ds) (tk : Takes X E) : CalV G X E (.ref f) n mf dks :=
  fun pins s1 σ H xs us Q I r h => run_fnSD (E := WE E) F hr hb hd (passAt tk σ) I r h
/-- a new object: what __init__ makes of an empty one -/
def mMake (c : Nat) (mf : MF) : MF := fun vs => match mf (.obj true c [] [] :: vs) with
  | .ok .non (some self :: fs) => .ok self fs
  | .exc e (_ :: fs) => .exc e fs
  | _ => .bad
theorem rel_obj {R : Addr → Prop} {H : Hp} {xs : List V} {vs : List Val} {Oa : Nat → List Addr} (rel : Rel G R H (xs.map some) (vs.map some) Oa) {c : Nat} {C x dx : Addr} (hc : G.cn c = some C) (hx : H x = none) (hdx : H dx = none) (hne : dx ≠ x) :
    Rel G R (upd (upd H dx (.own x)) x (.ins C dx [])) ((V.ref x :: xs).map some) ((Val.obj true c [] [] :: vs).map some) (fun j => match j with | 0 => [x] | j + 1 => Oa j) := by
  have same : Same H (upd (upd H dx (.own x)) x (.ins C dx [])) := (same_upd hdx).trans (same_upd (by rw [upd_ne hne.symm]; exact hx))
  have we : ∀ a, WW R (fun j => match j with | 0 => [x] | j + 1 => Oa j) a → WW R Oa a ∨ H a = none := fun a z => by
    rcases z with z | ⟨j, z⟩
    · exact .inl (.inl z)
    · cases j with
      | zero => exact .inr (by rw [List.mem_singleton.mp z]; exact hx)
      | succ j => exact .inl (.inr ⟨j, z⟩)
  have hx0 : ∀ i, x ∉ Oa i := fun i hm => by obtain ⟨o, e⟩ := rel.there x hm; rw [hx] at e; cases e
  refine ⟨by simpa using rel.len, fun i v hv => ?_, fun i hi => ?_, fun i => ?_, fun i j a ha hb => ?_, fun i a ha z => ?_, fun a z => let ⟨o, e⟩ := rel.rt a z; ⟨o, same a o e⟩⟩
  · cases i with
    | zero =>
      simp at hv
      subst hv
      exact ⟨.ref x, rfl, .objO (fs := []) upd_same hc rfl .nil⟩
    | succ i =>
      obtain ⟨y, e, r⟩ := rel.rep i v (by simpa using hv)
      exact ⟨y, by simpa using e, r.mono (fun a o e nw => ⟨same a o e, fun z => (we a z).elim nw fun z => by rw [e] at z; cases z⟩) fun a _ o e => same a o e⟩
  · cases i with
    | zero => exact absurd rfl (hi (.obj true c [] []))
    | succ i => exact rel.nil i fun v hv => hi v (by simpa using hv)
  · cases i with
    | zero => simp
    | succ i => exact rel.nd i
  · cases i with
    | zero =>
      cases j with
      | zero => rfl
      | succ j => exact absurd ((List.mem_singleton.mp ha) ▸ hb) (hx0 j)
    | succ i =>
      cases j with
      | zero => exact absurd ((List.mem_singleton.mp hb) ▸ ha) (hx0 i)
      | succ j => exact congrArg (· + 1) (rel.dj i j a ha hb)
  · cases i with
    | zero =>
      obtain ⟨o, e⟩ := rel.rt a z
      rw [List.mem_singleton.mp ha, hx] at e; cases e
    | succ i => exact rel.dr i a ha z
/-- behind __init__: the object is the result -/
theorem rel_made {R : Addr → Prop} {H : Hp} {x : V} {xs : List V} {self : Val} {fs : VEnv} {Oa : Nat → List Addr} {s : Bool} {O : List Addr} (rel : Rel G (Rp R s O) H ((x :: xs).map some) (some self :: fs) Oa) :
    Rel G (Rp R true (Oa 0)) H (xs.map some) fs (fun j => Oa (j + 1)) ∧ Rep G (WW (Rp R true (Oa 0)) (fun j => Oa (j + 1))) H x self (Oa 0) ∧ (Oa 0).Nodup := by
  have t := Rel.tail rel
  have t1 : Rel G (Rp R true (Oa 0)) H (xs.map some) fs (fun j => Oa (j + 1)) := t.weak fun a z => z.elim (fun z => .inl (.inl z)) fun z => .inr z.2
  obtain ⟨y, e, r⟩ := rel.rep 0 self rfl
  have e' : x = y := by simpa using e
  subst e'
  refine ⟨t1, r.weakW fun a z => ?_, rel.nd 0⟩
  rcases z with (z | z) | ⟨j, z⟩
  · exact .inl (.inl z)
  · exact .inr ⟨0, z.2⟩
  · exact .inr ⟨j + 1, z⟩
theorem sp_make {n c : Nat} {C : Addr} {mf : MF} {xs : List V} {H : Hp} {Q : VK} {E0 : XK} (hc : G.cn c = some C) (h : spV G n (mMake c mf) xs H Q E0) {x dx : Addr} (hx : H x = none) (hdx : H dx = none) (hne : dx ≠ x) :
    spV G (n + 1) mf (.ref x :: xs) (upd (upd H dx (.own x)) x (.ins C dx [])) (fun v H2 => v = .non ∧ Q (.ref x) H2) E0 := by
  obtain ⟨hl, R, vs, Oa, rel, post⟩ := h
  refine ⟨by simp [hl], R, _, _, rel_obj rel hc hx hdx hne, ?_⟩
  have same : Same H (upd (upd H dx (.own x)) x (.ins C dx [])) := (same_upd hdx).trans (same_upd (by rw [upd_ne hne.symm]; exact hx))
  have k0 : ∀ {H2 : Hp} {Os2 : Nat → List Addr} {O : Addr → Prop}, KeepE (upd (upd H dx (.own x)) x (.ins C dx [])) (fun j => match j with | 0 => [x] | j + 1 => Oa j) H2 Os2 O → ∀ a o, H a = some o → ¬ We Oa a → H2 a = some o ∧ ¬ We Os2 a ∧ ¬ O a := fun k a o e nw => k a o (same a o e) fun ⟨j, z⟩ => by
    cases j with
    | zero => rw [List.mem_singleton.mp z, hx] at e; cases e
    | succ j => exact nw ⟨j, z⟩
  unfold mMake at post
  cases hm : mf (.obj true c [] [] :: vs) with
  | bad => rw [hm] at post; exact post
  | exc e fs =>
    rw [hm] at post
    cases fs with
    | nil => exact post.elim
    | cons f fs =>
      intro cc d H2 Os2 rel2 rx k
      have rel2' : Rel G R H2 (some (V.ref x) :: xs.map some) (f :: fs) Os2 := rel2
      have t := Rel.tail rel2'
      refine post cc d H2 (fun j => Os2 (j + 1)) (t.weak fun a z => .inl z) (rx.mono fun a o e nw => ⟨e, fun z => nw (z.imp id fun ⟨j, z⟩ => ⟨j + 1, z⟩)⟩) fun a o e nw => ?_
      obtain ⟨e1, n1, n2⟩ := k0 k a o e nw
      exact ⟨e1, fun ⟨j, z⟩ => n1 ⟨j + 1, z⟩, n2⟩
  | ok v fs =>
    rw [hm] at post
    cases v with
    | non =>
      cases fs with
      | nil => exact post.elim
      | cons f fs =>
        cases f with
        | none => exact post.elim
        | some self =>
          intro y H2 Os2 O rel2 rep2 nd2 k _
          cases rep2
          refine ⟨rfl, ?_⟩
          obtain ⟨r1, r2, r3⟩ := rel_made rel2
          refine post (.ref x) H2 (fun j => Os2 (j + 1)) (Os2 0) r1 r2 (fun _ => r3) (fun a o e nw => ?_) fun z => by cases z
          obtain ⟨e1, n1, n2⟩ := k0 k a o e nw
          exact ⟨e1, fun ⟨j, z⟩ => n1 ⟨j + 1, z⟩, fun z => n1 ⟨0, z.2⟩⟩
    | _ => exact post.elim
theorem cal_make {k : Nat} {f C : Addr} {fd : FuncData} {ps : List Str} {n c : Nat} {mf : MF} {dks : List (V × Val)} {ds : List Value} (hC : G.cn c = some C) (M : Mk X.K C f) (F : FnOk X.prog X.w X.K X.mg X.base (L2.CX X.prog X.w) k f fd ps (spV G (n + 1) mf)) (hr : Room (k + 1) X.A) (hb : Binds X.K fd ps ds)
    (hd : Vals (dks.map (·.1)) ds) (tk : Takes X E) : CalV G X E (.ref C) n (mMake c mf) dks := by
  intro pins s1 σ H xs us Q I r h
  have hx := I.hok.fresh (Nat.le_succ s1.heap.objs.size)
  have hdx := I.hok.fresh (Nat.le_refl s1.heap.objs.size)
  have hq := sp_make (x := s1.heap.objs.size + 1) (dx := s1.heap.objs.size) hC h hx hdx (Nat.ne_of_lt (Nat.lt_succ_self _))
  have I2 := Inv.made (C := C) I
  have rv : Vals (V.ref (s1.heap.objs.size + 1) :: (xs ++ dks.map (·.1))) (Value.ref (s1.heap.objs.size + 1) :: (us ++ ds)) := .cons rfl (r.append hd)
  have hl : (Value.ref (s1.heap.objs.size + 1) :: us ++ ds).length = ps.length := by
    rw [← F.len _ _ _ _ hq]
    exact rv.length.symm
  refine wpAny_call (make_map (f := f) I.kIn M.makes M.init (beq_iff_eq.mp M.fn) ?_)
  have run := F.run (X.A.under (.builtin "type.__call__" ⟨.ref C :: us, []⟩)) X.stack _ _ ⟨Value.ref (s1.heap.objs.size + 1) :: us, []⟩ (Value.ref (s1.heap.objs.size + 1) :: (us ++ ds)) _ _ (WE E σ) (hr.make C us []) (I2.env0.make C us []) (hb _ (Value.ref (s1.heap.objs.size + 1) :: us) I2.kIn hl) rv hq
  refine codeAny_mono run fun res s2 hq2 => ?_
  cases res with
  | error er => exact passAt tk σ pins _ _ er s2 I2 hq2
  | ok fl =>
    cases fl with
    | ret u =>
      obtain ⟨v, H', I3, rv3, ev, q3⟩ := I2.after hq2
      subst ev
      exact ⟨rv3, ⟨V.ref (s1.heap.objs.size + 1), H', I3, rfl, q3⟩⟩
    | next => exact hq2.elim
    | brk => exact hq2.elim
    | cont => exact hq2.elim
end
end VL
/-! VL, part N: methods, properties, attributes; a def by its body; stores into what a name holds. -/
namespace VL
open PySem L2

section
variable {G : Gam} {X : Cx} {E : WX} {es : List Expr} {e o : Expr} {as : List Arg} {p s : Bool} {m : ME} {pos apos px : Pos}
abbrev mcTree (o : Expr) (mn : Str) (apos pos : Pos) (es : List Expr) (pl : Sem Bool) (env : Env) : Sem Value := do
  let ov ← eval o env
  standAt apos.atName
  let (f, first) ← holding [ov] (getMethod ov mn pl)
  callWith pos f first (backTo pos (starEach es env)) (backToKw pos (keywordEach [] env))
/-- o.m(..), read -/
theorem pe_calm {pl : Sem Bool} {C f : Addr} {mn : Str} {ta : TE} {t : TA} {r : L2.St → List V → Hp → VK → Prop} (he : PE X o ta) (c : Cls X.K C) (hm : Meth X.K C mn f) (hc : CalR X (.ref f) r) (ha : PA X (e :: es) t)
    (hst : starEach (e :: es) X.env = (false, eval e X.env) :: starEach es X.env) (hpl : (backTo pos (starEach es X.env)).any (·.1) = false) (ht : eval (.Call (.Attribute o mn apos) (e :: es) [] pos) X.env = mcTree o mn apos pos (e :: es) pl X.env) :
    PE X (.Call (.Attribute o mn apos) (e :: es) [] pos) (fun σ H Q => ta σ H fun x H1 => ∃ a dx fs, x = .ref a ∧ H1 a = some (.ins C dx fs) ∧ fs.lookup mn = none ∧ t σ H1 fun xs H2 => r σ (x :: xs) H2 Q) := by
  refine ⟨fun pins s1 σ H Q I h => PySem.W.methodCall_KW (pl := pl) (thn (he.run pins s1 σ H _ I h) fun u s2 hx => ?_) ht⟩
  obtain ⟨x, H1, I1, rx, a, dx, fs, ex, ea, l, q⟩ := hx
  subst ex
  obtain rfl : u = Value.ref a := rx
  refine getmeth_ok I1 ea c hm l (PySem.W.callWith_K (first := [.ref a]) (h₀ := X.base) I1.ok.mod.kin hm.kp ?_ hst hpl)
  exact thn (ha.run pos pins s2 σ H1 _ I1 q) fun us s3 ⟨xs, H2, I2, r2, q2⟩ => ⟨I2.kIn, hc pins s3 σ H2 (.ref a :: xs) (.ref a :: us) Q I2 (.cons rfl r2) q2⟩
theorem pe_calm0 {pl : Sem Bool} {C f : Addr} {mn : Str} {ta : TE} {r : L2.St → List V → Hp → VK → Prop} (he : PE X o ta) (c : Cls X.K C) (hm : Meth X.K C mn f) (hc : CalR X (.ref f) r)
    (ht : eval (.Call (.Attribute o mn apos) [] [] pos) X.env = mcTree o mn apos pos [] pl X.env) :
    PE X (.Call (.Attribute o mn apos) [] [] pos) (fun σ H Q => ta σ H fun x H1 => ∃ a dx fs, x = .ref a ∧ H1 a = some (.ins C dx fs) ∧ fs.lookup mn = none ∧ r σ [x] H1 Q) := by
  refine ⟨fun pins s1 σ H Q I h => PySem.W.methodCall_KW (pl := pl) (thn (he.run pins s1 σ H _ I h) fun u s2 hx => ?_) ht⟩
  obtain ⟨x, H1, I1, rx, a, dx, fs, ex, ea, l, q⟩ := hx
  subst ex
  obtain rfl : u = Value.ref a := rx
  exact getmeth_ok I1 ea c hm l (PySem.W.callWith_K0 (first := [.ref a]) I1.kIn hm.kp (hc pins s2 σ H1 [.ref a] [.ref a] Q I1 (.cons rfl .nil) q))

/-- an object of the class c that has no attribute of that name -/
def objC (c : Nat) (mn : Str) : Val → Bool
  | .obj _ n fs _ => n == c && !(fs.contains mn)
  | _ => false
def mMethR (c : Nat) (mn : Str) (mf : MF) (i : Nat) (as : List Arg) : ME := fun ρ => match ρ[i]? with
  | some (some v) => if objC c mn v = true then mCall mf (.r i :: as) ρ else .bad
  | _ => .bad
/-- a value that must be an object of the class c -/
def mObjC (c : Nat) (mn : Str) (m : ME) : ME := fun ρ => match m ρ with
  | .ok v ρ' => if objC c mn v = true then .ok v ρ' else .bad
  | .exc e ρ' => .exc e ρ'
  | .bad => .bad
theorem look_none {mn : Str} : ∀ {fs : List (Str × V)}, (fs.map (·.1)).contains mn = false → fs.lookup mn = none
  | [], _ => rfl
  | (f, x) :: fs, h => by
    simp only [List.map_cons, List.contains_cons, Bool.or_eq_false_iff] at h
    show (match mn == f with | true => some x | false => fs.lookup mn) = none
    rw [h.1]
    exact look_none h.2
theorem objC_ok {c : Nat} {mn : Str} {C : Addr} (hc : G.cn c = some C) {W : Addr → Prop} {H : Hp} {x : V} {v : Val} {O : List Addr} (r : Rep G W H x v O) (h : objC c mn v = true) : ∃ a dx fs, x = .ref a ∧ H a = some (.ins C dx fs) ∧ fs.lookup mn = none := by
  cases v with
  | obj ow n ns vs =>
    unfold objC at h
    simp only [Bool.and_eq_true, beq_iff_eq, Bool.not_eq_true'] at h
    obtain ⟨rfl, h2⟩ := h
    obtain ⟨a, C', dx, fs, rfl, e, hC, hn⟩ := rep_obj r
    rw [hc] at hC
    cases hC
    exact ⟨a, dx, fs, rfl, e, look_none (by rw [← hn]; exact h2)⟩
  | _ => exact absurd h (by simp [objC])
theorem rd_obj {c : Nat} {mn : Str} {C : Addr} (hc : G.cn c = some C) {σ : L2.St} {H : Hp} {P : V → Hp → Prop} (h : rd G E p s (mObjC c mn m) σ H P) : rd G E p s m σ H fun x H1 => ∃ a dx fs, x = .ref a ∧ H1 a = some (.ins C dx fs) ∧ fs.lookup mn = none ∧ P x H1 := by
  obtain ⟨R, ρ, Os, rel, post⟩ := h
  refine ⟨R, ρ, Os, rel, ?_⟩
  unfold mObjC at post
  cases hm : m ρ with
  | bad => rw [hm] at post; exact post
  | exc e ρ' => rw [hm] at post; exact post
  | ok v ρ' =>
    rw [hm] at post
    dsimp only at post
    by_cases ho : objC c mn v = true
    · rw [if_pos ho] at post
      intro x H' Os' O rel' rep nd k pu
      obtain ⟨a, dx, fs, e1, e2, e3⟩ := objC_ok hc rep ho
      exact ⟨a, dx, fs, e1, e2, e3, post x H' Os' O rel' rep nd k pu⟩
    · rw [if_neg ho] at post; exact post.elim
/-- name.m(e, ..) -/
theorem ve_methR {pl : Sem Bool} {C f : Addr} {mn : Str} {i c n : Nat} {mf : MF} {dks : List (V × Val)} (he : PE X o (tVar i)) (hcn : G.cn c = some C) (cl : Cls X.K C) (hm : Meth X.K C mn f) (hc : CalV G X E (.ref f) n mf dks) (ha : VAg G X E (e :: es) as) (hd : DflL G dks)
    (hs : (vals as).all (·.s) = true := by rfl) (hnk : noK as = true := by rfl) (hn : as.length + 1 + dks.length = n := by rfl) (hst : starEach (e :: es) X.env = (false, eval e X.env) :: starEach es X.env := by rfl) (hpl : (backTo pos (starEach es X.env)).any (·.1) = false := by rfl)
    (ht : eval (.Call (.Attribute o mn apos) (e :: es) [] pos) X.env = mcTree o mn apos pos (e :: es) pl X.env := by rfl) : VE G X E false true (.Call (.Attribute o mn apos) (e :: es) [] pos) (mMethR c mn mf i (as ++ dArgs dks)) := by
  refine PE.pre (pe_calm he cl hm hc ha hst hpl ht) fun σ H Q ⟨R, ρ, Os, rel, post⟩ => ?_
  unfold mMethR at post
  split at post
  · rename_i v hv
    by_cases ho : objC c mn v = true
    · rw [if_pos ho] at post
      obtain ⟨x, hx, rep⟩ := rel.rep i v hv
      obtain ⟨a, dx, fs, e1, e2, e3⟩ := objC_ok hcn rep ho
      obtain ⟨y, hy, q⟩ := call_dk (as := .r i :: as) (n := n) hd hnk hs hn (σ := σ) ⟨R, ρ, Os, rel, post⟩
      rw [hx] at hy
      cases hy
      exact ⟨x, hx, a, dx, fs, e1, e2, e3, q⟩
    · rw [if_neg ho] at post; exact post.elim
  · exact post.elim
theorem ve_methR0 {pl : Sem Bool} {C f : Addr} {mn : Str} {i c n : Nat} {mf : MF} {dks : List (V × Val)} (he : PE X o (tVar i)) (hcn : G.cn c = some C) (cl : Cls X.K C) (hm : Meth X.K C mn f) (hc : CalV G X E (.ref f) n mf dks) (hd : DflL G dks) (hn : 1 + dks.length = n := by rfl)
    (ht : eval (.Call (.Attribute o mn apos) [] [] pos) X.env = mcTree o mn apos pos [] pl X.env := by rfl) : VE G X E false true (.Call (.Attribute o mn apos) [] [] pos) (mMethR c mn mf i (dArgs dks)) := by
  refine PE.pre (pe_calm0 he cl hm hc ht) fun σ H Q ⟨R, ρ, Os, rel, post⟩ => ?_
  unfold mMethR at post
  split at post
  · rename_i v hv
    by_cases ho : objC c mn v = true
    · rw [if_pos ho] at post
      obtain ⟨x, hx, rep⟩ := rel.rep i v hv
      obtain ⟨a, dx, fs, e1, e2, e3⟩ := objC_ok hcn rep ho
      obtain ⟨y, hy, q⟩ := call_dk (as := [.r i]) (n := n) hd rfl rfl (by simpa using hn) (σ := σ) ⟨R, ρ, Os, rel, post⟩
      rw [hx] at hy
      cases hy
      exact ⟨x, hx, a, dx, fs, e1, e2, e3, q⟩
    · rw [if_neg ho] at post; exact post.elim
  · exact post.elim
/-- o.m(e, ..), o a value -/
theorem ve_methV {pl : Sem Bool} {C f : Addr} {mn : Str} {c n : Nat} {mf : MF} {dks : List (V × Val)} (he : VE G X E p true o m) (hcn : G.cn c = some C) (cl : Cls X.K C) (hm : Meth X.K C mn f) (hc : CalV G X E (.ref f) n mf dks) (ha : VAg G X E (e :: es) as) (hd : DflL G dks)
    (hs : (vals as).all (·.s) = true := by rfl) (hnk : noK as = true := by rfl) (hn : as.length + 1 + dks.length = n := by rfl) (hst : starEach (e :: es) X.env = (false, eval e X.env) :: starEach es X.env := by rfl) (hpl : (backTo pos (starEach es X.env)).any (·.1) = false := by rfl)
    (ht : eval (.Call (.Attribute o mn apos) (e :: es) [] pos) X.env = mcTree o mn apos pos (e :: es) pl X.env := by rfl) : VE G X E (p && argsP (as ++ dArgs dks)) true (.Call (.Attribute o mn apos) (e :: es) [] pos) (mCall mf (.v ⟨p, true, mObjC c mn m⟩ :: (as ++ dArgs dks))) := by
  refine PE.pre (pe_calm he cl hm hc ha hst hpl ht) fun σ H Q h => ?_
  have := call_dk (E := E) (as := .v ⟨p, true, mObjC c mn m⟩ :: as) (n := n) hd hnk (by simpa [vals] using hs) hn (σ := σ) h
  exact rd_obj hcn this
theorem ve_methV0 {pl : Sem Bool} {C f : Addr} {mn : Str} {c n : Nat} {mf : MF} {dks : List (V × Val)} (he : VE G X E p true o m) (hcn : G.cn c = some C) (cl : Cls X.K C) (hm : Meth X.K C mn f) (hc : CalV G X E (.ref f) n mf dks) (hd : DflL G dks) (hn : 1 + dks.length = n := by rfl)
    (ht : eval (.Call (.Attribute o mn apos) [] [] pos) X.env = mcTree o mn apos pos [] pl X.env := by rfl) : VE G X E (p && argsP (dArgs dks)) true (.Call (.Attribute o mn apos) [] [] pos) (mCall mf (.v ⟨p, true, mObjC c mn m⟩ :: dArgs dks)) := by
  refine PE.pre (pe_calm0 he cl hm hc ht) fun σ H Q h => ?_
  have := call_dk (E := E) (as := [.v ⟨p, true, mObjC c mn m⟩]) (n := n) hd rfl rfl (by simpa using hn) (σ := σ) h
  exact rd_obj hcn this

/-! ### properties: the getter raises nothing -/
def mfNoX (mf : MF) : MF := fun vs => match mf vs with
  | .exc _ _ => .bad
  | r => r
theorem sp_nox {n : Nat} {mf : MF} {xs : List V} {H : Hp} {Q : VK} {E0 E1 : XK} (h : spV G n (mfNoX mf) xs H Q E0) : spV G n mf xs H Q E1 := by
  obtain ⟨hl, R, vs, Oa, rel, post⟩ := h
  refine ⟨hl, R, vs, Oa, rel, ?_⟩
  unfold mfNoX at post
  cases hm : mf vs with
  | bad => rw [hm] at post; exact post
  | exc e fs => rw [hm] at post; exact post.elim
  | ok v fs => rw [hm] at post; exact post
theorem pass_none {Y : Cx} : Passes (L2.CX Y.prog Y.w) Y (fun _ _ _ => False) := fun _ _ _ _ _ _ _ ⟨_, _, _, _, _, _, _, _, _, _, _, _, z⟩ => z.elim
def mPropR (c : Nat) (mf : MF) (i : Nat) : ME := fun ρ => match ρ[i]? with
  | some (some (.obj o n fs xs)) => if n = c then mCall (mfNoX mf) [.r i] ρ else .bad
  | _ => .bad
theorem ve_propR {C f : Addr} {q : Addr} {mn : Str} {i c k : Nat} {mf : MF} {fd : FuncData} {ps : List Str} (he : PE X o (tVar i)) (hcn : G.cn c = some C) (cl : Cls X.K C) (hp : PropOf X.K C mn q f) (F : FnOk X.prog X.w X.K X.mg X.base (L2.CX X.prog X.w) k f fd ps (spV G 1 mf)) (hr : Room (k + 1) X.A) (hb : Binds X.K fd ps [])
    (hab : attributeBase o mn X.env (eval o X.env) = eval o X.env := by rfl) : VE G X E false true (.Attribute o mn pos) (mPropR c mf i) := by
  refine PE.pre (pe_prop (dvs := []) he cl hp F hr hb .nil (pass_none (Y := X.nox)) hab) fun σ H Q ⟨R, ρ, Os, rel, post⟩ => ?_
  unfold mPropR at post
  split at post
  · rename_i ow n fs xs hv
    by_cases hn : n = c
    · rw [if_pos hn] at post
      subst hn
      obtain ⟨x, hx, rep⟩ := rel.rep i _ hv
      obtain ⟨a, C', dx, fs', rfl, ea, hC, _⟩ := rep_obj rep
      rw [hcn] at hC
      cases hC
      obtain ⟨y, hy, q⟩ := call_of (as := [.r i]) (n := 1) trivial rfl rfl (σ := σ) ⟨R, ρ, Os, rel, post⟩
      rw [hx] at hy
      cases hy
      exact ⟨.ref a, hx, a, dx, fs', rfl, ea, sp_nox q⟩
    · rw [if_neg hn] at post; exact post.elim
  · exact post.elim
def mPropV (c : Nat) (mf : MF) (p : Bool) (m : ME) : ME := mCall (mfNoX mf) [.v ⟨p, true, mObjC c "" m⟩]
theorem ve_propV {C f : Addr} {q : Addr} {mn : Str} {c k : Nat} {mf : MF} {fd : FuncData} {ps : List Str} (he : VE G X E p true o m) (hcn : G.cn c = some C) (cl : Cls X.K C) (hp : PropOf X.K C mn q f) (F : FnOk X.prog X.w X.K X.mg X.base (L2.CX X.prog X.w) k f fd ps (spV G 1 mf)) (hr : Room (k + 1) X.A) (hb : Binds X.K fd ps [])
    (hab : attributeBase o mn X.env (eval o X.env) = eval o X.env := by rfl) : VE G X E p true (.Attribute o mn pos) (mPropV c mf p m) := by
  refine PE.pre (pe_prop (dvs := []) he cl hp F hr hb .nil (pass_none (Y := X.nox)) hab) fun σ H Q h => ?_
  have h' : rd G E (argsP [.v ⟨p, true, mObjC c "" m⟩]) true (mCall (mfNoX mf) [.v ⟨p, true, mObjC c "" m⟩]) σ H Q := by simpa [argsP, mPropV] using h
  have q := call_of (E := E) (as := [.v ⟨p, true, mObjC c "" m⟩]) (n := 1) trivial rfl rfl (σ := σ) h'
  exact rd_mono (rd_obj hcn q) fun x H1 ⟨a, dx, fs, e1, e2, _, e4⟩ => ⟨a, dx, fs, e1, e2, by subst e1; exact sp_nox e4⟩

/-! ### attributes -/
def lookF (f : Str) : List Str → List Val → Option Val
  | n :: ns, v :: vs => if n = f then some v else lookF f ns vs
  | _, _ => none
def semFld (cs : List Nat) (f : Str) : List Val → Option Val
  | [.obj _ n fs xs] => if n ∈ cs then (match lookF f fs xs with
    | some v => if v.fz = true then some v else none
    | none => none) else none
  | _ => none
def FldF (G : Gam) (K : PySem.W.Frag) (cs : List Nat) (f : Str) : Prop := ∀ n ∈ cs, ∀ C, G.cn n = some C → Cls K C ∧ NoAttr K C f
theorem look_fld {W : Addr → Prop} {H : Hp} {f : Str} : ∀ {fs : List (Str × V)} {vs : List Val} {O : List Addr} {v : Val}, Reps G W H (fs.map (·.2)) vs O → lookF f (fs.map (·.1)) vs = some v → ∃ x O', fs.lookup f = some x ∧ Rep G W H x v O' ∧ ∀ a ∈ O', a ∈ O
  | [], vs, O, v, r, h => by cases r; simp [lookF] at h
  | (g, y) :: fs, vs, O, v, r, h => by
    cases r with
    | @cons _ w _ ws O1 O2 r t =>
      simp only [List.map_cons, lookF] at h
      by_cases e : g = f
      · rw [if_pos e] at h
        cases h
        subst e
        exact ⟨y, O1, by simp [List.lookup], r, fun a ha => List.mem_append_left _ ha⟩
      · rw [if_neg e] at h
        obtain ⟨x, O', e1, r', s'⟩ := look_fld t h
        refine ⟨x, O', ?_, r', fun a ha => List.mem_append_right _ (s' a ha)⟩
        show (match f == g with | true => some y | false => fs.lookup f) = some x
        rw [beq_false_of_ne fun z => e z.symm]
        exact e1
theorem rep_objR {W : Addr → Prop} {H : Hp} {x : V} {ow : Bool} {n : Nat} {ns : List Str} {vs : List Val} {O : List Addr} (r : Rep G W H x (.obj ow n ns vs) O) : ∃ a C dx fs O', x = .ref a ∧ H a = some (.ins C dx fs) ∧ G.cn n = some C ∧ ns = fs.map (·.1) ∧ Reps G W H (fs.map (·.2)) vs O' := by
  cases r with
  | objO h hc hn r => exact ⟨_, _, _, _, _, rfl, h, hc, hn, r⟩
  | objF h hc hn r => exact ⟨_, _, _, _, _, rfl, h.1, hc, hn, r⟩
theorem ve_fld {cs : List Nat} {f : Str} (F : FldF G X.K cs f) (he : VE G X E p s o m) (hb : attributeBase o f X.env (eval o X.env) = eval o X.env := by rfl) : VE G X E p true (.Attribute o f pos) (mFun (semFld cs f) [m]) := by
  have := ve_fun (G := G) (E := E) (os := [⟨p, s, m⟩]) (pe_fld (pos := pos) he hb) (r := fun xs H Q => match xs with
    | [x] => ∃ a C dx fs v, x = .ref a ∧ H a = some (.ins C dx fs) ∧ Cls X.K C ∧ NoAttr X.K C f ∧ fs.lookup f = some v ∧ Q v H
    | _ => False) (fun σ H Q z => z) (sem := semFld cs f) (fun W H xs vs Ol v Q w r hs mk => by
      unfold semFld at hs
      split at hs
      · obtain ⟨x, O, rfl, r1⟩ := r.inv1
        split at hs
        · rename_i hn
          split at hs
          · rename_i u hu
            split at hs
            · rename_i hf
              cases hs
              obtain ⟨a, C, dx, fs', O', rfl, ea, hC, rfl, q⟩ := rep_objR r1
              obtain ⟨c1, c2⟩ := F _ hn C hC
              obtain ⟨y, O2, e1, r2, _⟩ := look_fld q hu
              exact ⟨a, C, dx, fs', y, rfl, ea, c1, c2, e1, mk.same (r2.fz' hf)⟩
            · cases hs
          · cases hs
        · cases hs
      · cases hs) (by simp [wfA])
  simpa using this

/-! ### a def by its body -/
def outs : List Bool → VEnv → VEnv
  | [], _ => []
  | _ :: bs, [] => none :: outs bs []
  | b :: bs, v :: ρ => (if b = true then v else none) :: outs bs ρ
def mBody (bs : List Bool) (N : Nat) (m : MS) : MF := fun vs => match m (vs.map some ++ List.replicate (N - bs.length) none) with
  | .nx ρ => .ok .non (outs bs ρ)
  | .rt v ρ => .ok v (outs bs ρ)
  | .exc e ρ => .exc e (outs bs ρ)
  | _ => .bad
theorem outs_len : ∀ (bs : List Bool) (ρ : VEnv), (outs bs ρ).length = bs.length
  | [], _ => rfl
  | _ :: bs, [] => by simp [outs, outs_len bs]
  | _ :: bs, _ :: ρ => by simp [outs, outs_len bs]
theorem outs_get : ∀ {bs : List Bool} {ρ : VEnv} {i : Nat} {v : Val}, (outs bs ρ)[i]? = some (some v) → bs[i]? = some true ∧ ρ[i]? = some (some v)
  | [], ρ, i, v, h => by simp [outs] at h
  | b :: bs, [], i, v, h => by
    cases i with
    | zero => simp [outs] at h
    | succ i => have := outs_get (bs := bs) (ρ := []) (i := i) (by simpa [outs] using h); simp at this
  | b :: bs, u :: ρ, i, v, h => by
    cases i with
    | zero =>
      simp only [outs, List.getElem?_cons_zero, Option.some.injEq] at h
      cases b with
      | true => simp only [if_true] at h; simp [h]
      | false => simp at h
    | succ i => simpa using outs_get (bs := bs) (ρ := ρ) (i := i) (by simpa [outs] using h)
theorem get_outs : ∀ {bs : List Bool} {ρ : VEnv} {i : Nat} {v : Val}, bs[i]? = some true → ρ[i]? = some (some v) → (outs bs ρ)[i]? = some (some v)
  | [], ρ, i, v, h, _ => by simp at h
  | b :: bs, [], i, v, _, h => by simp at h
  | b :: bs, u :: ρ, i, v, h, h2 => by
    cases i with
    | zero => simp only [List.getElem?_cons_zero, Option.some.injEq] at h h2; simp [outs, h, h2]
    | succ i => simpa [outs] using get_outs (bs := bs) (ρ := ρ) (i := i) (by simpa using h) (by simpa using h2)
theorem rel_start {R : Addr → Prop} {H : Hp} {xs : List V} {vs : List Val} {Oa : Nat → List Addr} {N : List Str} (rel : Rel G R H (xs.map some) (vs.map some) Oa) : Rel G R H (start N xs) (vs.map some ++ List.replicate (N.length - vs.length) none) Oa := by
  have hl : xs.length = vs.length := by simpa using rel.len
  have key : ∀ (i : Nat) (v : Val), (vs.map some ++ List.replicate (N.length - vs.length) none)[i]? = some (some v) → (vs.map some)[i]? = some (some v) := fun i v h => by
    by_cases hi : i < vs.length
    · rwa [List.getElem?_append_left (by simpa using hi)] at h
    · rw [List.getElem?_append_right (by simpa using hi), List.getElem?_replicate] at h
      split at h <;> cases h
  refine ⟨by simp [L2.start, hl], fun i v hv => ?_, fun i hi => rel.nil i fun v hv => hi v ?_, rel.nd, rel.dj, rel.dr, rel.rt⟩
  · obtain ⟨x, e, r⟩ := rel.rep i v (key i v hv)
    have hi : i < (xs.map some).length := (List.getElem?_eq_some_iff.mp e).1
    exact ⟨x, by unfold L2.start; rw [List.getElem?_append_left hi]; exact e, r⟩
  · have hi : i < (vs.map some).length := (List.getElem?_eq_some_iff.mp hv).1
    rw [List.getElem?_append_left hi]; exact hv
/-- what is left of the names when the def ends -/
theorem rel_outs {R : Addr → Prop} {H : Hp} {bs : List Bool} {N : List Str} {xs : List V} {σ : L2.St} {ρ : VEnv} {Os : Nat → List Addr} (hl : xs.length = bs.length) (pin : PinB bs (start N xs) σ) (rel : Rel G R H σ ρ Os) :
    ∃ Os', Rel G R H (xs.map some) (outs bs ρ) Os' ∧ ∀ a, We Os' a → We Os a := by
  have sub : ∀ i a, a ∈ (if bs[i]? = some true then Os i else []) → bs[i]? = some true ∧ a ∈ Os i := fun i a h => by
    by_cases e : bs[i]? = some true
    · rw [if_pos e] at h; exact ⟨e, h⟩
    · rw [if_neg e] at h; cases h
  have we : ∀ a, We (fun i => if bs[i]? = some true then Os i else []) a → We Os a := fun a ⟨i, z⟩ => ⟨i, (sub i a z).2⟩
  refine ⟨fun i => if bs[i]? = some true then Os i else [], ⟨by simp [outs_len, hl], fun i v hv => ?_, fun i hi => ?_, fun i => ?_, fun i j a ha hb => rel.dj i j a (sub i a ha).2 (sub j a hb).2, fun i a ha => rel.dr i a (sub i a ha).2, rel.rt⟩, we⟩
  · obtain ⟨h1, h2⟩ := outs_get hv
    obtain ⟨x, e, r⟩ := rel.rep i v h2
    rw [pin i h1] at e
    have hi : i < (xs.map some).length := by
      have := (List.getElem?_eq_some_iff.mp h1).1
      simpa [hl] using this
    unfold L2.start at e
    rw [List.getElem?_append_left hi] at e
    refine ⟨x, e, ?_⟩
    show Rep G _ H x v (if bs[i]? = some true then Os i else [])
    rw [if_pos h1]
    exact r.weakW fun a z => z.imp id (we a)
  · show (if bs[i]? = some true then Os i else []) = []
    by_cases e : bs[i]? = some true
    · rw [if_pos e]
      exact rel.nil i fun v hv => hi v (get_outs e hv)
    · rw [if_neg e]
  · show (if bs[i]? = some true then Os i else []).Nodup
    by_cases e : bs[i]? = some true
    · rw [if_pos e]; exact rel.nd i
    · rw [if_neg e]; exact List.nodup_nil
/-- THE DEF -/
theorem body_of {Y : Cx} {E0 : XK} {bs : List Bool} {N ps : List Str} {m : MS} {body : List Stmt} {xs : List V} {H : Hp} {Q : VK} (hn : bs.length = ps.length) (hN : ps.length ≤ N.length) (hb : ∀ σ0, VSs G Y (fun c d _ H => E0 c d H) bs σ0 body m) (h : spV G ps.length (mBody bs N.length m) xs H Q E0) :
    ∃ t, PSs Y body t ∧ t { nx := fun _ H' => Q .non H', rt := Q } (start N xs) H := by
  obtain ⟨hl, R, vs, Oa, rel, post⟩ := h
  refine ⟨_, hb (start N xs), ?_⟩
  have hv : xs.length = vs.length := by simpa using rel.len
  have rs := rel_start (N := N) rel
  have hlb : xs.length = bs.length := by omega
  refine ⟨R, _, Oa, rs, fun _ _ => rfl, ?_⟩
  unfold mBody at post
  rw [show N.length - bs.length = N.length - vs.length by omega] at post
  have ret : ∀ {v : Val} {ρ' : VEnv}, Post G R (fun c d _ H => E0 c d H) (xs.map some) H Oa false true (vs.map some) Q (.ok v (outs bs ρ')) → ∀ x σ' H' Os' O, PinB bs (start N xs) σ' → Rel G (Rp R true O) H' σ' ρ' Os' → Rep G (WW (Rp R true O) Os') H' x v O → O.Nodup → KeepE H Oa H' Os' (fun a => true = true ∧ a ∈ O) → Q x H' := by
    intro v ρ' post x σ' H' Os' O pin rel' rep nd k
    obtain ⟨Os2, r2, w2⟩ := rel_outs hlb pin rel'
    exact post x H' Os2 O r2 (rep.weakW fun a z => z.imp id (w2 a)) (fun _ => nd) (fun a o e nw => let ⟨e1, n1, n2⟩ := k a o e nw; ⟨e1, fun z => n1 (w2 a z), n2⟩) fun z => by cases z
  cases hm : m (vs.map some ++ List.replicate (N.length - vs.length) none) with
  | bad => rw [hm] at post; exact post
  | bk ρ' => rw [hm] at post; exact post.elim
  | ct ρ' => rw [hm] at post; exact post.elim
  | nx ρ' =>
    rw [hm] at post
    intro σ' H' Os' pin rel' k
    exact ret post .non σ' H' Os' [] pin (rel'.weak fun a z => z.elim id fun z => nomatch z.2) .non List.nodup_nil (k.imp fun a z => nomatch z.2)
  | rt v ρ' => rw [hm] at post; exact ret post
  | exc e ρ' =>
    rw [hm] at post
    intro c d σ' H' Os' pin rel' rx k
    obtain ⟨Os2, r2, w2⟩ := rel_outs hlb pin rel'
    exact post c d H' Os2 r2 (rx.mono fun a o e nw => ⟨e, fun z => nw (z.imp id (w2 a))⟩) fun a o e nw => let ⟨e1, n1, n2⟩ := k a o e nw; ⟨e1, fun z => n1 (w2 a z), n2⟩
theorem fnv_of {P : Program} {w : World} {K : PySem.W.Frag} {mg : Str → Option Value} {base : Heap} {k : Nat} {f : Addr} {name qual : Str} {params : Arguments} {body : List Stmt} {scope : Scope} {dV kV doc pm cdv ct oc : Value} {an od : Option Addr}
    {osl : Array (Option Value)} {N ps : List Str} {bs : List Bool} {mb : MS} (lk : K.lookup f = some ⟨oc, od, .func (PySem.W.fnOf name qual params body scope dV kV doc pm an cdv ct), osl⟩) (hcd : PySem.W.codeIn K cdv qual = true) (S : FnScope N ps scope) (hn : bs.length = ps.length)
    (hbody : ∀ (A : Around) (outer : List Env) (s : Shared) (H : Hp) (E : XK), Room k (A.deeper (PyProof.Rows.envOfC qual scope s.heap.objs.size f cdv)) → ∀ σ0, VSs G (cxOf (L2.CX P w) P w K mg base N qual scope f cdv A outer s H E) (fun c d _ H => E c d H) bs σ0 body mb) :
    FnOk P w K mg base (L2.CX P w) (k + 1) f (PySem.W.fnOf name qual params body scope dV kV doc pm an cdv ct) ps (spV G ps.length (mBody bs N.length mb)) := by
  refine fn_of lk hcd S (fun vs H Q E h => h.1) fun A outer s H vs Q E hr h => body_of hn ?_ (hbody A outer s H E hr) h
  have := congrArg List.length S.pre
  rw [List.length_take] at this
  omega
end
end VL
/-! VL, part O: list comprehensions; stores into what a name holds. -/
namespace VL
open PySem L2

def wipeV (ρ : VEnv) : List Nat → VEnv
  | [] => ρ
  | i :: is => (wipeV ρ is).set i none
theorem wipeV_len (ρ : VEnv) : ∀ is : List Nat, (wipeV ρ is).length = ρ.length
  | [] => rfl
  | i :: is => by unfold wipeV; rw [List.length_set, wipeV_len ρ is]
section
variable {G : Gam} {R : Addr → Prop} {H : Hp} {σ : L2.St} {ρ : VEnv} {Os : Nat → List Addr}
theorem Rel.drop1 (rel : Rel G R H σ ρ Os) (i : Nat) : Rel G R H (σ.set i none) (ρ.set i none) (fun j => if j = i then [] else Os j) := by
  have we : ∀ a, We (fun j => if j = i then [] else Os j) a → We Os a := fun a ⟨j, z⟩ => by
    by_cases hj : j = i
    · simp only [hj, if_true] at z; cases z
    · simp only [hj, if_false] at z; exact ⟨j, z⟩
  refine ⟨by rw [List.length_set, List.length_set]; exact rel.len, fun j v hv => ?_, fun j hj => ?_, fun j => ?_, fun j k a ha hb => ?_, fun j a ha => ?_, rel.rt⟩
  · by_cases h : j = i
    · subst h
      by_cases hi : j < ρ.length
      · rw [List.getElem?_set_self hi] at hv; cases hv
      · rw [List.getElem?_eq_none (by rw [List.length_set]; omega)] at hv; cases hv
    · rw [List.getElem?_set_ne (Ne.symm h)] at hv
      obtain ⟨x, e, r⟩ := rel.rep j v hv
      refine ⟨x, by rw [List.getElem?_set_ne (Ne.symm h)]; exact e, ?_⟩
      show Rep G _ H x v (if j = i then [] else Os j)
      rw [if_neg h]
      exact r.weakW fun a z => z.imp id (we a)
  · by_cases h : j = i
    · simp [h]
    · simp only [h, if_false]
      exact rel.nil j fun v hv => hj v (by rw [List.getElem?_set_ne (Ne.symm h)]; exact hv)
  · by_cases h : j = i
    · simp [h]
    · simp only [h, if_false]; exact rel.nd j
  · by_cases h : j = i
    · simp [h] at ha
    · by_cases h2 : k = i
      · simp [h2] at hb
      · simp only [h, h2, if_false] at ha hb; exact rel.dj j k a ha hb
  · by_cases h : j = i
    · simp [h] at ha
    · simp only [h, if_false] at ha; exact rel.dr j a ha
theorem Rel.wipe (rel : Rel G R H σ ρ Os) : ∀ is : List Nat, ∃ Os', Rel G R H (L2.wipe σ is) (wipeV ρ is) Os' ∧ ∀ a, We Os' a → We Os a
  | [] => ⟨Os, rel, fun _ z => z⟩
  | i :: is => by
    obtain ⟨Os', r, w⟩ := Rel.wipe rel is
    refine ⟨_, r.drop1 i, fun a ⟨j, z⟩ => ?_⟩
    by_cases hj : j = i
    · simp only [hj, if_true] at z; cases z
    · simp only [hj, if_false] at z; exact w a ⟨j, z⟩
/-- the names themselves stay -/
theorem Rel.unwipe {is : List Nat} (rel : Rel G R H (L2.wipe σ is) ρ Os) : Rel G R H σ ρ Os := by
  refine ⟨by rw [← rel.len, wipe_length], fun i v hv => ?_, rel.nil, rel.nd, rel.dj, rel.dr, rel.rt⟩
  obtain ⟨x, e, r⟩ := rel.rep i v hv
  exact ⟨x, (wipe_some e).1, r⟩
end
def pinsBut (n : Nat) (own : List Nat) : List Bool := (List.range n).map fun j => !own.contains j
theorem wipe_get {σ : L2.St} {j : Nat} : ∀ {is : List Nat}, j ∉ is → (L2.wipe σ is)[j]? = σ[j]?
  | [], _ => rfl
  | i :: is, h => by
    unfold L2.wipe
    rw [List.getElem?_set_ne (fun e => h (by simp [e])), wipe_get fun z => h (List.mem_cons_of_mem _ z)]
theorem wipe_none {σ : L2.St} {j : Nat} : ∀ {is : List Nat}, j ∈ is → j < σ.length → (L2.wipe σ is)[j]? = some none
  | [], h, _ => by cases h
  | i :: is, h, hl => by
    unfold L2.wipe
    by_cases e : i = j
    · subst e
      exact List.getElem?_set_self (by rw [wipe_length]; exact hl)
    · rw [List.getElem?_set_ne e]
      exact wipe_none ((List.mem_cons.mp h).resolve_left fun z => e z.symm) hl
theorem wipe_eq {σ σ2 : L2.St} {own : List Nat} {n : Nat} (hn : σ.length = n) (hl : σ2.length = σ.length) (pin : PinB (pinsBut n own) (L2.wipe σ own) σ2) : L2.wipe σ2 own = L2.wipe σ own := by
  apply List.ext_getElem?
  intro j
  by_cases hj : j < σ.length
  · by_cases ho : j ∈ own
    · rw [wipe_none ho (by rw [hl]; exact hj), wipe_none ho hj]
    · rw [wipe_get ho]
      have h1 : (pinsBut n own)[j]? = some true := by
        unfold pinsBut
        rw [List.getElem?_map, List.getElem?_range (by omega)]
        simp [ho]
      rw [pin j h1]
  · rw [List.getElem?_eq_none (by rw [wipe_length, hl]; omega), List.getElem?_eq_none (by rw [wipe_length]; omega)]

def lcL (g : MG) (tt me : ME) (own : List Nat) : List Val → List Val → VEnv → RE
  | [], acc, ρ => .ok (.lst true acc) ρ
  | u :: us, acc, ρ => match g u ρ with
    | none => .bad
    | some ρ1 => match tt ρ1 with
      | .ok (.bl b) ρ2 => if b = true then (match me ρ2 with
        | .ok v ρ3 => if acc.length < 16777216 then lcL g tt me own us (acc ++ [v]) (wipeV ρ3 own) else .bad
        | _ => .bad) else lcL g tt me own us acc (wipeV ρ2 own)
      | _ => .bad
def mLc (mi : MI) (g : MG) (tt me : ME) (own : List Nat) : ME := fun ρ => match mi ρ with
  | .ok us ρ1 => lcL g tt me own us [] (wipeV ρ1 own)
  | .exc e ρ' => .exc e ρ'
  | .bad => .bad
def mYes : ME := fun ρ => .ok (.bl true) ρ
abbrev WF : WX := fun _ _ _ _ => False
def VTs (G : Gam) (X : Cx) (ifs : List Expr) (m : ME) : Prop := ∃ p, PTs X ifs (tT G WF p m)
theorem PTs.pre {X : Cx} {ifs : List Expr} {t t' : TT} (h : PTs X ifs t) (k : ∀ σ H Q, t' σ H Q → t σ H Q) : PTs X ifs t' := ⟨fun pins s σ H Q I q => h.run pins s σ H Q I (k σ H Q q)⟩
section
variable {G : Gam} {X : Cx} {E : WX} {p s : Bool} {m : ME} {pos : Pos}
theorem vts_nil : VTs G X [] mYes := ⟨true, PTs.pre pts_nil fun σ H Q ⟨R, ρ, Os, rel, post⟩ => post H Os rel KeepE.refl fun _ => ⟨rfl, rfl, fun _ _ e => e⟩⟩
theorem vts_one {c : Expr} (h : VT G X WF p c m) : VTs G X [c] m := ⟨p, pts_one h⟩

/-- what others hold is changed -/
theorem Rel.chg {R : Addr → Prop} {H : Hp} {σ : L2.St} {ρ : VEnv} {Os : Nat → List Addr} {D : Addr} {o : HO} (rel : Rel G R H σ ρ Os) (hD : R D) : Rel G R (upd H D o) σ ρ Os := by
  refine ⟨rel.len, fun i v hv => ?_, rel.nil, rel.nd, rel.dj, rel.dr, fun a z => ?_⟩
  · obtain ⟨x, e, r⟩ := rel.rep i v hv
    refine ⟨x, e, r.mono (fun a o e nw => ⟨(upd_ne (show a ≠ D from fun z => nw (.inl (by rw [z]; exact hD)))).trans e, nw⟩) fun a ha o e => (upd_ne (show a ≠ D from fun z => rel.dr i a ha (by rw [z]; exact hD))).trans e⟩
  · by_cases h : a = D
    · subst h; exact ⟨_, upd_same⟩
    · rw [upd_ne h]; exact rel.rt a z
/-- what the comprehension's reading asks -/
theorem lc_reading {tg iter elt : Expr} {ow : List Nat} {n : Nat} {wi : TI} {sb : Bool} {mi : MI} {g : MG} {tt me : ME} {σ : L2.St} {H : Hp} {Q : VK} (hwi : wi = tI G E mi) (hlen : σ.length = n) (h : rd G E false true (mLc mi g tt me ow) σ H Q) :
    tLc wi (fun x σ H Q => ∃ σ0, tG G (pinsBut n ow) σ0 g x σ H Q) (tT G WF p tt) (rd G WF sb true me) ow σ H Q := by
  subst hwi
  obtain ⟨R, ρ, Os, rel, post⟩ := h
  refine ⟨R, ρ, Os, rel, ?_⟩
  unfold mLc at post
  cases hm : mi ρ with
  | bad => rw [hm] at post; exact post
  | exc e ρ' => rw [hm] at post; exact post
  | ok us ρ1 =>
    rw [hm] at post
    dsimp only at post
    intro J H1 Os1 rel1 walk keep1 D hD
    obtain ⟨Osw, relw, wew⟩ := rel1.wipe ow
    refine ⟨fun i n H' => n = us.length - i ∧ i ≤ us.length ∧ ∃ ρ2 Os2 acc xs O, Rel G (fun a => R a ∨ a ∈ D :: O) H' (L2.wipe σ ow) ρ2 Os2 ∧ H' D = some (.lst xs) ∧ Reps G (WW (fun a => R a ∨ a ∈ D :: O) Os2) H' xs acc O ∧ (D :: O).Nodup ∧ KeepE H1 Os1 H' Os2 (fun a => a ∈ D :: O) ∧
      Post G R E σ H Os false true ρ Q (lcL g tt me ow (us.drop i) acc ρ2), ⟨us.length, by simp, Nat.zero_le _, wipeV ρ1 ow, Osw, [], [], [], ?_, upd_same, .nil, by simp, fun a o e nw => ?_, by simpa using post⟩, ?_⟩
    · exact relw.grow (same_upd hD) (fun a z => z.imp id fun z => by rw [List.mem_singleton.mp z]; exact hD) fun a z => by
        rcases z with z | z
        · obtain ⟨o, e⟩ := relw.rt a z
          exact ⟨o, same_upd hD a o e⟩
        · rw [List.mem_singleton.mp z]; exact ⟨_, upd_same⟩
    · exact ⟨same_upd hD a o e, fun z => nw (wew a z), fun z => by rw [List.mem_singleton.mp z, hD] at e; cases e⟩
    · rintro i n H' ⟨rfl, hile, ρ2, Os2, acc, xs, O, rel2, hDx, reps, nd, keep2, post2⟩
      have kw : Keep (WW R Os1) H1 (WW (fun a => R a ∨ a ∈ D :: O) Os2) H' := fun a o e nw => by
        obtain ⟨e1, n1, n2⟩ := keep2 a o e fun z => nw (.inr z)
        refine ⟨e1, fun z => ?_⟩
        rcases z with (z | z) | z
        · exact nw (.inl z)
        · exact n2 z
        · exact n1 z
      obtain ⟨hstop, hgo⟩ := walk _ _ kw i
      by_cases hlt : i < us.length
      rotate_left
      · refine .inl ⟨hstop (by omega), ?_⟩
        rw [List.drop_eq_nil_of_le (by omega)] at post2
        unfold lcL at post2
        have e0 : (fun a => R a ∨ a ∈ D :: O) = Rp R true (D :: O) := setEq fun a => ⟨fun z => z.imp id fun z => ⟨rfl, z⟩, fun z => z.imp id fun z => z.2⟩
        rw [e0] at rel2 reps
        refine post2 (.ref D) H' Os2 (D :: O) rel2.unwipe (.lstO hDx reps) (fun _ => nd) (fun a o e nw => ?_) fun z => by cases z
        obtain ⟨e1, n1, _⟩ := keep1 a o e nw
        obtain ⟨e2, n2, n3⟩ := keep2 a o e1 n1
        exact ⟨e2, n2, fun z => n3 z.2⟩
      refine .inr ?_
      obtain ⟨go, yld⟩ := hgo us[i] (List.getElem?_eq_getElem hlt)
      refine ⟨go, fun H3 => i + 1 ≤ us.length ∧ ∃ ρ2 Os2 acc xs O, Rel G (fun a => R a ∨ a ∈ D :: O) H3 (L2.wipe σ ow) ρ2 Os2 ∧ H3 D = some (.lst xs) ∧ Reps G (WW (fun a => R a ∨ a ∈ D :: O) Os2) H3 xs acc O ∧ (D :: O).Nodup ∧ KeepE H1 Os1 H3 Os2 (fun a => a ∈ D :: O) ∧
        Post G R E σ H Os false true ρ Q (lcL g tt me ow (us.drop (i + 1)) acc ρ2), fun H3 ⟨h1, h2⟩ => ⟨us.length - (i + 1), by omega, rfl, h1, h2⟩, fun x H'' y => ?_⟩
      obtain ⟨same, repw⟩ := yld x H'' y
      have rep := repw fun p hp => rel2.ww hp
      have rel3 : Rel G (fun a => R a ∨ a ∈ D :: O) H'' (L2.wipe σ ow) ρ2 Os2 := rel2.grow same (fun a z => .inl z) fun a z => let ⟨o, e⟩ := rel2.rt a z; ⟨o, same a o e⟩
      have keep3 : KeepE H1 Os1 H'' Os2 fun a => a ∈ D :: O := keep2.grow same fun a z => .inl z
      have hD3 := same D _ hDx
      have reps3 : Reps G (WW (fun a => R a ∨ a ∈ D :: O) Os2) H'' xs acc O := reps.mono (fun a o e nw => ⟨same a o e, nw⟩) fun a _ o e => same a o e
      rw [List.drop_eq_getElem_cons hlt] at post2
      unfold lcL at post2
      have e0 : (fun a => R a ∨ a ∈ D :: O) = fun a => (R a ∨ a ∈ D :: O) ∨ a ∈ ([] : List Addr) := setEq fun a => ⟨.inl, fun z => z.elim id fun z => nomatch z⟩
      refine ⟨L2.wipe σ ow, fun a => R a ∨ a ∈ D :: O, ρ2, Os2, us[i], [], e0 ▸ rel3, e0 ▸ rep, List.nodup_nil, fun a z => (nomatch z), fun _ _ => rfl, ?_⟩
      cases hgu : g us[i] ρ2 with
      | none => rw [hgu] at post2; exact post2
      | some ρ3 =>
        rw [hgu] at post2
        dsimp only at post2
        intro σ3 Os3 pin3 hl3 rel4 we4
        have hw : L2.wipe σ3 ow = L2.wipe σ ow := wipe_eq hlen (by rw [hl3, wipe_length]) pin3
        have keep4 : KeepE H1 Os1 H'' Os3 fun a => a ∈ D :: O := fun a o e nw => let ⟨e1, n1, n2⟩ := keep3 a o e nw; ⟨e1, fun z => (we4 a z).elim n1 (fun z => nomatch z), n2⟩
        have reps4 : Reps G (WW (fun a => R a ∨ a ∈ D :: O) Os3) H'' xs acc O := reps3.weakW fun a z => z.imp id fun z => (we4 a z).elim id fun z => nomatch z
        refine ⟨hw, fun a => R a ∨ a ∈ D :: O, ρ3, Os3, rel4, ?_⟩
        /- what a step within the block leaves -/
        have step : ∀ {H5 : Hp} {Os5 : Nat → List Addr} {ρ5 : VEnv} {Oy : List Addr}, Rel G (fun a => (R a ∨ a ∈ D :: O) ∨ a ∈ Oy) H5 σ3 ρ5 Os5 → KeepE H'' Os3 H5 Os5 (fun a => a ∈ Oy) → H5 D = some (.lst xs) ∧ Reps G (WW (fun a => (R a ∨ a ∈ D :: O) ∨ a ∈ Oy) Os5) H5 xs acc O ∧ KeepE H1 Os1 H5 Os5 (fun a => a ∈ D :: O ∨ a ∈ Oy) ∧ (∀ a ∈ D :: O, a ∉ Oy) := by
          intro H5 Os5 ρ5 Oy rel5 k5
          have fix : ∀ a ∈ D :: O, ∀ o, H'' a = some o → H5 a = some o ∧ a ∉ Oy := fun a ha o e => let ⟨e1, _, n2⟩ := k5 a o e (rel4.nr (.inr ha)); ⟨e1, n2⟩
          refine ⟨(fix D List.mem_cons_self _ hD3).1, reps4.mono (fun a o e nw => ?_) (fun a ha o e => (fix a (List.mem_cons_of_mem _ ha) o e).1), fun a o e nw => ?_, fun a ha => ?_⟩
          · obtain ⟨e1, n1, n2⟩ := k5 a o e fun z => nw (.inr z)
            refine ⟨e1, fun z => ?_⟩
            rcases z with (z | z) | z
            · exact nw (.inl z)
            · exact n2 z
            · exact n1 z
          · obtain ⟨e1, n1, n2⟩ := keep4 a o e nw
            obtain ⟨e2, n3, n4⟩ := k5 a o e1 n1
            exact ⟨e2, n3, fun z => z.elim n2 n4⟩
          · obtain ⟨o, e⟩ := rel4.rt a (.inr ha)
            exact (fix a ha o e).2
        cases htt : tt ρ3 with
        | bad => rw [htt] at post2; exact post2.elim
        | exc e ρ4 => rw [htt] at post2; exact post2.elim
        | ok tv ρ4 =>
          rw [htt] at post2
          cases tv with
          | bl b =>
            intro H5 Os5 rel5 k5 _
            have r5 : Rel G (fun a => (R a ∨ a ∈ D :: O) ∨ a ∈ ([] : List Addr)) H5 σ3 ρ4 Os5 := e0 ▸ rel5
            obtain ⟨hD5, reps5, keep5, _⟩ := step r5 (k5.imp fun a z => nomatch z)
            rw [← e0] at reps5
            cases b with
            | false =>
              simp only [Bool.false_eq_true, if_false] at post2 ⊢
              obtain ⟨Os6, rel6, we6⟩ := rel5.wipe ow
              rw [hw] at rel6
              exact ⟨hlt, wipeV ρ4 ow, Os6, acc, xs, O, rel6, hD5, reps5.weakW fun a z => z.imp id (we6 a), nd, fun a o e nw => let ⟨e1, n1, n2⟩ := keep5 a o e nw; ⟨e1, fun z => n1 (we6 a z), fun z => n2 (.inl z)⟩, post2⟩
            | true =>
              simp only [if_true] at post2 ⊢
              refine ⟨fun a => R a ∨ a ∈ D :: O, ρ4, Os5, rel5, ?_⟩
              cases hme : me ρ4 with
              | bad => rw [hme] at post2; exact post2.elim
              | exc e ρ6 => rw [hme] at post2; exact post2.elim
              | ok v ρ6 =>
                rw [hme] at post2
                dsimp only at post2
                intro yv H6 Os6 Oy rel6 rep6 nd6 k6 _
                by_cases hacc : acc.length < 16777216
                rotate_left
                · rw [if_neg hacc] at post2; exact post2.elim
                rw [if_pos hacc] at post2
                have e1 : Rp (fun a => R a ∨ a ∈ D :: O) true Oy = fun a => (R a ∨ a ∈ D :: O) ∨ a ∈ Oy := setEq fun a => ⟨fun z => z.imp id fun z => z.2, fun z => z.imp id fun z => ⟨rfl, z⟩⟩
                rw [e1] at rel6 rep6
                have k56 : KeepE H'' Os3 H6 Os6 fun a => a ∈ Oy := fun a o e nw => by
                  obtain ⟨e2, n2, _⟩ := k5 a o e nw
                  obtain ⟨e3, n3, n4⟩ := k6 a o e2 n2
                  exact ⟨e3, n3, fun z => n4 ⟨rfl, z⟩⟩
                obtain ⟨hD6, reps6, keep6, dis⟩ := step rel6 k56
                have hxl : xs.length = acc.length := reps6.length
                refine ⟨xs, hD6, by rw [hxl]; exact (sizeLine_eq ▸ hacc), hlt, ?_⟩
                have e2 : (fun a => (R a ∨ a ∈ D :: O) ∨ a ∈ Oy) = fun a => R a ∨ a ∈ D :: (O ++ Oy) := setEq fun a => by
                  rw [List.mem_cons, List.mem_cons, List.mem_append]
                  constructor
                  · rintro ((z | z | z) | z)
                    · exact .inl z
                    · exact .inr (.inl z)
                    · exact .inr (.inr (.inl z))
                    · exact .inr (.inr (.inr z))
                  · rintro (z | z | z | z)
                    · exact .inl (.inl z)
                    · exact .inl (.inr (.inl z))
                    · exact .inl (.inr (.inr z))
                    · exact .inr z
                rw [e2] at rel6 rep6 reps6
                have rel7 := Rel.chg (D := D) (o := .lst (xs ++ [yv])) rel6 (.inr List.mem_cons_self)
                obtain ⟨Os8, rel8, we8⟩ := rel7.wipe ow
                rw [hw] at rel8
                obtain ⟨nd1, nd2⟩ := List.nodup_cons.mp nd
                have dOy : D ∉ Oy := dis D List.mem_cons_self
                have all : Reps G (WW (fun a => R a ∨ a ∈ D :: (O ++ Oy)) Os6) H6 (xs ++ [yv]) (acc ++ [v]) (O ++ (Oy ++ [])) := reps6.append (.cons rep6 .nil)
                rw [List.append_nil] at all
                have all2 : Reps G (WW (fun a => R a ∨ a ∈ D :: (O ++ Oy)) Os6) (upd H6 D (.lst (xs ++ [yv]))) (xs ++ [yv]) (acc ++ [v]) (O ++ Oy) := all.mono (fun a o e nw => ⟨by rw [upd_ne fun z => nw (.inl (.inr (by rw [z]; exact List.mem_cons_self)))]; exact e, nw⟩) fun a ha o e => by
                  rw [upd_ne fun z => ?_]; exact e
                  subst z
                  exact (List.mem_append.mp ha).elim nd1 dOy
                refine ⟨wipeV ρ6 ow, Os8, acc ++ [v], xs ++ [yv], O ++ Oy, rel8, upd_same, all2.weakW fun a z => z.imp id (we8 a), ?_, fun a o e nw => ?_, post2⟩
                · refine List.nodup_cons.mpr ⟨fun z => (List.mem_append.mp z).elim nd1 dOy, List.nodup_append.mpr ⟨nd2, nd6 rfl, fun a ha b hb e => dis a (List.mem_cons_of_mem _ ha) (e ▸ hb)⟩⟩
                · obtain ⟨e3, n3, n4⟩ := keep6 a o e nw
                  refine ⟨by rw [upd_ne fun z => n4 (.inl (by rw [z]; exact List.mem_cons_self))]; exact e3, fun z => n3 (we8 a z), fun z => n4 ?_⟩
                  rcases List.mem_cons.mp z with z | z
                  · exact .inl (by rw [z]; exact List.mem_cons_self)
                  · exact (List.mem_append.mp z).imp (List.mem_cons_of_mem _) id
          | _ => exact post2.elim
/-- [elt for target in iter if ..] -/
theorem ve_lc {sb : Bool} {elt tg iter : Expr} {ifs : List Expr} {scope : Scope} {own : List (Str × Nat)} {mi : MI} {g : MG} {tt me : ME} (hc : X.calm = true) (hN : X.N.Nodup) (hi : VI G X E tg iter mi) (ok : BlkOk X.N X.env.scope scope own)
    (hg : ∀ (s : Shared) (H : Hp) (C : Addr) (cl : List (Str × Addr)) (fp : List Addr) (σ0 : L2.St), VG G (X.blk s H scope (compEnvC scope cl C X.env) fp) (pinsBut X.N.length (own.map (·.2))) σ0 tg g)
    (ht : ∀ (s : Shared) (H : Hp) (C : Addr) (cl : List (Str × Addr)) (fp : List Addr), PTs (X.blk s H scope (compEnvC scope cl C X.env) fp) ifs (tT G WF p tt))
    (he : ∀ (s : Shared) (H : Hp) (C : Addr) (cl : List (Str × Addr)) (fp : List Addr), VE G (X.blk s H scope (compEnvC scope cl C X.env) fp) WF sb true elt me) (hs : ∀ x, foldedSetIterable iter X.env x = pure x := by intro _; rfl) :
    VE G X E false true (.ListComp elt [⟨tg, iter, ifs, 0⟩] scope pos) (mLc mi g tt me (own.map (·.2))) := by
  have hg2 : ∀ (s : Shared) (H : Hp) (C : Addr) (cl : List (Str × Addr)) (fp : List Addr), PG (X.blk s H scope (compEnvC scope cl C X.env) fp) tg (fun x σ H Q => ∃ σ0, tG G (pinsBut X.N.length (own.map (·.2))) σ0 g x σ H Q) := fun s H C cl fp =>
    ⟨fun pins st σ H' v u Q I r ⟨σ0, q⟩ => (hg s H C cl fp σ0).run pins st σ H' v u Q I r q⟩
  exact ⟨fun pins s1 σ H Q I h => (pe_lc hc hN hi ok hg2 ht he hs).run pins s1 σ H Q I (lc_reading (tg := tg) (iter := iter) (elt := elt) rfl I.len h)⟩
/-- name = [elt for target in iter if ..] -/
theorem vs_setLc {sb : Bool} {bs : List Bool} {σ0' : L2.St} {i : Nat} {y : Str} {py spos : Pos} {elt tg iter : Expr} {ifs : List Expr} {scope : Scope} {own : List (Str × Nat)} {mi : MI} {g : MG} {tt me m2 : ME} (hm2 : ∀ σ H Q, rd G E false true m2 σ H Q → rd G E false true (mLc mi g tt me (own.map (·.2))) σ H Q) (hc : X.calm = true) (hN : X.N.Nodup) (hy : X.N[i]? = some y) (hyl : X.env.scope.names.lookup y = some .local)
    (hsw : swapsWith (.ListComp elt [⟨tg, iter, ifs, 0⟩] scope pos) (some (.Name y py)) spos.line X.env = pure true)
    (hi : VI G X E tg iter mi) (ok : BlkOk X.N X.env.scope scope own)
    (hg : ∀ (s : Shared) (H : Hp) (C : Addr) (cl : List (Str × Addr)) (fp : List Addr) (σ0 : L2.St), VG G (X.blk s H scope (compEnvC scope cl C X.env) fp) (pinsBut X.N.length (own.map (·.2))) σ0 tg g)
    (ht : ∀ (s : Shared) (H : Hp) (C : Addr) (cl : List (Str × Addr)) (fp : List Addr), PTs (X.blk s H scope (compEnvC scope cl C X.env) fp) ifs (tT G WF p tt))
    (he : ∀ (s : Shared) (H : Hp) (C : Addr) (cl : List (Str × Addr)) (fp : List Addr), VE G (X.blk s H scope (compEnvC scope cl C X.env) fp) WF sb true elt me) (hb : bs[i]? ≠ some true := by decide) (hs : ∀ x, foldedSetIterable iter X.env x = pure x := by intro _; rfl) :
    VS G X E bs σ0' (.Assign [.Name y py] (.ListComp elt [⟨tg, iter, ifs, 0⟩] scope pos) spos) (mSet i m2) := by
  have hg2 : ∀ (s : Shared) (H : Hp) (C : Addr) (cl : List (Str × Addr)) (fp : List Addr), PG (X.blk s H scope (compEnvC scope cl C X.env) fp) tg (fun x σ H Q => ∃ σ0, tG G (pinsBut X.N.length (own.map (·.2))) σ0 g x σ H Q) := fun s H C cl fp =>
    ⟨fun pins st σ H' v u Q I r ⟨σ0, q⟩ => (hg s H C cl fp σ0).run pins st σ H' v u Q I r q⟩
  refine ⟨fun pins s1 σ H D I h => (ps_setLc hc hN hy hyl hsw hi ok hg2 ht he hs).run pins s1 σ H D I (lc_reading (tg := tg) (iter := iter) (elt := elt) rfl I.len (hm2 σ H _ ?_))⟩
  obtain ⟨R, ρ, Os, rel, pin, post⟩ := h
  refine ⟨R, ρ, Os, rel, ?_⟩
  refine PostS.post (s := true) (f := fun v ρ' => if i < ρ'.length then .nx (ρ'.set i (some v)) else .bad) pin post fun v ρ' x H' Os' O _ post rel' rep nd k => ?_
  by_cases hi' : i < ρ'.length
  · rw [if_pos hi'] at post
    obtain ⟨Os2, r2, k2⟩ := set_of (D := D) (.inr trivial) rel.hr rel' rep (nd rfl) k hi'
    exact post _ _ Os2 (pin.set hb) r2 k2
  · rw [if_neg hi'] at post
    exact post.elim
theorem rd_fz {m : ME} : ∀ σ H Q, rd G E false true (mFz m) σ H Q → rd G E false true m σ H Q := fun σ H Q ⟨R, ρ, Os, rel, post⟩ => ⟨R, ρ, Os, rel, post.fz rel.hr⟩
theorem rd_id {m : ME} : ∀ σ H Q, rd G E false true m σ H Q → rd G E false true m σ H Q := fun _ _ _ h => h
end
end VL
/-! VL, part P: stores into what a name holds: x.f = v, x[i] = v, x.append(v). -/
namespace VL
open PySem L2

section
variable {G : Gam} {X : Cx} {E : WX} {bs : List Bool} {σ0 : L2.St} {p s : Bool} {m : ME} {pos pos' apos : Pos}
/-- the object at the root of what a name holds is written anew -/
theorem Rel.root {R : Addr → Prop} {H : Hp} {σ : L2.St} {ρ : VEnv} {Os : Nat → List Addr} {O P P' : List Addr} {i : Nat} {v w : Val} {a : Addr} {ob ob' : HO} (rel : Rel G (fun a => R a ∨ a ∈ O) H σ ρ Os) (nO : ∀ a ∈ O, ¬ R a) (hv : ρ[i]? = some (some v)) (hx : σ[i]? = some (some (.ref a))) (hO : Os i = a :: P)
    (ha : H a = some ob) (hP : ∀ b ∈ P', b ∈ P ∨ b ∈ O) (nd : P'.Nodup)
    (mk : (∀ z u Oz, (∀ b ∈ Oz, b ∈ P ∨ b ∈ O) → Rep G (WW (fun a => R a ∨ a ∈ O) Os) H z u Oz → Rep G (WW R (fun j => if j = i then a :: P' else Os j)) (upd H a ob') z u Oz) → upd H a ob' a = some ob' → Rep G (WW R (fun j => if j = i then a :: P' else Os j)) (upd H a ob') (.ref a) w (a :: P')) :
    Rel G R (upd H a ob') σ (ρ.set i (some w)) (fun j => if j = i then a :: P' else Os j) ∧ ∀ b o, H b = some o → ¬ We Os b → ¬ b ∈ O → upd H a ob' b = some o ∧ ¬ We (fun j => if j = i then a :: P' else Os j) b := by
  have ain : a ∈ Os i := by rw [hO]; exact List.mem_cons_self
  have hnd := rel.nd i
  rw [hO] at hnd
  obtain ⟨nd1, nd2⟩ := List.nodup_cons.mp hnd
  have aO : a ∉ O := fun z => rel.dr i a ain (.inr z)
  have ne : ∀ b, b ∈ P ∨ b ∈ O → b ≠ a := fun b h e => h.elim (fun z => nd1 (e ▸ z)) fun z => aO (e ▸ z)
  have old : ∀ b ∈ a :: P', b ∈ Os i ∨ b ∈ O := fun b h => by
    rcases List.mem_cons.mp h with z | z
    · exact .inl (z ▸ ain)
    · exact (hP b z).imp (fun z => by rw [hO]; exact List.mem_cons_of_mem _ z) id
  have we : ∀ b, We (fun j => if j = i then a :: P' else Os j) b → We Os b ∨ b ∈ O := fun b ⟨j, z⟩ => by
    by_cases hj : j = i
    · simp only [hj, if_true] at z; exact (old b z).imp (fun z => ⟨i, z⟩) id
    · simp only [hj, if_false] at z; exact .inl ⟨j, z⟩
  have kp : Keep (WW (fun a => R a ∨ a ∈ O) Os) H (WW R (fun j => if j = i then a :: P' else Os j)) (upd H a ob') := fun b o e nw => by
    refine ⟨(upd_ne (show b ≠ a from fun z => nw (.inr ⟨i, by rw [z]; exact ain⟩))).trans e, fun z => ?_⟩
    rcases z with z | z
    · exact nw (.inl (.inl z))
    · exact (we b z).elim (fun z => nw (.inr z)) fun z => nw (.inl (.inr z))
  have hi : i < ρ.length := (List.getElem?_eq_some_iff.mp hv).1
  refine ⟨⟨by rw [List.length_set]; exact rel.len, fun j u hu => ?_, fun j hj => ?_, fun j => ?_, fun j k b hb hb' => ?_, fun j b hb z => ?_, fun b z => ?_⟩, fun b o e nw nO => ⟨(upd_ne (show b ≠ a from fun z => nw ⟨i, by rw [z]; exact ain⟩)).trans e, fun z => (we b z).elim nw nO⟩⟩
  · by_cases h : j = i
    · subst h
      rw [List.getElem?_set_self hi] at hu
      cases hu
      refine ⟨.ref a, hx, ?_⟩
      show Rep G _ _ _ _ (if j = j then a :: P' else Os j)
      rw [if_pos rfl]
      exact mk (fun z u Oz hz r => r.mono kp fun b hb o e => by rw [upd_ne (ne b (hz b hb))]; exact e) upd_same
    · rw [List.getElem?_set_ne (Ne.symm h)] at hu
      obtain ⟨x, e, r⟩ := rel.rep j u hu
      refine ⟨x, e, ?_⟩
      show Rep G _ _ _ _ (if j = i then a :: P' else Os j)
      rw [if_neg h]
      exact r.mono kp fun b hb o e => (upd_ne (show b ≠ a from fun z => h (rel.dj j i a (by rw [← z]; exact hb) ain))).trans e
  · by_cases h : j = i
    · subst h; exact absurd (List.getElem?_set_self hi) (hj w)
    · simp only [h, if_false]
      exact rel.nil j fun u hu => hj u (by rw [List.getElem?_set_ne (Ne.symm h)]; exact hu)
  · by_cases h : j = i
    · simp only [h, if_true]
      exact List.nodup_cons.mpr ⟨fun z => ne a (hP a z) rfl, nd⟩
    · simp only [h, if_false]; exact rel.nd j
  · by_cases h : j = i <;> by_cases h' : k = i
    · rw [h, h']
    · simp only [h, h', if_true, if_false] at hb hb'
      exact (old b hb).elim (fun z => absurd (rel.dj k i b hb' z) h') fun z => absurd (.inr z) (rel.dr k b hb')
    · simp only [h, h', if_true, if_false] at hb hb'
      exact (old b hb').elim (fun z => absurd (rel.dj j i b hb z) h) fun z => absurd (.inr z) (rel.dr j b hb)
    · simp only [h, h', if_false] at hb hb'; exact rel.dj j k b hb hb'
  · by_cases h : j = i
    · simp only [h, if_true] at hb
      exact (old b hb).elim (fun q => rel.dr i b q (.inl z)) fun q => nO b q z
    · simp only [h, if_false] at hb; exact rel.dr j b hb (.inl z)
  · by_cases h : b = a
    · subst h; exact ⟨_, upd_same⟩
    · rw [upd_ne h]; exact rel.rt b (.inl z)

/-! ### x.f = value -/
def putFn (f : Str) (ns : List Str) : List Str := if f ∈ ns then ns else ns ++ [f]
def putFv (f : Str) (v : Val) : List Str → List Val → List Val
  | n :: ns, x :: xs => if n = f then v :: xs else x :: putFv f v ns xs
  | _, _ => [v]
theorem putFn_map {f : Str} {y : V} : ∀ fs : List (Str × V), (putF f y fs).map (·.1) = putFn f (fs.map (·.1))
  | [] => by simp [putF, putFn]
  | (g, x) :: r => by
    have ih := putFn_map (f := f) (y := y) r
    unfold putF
    by_cases h : g = f
    · rw [if_pos h]; simp [putFn, h]
    · rw [if_neg h]
      simp only [List.map_cons, ih]
      unfold putFn
      by_cases h2 : f ∈ r.map (·.1)
      · rw [if_pos h2, if_pos (List.mem_cons_of_mem _ h2)]
      · rw [if_neg h2, if_neg (fun z => (List.mem_cons.mp z).elim (fun z => h z.symm) h2)]
        rfl
theorem reps_putF {W W' : Addr → Prop} {H H' : Hp} {P0 O : List Addr} {f : Str} {y : V} {v : Val} (tr : ∀ z u Oz, (∀ b ∈ Oz, b ∈ P0 ∨ b ∈ O) → Rep G W H z u Oz → Rep G W' H' z u Oz) (ry : Rep G W H y v O) (ndO : O.Nodup) :
    ∀ {fs : List (Str × V)} {vs : List Val} {P : List Addr}, Reps G W H (fs.map (·.2)) vs P → (∀ b ∈ P, b ∈ P0) → P.Nodup → (∀ b ∈ P, b ∉ O) →
      ∃ P', Reps G W' H' ((putF f y fs).map (·.2)) (putFv f v (fs.map (·.1)) vs) P' ∧ (∀ b ∈ P', b ∈ P ∨ b ∈ O) ∧ P'.Nodup
  | [], vs, P, r, hs, nd, dj => by
    cases r
    refine ⟨O ++ [], .cons (tr _ _ _ (fun b hb => .inr hb) ry) .nil, fun b hb => .inr (by simpa using hb), by simpa using ndO⟩
  | (g, x) :: fs, vs, P, r, hs, nd, dj => by
    cases r with
    | @cons _ w _ ws O1 O2 r t =>
      obtain ⟨n1, n2, n3⟩ := List.nodup_append.mp nd
      have h2 : ∀ b ∈ O2, b ∈ P0 := fun b hb => hs b (List.mem_append_right _ hb)
      simp only [List.map_cons]
      unfold putF putFv
      by_cases h : g = f
      · rw [if_pos h, if_pos h]
        have t' : Reps G W' H' (fs.map (·.2)) ws O2 := by
          clear r n3 n1 nd dj hs
          generalize fs.map (·.2) = xs at t
          induction ws generalizing xs O2 with
          | nil => cases t; exact .nil
          | cons u us ih =>
            cases t with
            | @cons _ _ _ _ Oa Ob r t =>
              obtain ⟨m1, m2, m3⟩ := List.nodup_append.mp n2
              exact .cons (tr _ _ _ (fun b hb => .inl (h2 b (List.mem_append_left _ hb))) r) (ih m2 (fun b hb => h2 b (List.mem_append_right _ hb)) _ t)
        refine ⟨O ++ O2, .cons (tr _ _ _ (fun b hb => .inr hb) ry) t', fun b hb => ?_, List.nodup_append.mpr ⟨ndO, n2, fun a ha b hb e => dj b (List.mem_append_right _ hb) (e ▸ ha)⟩⟩
        rcases List.mem_append.mp hb with z | z
        · exact .inr z
        · exact .inl (List.mem_append_right _ z)
      · rw [if_neg h, if_neg h]
        obtain ⟨P', q1, q2, q3⟩ := reps_putF tr ry ndO t h2 n2 fun b hb => dj b (List.mem_append_right _ hb)
        refine ⟨O1 ++ P', .cons (tr _ _ _ (fun b hb => .inl (hs b (List.mem_append_left _ hb))) r) q1, fun b hb => ?_, List.nodup_append.mpr ⟨n1, q3, fun a ha b hb e => ?_⟩⟩
        · rcases List.mem_append.mp hb with z | z
          · exact .inl (List.mem_append_left _ z)
          · exact (q2 b z).imp (List.mem_append_right _) id
        · subst e
          exact (q2 a hb).elim (fun z => n3 a ha a z rfl) fun z => dj a (List.mem_append_left _ ha) z
def mSetF (cs : List Nat) (i : Nat) (f : Str) (m : ME) : MS := fun ρ => match m ρ with
  | .ok v ρ1 => (match ρ1[i]? with
    | some (some (.obj true n fs xs)) => if n ∈ cs ∧ fs.length < 1000 then .nx (ρ1.set i (some (.obj true n (putFn f fs) (putFv f v fs xs)))) else .bad
    | _ => .bad)
  | .exc e ρ' => .exc e ρ'
  | .bad => .bad
theorem rep_objO {W : Addr → Prop} {H : Hp} {x : V} {n : Nat} {ns : List Str} {vs : List Val} {O : List Addr} (r : Rep G W H x (.obj true n ns vs) O) : ∃ a C dx fs P, x = .ref a ∧ O = a :: P ∧ H a = some (.ins C dx fs) ∧ G.cn n = some C ∧ ns = fs.map (·.1) ∧ Reps G W H (fs.map (·.2)) vs P := by
  cases r with
  | objO h hc hn r => exact ⟨_, _, _, _, _, rfl, rfl, h, hc, hn, r⟩
theorem vs_setF {cs : List Nat} {i : Nat} {f : Str} {o e : Expr} (F : FldF G X.K cs f) (ho : PE X o (tVar i)) (he : VE G X E p true e m) (hs : swapsWith e (some (.Attribute o f pos')) pos.line X.env = pure false := by rfl) :
    VS G X E bs σ0 (.Assign [.Attribute o f pos'] e pos) (mSetF cs i f m) := by
  refine PS.pre (ps_fld ho he hs) fun D σ H ⟨R, ρ, Os, rel, pin, post⟩ => ⟨R, ρ, Os, rel, ?_⟩
  refine PostS.post (s := true) (f := fun v ρ1 => match ρ1[i]? with
    | some (some (.obj true n fs xs)) => if n ∈ cs ∧ fs.length < 1000 then .nx (ρ1.set i (some (.obj true n (putFn f fs) (putFv f v fs xs)))) else .bad
    | _ => .bad) pin post fun v ρ1 y H1 Os1 O _ post rel1 rep nd k => ?_
  have e0 : Rp R true O = fun a => R a ∨ a ∈ O := setEq fun a => ⟨fun z => z.imp id fun z => z.2, fun z => z.imp id fun z => ⟨rfl, z⟩⟩
  rw [e0] at rel1 rep
  have nO : ∀ a ∈ O, ¬ R a := fun a ha z => let ⟨o, e, nw⟩ := rel.hr a z; (k a o e nw).2.2 ⟨rfl, ha⟩
  split at post
  · rename_i n fs xs hv
    by_cases hn : n ∈ cs ∧ fs.length < 1000
    rotate_left
    · rw [if_neg hn] at post; exact post.elim
    rw [if_pos hn] at post
    obtain ⟨x, hx, rv⟩ := rel1.rep i _ hv
    obtain ⟨a, C, dx, fs', P, rfl, hO, ea, hC, rfl, reps⟩ := rep_objO rv
    obtain ⟨c1, c2⟩ := F _ hn.1 C hC
    have hnd := rel1.nd i
    rw [hO] at hnd
    obtain ⟨nd1, nd2⟩ := List.nodup_cons.mp hnd
    refine ⟨.ref a, hx, a, C, dx, fs', rfl, ea, c1, c2, by simpa using hn.2, ?_⟩
    have djP : ∀ b ∈ P, b ∉ O := fun b hb z => rel1.dr i b (by rw [hO]; exact List.mem_cons_of_mem _ hb) (.inr z)
    obtain ⟨P', _, hP', ndP'⟩ := reps_putF (f := f) (P0 := P) (fun z u Oz _ r => r) rep (nd rfl) reps (fun b hb => hb) nd2 djP
    obtain ⟨r2, k2⟩ := Rel.root (P' := P') (ob' := .ins C dx (putF f y fs')) (w := .obj true n (putFn f (fs'.map (·.1))) (putFv f v (fs'.map (·.1)) xs)) rel1 nO hv hx hO ea hP' ndP' fun tr same => by
      have key : ∀ {fs : List (Str × V)} {vs : List Val} {P2 : List Addr}, Reps G (WW (fun a => R a ∨ a ∈ O) Os1) H1 (fs.map (·.2)) vs P2 → (∀ b ∈ P2, b ∈ P ∨ b ∈ O) → Reps G (WW R (fun j => if j = i then a :: P' else Os1 j)) (upd H1 a (.ins C dx (putF f y fs'))) (fs.map (·.2)) vs P2 := by
        intro fs vs P2 r hP2
        generalize fs.map (·.2) = zs at r
        induction vs generalizing zs P2 with
        | nil => cases r; exact .nil
        | cons u us ih =>
          cases r with
          | cons r t => exact .cons (tr _ _ _ (fun b hb => hP2 b (List.mem_append_left _ hb)) r) (ih (fun b hb => hP2 b (List.mem_append_right _ hb)) _ t)
      exact .objO same hC (putFn_map fs').symm (key ‹_› hP')
    refine post σ _ _ pin r2 fun b o e nw => ?_
    obtain ⟨e1, n1, n2⟩ := k b o e nw
    obtain ⟨e2, n3⟩ := k2 b o e1 n1 fun z => n2 ⟨rfl, z⟩
    exact ⟨e2, n3, id⟩
  · exact post.elim

/-! ### x[i] = value, x a list or a dict of ints and texts -/
/-- a list's item, exchanged -/
theorem reps_trans {W W' : Addr → Prop} {H H' : Hp} {Q0 : Addr → Prop} (tr : ∀ z u Oz, (∀ b ∈ Oz, Q0 b) → Rep G W H z u Oz → Rep G W' H' z u Oz) : ∀ {xs : List V} {vs : List Val} {P : List Addr}, Reps G W H xs vs P → (∀ b ∈ P, Q0 b) → Reps G W' H' xs vs P
  | _, [], _, r, _ => by cases r; exact .nil
  | _, v :: vs, _, r, h => by
    cases r with
    | cons r t => exact .cons (tr _ _ _ (fun b hb => h b (List.mem_append_left _ hb)) r) (reps_trans tr t fun b hb => h b (List.mem_append_right _ hb))
def mPutL (i : Nat) (mi m : ME) : MS := fun ρ => match m ρ with
  | .ok v ρ1 => (match mi ρ1 with
    | .ok (.int k) ρ2 => if ρ2 = ρ1 then (match ρ2[i]? with
      | some (some (.lst true xs)) => (match ixN xs.length k with
        | some j => .nx (ρ2.set i (some (.lst true (xs.set j v))))
        | none => .bad)
      | _ => .bad) else .bad
    | _ => .bad)
  | .exc e ρ' => .exc e ρ'
  | .bad => .bad
theorem vs_putL {i : Nat} {o e ix : Expr} {mi : ME} {sp2 : Bool} (ho : PE X o (tVar i)) (hi : VE G X E true sp2 ix mi) (he : VE G X E p true e m) (hs : swapsWithSole [.Subscript o ix pos'] e pos.line X.env = pure false := by rfl) (hw : swappedStores [.Subscript o ix pos'] e X.env = pure none := by rfl)
    (h1 : (assignEach [.Subscript o ix pos'] X.env).map (·.2) = [assign (.Subscript o ix pos') X.env] := by rfl)
    (ha : ∀ v, assign (.Subscript o ix pos') X.env v = (do
      let ov ← holding [v] (eval o X.env)
      let iv ← holding [v, ov] (eval ix X.env)
      standAt pos'
      holding [v, ov, iv] (setItem ov iv v)
      release [v, ov, iv] []) := by intro _; rfl) : VS G X E bs σ0 (.Assign [.Subscript o ix pos'] e pos) (mPutL i mi m) := by
  refine PS.pre (ps_asg he (pg_sub ho hi set_list ha) hs hw h1) fun D σ H ⟨R, ρ, Os, rel, pin, post⟩ => ⟨R, ρ, Os, rel, ?_⟩
  refine PostS.post (s := true) (f := fun v ρ1 => match mi ρ1 with
    | .ok (.int k) ρ2 => if ρ2 = ρ1 then (match ρ2[i]? with
      | some (some (.lst true xs)) => (match ixN xs.length k with
        | some j => .nx (ρ2.set i (some (.lst true (xs.set j v))))
        | none => .bad)
      | _ => .bad) else .bad
    | _ => .bad) pin post fun v ρ1 y H1 Os1 O _ post rel1 rep nd k => ?_
  have e0 : Rp R true O = fun a => R a ∨ a ∈ O := setEq fun a => ⟨fun z => z.imp id fun z => z.2, fun z => z.imp id fun z => ⟨rfl, z⟩⟩
  rw [e0] at rel1 rep
  have nO : ∀ a ∈ O, ¬ R a := fun a ha z => let ⟨o, e, nw⟩ := rel.hr a z; (k a o e nw).2.2 ⟨rfl, ha⟩
  have kl : KeepE H Os H1 Os1 fun _ => False := k.imp fun _ z => z.elim
  cases hmi : mi ρ1 with
  | bad => rw [hmi] at post; exact post.elim
  | exc ee ρ2 => rw [hmi] at post; exact post.elim
  | ok kv ρ2 =>
    rw [hmi] at post
    cases kv with
    | int kk =>
      dsimp only at post
      by_cases hp : ρ2 = ρ1
      rotate_left
      · rw [if_neg hp] at post; exact post.elim
      rw [if_pos hp] at post
      subst hp
      split at post
      · rename_i xs hv
        cases hj : ixN xs.length kk with
        | none => rw [hj] at post; exact post.elim
        | some j =>
          rw [hj] at post
          dsimp only at post
          obtain ⟨x, hx, rv⟩ := rel1.rep i _ hv
          refine ⟨x, hx, fun a => R a ∨ a ∈ O, ρ2, Os1, rel1, ?_⟩
          rw [hmi]
          intro kv H2 Os2 Ok rel2 rk ndk k2 pure
          cases rk
          obtain ⟨_, rfl, same⟩ := pure rfl
          have rel3 : Rel G (fun a => R a ∨ a ∈ O) H2 σ ρ2 Os2 := rel2.weak fun a z => .inl z
          obtain ⟨x', hx', rv3⟩ := rel3.rep i _ hv
          rw [hx] at hx'
          cases hx'
          have rep3 : Rep G (WW (fun a => R a ∨ a ∈ O) Os2) H2 y v O := rep.mono (fun a o e nw => ⟨same a o e, nw⟩) fun a _ o e => same a o e
          generalize hOi : Os2 i = Oi at rv3
          cases rv3 with
          | @lstO a ys _ P ea r =>
            obtain ⟨w, hw⟩ : ∃ w, xs[j]? = some w := ⟨xs[j]'((ixN_seq hj).2.1), List.getElem?_eq_getElem _⟩
            obtain ⟨z, O1, Oz, O2, e1, e2, rz, set⟩ := r.set hw
            have hnd := rel3.nd i
            rw [hOi] at hnd
            obtain ⟨nd1, nd2⟩ := List.nodup_cons.mp hnd
            rw [e2] at nd2
            obtain ⟨m1, m2, m3⟩ := List.nodup_append.mp nd2
            obtain ⟨m4, m5, m6⟩ := List.nodup_append.mp m2
            have djP : ∀ b ∈ P, b ∉ O := fun b hb z => rel3.dr i b (by rw [hOi]; exact List.mem_cons_of_mem _ hb) (.inr z)
            have hP' : ∀ b ∈ O1 ++ (O ++ O2), b ∈ P ∨ b ∈ O := fun b hb => by
              rw [e2]
              rcases List.mem_append.mp hb with q | q
              · exact .inl (List.mem_append_left _ q)
              · rcases List.mem_append.mp q with q | q
                · exact .inr q
                · exact .inl (List.mem_append_right _ (List.mem_append_right _ q))
            have ndP' : (O1 ++ (O ++ O2)).Nodup := by
              refine List.nodup_append.mpr ⟨m1, List.nodup_append.mpr ⟨nd rfl, m5, fun b hb c hc e => djP c (by rw [e2]; exact List.mem_append_right _ (List.mem_append_right _ hc)) (e ▸ hb)⟩, fun b hb c hc e => ?_⟩
              subst e
              rcases List.mem_append.mp hc with q | q
              · exact djP b (by rw [e2]; exact List.mem_append_left _ hb) q
              · exact m3 b hb b (List.mem_append_right _ q) rfl
            refine ⟨a, ys, kk, j, rfl, rfl, ea, by rw [r.length]; exact hj, ?_⟩
            obtain ⟨r2, k3⟩ := Rel.root (P' := O1 ++ (O ++ O2)) (ob' := .lst (ys.set j y)) (w := .lst true (xs.set j v)) rel3 nO hv hx hOi ea hP' ndP' fun tr same2 => by
              refine .lstO same2 (set _ _ y v O (fun z u Oz hz r => tr z u Oz (fun b hb => ?_) r) (tr _ _ _ (fun b hb => .inr hb) rep3))
              rw [e2]
              rcases List.mem_append.mp (hz b hb) with q | q
              · exact .inl (List.mem_append_left _ q)
              · exact .inl (List.mem_append_right _ (List.mem_append_right _ q))
            refine post σ _ _ pin r2 fun b o e nw => ?_
            obtain ⟨e3, n1, n2⟩ := k b o e nw
            obtain ⟨e4, n3⟩ := k3 b o (same b o e3) n1 fun z => n2 ⟨rfl, z⟩
            exact ⟨e4, n3, id⟩
      · exact post.elim
    | _ => exact post.elim

/-! ### x.append(value) -/
def mApp (i : Nat) (m : ME) : ME := fun ρ => match m ρ with
  | .ok v ρ1 => (match ρ1[i]? with
    | some (some (.lst true xs)) => if xs.length < 16777216 then .ok .non (ρ1.set i (some (.lst true (xs ++ [v])))) else .bad
    | _ => .bad)
  | .exc e ρ' => .exc e ρ'
  | .bad => .bad
end
end VL
/-! VL, part Q: f-strings; is None; facts by names; the head. -/
namespace VL
open PySem L2

/-! ### f-strings -/
def semFmt1 : List Val → Option Val
  | [v] => match semFmt v with
    | some y => some (.str y)
    | none => none
  | _ => none
def mJoin : List ME → Str → ME
  | [], acc => fun ρ => .ok (.str acc) ρ
  | m :: ms, acc => fun ρ => match m ρ with
    | .ok (.str y) ρ1 => if (acc ++ y).length ≤ 16777216 then mJoin ms (acc ++ y) ρ1 else .bad
    | .ok _ _ => .bad
    | .exc e ρ1 => .exc e ρ1
    | .bad => .bad
section
variable {G : Gam} {X : Cx} {E : WX} {p s : Bool} {m : ME} {pos : Pos}
theorem ve_fmt {e : Expr} (h : VE G X E p s e m) : VE G X E p true (.FormattedValue e (-1) none pos) (mFun semFmt1 [m]) := by
  have := ve_fun (G := G) (E := E) (os := [⟨p, s, m⟩]) (pe_fmt (pos := pos) h) (r := fun xs H Q => match xs with
    | [x] => (∃ y : Str, x = .str y ∧ y.length ≤ sizeLine ∧ Q (.str y) H) ∨ ∃ i : Int, x = .int i ∧ i.natAbs.log2 < 1920 ∧ Q (.str (toString i)) H
    | _ => False) (fun σ H Q z => z) (sem := semFmt1) (fun W H xs vs Ol v Q w r hs mk => by
      unfold semFmt1 at hs
      split at hs
      · rename_i v0
        obtain ⟨x, O, rfl, r1⟩ := r.inv1
        split at hs
        · rename_i y hy
          cases hs
          unfold semFmt at hy
          split at hy
          · cases r1
            split at hy
            · rename_i hz
              cases hy
              exact .inl ⟨_, rfl, sz_le hz, mk.same (.str _)⟩
            · cases hy
          · cases r1
            split at hy
            · rename_i hz
              cases hy
              exact .inr ⟨_, rfl, hz, mk.same (.str _)⟩
            · cases hy
          · cases hy
        · cases hs
      · cases hs) wf1
  simpa using this
/-- the parts -/
inductive VJ (G : Gam) (X : Cx) (E : WX) : List Expr → List Op → Prop where
  | nil : VJ G X E [] []
  | cons {e : Expr} {p s : Bool} {m : ME} {es : List Expr} {os : List Op} (h : VE G X E p s e m) (r : VJ G X E es os) : VJ G X E (e :: es) (⟨p, s, m⟩ :: os)
theorem VJ.pj {es : List Expr} {os : List Op} (h : VJ G X E es os) : PJ X es (os.map fun o => rd G E o.p o.s o.m) := by
  induction h with
  | nil => exact .nil
  | cons h r ih => exact .cons h ih
theorem join_of {σ : L2.St} {Q : VK} : ∀ {os : List Op} {acc : Str} {R : Addr → Prop} {H : Hp} {ρ : VEnv} {Os : Nat → List Addr}, Rel G R H σ ρ Os → Post G R E σ H Os (os.all (·.p)) true ρ Q (mJoin (os.map Op.m) acc ρ) → tJs (os.map fun o => rd G E o.p o.s o.m) acc σ H fun out H1 => Q (.str out) H1
  | [], acc, R, H, ρ, Os, rel, post => post (.str acc) H Os [] (rel.weak fun a z => z.elim id fun z => nomatch z.2) (.str _) (fun _ => List.nodup_nil) (KeepE.refl.imp fun a z => nomatch z.2) fun _ => ⟨rfl, rfl, fun _ _ e => e⟩
  | o :: os, acc, R, H, ρ, Os, rel, post => by
    refine ⟨R, ρ, Os, rel, ?_⟩
    rw [List.map_cons] at post
    unfold mJoin at post
    cases hm : o.m ρ with
    | bad => rw [hm] at post; exact post
    | exc e ρ1 => rw [hm] at post; exact post
    | ok v ρ1 =>
      rw [hm] at post
      cases v with
      | str y =>
        dsimp only at post
        by_cases hl : (acc ++ y).length ≤ 16777216
        rotate_left
        · rw [if_neg hl] at post; exact post.elim
        rw [if_pos hl] at post
        intro x H1 Os1 O rel1 rep nd keep pure
        cases rep
        refine ⟨y, rfl, sz_le hl, join_of (rel1.weak fun a z => .inl z) ?_⟩
        exact Post.later (p1 := o.p) (by simp) id post (keep.imp fun _ z => z.elim) pure
      | _ => exact post.elim
theorem ve_join {v1 v2 : Expr} {rest : List Expr} {os : List Op} (h : VJ G X E (v1 :: v2 :: rest) os) : VE G X E (os.all (·.p)) true (.JoinedStr (v1 :: v2 :: rest) pos) (mJoin (os.map Op.m) Str.empty) :=
  PE.pre (pe_joined h.pj) fun σ H Q ⟨R, ρ, Os, rel, post⟩ => join_of rel post

/-! ### facts by names: any test of the part of the heap that the head shows; a def wherever it stands -/
/-- what a property's record names first -/
def getr (K : PySem.W.Frag) (p : Addr) (i : Nat) : Addr := match PySem.W.recIn K p "property" with
  | some l => (match l[i]? with
    | some (.ref g) => g
    | _ => 0)
  | none => 0
structure VDef where
  ad : PySem.W.Frag → Addr
  name : Str
  qual : Str
  params : Arguments
  body : List Stmt
  scope : Scope
  dfl : List He.Dv := []
  kwd : List (Str × He.Dv) := []
def VDef.shape (d : VDef) : He.FnW := some (d.name, d.qual, d.params, .stmts d.body, d.scope, mainGlobals, [], builtinsNs)
def VDef.dvs (K : PySem.W.Frag) (d : VDef) : List V := d.dfl.map (He.Dv.v K)
def VDef.kws (K : PySem.W.Frag) (d : VDef) : List (Str × V) := d.kwd.map fun q => (q.1, q.2.v K)
def VDef.seen (K : PySem.W.Frag) (d : VDef) : He.FnW := match K.lookup (d.ad K) with
  | some ⟨_, _, .func fd, _⟩ => some (fd.name, fd.qualname, fd.params, fd.body, fd.scope, fd.globals, fd.closure, fd.builtins)
  | _ => none
def VDef.good (K : PySem.W.Frag) (d : VDef) : Bool := PySem.W.keepIn K (.ref (d.ad K)) && (match K.lookup (d.ad K) with
  | some ⟨_, _, .func fd, _⟩ => PySem.W.codeIn K fd.code d.qual && (He.dflB K fd.defaults (d.dvs K) && He.kwdB K fd.kwdefaults (d.kws K))
  | _ => false)
abbrev FunV (K : PySem.W.Frag) (d : VDef) (fd : FuncData) : Prop := FunD K d.name d.qual d.params d.body d.scope (d.dvs K) (d.kws K) (d.ad K) fd
theorem VDef.funD {K : PySem.W.Frag} {d : VDef} (e : d.seen K = d.shape) (c : d.good K = true) : ∃ fd, FunV K d fd := by
  unfold VDef.good at c
  rw [Bool.and_eq_true] at c
  obtain ⟨kp, c2⟩ := c
  unfold VDef.seen at e
  cases q : K.lookup (d.ad K) with
  | none => rw [q] at c2; cases c2
  | some o =>
    obtain ⟨oc, od, dt, osl⟩ := o
    rw [q] at c2 e
    cases dt with
    | func fd =>
      obtain ⟨n1, n2, n3, n4, n5, n6, n7, n8, n9, n10, n11, n12, n13, n14, n15⟩ := fd
      simp only [VDef.shape, Option.some.injEq, Prod.mk.injEq] at e
      obtain ⟨h1, h2, h3, h4, h5, h6, h7, h8⟩ := e
      subst h1 h2 h3 h4 h5 h6 h7 h8
      simp only [Bool.and_eq_true] at c2
      obtain ⟨k1, k3, k4⟩ := c2
      exact ⟨_, ⟨oc, od, n8, n9, n10, n11, n12, n13, n14, osl, rfl, q, k1, He.dflB_ok k3, He.kwdB_ok k4⟩, kp⟩
    | _ => cases c2
def obsV (fa : List (PySem.W.Frag → Bool)) (fn : List VDef) (K : PySem.W.Frag) : He.AlD := ((fa.all fun f => f K) && fn.all fun d => d.good K, fn.map fun d => d.seen K)
def SaysV (fa : List (PySem.W.Frag → Bool)) (fn : List VDef) (K : PySem.W.Frag) : Prop := obsV fa fn K = (true, fn.map VDef.shape)
def obsVG (n : Nat) (fa : List (PySem.W.Frag → Bool)) (fn : List VDef) (g : Addr → Option Obj) : He.AlD := obsV fa fn (He.frG g (He.asD g n))
def hookV (n : Nat) (fa : List (PySem.W.Frag → Bool)) (fn : List VDef) : PySem.W.Hook where
  α := He.AlD
  obs := fun s => obsVG n fa fn s.heap.get?
  val := fun _ => (true, fn.map VDef.shape)
  says := fun _ h => ∃ K : PySem.W.Frag, K.In h ∧ SaysV fa fn K
  of := fun _ _ e => ⟨_, He.frG_in, e⟩
  keeps := fun _ _ _ ⟨K, hK, c⟩ k => ⟨K, PySem.W.Frag.In.keeps hK k, c⟩
theorem obsVG_eq {n : Nat} {fa : List (PySem.W.Frag → Bool)} {fn : List VDef} {g : Addr → Option Obj} {s : Shared} (h : ∀ a, g a = s.heap.get? a) : obsVG n fa fn g = (hookV n fa fn).obs s := by
  have e : g = s.heap.get? := funext h
  rw [e]; rfl
theorem SaysV.fact {fa : List (PySem.W.Frag → Bool)} {fn : List VDef} {K : PySem.W.Frag} (c : SaysV fa fn K) (i : Nat) {f : PySem.W.Frag → Bool} (h : fa[i]? = some f := by rfl) : f K = true := by
  have c1 : ((fa.all fun f => f K) && fn.all fun d => d.good K) = true := congrArg (fun z : He.AlD => z.1) c
  exact List.all_eq_true.mp (He.ba c1).1 f (List.mem_of_getElem? h)
theorem SaysV.def_ {fa : List (PySem.W.Frag → Bool)} {fn : List VDef} {K : PySem.W.Frag} (c : SaysV fa fn K) (i : Nat) {d : VDef} (h : fn[i]? = some d := by rfl) : ∃ fd, FunV K d fd := by
  have c1 : ((fa.all fun f => f K) && fn.all fun d => d.good K) = true := congrArg (fun z : He.AlD => z.1) c
  have c2 : (fn.map fun d => d.seen K) = fn.map VDef.shape := congrArg (fun z : He.AlD => z.2) c
  have c3 : (fn.map fun d => d.seen K)[i]? = (fn.map VDef.shape)[i]? := by rw [c2]
  rw [List.getElem?_map, List.getElem?_map, h] at c3
  exact VDef.funD (Option.some.inj c3) (List.all_eq_true.mp (He.ba c1).2 d (List.mem_of_getElem? h))
/-- a def that keeps its promise -/
def Ok (P : Program) (w : World) (K : PySem.W.Frag) (mg : Str → Option Value) (base : Heap) (G : Gam) (d : VDef) (k : Nat) (ps : List Str) (mf : MF) : Prop :=
  ∃ fd, FunV K d fd ∧ FnOk P w K mg base (L2.CX P w) k (d.ad K) fd ps (spV G ps.length mf)
theorem ok_of {P : Program} {w : World} {K : PySem.W.Frag} {mg : Str → Option Value} {base : Heap} {G : Gam} {d : VDef} {k : Nat} {N ps : List Str} {bs : List Bool} {mb : MS} (F : ∃ fd, FunV K d fd) (S : FnScope N ps d.scope) (hn : bs.length = ps.length)
    (hbody : ∀ (cdv : Value) (A : Around) (outer : List Env) (s : Shared) (H : Hp) (E : XK), Room k (A.deeper (PyProof.Rows.envOfC d.qual d.scope s.heap.objs.size (d.ad K) cdv)) → Takes (cxOf (L2.CX P w) P w K mg base N d.qual d.scope (d.ad K) cdv A outer s H E) (fun c d _ H => E c d H) →
      PassesOwn (model P w) (A.deeper (PyProof.Rows.envOfC d.qual d.scope s.heap.objs.size (d.ad K) cdv)) (PyProof.Rows.envOfC d.qual d.scope s.heap.objs.size (d.ad K) cdv) (cxOf (L2.CX P w) P w K mg base N d.qual d.scope (d.ad K) cdv A outer s H E).xe → ∀ σ0, VSs G (cxOf (L2.CX P w) P w K mg base N d.qual d.scope (d.ad K) cdv A outer s H E) (fun c d _ H => E c d H) bs σ0 d.body mb) :
    Ok P w K mg base G d (k + 1) ps (mBody bs N.length mb) := by
  obtain ⟨fd, F⟩ := F
  refine ⟨fd, F, ?_⟩
  obtain ⟨oc, od, dV, kV, doc, pm, an, cdv, ct, osl, e, lk, hcd, _, _⟩ := F.ex
  subst e
  exact fnv_of lk hcd S hn fun A outer s H E hr σ0 => hbody cdv A outer s H E hr (takes_of rfl rfl rfl rfl) (passes_of (X := cxOf (L2.CX P w) P w K mg base N d.qual d.scope (d.ad K) cdv A outer s H E) rfl) σ0
theorem takesF {Y : Cx} : Takes Y WF := fun u s' ⟨_, _, _, _, _, _, _, _, _, _, _, _, _, _, _, _, w⟩ => w.elim
/-- the law's promise -/
theorem law_sp {K : PySem.W.Frag} {G : Gam} (hK : G.K = K) {mf : MF} {ns : List Int} {H : Hp} {a : Addr} {fs : VEnv} (h : mf [.scr ns] = .ok (.bl true) fs) (hO : Only H) (hS : SqL K H a (ns.map V.int)) : spV G 1 mf [.ref a] H (fun v _ => v = .bl true) fun _ _ _ => False := by
  subst hK
  refine ⟨rfl, fun _ => False, [.scr ns], fun _ => [], ⟨rfl, fun i v hv => ?_, fun _ _ => rfl, fun _ => List.nodup_nil, fun _ _ _ h => (nomatch h), fun _ _ h => (nomatch h), fun _ z => z.elim⟩, ?_⟩
  · cases i with
    | succ i => simp at hv
    | zero =>
      simp at hv
      subst hv
      refine ⟨.ref a, rfl, .scr ?_⟩
      rcases hS with (e | ⟨o, e⟩) | e
      · rcases hO a with z | ⟨o, xs, z⟩
        · rw [z] at e; cases e
        · rw [z] at e; cases e
      · exact .inl ⟨o, e, fun z => z.elim id fun ⟨i, z⟩ => nomatch z⟩
      · exact .inr (.inr e)
  · show Post G _ _ _ _ _ _ _ _ _ (mf [.scr ns])
    rw [h]
    intro x H' Os' O rel rep nd k _
    cases rep
    rfl
end
end VL
/-! VL, part R: operators of the text's own classes. -/
namespace VL
open PySem PySem.Spec PyProof.Rows
section
variable {P : Program} {w : World} {A : Around} {E : Value → Shared → Prop} {s : Shared}
theorem int_bin_ref {R : Fin → Shared → Prop} {a : Int} {t : Tok} {x C dx : Addr} {nm : String} {f : Int → Int → Sem Fin} (hx : s.heap.get? x = some (PySem.W.instObj C dx))
   (h : R (.done (.ret .notImplemented)) s) : wpAny (model P w) A (PySem.Builtin.Int.intBinary nm f false ⟨[.int a t, .ref x], []⟩) R E s := by
  unfold PySem.Builtin.Int.intBinary
  refine wpAny_bind (m := slotArgs nm 1 ⟨[.int a t, .ref x], []⟩) (wpAny_of_eq (a := (.int a t, [.ref x])) (by rfl) ?_)
  refine wpAny_bind (m := PySem.Builtin.Int.intOfSelf (.int a t)) (wpAny_of_eq (a := a) (by rfl) ?_)
  refine wpAny_bind (m := asInt? (.ref x)) ?_
  show wpAny _ A (load x >>= fun o => _) _ _ _
  refine wpAny_bind (wpAny_load hx (wpAny_pure ?_))
  exact wpAny_bind (wpAny_rule (wpAny_pure h))
theorem int_bin_call {Q : Value → Shared → Prop} {a : Int} {t : Tok} {x C dx : Addr} {nm : String} {name : Str} {id : String} {f : Int → Int → Sem Fin} (hx : s.heap.get? x = some (PySem.W.instObj C dx))
   (slot : Slot "int" name id) (entry : entryFor table id = some (PySem.Builtin.Int.intBinary nm f false)) (args : argsOk id ⟨[.int a t, .ref x], []⟩) (h : Q .notImplemented s) :
   wpAny (model P w) A (call (.builtin id) [.int a t, .ref x]) Q E s := by
  refine wpAny_call (codeAny_call_builtin slot.plain entry (slot.check _ _ _ _ _ _ _ _ (typeIs_int s a t) args ?_))
  exact int_bin_ref hx h
theorem binop_IK {K : PySem.W.Frag} {op : Operator} {x C f f0 : Addr} {ox : Obj} {od : Option Obj} {i : Int} {t : Tok} {idl : String} {Q : Value → Shared → Prop} (X : K.In s.heap) (J : PySem.W.InstAt s.heap x ox C od) (hc : PySem.W.selfFirst K C = true)
    (hs : PySem.W.findIn K (.ref C) (PySem.dunder op.info.2) = some (some (.ref f0))) (hsr : PySem.W.findIn K (.ref C) (dunderR op.info.2) = some (some (.ref f))) (hf : PySem.W.isFn K (.ref f) = true)
    (fillsT : fillsNumberSlot (.type "int") op.info.2 = pure true) (hsub : PySem.W.subIn K (.ref C) (.type "int") = some false) (slot : Slot "int" (PySem.dunder op.info.2) idl)
    (hcall : ∀ Q : Value → Shared → Prop, Q .notImplemented s → wpAny (model P w) A (call (.builtin idl) [.int i t, .ref x]) Q E s)
    (h : wpAny (model P w) A (call (.ref f) [.ref x, .int i t]) (PySem.W.CmpBack Q) E s) : wpAny (model P w) A (binaryOp op (.int i t) (.ref x)) Q E s := by
  obtain ⟨cd, rest, hcd, hm⟩ := PySem.W.ksp_first hc
  rcases hi : op.info with ⟨sym, nm⟩
  rw [hi] at hs hsr fillsT slot
  dsimp only at hs hsr fillsT slot
  have one := PySem.W.ksp_try X J hsr hf h
  simp only [binaryOp, hi]
  refine wpAny_holding (wpAny_bind ?_)
  simp only [binaryOp1]
  refine wpAny_bind (wpAny_typeOf (typeIs_int s i t) (wpAny_bind (J.type.here (wpAny_bind (wpAny_of_eq fillsT ?_)))))
  have hne : (Value.type "int" == Value.ref C) = false := by first | rfl | simp
  simp only [hne, Bool.false_eq_true, if_false]
  refine wpAny_bind ((PySem.W.fills_K X hcd hm hs).here ?_)
  simp only [Bool.and_self, if_true]
  refine wpAny_bind ((PySem.W.looks_subIn X hsub).here ?_)
  have hpy : numberSlotInPython (.type "int") nm = pure false := rfl
  simp only [Bool.false_eq_true, if_false, pure_bind, Bool.not_false, Bool.and_self, if_true, hpy]
  refine wpAny_bind (wpAny_tryMethod_declines (typeIs_int s i t) slot (hcall _ ⟨rfl, ?_⟩))
  refine wpAny_bind (wpAny_mono one (fun r s' z => ?_) fun _ _ e => e)
  obtain ⟨v, rfl, hq⟩ := z
  exact wpAny_bind (wpAny_rule (wpAny_pure (wpAny_pure hq)))
/-- .. the method of that name that the class has from object, bound -/
theorem ifBound_slot {M : Model} {K : PySem.W.Frag} {x C : Addr} {ox : Obj} {od : Option Obj} {name : Str} {id : String} {args : List Value} {Q : Option Value → Shared → Prop} (X : K.In s.heap) (J : PySem.W.InstAt s.heap x ox C od)
    (hs : PySem.W.findIn K (.ref C) name = some (some (.builtin id))) (hb : bindSpecial (.builtin id) (.ref x) = pure (.builtin id, [.ref x])) (h : wpAny M A (call (.builtin id) (.ref x :: args)) (fun v => Q (some v)) E s) :
    wpAny M A (callSpecialIfBound? (.ref x) name args) Q E s := by
  simp only [callSpecialIfBound?, bindSpecialIfBound?]
  refine wpAny_holding (wpAny_bind (wpAny_bind (wpAny_bind (J.type.here ((PySem.W.looks_findIn X hs).here ?_)))))
  simp only [hb]
  refine wpAny_bind (wpAny_askSetting (wpAny_ite ?_))
  have fin : wpAny M A (call (.builtin id) ([.ref x] ++ args) >>= fun v => pure (some v)) Q E s := wpAny_bind (wpAny_mono h (fun v s' h' => wpAny_pure h') fun _ _ h' => h')
  split
  · exact wpAny_bind (wpAny_pure (wpAny_pure (by exact fin)))
  · exact wpAny_tryCatch (wpAny_bind (wpAny_pure (wpAny_pure (by exact fin))))
theorem bind_objne (self : Value) : bindSpecial (.builtin "object.__ne__") self = pure (.builtin "object.__ne__", [self]) :=
  (Slot.of (T := "object") (name := "__ne__") (owner := "object") (n := "__ne__") (by rw [typeLookup_type, builtinLookup_eq_fast]; kernel_rfl) (by decide +kernel) (by decide +kernel) (by decide +kernel)
    (.inl (by decide +kernel)) (by rw [isSubtype_type]; kernel_rfl)).bind self
theorem plain_objne : plainId "object.__ne__" = true := by decide +kernel
/-- x != b by object.__ne__, through the class's own __eq__ -/
theorem try_ne {K : PySem.W.Frag} {x C f : Addr} {ox : Obj} {od : Option Obj} {b : Value} {Q : Value → Shared → Prop} (hu : A.units + 1 < cLine) (X : K.In s.heap) (J : PySem.W.InstAt s.heap x ox C od)
    (hn : PySem.W.findIn K (.ref C) "__ne__" = some (some (.builtin "object.__ne__"))) (ho : PySem.W.subIn K (.ref C) (.type "object") = some true)
    (he : PySem.W.findIn K (.ref C) "__eq__" = some (some (.ref f))) (hf : PySem.W.isFn K (.ref f) = true)
    (h : wpAny (model P w) A.in1 (call (.ref f) [.ref x, b]) (fun v s' => ∃ k, v = .bool k ∧ Q (.bool (!k)) s') E s) : wpAny (model P w) A (tryCompare (.ref x) "__ne__" b) (fun r s' => ∃ v, r = some v ∧ Q v s') E s := by
  unfold tryCompare
  have hi : PySem.W.Looks (model P w) s.heap (isInstance (.ref x) (.type "object")) true := J.type.andThen (PySem.W.looks_subIn X ho)
  refine wpAny_bind (ifBound_slot X J hn (bind_objne _) (wpAny_call (codeAny_call_builtin plain_objne F.cmpEntry_ne (PySem.W.check_slot F.cmpKind_ne F.cmpSplit_ne hi (F.cmpArgs_ne _ _) ?_))))
  unfold Builtin.«object.__ne__»
  refine wpAny_bind (m := slotArgs "__ne__" 1 ⟨[.ref x, b], []⟩) (wpAny_of_eq (a := (.ref x, [b])) (by rfl) ?_)
  dsimp only
  refine wpAny_bind (wpAny_cRoomFor hu ?_)
  refine wpAny_bind (PySem.W.ifBound_K X J he hf (wpAny_mono h (fun v s' hv => ?_) fun _ _ e => e))
  obtain ⟨k, rfl, hq⟩ := hv
  refine wpAny_bind (wpAny_truthy_bool (wpAny_pure ?_))
  exact wpAny_pure ⟨_, rfl, hq⟩
/-- x op b where the left has its own way -/
theorem cmp_left {K : PySem.W.Frag} {x C : Addr} {ox : Obj} {od : Option Obj} {op : CmpOp} {b tb : Value} {Q : Value → Shared → Prop} (hu : A.units < cLine) (X : K.In s.heap) (J : PySem.W.InstAt s.heap x ox C od) (hb : PySem.W.Looks (model P w) s.heap (typeOf b) tb) (hn : PySem.W.notFirst K C tb = true)
    (one : wpAny (model P w) A (tryCompare (.ref x) (cmpInfo op).2.1 b) (fun r s' => ∃ v, r = some v ∧ Q v s') E s) : wpAny (model P w) A (richCompare op (.ref x) b) Q E s := by
  unfold richCompare
  simp only [oneThing_ref]
  refine wpAny_holding (wpAny_bind (wpAny_cRoomFor hu (wpAny_bind (J.type.here (wpAny_bind (hb.here ?_))))))
  by_cases q : (Value.ref C != tb) = true
  · rw [if_pos q]
    have e : PySem.W.subIn K tb (.ref C) = some false := by
      rcases Bool.or_eq_true_iff.mp hn with e | e
      · rw [beq_iff_eq.mp e] at q; simp at q
      · exact beq_iff_eq.mp e
    refine wpAny_bind ((PySem.W.looks_subIn X e).here ?_)
    simp only [Bool.false_eq_true, if_false]
    refine wpAny_bind (wpAny_mono one (fun r s' z => ?_) fun _ _ e => e)
    obtain ⟨v, rfl, hq⟩ := z
    exact wpAny_pure hq
  · rw [if_neg q]
    refine wpAny_bind (wpAny_pure ?_)
    simp only [Bool.false_eq_true, if_false]
    refine wpAny_bind (wpAny_mono one (fun r s' z => ?_) fun _ _ e => e)
    obtain ⟨v, rfl, hq⟩ := z
    exact wpAny_pure hq
/-- i op x where only the right knows -/
theorem cmp_right {K : PySem.W.Frag} {x C : Addr} {ox : Obj} {od : Option Obj} {op : CmpOp} {i : Int} {t : Tok} {idl : String} {Q : Value → Shared → Prop} (hu : A.units < cLine) (X : K.In s.heap) (J : PySem.W.InstAt s.heap x ox C od) (hsub : PySem.W.subIn K (.ref C) (.type "int") = some false)
    (slot : Slot "int" (cmpInfo op).2.1 idl) (hcall : ∀ Q : Value → Shared → Prop, Q .notImplemented s → wpAny (model P w) A (call (.builtin idl) [.int i t, .ref x]) Q E s)
    (one : wpAny (model P w) A (tryCompare (.ref x) (cmpInfo op).2.2 (.int i t)) (fun r s' => ∃ v, r = some v ∧ Q v s') E s) : wpAny (model P w) A (richCompare op (.int i t) (.ref x)) Q E s := by
  unfold richCompare
  simp only [(typeIs_int s i t).oneThing_none]
  refine wpAny_holding (wpAny_bind (wpAny_cRoomFor hu (wpAny_bind (wpAny_typeOf (typeIs_int s i t) (wpAny_bind (J.type.here ?_))))))
  rw [if_pos (show (Value.type "int" != Value.ref C) = true from by first | rfl | simp)]
  refine wpAny_bind ((PySem.W.looks_subIn X hsub).here ?_)
  simp only [Bool.false_eq_true, if_false, Bool.not_false, if_true]
  refine wpAny_bind (m := tryCompare (.int i t) _ (.ref x)) ?_
  unfold tryCompare
  refine wpAny_bind (wpAny_callSpecialIfBound?_slot (typeIs_int s i t) slot (hcall _ (wpAny_pure ?_)))
  refine wpAny_bind (wpAny_mono one (fun r s' z => ?_) fun _ _ e => e)
  obtain ⟨v, rfl, hq⟩ := z
  exact wpAny_pure hq
theorem try_eq {K : PySem.W.Frag} {x C f : Addr} {ox : Obj} {od : Option Obj} {nm : Str} {b : Value} {Q : Value → Shared → Prop} (X : K.In s.heap) (J : PySem.W.InstAt s.heap x ox C od) (he : PySem.W.findIn K (.ref C) nm = some (some (.ref f))) (hf : PySem.W.isFn K (.ref f) = true)
    (h : wpAny (model P w) A (call (.ref f) [.ref x, b]) (PySem.W.CmpBack Q) E s) : wpAny (model P w) A (tryCompare (.ref x) nm b) (fun r s' => ∃ v, r = some v ∧ Q v s') E s := by
  unfold tryCompare
  refine wpAny_bind (PySem.W.ifBound_K X J he hf (wpAny_mono h (fun v s' hv => ?_) fun _ _ e => e))
  cases v <;> first | exact hv.elim | exact wpAny_pure ⟨_, rfl, hv⟩
end
end VL
/-! VL, part S: operators of the text's own classes, as functions on trees. -/
namespace VL
open PySem L2

def voidR : RE → RE
  | .ok v _ => .ok v [none, none]
  | .exc e _ => .exc e [none, none]
  | .bad => .bad
/-- a op b: the left's own def, or the right's for an int on the left -/
def mfBin (c : Nat) (ml mr : MF) : MF := fun vs => match vs with
  | [.obj o n fs xs, .int i] => if n = c then voidR (ml [.obj o n fs xs, .int i]) else .bad
  | [.obj o n fs xs, .obj p k gs ys] => if n = c ∧ k = c then voidR (ml [.obj o n fs xs, .obj p k gs ys]) else .bad
  | [.int i, .obj o n fs xs] => if n = c then voidR (mr [.obj o n fs xs, .int i]) else .bad
  | _ => .bad
def boolR (g : Bool → Bool) : RE → RE
  | .ok (.bl b) _ => .ok (.bl (g b)) [none, none]
  | .exc e _ => .exc e [none, none]
  | _ => .bad
/-- a == b, a != b by __eq__ (g: what is made of its answer) -/
def mfCmp (g : Bool → Bool) (c : Nat) (ml : MF) : MF := fun vs => match vs with
  | [.obj o n fs xs, .obj p k gs ys] => if n = c ∧ k = c then boolR g (ml [.obj o n fs xs, .obj p k gs ys]) else .bad
  | [.obj o n fs xs, v] => if n = c ∧ (tyName v).isSome = true then boolR g (ml [.obj o n fs xs, v]) else .bad
  | [.int i, .obj o n fs xs] => if n = c then boolR g (ml [.obj o n fs xs, .int i]) else .bad
  | _ => .bad
section
variable {G : Gam} {R : Addr → Prop} {H : Hp}
theorem Rel.void {σ : L2.St} {ρ : VEnv} {Os : Nat → List Addr} (rel : Rel G R H σ ρ Os) (τ : L2.St) : Rel G R H τ (τ.map fun _ => none) (fun _ => []) := by
  refine ⟨by simp, fun i v hv => ?_, fun _ _ => rfl, fun _ => List.nodup_nil, fun _ _ _ h => (nomatch h), fun _ _ h => (nomatch h), rel.rt⟩
  rw [List.getElem?_map] at hv
  cases e : τ[i]? with
  | none => rw [e] at hv; cases hv
  | some o => rw [e] at hv; cases hv
theorem KeepE.void {H' : Hp} {Os Os' : Nat → List Addr} {O : Addr → Prop} (k : KeepE H Os H' Os' O) : KeepE H Os H' (fun _ => []) O := fun a o e nw => let ⟨e1, _, n2⟩ := k a o e nw; ⟨e1, (fun ⟨i, z⟩ => nomatch z), n2⟩
theorem we_nil {a : Addr} : ¬ We (fun _ => []) a := fun ⟨i, z⟩ => nomatch z
theorem Post.unvoid {E : WX} {x y : V} {τ : L2.St} {Os : Nat → List Addr} {ρ ρ2 : VEnv} {Q : VK} {r : RE} (post : Post G R E [some x, some y] H Os false true ρ Q (voidR r)) (hE : ∀ c d H', E c d [some x, some y] H' → E c d τ H') : Post G R E τ H Os false true ρ2 Q r := by
  cases r with
  | bad => exact post
  | exc e ρ' => exact fun c d H' Os' rel rx k => hE _ _ _ (post c d H' (fun _ => []) (rel.void _) (rx.mono fun a o e nw => ⟨e, fun z => nw (z.imp id fun z => (we_nil z).elim)⟩) k.void)
  | ok v ρ' => exact fun x' H' Os' O rel rep nd k _ => post x' H' (fun _ => []) O (rel.void _) (rep.weakW fun a z => z.imp id fun z => (we_nil z).elim) nd k.void fun z => by cases z
theorem Rel.swap {x y : V} {v u : Val} {Oa : Nat → List Addr} (rel : Rel G R H [some x, some y] [some v, some u] Oa) : Rel G R H [some y, some x] [some u, some v] (fun j => match j with | 0 => Oa 1 | 1 => Oa 0 | _ => []) := by
  have we : ∀ a, We (fun j => match j with | 0 => Oa 1 | 1 => Oa 0 | _ => []) a ↔ We Oa a := fun a => by
    constructor
    · rintro ⟨j, z⟩
      match j, z with
      | 0, z => exact ⟨1, z⟩
      | 1, z => exact ⟨0, z⟩
      | _ + 2, z => exact nomatch z
    · rintro ⟨j, z⟩
      match j, z with
      | 0, z => exact ⟨1, z⟩
      | 1, z => exact ⟨0, z⟩
      | j + 2, z => rw [rel.nil (j + 2) (fun v hv => by simp at hv)] at z; cases z
  have hw : WW R Oa = WW R (fun j => match j with | 0 => Oa 1 | 1 => Oa 0 | _ => []) := setEq fun a => by unfold WW; rw [we a]
  refine ⟨rfl, fun i w hw' => ?_, fun i hi => ?_, fun i => ?_, fun i j a ha hb => ?_, fun i a ha => ?_, rel.rt⟩
  · match i, hw' with
    | 0, hw' =>
      simp at hw'; subst hw'
      obtain ⟨z, e, r⟩ := rel.rep 1 _ rfl
      exact ⟨z, by simpa using e, hw ▸ r⟩
    | 1, hw' =>
      simp at hw'; subst hw'
      obtain ⟨z, e, r⟩ := rel.rep 0 _ rfl
      exact ⟨z, by simpa using e, hw ▸ r⟩
    | i + 2, hw' => simp at hw'
  · match i, hi with
    | 0, hi => exact absurd rfl (hi u)
    | 1, hi => exact absurd rfl (hi v)
    | i + 2, hi => rfl
  · match i with
    | 0 => exact rel.nd 1
    | 1 => exact rel.nd 0
    | i + 2 => exact List.nodup_nil
  · match i, j, ha, hb with
    | 0, 0, _, _ => rfl
    | 1, 1, _, _ => rfl
    | 0, 1, ha, hb => have := rel.dj 1 0 a ha hb; omega
    | 1, 0, ha, hb => have := rel.dj 0 1 a ha hb; omega
    | i + 2, _, ha, _ => exact nomatch ha
    | 0, j + 2, _, hb => exact nomatch hb
    | 1, j + 2, _, hb => exact nomatch hb
  · match i, ha with
    | 0, ha => exact rel.dr 1 a ha
    | 1, ha => exact rel.dr 0 a ha
    | i + 2, ha => exact nomatch ha
/-- the addresses by other names -/
theorem post_os {E : WX} {τ : L2.St} {Os Os2 : Nat → List Addr} {ρ : VEnv} {Q : VK} {r : RE} (post : Post G R E τ H Os false true ρ Q r) (h : ∀ a, We Os2 a ↔ We Os a) : Post G R E τ H Os2 false true ρ Q r := by
  cases r with
  | bad => exact post
  | exc e ρ' => exact fun c d H' Os' rel rx k => post c d H' Os' rel rx fun a o e nw => k a o e fun z => nw ((h a).mp z)
  | ok v ρ' => exact fun x' H' Os' O rel rep nd k _ => post x' H' Os' O rel rep nd (fun a o e nw => k a o e fun z => nw ((h a).mp z)) fun z => by cases z
/-- the two operands of a promise of two -/
theorem sp_two {n : Nat} {mf : MF} {x y : V} {Q : VK} {E : XK} (h : spV G n mf [x, y] H Q E) : n = 2 ∧ ∃ R v u Oa, Rel G R H [some x, some y] [some v, some u] Oa ∧ Rep G (WW R Oa) H x v (Oa 0) ∧ Rep G (WW R Oa) H y u (Oa 1) ∧ Post G R (fun c d _ H => E c d H) [some x, some y] H Oa false true [some v, some u] Q (mf [v, u]) := by
  obtain ⟨hn, R, vs, Oa, rel, post⟩ := h
  have hl := rel.len
  match vs, rel, post, hl with
  | [v, u], rel, post, _ =>
    obtain ⟨x', e, r⟩ := rel.rep 0 v rfl
    obtain ⟨y', e', r'⟩ := rel.rep 1 u rfl
    have ex : x = x' := by simpa using e
    have ey : y = y' := by simpa using e'
    subst ex ey
    exact ⟨by simpa using hn.symm, R, v, u, Oa, rel, r, r', post⟩
/-- what comes of a promise of mfBin -/
theorem bin_own {c : Nat} {C : Addr} {ml mr : MF} {x y : V} {Q : VK} {E : XK} (hc : G.cn c = some C) (h : spV G 2 (mfBin c ml mr) [x, y] H Q E) :
    (∃ a dx fs, x = .ref a ∧ H a = some (.ins C dx fs) ∧ ((∃ i, y = .int i) ∨ ∃ b dy gs, y = .ref b ∧ H b = some (.ins C dy gs)) ∧ spV G 2 ml [x, y] H Q E) ∨
    (∃ i b dy gs, x = .int i ∧ y = .ref b ∧ H b = some (.ins C dy gs) ∧ spV G 2 mr [y, x] H Q E) := by
  obtain ⟨_, R, v, u, Oa, rel, r1, r2, post⟩ := sp_two h
  unfold mfBin at post
  split at post
  · rename_i o n fs xs i hvu
    cases hvu
    by_cases hn : n = c
    · rw [if_pos hn] at post
      subst hn
      obtain ⟨a, C', dx, fs', rfl, ea, hC, _⟩ := rep_obj r1
      rw [hc] at hC; cases hC
      obtain ⟨j, rfl⟩ : ∃ j, y = .int j := by generalize Oa 1 = O2 at r2; cases r2; exact ⟨_, rfl⟩
      exact .inl ⟨a, dx, fs', rfl, ea, .inl ⟨_, rfl⟩, rfl, R, [_, _], Oa, rel, post.unvoid fun _ _ _ z => z⟩
    · rw [if_neg hn] at post; exact post.elim
  · rename_i o n fs xs p k gs ys hvu
    cases hvu
    by_cases hn : n = c ∧ k = c
    · rw [if_pos hn] at post
      obtain ⟨rfl, rfl⟩ := hn
      obtain ⟨a, C', dx, fs', rfl, ea, hC, _⟩ := rep_obj r1
      rw [hc] at hC; cases hC
      obtain ⟨b, C', dy, gs', rfl, eb, hC, _⟩ := rep_obj r2
      rw [hc] at hC; cases hC
      exact .inl ⟨a, dx, fs', rfl, ea, .inr ⟨b, dy, gs', rfl, eb⟩, rfl, R, [_, _], Oa, rel, post.unvoid fun _ _ _ z => z⟩
    · rw [if_neg hn] at post; exact post.elim
  · rename_i i o n fs xs hvu
    cases hvu
    by_cases hn : n = c
    · rw [if_pos hn] at post
      subst hn
      obtain ⟨b, C', dy, gs', rfl, eb, hC, _⟩ := rep_obj r2
      rw [hc] at hC; cases hC
      obtain rfl : x = .int i := by generalize Oa 0 = O2 at r1; cases r1; rfl
      refine .inr ⟨i, b, dy, gs', rfl, rfl, eb, rfl, R, [_, _], _, rel.swap, ?_⟩
      have := post.unvoid (τ := [some (.ref b), some (.int i)]) (ρ2 := [some (.obj o n fs xs), some (.int i)]) fun _ _ _ z => z
      refine post_os this fun a => ?_
      constructor
      · rintro ⟨j, z⟩
        match j, z with
        | 0, z => exact ⟨1, z⟩
        | 1, z => exact ⟨0, z⟩
        | _ + 2, z => exact nomatch z
      · rintro ⟨j, z⟩
        match j, z with
        | 0, z => exact ⟨1, z⟩
        | 1, z => exact ⟨0, z⟩
        | j + 2, z => rw [rel.nil (j + 2) (fun v hv => by simp at hv)] at z; cases z
    · rw [if_neg hn] at post; exact post.elim
  · exact post.elim

/-- what the class must have for an operator: nm its name in the tables -/
structure OwnOp (K : PySem.W.Frag) (C : Addr) (nm : String) (f g : Addr) : Prop where
  sf : PySem.W.selfFirst K C = true
  l : PySem.W.findIn K (.ref C) (PySem.dunder nm) = some (some (.ref f))
  lf : PySem.W.isFn K (.ref f) = true
  r : PySem.W.findIn K (.ref C) (dunderR nm) = some (some (.ref g))
  rf : PySem.W.isFn K (.ref g) = true
  tl : (PySem.W.findIn K (.type "int") (PySem.dunder nm)).isSome = true
  tr : (PySem.W.findIn K (.type "int") (dunderR nm)).isSome = true
  ul : PySem.W.subIn K (.type "int") (.ref C) = some false
  ur : PySem.W.subIn K (.ref C) (.type "int") = some false
/-- what int has for it -/
structure IntOp (op : Operator) (idl : String) : Prop where
  fills : fillsNumberSlot (.type "int") op.info.2 = pure true
  slot : Slot "int" (PySem.dunder op.info.2) idl
  call : ∀ {P : Program} {w : World} {A : Around} {E : Value → Shared → Prop} {s : Shared} {Q : Value → Shared → Prop} {a : Int} {t : Tok} {x C dx : Addr}, s.heap.get? x = some (PySem.W.instObj C dx) → Q .notImplemented s → wpAny (model P w) A (call (.builtin idl) [.int a t, .ref x]) Q E s
theorem int_add : IntOp .Add "int.__add__" := ⟨PySem.F.fills_int_add, PySem.F.slot_int_add, fun hx h => int_bin_call hx PySem.F.slot_int_add PySem.F.entry_int_add (PySem.F.args_int_add_2 _ _) h⟩
theorem int_sub : IntOp .Sub "int.__sub__" := ⟨PySem.F.fills_int_sub, PySem.F.slot_int_sub, fun hx h => int_bin_call hx PySem.F.slot_int_sub PySem.F.entry_int_sub (PySem.F.args_int_sub_2 _ _) h⟩
theorem int_mul : IntOp .Mult "int.__mul__" := ⟨PySem.F.fills_int_mul, PySem.F.slot_int_mul, fun hx h => int_bin_call hx PySem.F.slot_int_mul PySem.F.entry_int_mul (PySem.F.args_int_mul_2 _ _) h⟩
section
variable {X : Cx} {E : WX} {a b : Expr} {p1 p2 s1 s2 : Bool} {m1 m2 : ME} {pos : Pos} {C f g : Addr} {c : Nat} {ml mr : MF}
theorem ins_here {pins : List (Addr × Obj)} {σ : L2.St} {H : Hp} {s : Shared} {x C dx : Addr} {fs : List (Str × V)} (I : Inv X pins σ H s) (e : H x = some (.ins C dx fs)) : s.heap.get? x = some (PySem.W.instObj C dx) ∧ ∃ od, PySem.W.InstAt s.heap x (PySem.W.instObj C dx) C (some od) := by
  obtain ⟨mA, O, _⟩ := ins_get I.hok e
  obtain ⟨od, J, _⟩ := O.look
  exact ⟨J.at_, od, J⟩
theorem bin_run {op : Operator} {idl : String} (T : OwnOp X.K C op.info.2 f g) (B : IntOp op idl) (hc : G.cn c = some C) (hl : CalV G X E (.ref f) 2 ml []) (hr : CalV G X E (.ref g) 2 mr []) (pins : List (Addr × Obj)) (s : Shared) (σ : L2.St) (H : Hp) (x y : V) (v u : Value) (Q : VK)
    (I : Inv X pins σ H s) (rx : RelV x v) (ry : RelV y u) (h : spV G 2 (mfBin c ml mr) [x, y] H Q (WE E σ)) : wpAny (model X.prog X.w) X.A (binaryOp op v u) (EP X pins σ Q) X.xe s := by
  obtain ⟨m, hF⟩ := I.fr
  have back : ∀ {w : Value} {s' : Shared}, EP X pins σ Q w s' → PySem.W.CmpBack (EP X pins σ Q) w s' := fun ⟨z, H', I', rz, q⟩ => SlX.cmpback rz ⟨z, H', I', rz, q⟩
  rcases bin_own hc h with ⟨x0, dx, fs, rfl, ea, hy, q⟩ | ⟨i, b0, dy, gs, rfl, rfl, eb, q⟩
  · cases rx
    obtain ⟨hx, od, J⟩ := ins_here I ea
    have one := thn (hl pins s σ H [.ref x0, y] [.ref x0, u] Q I (.cons rfl (.cons ry .nil)) (by simpa using q)) fun w s' z => back z
    rcases hy with ⟨i, rfl⟩ | ⟨b0, dy, gs, rfl, eb⟩
    · obtain ⟨t, rfl⟩ := ry
      obtain ⟨fo, hfo⟩ := Option.isSome_iff_exists.mp T.tl
      obtain ⟨ro, hro⟩ := Option.isSome_iff_exists.mp T.tr
      exact PySem.W.ksp_binT hF I.ok.mod.kin J (by rfl) T.sf T.l T.lf T.r (.inr ⟨g, rfl⟩) hfo hro T.ul one
    · cases ry
      obtain ⟨hy, od', J'⟩ := ins_here I eb
      exact PySem.W.binop_K hF I.ok.mod.kin J J'.type T.sf T.l T.lf one
  · obtain ⟨t, rfl⟩ := rx
    cases ry
    obtain ⟨hy, od, J⟩ := ins_here I eb
    have one := thn (hr pins s σ H [.ref b0, .int i] [.ref b0, .int i t] Q I (.cons rfl (.cons ⟨t, rfl⟩ .nil)) (by simpa using q)) fun w s' z => back z
    exact binop_IK I.kIn J T.sf T.l T.r T.rf B.fills T.ur B.slot (fun Q h => B.call hy h) one
theorem ve_ownbin {op : Operator} {idl : String} (T : OwnOp X.K C op.info.2 f g) (B : IntOp op idl) (hc : G.cn c = some C) (hl : CalV G X E (.ref f) 2 ml []) (hr : CalV G X E (.ref g) 2 mr []) (h1 : VE G X E p1 true a m1) (h2 : VE G X E p2 true b m2) :
    VE G X E (p1 && p2) true (.BinOp a op b pos) (mCall (mfBin c ml mr) [.v ⟨p1, true, m1⟩, .v ⟨p2, true, m2⟩]) := by
  refine ⟨fun pins s σ H Q I h => ?_⟩
  have q := call_of (E := E) (as := [.v ⟨p1, true, m1⟩, .v ⟨p2, true, m2⟩]) (n := 2) trivial rfl rfl (σ := σ) (H := H) (Q := Q) (mf := mfBin c ml mr) (by simpa [argsP] using h)
  refine wpAny_BinOp (thn (h1.run pins s σ H _ I q) fun v s1 hv => ?_)
  obtain ⟨x, H1, I1, rx, q1⟩ := hv
  refine thn (h2.run pins s1 σ H1 _ I1 q1) fun u s2 hu => ?_
  obtain ⟨y, H2, I2, ry, q2⟩ := hu
  exact bin_run T B hc hl hr pins s2 σ H2 x y v u Q I2 rx ry q2
end

/-! ### a == b, a != b -/
theorem cmp_own {g : Bool → Bool} {c : Nat} {C : Addr} {ml : MF} {x y : V} {Q : VK} {E : XK} (hc : G.cn c = some C) (h : spV G 2 (mfCmp g c ml) [x, y] H Q E) :
    (∃ a dx fs, x = .ref a ∧ H a = some (.ins C dx fs) ∧ ((∃ b dy gs, y = .ref b ∧ H b = some (.ins C dy gs)) ∨ ∃ t, t ∈ ["NoneType", "bool", "int", "str", "tuple", "list", "dict"] ∧ TyX G.K H y (.type t)) ∧ spV G 2 ml [x, y] H (fun z H' => ∃ k, z = .bl k ∧ Q (.bl (g k)) H') E) ∨
    (∃ i b dy gs, x = .int i ∧ y = .ref b ∧ H b = some (.ins C dy gs) ∧ spV G 2 ml [y, x] H (fun z H' => ∃ k, z = .bl k ∧ Q (.bl (g k)) H') E) := by
  obtain ⟨_, R, v, u, Oa, rel, r1, r2, post⟩ := sp_two h
  have fin : ∀ {τ : L2.St} {r : RE} {ρ2 : VEnv} {Os : Nat → List Addr}, (∀ a, We Os a ↔ We Oa a) → Post G R (fun c d _ H => E c d H) [some x, some y] H Oa false true [some v, some u] Q (boolR g r) → Post G R (fun c d _ H => E c d H) τ H Os false true ρ2 (fun z H' => ∃ k, z = .bl k ∧ Q (.bl (g k)) H') r := by
    intro τ r ρ2 Os hw post
    cases r with
    | bad => exact post
    | exc e ρ' => exact fun c d H' Os' rel rx k => post c d H' (fun _ => []) (rel.void _) (rx.mono fun a o e nw => ⟨e, fun z => nw (z.imp id fun z => (we_nil z).elim)⟩) fun a o e nw => k.void a o e fun z => nw ((hw a).mp z)
    | ok w ρ' =>
      cases w with
      | bl k =>
        intro x' H' Os' O rel rep nd kk _
        cases rep
        refine ⟨k, rfl, post (.bl (g k)) H' (fun _ => []) [] ((rel.void _).weak fun a z => z.elim .inl fun z => nomatch z.2) (.bl _) (fun _ => List.nodup_nil) (fun a o e nw => ?_) fun z => by cases z⟩
        obtain ⟨e1, n1, _⟩ := kk.void a o e fun z => nw ((hw a).mp z)
        exact ⟨e1, n1, fun z => nomatch z.2⟩
      | _ => exact post.elim
  unfold mfCmp at post
  split at post
  · rename_i o n fs xs p k gs ys hvu
    cases hvu
    by_cases hn : n = c ∧ k = c
    · rw [if_pos hn] at post
      obtain ⟨rfl, rfl⟩ := hn
      obtain ⟨a, C', dx, fs', rfl, ea, hC, _⟩ := rep_obj r1
      rw [hc] at hC; cases hC
      obtain ⟨b, C', dy, gs', rfl, eb, hC, _⟩ := rep_obj r2
      rw [hc] at hC; cases hC
      exact .inl ⟨a, dx, fs', rfl, ea, .inl ⟨b, dy, gs', rfl, eb⟩, rfl, R, [_, _], Oa, rel, fin (fun _ => Iff.rfl) post⟩
    · rw [if_neg hn] at post; exact post.elim
  · rename_i o n fs xs w _ hvu
    cases hvu
    by_cases hn : n = c ∧ (tyName u).isSome = true
    · rw [if_pos hn] at post
      obtain ⟨rfl, ht⟩ := hn
      obtain ⟨a, C', dx, fs', rfl, ea, hC, _⟩ := rep_obj r1
      rw [hc] at hC; cases hC
      obtain ⟨t, ht⟩ := Option.isSome_iff_exists.mp ht
      exact .inl ⟨a, dx, fs', rfl, ea, .inr ⟨t, tyName_mem ht, rep_tyX r2 ht⟩, rfl, R, [_, _], Oa, rel, fin (fun _ => Iff.rfl) post⟩
    · rw [if_neg hn] at post; exact post.elim
  · rename_i i o n fs xs hvu
    cases hvu
    by_cases hn : n = c
    · rw [if_pos hn] at post
      subst hn
      obtain ⟨b, C', dy, gs', rfl, eb, hC, _⟩ := rep_obj r2
      rw [hc] at hC; cases hC
      obtain rfl : x = .int i := by generalize Oa 0 = O2 at r1; cases r1; rfl
      refine .inr ⟨i, b, dy, gs', rfl, rfl, eb, rfl, R, [_, _], _, rel.swap, fin (fun a => ?_) post⟩
      constructor
      · rintro ⟨j, z⟩
        match j, z with
        | 0, z => exact ⟨1, z⟩
        | 1, z => exact ⟨0, z⟩
        | _ + 2, z => exact nomatch z
      · rintro ⟨j, z⟩
        match j, z with
        | 0, z => exact ⟨1, z⟩
        | 1, z => exact ⟨0, z⟩
        | j + 2, z => rw [rel.nil (j + 2) (fun v hv => by simp at hv)] at z; cases z
    · rw [if_neg hn] at post; exact post.elim
  · exact post.elim

structure OwnEq (K : PySem.W.Frag) (C : Addr) (f : Addr) : Prop where
  l : PySem.W.findIn K (.ref C) "__eq__" = some (some (.ref f))
  lf : PySem.W.isFn K (.ref f) = true
  nf : ∀ t ∈ ["NoneType", "bool", "int", "str", "tuple", "list", "dict"], PySem.W.notFirst K C (.type t) = true
  ur : PySem.W.subIn K (.ref C) (.type "int") = some false
  ne : PySem.W.findIn K (.ref C) "__ne__" = some (some (.builtin "object.__ne__"))
  ob : PySem.W.subIn K (.ref C) (.type "object") = some true
section
variable {X : Cx} {E : WX} {a b : Expr} {p1 p2 s1 s2 : Bool} {m1 m2 : ME} {pos : Pos} {C f : Addr} {c k : Nat} {ml : MF} {fd : FuncData} {ps : List Str}
theorem notFirst_self {K : PySem.W.Frag} {C : Addr} : PySem.W.notFirst K C (.ref C) = true := by
  unfold PySem.W.notFirst
  rw [beq_self_eq_true, Bool.true_or]
/-- the callee one level further in -/
theorem run_in1 {pins : List (Addr × Obj)} {σ : L2.St} {H : Hp} {s : Shared} {Q : VK} {us : List Value} {vs : List V} {sp : Sp} (F : FnOk X.prog X.w X.K X.mg X.base (L2.CX X.prog X.w) k f fd ps sp) (hr : Room (k + 1) X.A) (hb : Binds X.K fd ps []) (tk : Takes X E) (I : Inv X pins σ H s) (r : Vals vs us) (h : sp vs H Q (WE E σ)) :
    wpAny (model X.prog X.w) X.A.in1 (call (.ref f) us) (EP X pins σ Q) X.xe s := by
  have hl : (us ++ []).length = ps.length := by rw [List.append_nil, ← r.length]; exact F.len _ _ _ _ h
  have b := hb s us I.kIn hl
  rw [List.append_nil] at b
  refine wpAny_call (codeAny_mono (F.run X.A.in1 X.stack s H ⟨us, []⟩ us vs Q (WE E σ) hr.in1 I.env0.in1 b r h) fun res s2 hq => ?_)
  cases res with
  | error er => exact passAt tk σ pins H s er s2 I hq
  | ok fl =>
    cases fl with
    | ret u => exact I.after hq
    | next => exact hq.elim
    | brk => exact hq.elim
    | cont => exact hq.elim
theorem int_eq_call {P : Program} {w : World} {A : Around} {E : Value → Shared → Prop} {s : Shared} {Q : Value → Shared → Prop} {a : Int} {t : Tok} {x C dx : Addr} (hx : s.heap.get? x = some (PySem.W.instObj C dx)) (h : Q .notImplemented s) : wpAny (model P w) A (call (.builtin "int.__eq__") [.int a t, .ref x]) Q E s :=
  int_bin_call hx PySem.F.slot_int_eq PySem.F.entry_int_eq (PySem.F.args_int_eq_2 _ _) h
theorem int_ne_call {P : Program} {w : World} {A : Around} {E : Value → Shared → Prop} {s : Shared} {Q : Value → Shared → Prop} {a : Int} {t : Tok} {x C dx : Addr} (hx : s.heap.get? x = some (PySem.W.instObj C dx)) (h : Q .notImplemented s) : wpAny (model P w) A (call (.builtin "int.__ne__") [.int a t, .ref x]) Q E s :=
  int_bin_call hx PySem.F.slot_int_ne PySem.F.entry_int_ne (PySem.F.args_int_ne_2 _ _) h
theorem eq_run (T : OwnEq X.K C f) (hK : X.K = G.K) (hu : X.A.units < cLine) (hc : G.cn c = some C) (hl : CalV G X E (.ref f) 2 ml []) (pins : List (Addr × Obj)) (s : Shared) (σ : L2.St) (H : Hp) (x y : V) (v u : Value) (Q : VK)
    (I : Inv X pins σ H s) (rx : RelV x v) (ry : RelV y u) (h : spV G 2 (mfCmp id c ml) [x, y] H Q (WE E σ)) : wpAny (model X.prog X.w) X.A (compareOp .Eq v u) (EP X pins σ Q) X.xe s := by
  show wpAny _ _ (richCompare .Eq v u) _ _ _
  have back : ∀ {w : Value} {s' : Shared}, EP X pins σ (fun z H' => ∃ k, z = .bl k ∧ Q (.bl k) H') w s' → PySem.W.CmpBack (EP X pins σ Q) w s' := fun ⟨z, H', I', rz, k, e, q⟩ => by
    subst e
    exact SlX.cmpback rz ⟨_, H', I', rz, q⟩
  rcases cmp_own hc h with ⟨x0, dx, fs, rfl, ea, hy, q⟩ | ⟨i, b0, dy, gs, rfl, rfl, eb, q⟩
  · cases rx
    obtain ⟨hx, od, J⟩ := ins_here I ea
    have one := thn (hl pins s σ H [.ref x0, y] [.ref x0, u] _ I (.cons rfl (.cons ry .nil)) (by simpa using q)) fun w s' z => back z
    rcases hy with ⟨b0, dy, gs, rfl, eb⟩ | ⟨t, ht, ty⟩
    · cases ry
      obtain ⟨hy, od', J'⟩ := ins_here I eb
      exact cmp_left (op := .Eq) hu I.kIn J J'.type notFirst_self (try_eq I.kIn J T.l T.lf one)
    · obtain ⟨P, Z, pp, _⟩ := kit_of I ry (hK ▸ ty)
      exact cmp_left (op := .Eq) hu I.kIn J (Z.ty _ _ I.kIn pp) (T.nf t ht) (try_eq I.kIn J T.l T.lf one)
  · obtain ⟨t, rfl⟩ := rx
    cases ry
    obtain ⟨hy, od, J⟩ := ins_here I eb
    have one := thn (hl pins s σ H [.ref b0, .int i] [.ref b0, .int i t] _ I (.cons rfl (.cons ⟨t, rfl⟩ .nil)) (by simpa using q)) fun w s' z => back z
    exact cmp_right (op := .Eq) hu I.kIn J T.ur PySem.F.slot_int_eq (fun Q h => int_eq_call hy h) (try_eq I.kIn J T.l T.lf one)
theorem ne_run (T : OwnEq X.K C f) (hK : X.K = G.K) (hu : X.A.units + 1 < cLine) (hc : G.cn c = some C) (F : FnOk X.prog X.w X.K X.mg X.base (L2.CX X.prog X.w) k f fd ps (spV G 2 ml)) (hr : Room (k + 1) X.A) (hb : Binds X.K fd ps []) (tk : Takes X E) (pins : List (Addr × Obj)) (s : Shared) (σ : L2.St) (H : Hp) (x y : V) (v u : Value) (Q : VK)
    (I : Inv X pins σ H s) (rx : RelV x v) (ry : RelV y u) (h : spV G 2 (mfCmp not c ml) [x, y] H Q (WE E σ)) : wpAny (model X.prog X.w) X.A (compareOp .NotEq v u) (EP X pins σ Q) X.xe s := by
  show wpAny _ _ (richCompare .NotEq v u) _ _ _
  have back : ∀ {w : Value} {s' : Shared}, EP X pins σ (fun z H' => ∃ k, z = .bl k ∧ Q (.bl (!k)) H') w s' → ∃ k, w = .bool k ∧ EP X pins σ Q (.bool (!k)) s' := fun ⟨z, H', I', rz, k, e, q⟩ => by
    subst e
    cases rz
    exact ⟨k, rfl, .bl (!k), H', I', rfl, q⟩
  have hu0 : X.A.units < cLine := Nat.lt_of_succ_lt hu
  rcases cmp_own hc h with ⟨x0, dx, fs, rfl, ea, hy, q⟩ | ⟨i, b0, dy, gs, rfl, rfl, eb, q⟩
  · cases rx
    obtain ⟨hx, od, J⟩ := ins_here I ea
    have one := thn (run_in1 F hr hb tk (us := [.ref x0, u]) (vs := [.ref x0, y]) I (.cons rfl (.cons ry .nil)) q) fun w s' z => back z
    rcases hy with ⟨b0, dy, gs, rfl, eb⟩ | ⟨t, ht, ty⟩
    · cases ry
      obtain ⟨hy, od', J'⟩ := ins_here I eb
      exact cmp_left (op := .NotEq) hu0 I.kIn J J'.type notFirst_self (try_ne hu I.kIn J T.ne T.ob T.l T.lf one)
    · obtain ⟨P, Z, pp, _⟩ := kit_of I ry (hK ▸ ty)
      exact cmp_left (op := .NotEq) hu0 I.kIn J (Z.ty _ _ I.kIn pp) (T.nf t ht) (try_ne hu I.kIn J T.ne T.ob T.l T.lf one)
  · obtain ⟨t, rfl⟩ := rx
    cases ry
    obtain ⟨hy, od, J⟩ := ins_here I eb
    have one := thn (run_in1 F hr hb tk (us := [.ref b0, .int i t]) (vs := [.ref b0, .int i]) I (.cons rfl (.cons ⟨t, rfl⟩ .nil)) q) fun w s' z => back z
    exact cmp_right (op := .NotEq) hu0 I.kIn J T.ur PySem.F.slot_int_ne (fun Q h => int_ne_call hy h) (try_ne hu I.kIn J T.ne T.ob T.l T.lf one)
theorem pc_eqo (T : OwnEq X.K C f) (hK : X.K = G.K) (hu : X.A.units < cLine) (hc : G.cn c = some C) (hl : CalV G X E (.ref f) 2 ml []) (h1 : VE G X E p1 true a m1) (h2 : VE G X E p2 true b m2) :
    PC X .Eq a b (rd G E (p1 && p2) true (mCall (mfCmp id c ml) [.v ⟨p1, true, m1⟩, .v ⟨p2, true, m2⟩])) := by
  refine ⟨fun pins s σ H Q I h => ?_⟩
  have q := call_of (E := E) (as := [.v ⟨p1, true, m1⟩, .v ⟨p2, true, m2⟩]) (n := 2) trivial rfl rfl (σ := σ) (H := H) (Q := Q) (mf := mfCmp id c ml) (by simpa [argsP] using h)
  refine thn (h1.run pins s σ H _ I q) fun v s1 hv => ?_
  obtain ⟨x, H1, I1, rx, q1⟩ := hv
  refine thn (h2.run pins s1 σ H1 _ I1 q1) fun u s2 hu2 => ?_
  obtain ⟨y, H2, I2, ry, q2⟩ := hu2
  exact eq_run T hK hu hc hl pins s2 σ H2 x y v u Q I2 rx ry q2
theorem pc_neo (T : OwnEq X.K C f) (hK : X.K = G.K) (hu : X.A.units + 1 < cLine) (hc : G.cn c = some C) (F : FnOk X.prog X.w X.K X.mg X.base (L2.CX X.prog X.w) k f fd ps (spV G 2 ml)) (hr : Room (k + 1) X.A) (hb : Binds X.K fd ps []) (tk : Takes X E) (h1 : VE G X E p1 true a m1) (h2 : VE G X E p2 true b m2) :
    PC X .NotEq a b (rd G E (p1 && p2) true (mCall (mfCmp not c ml) [.v ⟨p1, true, m1⟩, .v ⟨p2, true, m2⟩])) := by
  refine ⟨fun pins s σ H Q I h => ?_⟩
  have q := call_of (E := E) (as := [.v ⟨p1, true, m1⟩, .v ⟨p2, true, m2⟩]) (n := 2) trivial rfl rfl (σ := σ) (H := H) (Q := Q) (mf := mfCmp not c ml) (by simpa [argsP] using h)
  refine thn (h1.run pins s σ H _ I q) fun v s1 hv => ?_
  obtain ⟨x, H1, I1, rx, q1⟩ := hv
  refine thn (h2.run pins s1 σ H1 _ I1 q1) fun u s2 hu2 => ?_
  obtain ⟨y, H2, I2, ry, q2⟩ := hu2
  exact ne_run T hK hu hc F hr hb tk pins s2 σ H2 x y v u Q I2 rx ry q2
theorem ve_cmpo {op : CmpOp} {m : ME} {p s : Bool} (h : PC X op a b (rd G E p s m)) (h1 : behindInMarks op b = false) : VE G X E p s (.Compare a [op] [b] pos) m := pe_cmp h h1
theorem vt_cmpo {op : CmpOp} {m : ME} {p s : Bool} (h : PC X op a b (rd G E p s m)) (h1 : behindInMarks op b = false) : VT G X E p (.Compare a [op] [b] pos) m :=
  PT.pre (pt_cmp h h1) fun σ H Q ⟨R, ρ, Os, rel, post⟩ => ⟨R, ρ, Os, rel, post.post⟩
end
end
end VL
/-! VL, part T: str(x) by an own __str__. -/
namespace VL
open PySem L2

def strR : RE → RE
  | .ok (.str y) _ => .ok (.str y) [none]
  | _ => .bad
def mfStr (c : Nat) (ml : MF) : MF := fun vs => match vs with
  | [.obj o n fs xs] => if n = c then strR (ml [.obj o n fs xs]) else .bad
  | _ => .bad
section
variable {G : Gam} {X : Cx} {E : WX} {e : Expr} {p : Bool} {m : ME} {pos px : Pos} {C f : Addr} {c k : Nat} {ml : MF} {fd : FuncData} {ps : List Str}
def rStrO (G : Gam) (C : Addr) (ml : MF) : List V → Hp → VK → Prop := fun xs H Q => ∃ a dx fs, xs = [.ref a] ∧ H a = some (.ins C dx fs) ∧ spV G 1 ml [.ref a] H (fun z H' => ∃ y, z = .str y ∧ Q z H') fun _ _ _ => False
theorem call_strO (hs : PySem.W.findIn X.K (.ref C) "__str__" = some (some (.ref f))) (hf : PySem.W.isFn X.K (.ref f) = true) (F : FnOk X.prog X.w X.K X.mg X.base (L2.CX X.prog X.w) k f fd ps (spV G 1 ml)) (hr : Room (k + 2) X.A) (hb : Binds X.K fd ps []) : CallR X (.type "str") (rStrO G C ml) := by
  intro pins s σ H xs us Q I r h
  obtain ⟨a, dx, fs, rfl, ea, q⟩ := h
  obtain ⟨u, rfl, ru⟩ := vals1 r
  cases ru
  obtain ⟨hx, od, J⟩ := ins_here I ea
  have hr2 : Room k X.A.in1.in1 := (show Room (k + 1) X.A.in1 from Room.in1 hr).in1
  have hl : ([Value.ref a] ++ []).length = ps.length := by rw [← F.len _ _ _ _ q]; rfl
  have b := hb s [.ref a] I.kIn hl
  rw [List.append_nil] at b
  refine PySem.W.kso_call hr2.units0 I.kIn J hs hf (wpAny_call (codeAny_mono (F.run X.A.in1.in1 X.stack s H ⟨[.ref a], []⟩ [.ref a] [.ref a] _ _ hr2 I.env0.in1.in1 b (.cons rfl .nil) q) fun res s2 hq => ?_))
  cases res with
  | error er => exact (pass_none (Y := X.nox) pins σ H s er s2 (I.wish _) hq).elim
  | ok fl =>
    cases fl with
    | ret u =>
      obtain ⟨z, H', I', rz, y, ez, qz⟩ := I.after hq
      subst ez
      obtain ⟨t, rfl⟩ := rz
      exact ⟨.str y, H', I', ⟨t, rfl⟩, qz⟩
    | next => exact hq.elim
    | brk => exact hq.elim
    | cont => exact hq.elim
theorem ve_strO (hs : PySem.W.findIn X.K (.ref C) "__str__" = some (some (.ref f))) (hf : PySem.W.isFn X.K (.ref f) = true) (F : FnOk X.prog X.w X.K X.mg X.base (L2.CX X.prog X.w) k f fd ps (spV G 1 ml)) (hr : Room (k + 2) X.A) (hb : Binds X.K fd ps []) (hc : G.cn c = some C)
    (hg : Gl X "str") (hm : X.mg "str" = none) (hv : bootBuiltins "str" = some (.type "str")) (h : VE G X E p true e m) (he : starEach [e] X.env = (false, eval e X.env) :: starEach [] X.env := by rfl) (hpl : (backTo pos (starEach [] X.env)).any (·.1) = false := by rfl) :
    VE G X E p true (.Call (.Name "str" px) [e] [] pos) (mCall (mfStr c ml) [.v ⟨p, true, m⟩]) := by
  refine PE.pre (pe_callTy (call_strO (G := G) (ml := ml) hs hf F hr hb) hg hm hv (pa_cons h pa_nil he) (by decide) (by decide) he hpl) fun σ H Q h => ?_
  have h' : rd G E (argsP [.v ⟨p, true, m⟩]) true (mCall (mfStr c ml) [.v ⟨p, true, m⟩]) σ H Q := by simpa [argsP] using h
  have q := call_of (E := E) (as := [.v ⟨p, true, m⟩]) (n := 1) trivial rfl rfl (σ := σ) h'
  refine rd_mono q fun x H1 z => ?_
  obtain ⟨_, R, vs, Oa, rel, post⟩ := z
  have hl := rel.len
  obtain ⟨v, rfl⟩ : ∃ v, vs = [v] := by
    match vs, hl with
    | [v], _ => exact ⟨v, rfl⟩
  obtain ⟨x', e', r⟩ := rel.rep 0 v rfl
  have ex : x = x' := by simpa using e'
  subst ex
  unfold mfStr at post
  split at post
  · rename_i o n fs xs hvu
    cases hvu
    by_cases hn : n = c
    rotate_left
    · rw [if_neg hn] at post; exact post.elim
    rw [if_pos hn] at post
    subst hn
    obtain ⟨a, C', dx, fs', rfl, ea, hC, _⟩ := rep_obj r
    rw [hc] at hC; cases hC
    refine ⟨a, dx, fs', rfl, ea, rfl, R, [_], Oa, rel, ?_⟩
    cases hml : ml [Val.obj o n fs xs] with
    | bad => rw [hml] at post; exact post
    | exc ee ρ' => rw [hml] at post; exact post.elim
    | ok w ρ' =>
      rw [hml] at post
      cases w with
      | str y =>
        intro x2 H2 Os2 O2 rel2 rep2 nd2 k2 _
        cases rep2
        refine ⟨y, rfl, post (.str y) H2 (fun _ => []) [] ((rel2.void _).weak fun a z => z.elim .inl fun z => nomatch z.2) (.str _) (fun _ => List.nodup_nil) (fun a o e nw => ?_) fun z => by cases z⟩
        obtain ⟨e1, n1, _⟩ := k2.void a o e nw
        exact ⟨e1, n1, fun z => nomatch z.2⟩
      | _ => exact post.elim
  · exact post.elim

end
def mfBad : MF := fun _ => .bad
theorem cal_bad {G : Gam} {X : Cx} {E : WX} {u : Value} {n : Nat} {dks : List (V × Val)} : CalV G X E u n mfBad dks := fun _ _ _ _ _ _ _ _ _ ⟨_, _, _, _, _, z⟩ => z.elim
/-- as many turns as an int that a name holds, and one more -/
def fuelAt (i : Nat) : VEnv → Nat := fun ρ => match ρ[i]? with
  | some (some (.int j)) => j.toNat + 1
  | _ => 0
theorem vts0 {G : Gam} {X : Cx} : PTs X [] (tT G WF true mYes) := PTs.pre pts_nil fun σ H Q ⟨R, ρ, Os, rel, post⟩ => post H Os rel KeepE.refl fun _ => ⟨rfl, rfl, fun _ _ e => e⟩
end VL
/-! VL, part U: tests of the facts; the law's end. -/
namespace VL
open PySem L2 PySem.W

def tyL : List String := ["NoneType", "bool", "int", "str", "tuple", "list", "dict"]
abbrev Ftest := Frag → Bool
def tFind (C : Addr) (nm : Str) (v : Value) : Ftest := fun K => He.eqO (findIn K (.ref C) nm) (some (some v))
def tProp (x f : Str) : Ftest := fun K => He.eqO (findIn K (.ref (He.ga K x)) f) (some (some (.ref (He.ma K (He.ga K x) f)))) && (He.eqO (specialIn K (.ref (He.ma K (He.ga K x) f)) "__get__") (some (some (.builtin "property.__get__"))) &&
  (decide (takesIn K (.ref (He.ma K (He.ga K x) f)) = some true) && (match recIn K (He.ma K (He.ga K x) f) "property" with
    | some (.ref g :: _) => true
    | _ => false)))
theorem prop_ok {K : Frag} {x f : Str} (c : tProp x f K = true) : PropOf K (He.ga K x) f (He.ma K (He.ga K x) f) (getr K (He.ma K (He.ga K x) f) 0) := by
  unfold tProp at c
  simp only [Bool.and_eq_true] at c
  obtain ⟨c1, c2, c3, c4⟩ := c
  refine ⟨He.eqO_ok c1, He.eqO_ok c2, of_decide_eq_true c3, ?_⟩
  unfold getr
  split at c4
  · rename_i g rest e
    rw [e]
    exact ⟨rest, rfl⟩
  · cases c4
def tOwn (x : Str) (nm : String) : Ftest := fun K => selfFirst K (He.ga K x) && (He.eqO (findIn K (.ref (He.ga K x)) (PySem.dunder nm)) (some (some (.ref (He.ma K (He.ga K x) (PySem.dunder nm))))) && (isFn K (.ref (He.ma K (He.ga K x) (PySem.dunder nm))) &&
  (He.eqO (findIn K (.ref (He.ga K x)) (dunderR nm)) (some (some (.ref (He.ma K (He.ga K x) (dunderR nm))))) && (isFn K (.ref (He.ma K (He.ga K x) (dunderR nm))) && ((findIn K (.type "int") (PySem.dunder nm)).isSome && ((findIn K (.type "int") (dunderR nm)).isSome &&
  (decide (subIn K (.type "int") (.ref (He.ga K x)) = some false) && decide (subIn K (.ref (He.ga K x)) (.type "int") = some false))))))))
theorem own_ok {K : Frag} {x : Str} {nm : String} (c : tOwn x nm K = true) : OwnOp K (He.ga K x) nm (He.ma K (He.ga K x) (PySem.dunder nm)) (He.ma K (He.ga K x) (dunderR nm)) := by
  unfold tOwn at c
  simp only [Bool.and_eq_true] at c
  obtain ⟨c1, c2, c3, c4, c5, c6, c7, c8, c9⟩ := c
  exact ⟨c1, He.eqO_ok c2, c3, He.eqO_ok c4, c5, c6, c7, of_decide_eq_true c8, of_decide_eq_true c9⟩
def tOwnEq (x : Str) : Ftest := fun K => He.eqO (findIn K (.ref (He.ga K x)) "__eq__") (some (some (.ref (He.ma K (He.ga K x) "__eq__")))) && (isFn K (.ref (He.ma K (He.ga K x) "__eq__")) && ((tyL.all fun t => notFirst K (He.ga K x) (.type t)) &&
  (decide (subIn K (.ref (He.ga K x)) (.type "int") = some false) && (He.eqO (findIn K (.ref (He.ga K x)) "__ne__") (some (some (.builtin "object.__ne__"))) && decide (subIn K (.ref (He.ga K x)) (.type "object") = some true)))))
theorem owneq_ok {K : Frag} {x : Str} (c : tOwnEq x K = true) : OwnEq K (He.ga K x) (He.ma K (He.ga K x) "__eq__") := by
  unfold tOwnEq at c
  simp only [Bool.and_eq_true] at c
  obtain ⟨c1, c2, c3, c4, c5, c6⟩ := c
  exact ⟨He.eqO_ok c1, c2, fun t ht => List.all_eq_true.mp c3 t ht, of_decide_eq_true c4, He.eqO_ok c5, of_decide_eq_true c6⟩
/-- the classes by number -/
def clsAt (L : List Str) (K : Frag) (n : Nat) : Option Addr := (L[n]?).map (He.ga K)
def tCls1 (K : Frag) (C : Addr) : Bool := plainGet K C Str.empty && (hasDictIn K C && (plainOver K C && (He.eqO (findIn K (.ref C) "__setattr__") (some (some (.builtin "object.__setattr__"))) &&
  (He.eqO (findIn K (.ref C) "__class__") (some (some (.builtin "object.__class__"))) && (He.eqO (specialIn K (.builtin "object.__class__") "__get__") (some (some (.builtin "getset_descriptor.__get__"))) && (decide (takesIn K (.builtin "object.__class__") = some true) && decide (mroIn K C (.type "object") = some true)))))))
/-- S: those of them that are made by the text (exceptions are not) -/
def tIsi (L : List Str) (sub : Nat → Nat → Bool) : Ftest := fun K => ((List.range L.length).all fun n => (List.range L.length).all fun m => match clsAt L K n, clsAt L K m with
    | some C, some D => decide (kitOne K (.ref C) (.ref D) = some (sub n m))
    | _, _ => true) &&
  (((List.range L.length).all fun n => match clsAt L K n with
    | some C => (tyL.all fun t => decide (kitOne K (.type t) (.ref C) = some false)) && (tyL.all fun t => decide (kitOne K (.ref C) (.type t) = some false))
    | _ => true) && ((List.range L.length).all fun n => match clsAt L K n with
    | some C => tCls1 K C
    | _ => true))
theorem cls_lt {L : List Str} {K : Frag} {n : Nat} {C : Addr} (h : clsAt L K n = some C) : n ∈ List.range L.length := by
  unfold clsAt at h
  cases e : L[n]? with
  | none => rw [e] at h; cases h
  | some x => exact List.mem_range.mpr (List.getElem?_eq_some_iff.mp e).1
theorem isi_ok {G : Gam} {L : List Str} {sub : Nat → Nat → Bool} (hg : ∀ n C, G.cn n = some C → clsAt L G.K n = some C) (c : tIsi L sub G.K = true) : IsiFacts G sub := by
  unfold tIsi at c
  simp only [Bool.and_eq_true] at c
  obtain ⟨c1, c2, c3⟩ := c
  refine ⟨fun n C m D h1 h2 => ?_, fun t m D ht h => ?_, fun n C t ht h => ?_, fun n C h => ?_⟩
  · have h1 := hg _ _ h1
    have h2 := hg _ _ h2
    have := List.all_eq_true.mp (List.all_eq_true.mp c1 n (cls_lt h1)) m (cls_lt h2)
    rw [h1, h2] at this
    exact of_decide_eq_true this
  · have h := hg _ _ h
    have := List.all_eq_true.mp c2 m (cls_lt h)
    rw [h] at this
    simp only [Bool.and_eq_true] at this
    exact of_decide_eq_true (List.all_eq_true.mp this.1 t ht)
  · have h := hg _ _ h
    have := List.all_eq_true.mp c2 n (cls_lt h)
    rw [h] at this
    simp only [Bool.and_eq_true] at this
    exact of_decide_eq_true (List.all_eq_true.mp this.2 t ht)
  · have h := hg _ _ h
    have := List.all_eq_true.mp c3 n (cls_lt h)
    rw [h] at this
    unfold tCls1 at this
    simp only [Bool.and_eq_true] at this
    obtain ⟨d1, d2, d3, d4, d5, d6, d7, d8⟩ := this
    exact ⟨⟨d1, d2, d3, He.eqO_ok d4⟩, He.eqO_ok d5, He.eqO_ok d6, of_decide_eq_true d7, of_decide_eq_true d8⟩
theorem FunV.uniq {K : Frag} {d : VDef} {fd fd' : FuncData} (F : FunV K d fd) (F' : FunV K d fd') : fd = fd' := by
  obtain ⟨_, _, _, _, _, _, _, _, _, _, _, l, _⟩ := F.ex
  obtain ⟨_, _, _, _, _, _, _, _, _, _, _, l', _⟩ := F'.ex
  rw [l] at l'
  cases l'
  rfl
/-- the law's def, from what the head shows -/
theorem law_end {P : Program} {w : World} {K : Frag} {mg : Str → Option Value} {G : Gam} {d : VDef} {k : Nat} {x : Str} {mf : MF} {fd : FuncData} (F : FunV K d fd) (h : ∀ base : Heap, K.In base → base.Ns mainGlobals mg → Ok P w K mg base G d k [x] mf) (base : Heap) (h1 : K.In base) (h2 : base.Ns mainGlobals mg) :
    FnOk P w K mg base (L2.CX P w) k (d.ad K) fd [x] (spV G 1 mf) := by
  obtain ⟨fd', F', q⟩ := h base h1 h2
  cases F.uniq F'
  exact q
theorem cx_none {P : Program} {w : World} (H : Hp) (s : Shared) (e : Value) (s' : Shared) (h : L2.CX P w [] H s (fun _ _ _ => False) e s') : False := by
  obtain ⟨_, _, _, _, _, _, _, _, _, _, _, _, z⟩ := h
  exact z
/-- the goal of the head: from the law's function on trees -/
theorem walk_ofV {l : PySem.W.OpenLaw} {n k : Nat} {q : Program} {loose : List Str} {XP : (Str → Option Value) → Heap → Prop} {YP : World → Heap → Prop} {r : DefRec} {x : Str} {mf : MF} {G : Frag → World → Gam} (hG : ∀ K w, (G K w).K = K)
    (hn : l.most = some n) (hn2 : n ≤ sizeLine) (hdf : r.params.defaults = []) (hr : Room k callerA) (hlaw : ∀ ns : List Int, ns.length ≤ n → ∃ fs, mf [.scr ns] = .ok (.bl true) fs)
    (F : ∀ (w : World) (mg : Str → Option Value) (f : Addr) (h : Heap), YP w h → h.Ns mainGlobals mg → mg r.name = some (.ref f) → ∃ (K : Frag) (fd : FuncData), K.In h ∧ (∀ (s : Shared) (u : Value), BindsTo s fd ⟨[u], []⟩ [(x, u)]) ∧
      ∀ base : Heap, K.In base → base.Ns mainGlobals mg → FnOk l.prog w K mg base (L2.CX l.prog w) k f fd [x] (spV (G K w) 1 mf)) :
    PySem.W.WalkO q loose XP YP l.row.toRowW r [] (fun f vs => PySem.call f vs) := by
  refine Att.attach_call hn hdf fun w s0 s1 mg mb f o pm cd doc a vs ns Gr Y ho hd hcd hmg hobj hints hlen hg => ?_
  obtain ⟨K, fd, KX, hb, hF⟩ := F w mg f _ Y Gr.T.g hmg
  obtain ⟨fs, hl⟩ := hlaw ns hlen
  exact law_call KX Gr.T.g Gr.T.b Gr.T.builtins Gr.T.nolimit hg hobj hints (Nat.le_trans hlen hn2) hr hF hb (fun H hO hS => law_sp (hG K w) hl hO hS) fun H e s' z => cx_none H s1 e s' z
end VL
/-! VL, part WA: ** in a dict display: one dict laid into another. -/
namespace VL
open PySem
section
variable {prog : Program} {w : World} {K : Type} [DecidableEq K] {kk : KeyKind prog w K} {A : Around} {E : Value → Shared → Prop} {s : Shared}
theorem put_pairs {d : Addr} {xs : List (K × Value)} {k : K} {kv v : Value} {Q : Unit → Shared → Prop} (kis : kk.is k kv = true) (m : s.heap.DictOf kk d xs) (z : xs.length ≤ sizeLine)
    (q : ∀ h', h'.DictOf kk d (stored xs k v) → Heap.SameBut d s.heap h' → Q () { s with heap := h' }) : wpAny (model prog w) A (dictPut d (kk.hash k) kv v) Q E s := by
  obtain ⟨ob, es, ep, go, gc, gd, gk, gp, gn⟩ := m
  have zs : es.size ≤ sizeLine := by
    have e1 := gp.length
    rw [show es.toList.length = es.size by simp] at e1
    omega
  unfold dictPut
  refine wpAny_bind (wpAny_dictFind_of kis go gd gk ?_)
  have ix : (es.findIdx? fun e => kk.is k e.key) = xs.findIdx? fun p => decide (p.1 = k) := by rw [← gp.findIdx k]; obtain ⟨l⟩ := es; simp
  cases fi : es.findIdx? fun e => kk.is k e.key with
  | some i =>
    have any : (xs.any fun p => decide (p.1 = k)) = true := any_of_findIdx_some (ix ▸ fi)
    have fl : (es.toList.findIdx? fun e => kk.is k e.key) = some i := by rw [← fi]; obtain ⟨l⟩ := es; simp
    have gp2 := gp.modify gn fl v
    refine wpAny_updateDict go gd (q _ ⟨_, _, ep, Heap.get?_update_self _ go (Obj.isFreed_of_dict (Obj.data_mapDict gd _)), gc.mapDict _, Obj.data_mapDict gd _, gk.modify _ _, ?_, ?_⟩ (Heap.SameBut.update ..))
    · rw [stored, if_pos any]; obtain ⟨l⟩ := es; simpa using gp2
    · rw [stored, if_pos any, keys_map_store]; exact gn
  | none =>
    have nin : k ∉ xs.map (·.1) := not_mem_of_findIdx_none (ix ▸ fi)
    have nany : ¬ (xs.any fun p => decide (p.1 = k)) = true := fun z => by
      obtain ⟨p, hp, e⟩ := List.any_eq_true.mp z
      exact nin (List.mem_map.mpr ⟨p, hp, of_decide_eq_true e⟩)
    have gp2 := gp.append kis (kk.hash k) v
    refine wpAny_updateDictKeys (hz := zs) go gd (q _ ⟨_, _, ep + 1, Heap.get?_update_self _ go (Obj.isFreed_of_dict (Obj.data_mapDictKeys gd _)), gc.mapDictKeys _, Obj.data_mapDictKeys gd _, gk.push kis _, ?_, ?_⟩ (Heap.SameBut.update ..))
    · rw [stored, if_neg nany]; obtain ⟨l⟩ := es; simpa using gp2
    · rw [stored, if_neg nany, List.map_append]
      exact List.nodup_append.mpr ⟨gn, by simp, fun a ha b hb e => nin (by simp at hb; subst hb; exact e ▸ ha)⟩
theorem not_ref {v : Value} (h : carriedByValue v = true) : ∀ a, v ≠ .ref a := by
  intro a e; subst e; cases h
/-- ** d of a plain dict -/
theorem merge_mapping {d o : Addr} {xs ys : List (K × Value)} {Q : Unit → Shared → Prop} (ne : d ≠ o) (os : (o == sysModules) = false) (hd : s.heap.DictOf kk d xs) (ho : s.heap.DictOf kk o ys) (z : xs.length + ys.length ≤ sizeLine)
    (q : ∀ h', h'.DictOf kk d (merged xs ys) → h'.DictOf kk o ys → Heap.SameBut d s.heap h' → Q () { s with heap := h' }) : wpAny (model prog w) A (mergeMapping d (.ref o) false) Q E s := by
  obtain ⟨ob, es, ep, go, gc, gd, gk, gp, gn⟩ := id hd
  obtain ⟨oc, fs, fp, fo, fc, fd, fk, fpp, fn⟩ := id ho
  have len : ys.length = fs.size := by rw [← fpp.length]; simp
  unfold mergeMapping
  refine wpAny_bind (wpAny_isInstance ho.typeIs isSubtype_dict_dict ?_)
  rw [if_pos rfl]
  refine wpAny_bind (wpAny_specialOf ho.typeIs F.slot_dict_iter.lookup (wpAny_bind (wpAny_pure ?_)))
  simp only [beq_self_eq_true]
  rw [os]
  rw [if_neg Bool.false_ne_true]
  refine wpAny_bind (wpAny_dictEntries go gd ?_)
  have last : wpAny (model prog w) A (do
      let l ← dictEntries o
      let epoch ← dictEpoch o
      forIn (List.range l.size) PUnit.unit fun i (_ : PUnit) => (do
        let l ← dictEntries o
        match l[i]? with
          | some e => do
            holding [e.key, e.val] (dictPut d e.hash e.key e.val)
            let l ← dictEpoch o
            if (l != epoch) = true then do
                (unsupported "dict.changed-during-merge" : Sem PUnit)
                pure (ForInStep.yield PUnit.unit)
              else pure (ForInStep.yield PUnit.unit)
          | _ => do
            (unsupported "dict.changed-during-merge" : Sem PUnit)
            pure (ForInStep.yield PUnit.unit) : Sem (ForInStep PUnit))
      pure ()) Q E s := by
    refine wpAny_bind (wpAny_dictEntries fo fd ?_)
    refine wpAny_bind (wpAny_dictEpoch fo fd ?_)
    refine wpAny_bind ?_
    rw [List.range_eq_range']
    refine wpAny_forIn_list _ (fun rest _ s' => ∃ h' i, s' = { s with heap := h' } ∧ rest = List.range' i (fs.size - i) ∧ i ≤ fs.size ∧ h'.DictOf kk d (merged xs (ys.take i)) ∧ h'.get? o = some oc ∧ Heap.SameBut d s.heap h') _ ?_ ?_ _ _
      ⟨s.heap, 0, rfl, by simp, Nat.zero_le _, by simpa [merged] using hd, fo, Heap.SameBut.refl _ _⟩
    · rintro x rest b s' ⟨h', i, rfl, hr, hi, hd', fo', hs'⟩
      have lt : i < fs.size := Nat.lt_of_not_le fun h => by rw [Nat.sub_eq_zero_of_le h] at hr; simp at hr
      have e1 : fs.size - i = (fs.size - (i + 1)) + 1 := by omega
      rw [e1, List.range'_succ] at hr
      obtain ⟨rfl, rfl⟩ := List.cons.inj hr
      refine wpAny_bind (wpAny_dictEntries fo' fd ?_)
      rw [Array.getElem?_eq_getElem lt]
      obtain ⟨⟨k, v⟩, hkv⟩ : ∃ p, ys[x]? = some p := ⟨ys[x]'(by omega), List.getElem?_eq_getElem _⟩
      obtain ⟨k1, k2⟩ := fpp.get? (e := fs[x]) (by simp [lt]) hkv
      obtain ⟨k', k3, k4⟩ := fk fs[x] (Array.getElem_mem lt)
      obtain rfl : k' = k := kk.inj _ _ _ k3 k1
      show wpAny _ _ (holding [fs[x].key, fs[x].val] (dictPut d fs[x].hash fs[x].key fs[x].val) >>= _) _ _ _
      rw [k4, k2]
      have z1 : (merged xs (ys.take x)).length ≤ sizeLine := by
        have a1 := merged_length_le xs (ys.take x)
        have a2 : (ys.take x).length ≤ ys.length := by rw [List.length_take]; omega
        omega
      refine wpAny_bind (wpAny_holding (put_pairs k1 hd' z1 fun h2 hd2 hs2 => ?_))
      have fo2 : h2.get? o = some oc := (hs2.2 o (Ne.symm ne)).trans fo'
      refine wpAny_bind (wpAny_dictEpoch fo2 fd ?_)
      rw [if_neg (by simp)]
      exact wpAny_pure ⟨h2, x + 1, rfl, rfl, lt, by rw [merged_take_succ xs ys x (k', v) hkv]; exact hd2, fo2, hs'.trans hs2⟩
    · rintro b s' ⟨h', i, rfl, hr, hi, hd', fo', hs'⟩
      have e : i = fs.size := Nat.le_antisymm hi (Nat.le_of_not_lt fun h => by
        rw [show fs.size - i = (fs.size - (i + 1)) + 1 by omega, List.range'_succ] at hr
        cases hr)
      rw [e, ← len, List.take_length] at hd'
      exact wpAny_pure (q h' hd' ⟨oc, fs, fp, fo', fc, fd, fk, fpp, fn⟩ hs')
  split
  · refine wpAny_bind (wpAny_dictEntries fo fd ?_)
    have loop : (forIn fs PUnit.unit fun e (_ : PUnit) => (match e.key with
        | .ref _ => do
          if (← specialOf e.key "__eq__") != some (.builtin "object.__eq__") then
            if (fs.filter (fun x => x.hash == e.hash)).size > 1 then
              (unsupported "dict.merge-into-an-empty-dict:keys-of-equal-hash" : Sem PUnit)
              pure (ForInStep.yield PUnit.unit)
            else pure (ForInStep.yield PUnit.unit)
          else pure (ForInStep.yield PUnit.unit)
        | _ => pure (ForInStep.yield PUnit.unit) : Sem (ForInStep PUnit))) = pure PUnit.unit := by
      rw [← Array.forIn_toList]
      refine forIn_yield_id _ fun e he c => ?_
      obtain ⟨k, k1, _⟩ := fk e (Array.mem_toList_iff.mp he)
      have nr := not_ref (kk.byValue k _ k1)
      split
      · rename_i a ea; exact absurd ea (nr a)
      · rfl
    exact wpAny_bind (wpAny_of_eq loop last)
  · exact last
end
end VL
/-! VL, part WB: dict displays with **. -/
namespace VL
open PySem
abbrev DSt := Option Addr × List (Sem Value × Sem Value)
theorem gather_any (f : (Option (Sem Value) × Sem Value) → DSt → Sem (ForInStep DSt)) (main : Option Addr) (hf : ∀ (p : Sem Value × Sem Value) (run : List (Sem Value × Sem Value)), run.length + 1 < 17 → f (some p.1, p.2) (main, run) = pure (.yield (main, run ++ [p]))) :
    ∀ (items run : List (Sem Value × Sem Value)), run.length + items.length < 17 → forIn (items.map fun p => (some p.1, p.2)) (main, run) f = pure (main, run ++ items)
  | [], run, _ => by simp
  | p :: r, run, h => by
    simp only [List.length_cons] at h
    rw [List.map_cons, List.forIn_cons, hf p run (by omega), pure_bind]
    simpa using gather_any f main hf r (run ++ [p]) (by simp; omega)
/-- what ** e does -/
def starIn (d : Addr) (v : Sem Value) : Sem Unit := do
  let m ← holding [.ref d] v
  (((holding [.ref d, m] (mergeMapping d m false)).onRaise fun x => do let _ ← holding [.ref d, m, x] (runValue (.builtin "proto.let_go" {}))).tryCatch fun e => do
    if ← isInstance e (.type "AttributeError") then
      rule "dict.display.not-a-mapping"; raiseError "TypeError" s!"'{← typeNameOf m}' object is not a mapping"
    throw e).onRaise fun x => do let _ ← holding [.ref d, x] (runValue (.builtin "proto.let_go" {}))
theorem display_one (v : Sem Value) (pairs : List (Sem Value × Sem Value)) (h0 : pairs ≠ []) (hlen : pairs.length < 17) :
    dictDisplay ((none, v) :: pairs.map fun p => (some p.1, p.2)) = (do
      let d ← alloc { cls := .type "dict", data := .dict #[] }
      starIn d v
      let sub ← holding [.ref d] (subDict pairs)
      (holding [.ref d, .ref sub] (mergeMapping d (.ref sub) false)).onRaise fun x => do let _ ← holding [.ref d, x] (runValue (.builtin "proto.let_go" {}))
      pure (.ref d)) := by
  unfold dictDisplay starIn
  dsimp only
  rw [List.forIn_cons]
  simp only [List.isEmpty_nil, if_true, pure_bind, bind_assoc]
  refine bind_congr fun x => bind_congr fun m => bind_congr fun _ => ?_
  rw [gather_any _ (some x) (fun p run h => by
    have h17 : ((run ++ [(p.1, p.2)]).length == 17) = false := by simp; omega
    simp only [h17, Bool.false_eq_true, if_false]) pairs [] (by simpa using hlen)]
  have e0 : pairs.isEmpty = false := by cases pairs with | nil => exact absurd rfl h0 | cons _ _ => rfl
  simp only [List.nil_append, pure_bind, e0, Bool.false_eq_true, if_false, bind_assoc]
theorem display_two (v v' : Sem Value) : dictDisplay [(none, v), (none, v')] = (do
      let d ← alloc { cls := .type "dict", data := .dict #[] }
      starIn d v
      starIn d v'
      pure (.ref d)) := by
  unfold dictDisplay starIn
  dsimp only
  rw [List.forIn_cons]
  simp only [List.isEmpty_nil, if_true, pure_bind, bind_assoc]
  refine bind_congr fun x => bind_congr fun m => bind_congr fun _ => ?_
  rw [List.forIn_cons]
  simp only [List.isEmpty_nil, if_true, pure_bind, bind_assoc, List.forIn_nil]
section
variable {prog : Program} {w : World} {A : Around} {E : Value → Shared → Prop} {s : Shared}
theorem wp_star {d : Addr} {v : Sem Value} {Q : Unit → Shared → Prop} (h : wpAny (model prog w) A v (fun m s' => wpAny (model prog w) A (mergeMapping d m false) Q (fun _ _ => False) s') E s) : wpAny (model prog w) A (starIn d v) Q E s := by
  unfold starIn
  refine wpAny_bind (wpAny_holding (wpAny_mono h (fun m s' q => ?_) fun _ _ e => e))
  refine wpAny_onRaise (wpAny_tryCatch (wpAny_onRaise (wpAny_holding (wpAny_mono q (fun _ _ q => q) fun _ _ e => e.elim))))
end
end VL
/-! VL, part WC: dict displays with **, read. -/
namespace VL
open PySem L2 PyProof.Rows
section
variable {X : Cx} {pins : List (Addr × Obj)} {s : Shared} {σ : L2.St} {H : Hp}
/-- ** m into the dict at d -/
theorem merge_at {A : Around} {E : Value → Shared → Prop} {d o : Addr} {xs ys : List (Key × V)} {Q : Unit → Shared → Prop} (I : Inv X pins σ H s) (ne : d ≠ o) (hd : H d = some (.dK xs)) (ho : Rd H o (.dK ys)) (z : xs.length + ys.length ≤ sizeLine)
    (q : ∀ s', Inv X pins σ (upd H d (.dK (mergeK xs ys))) s' → Q () s') : wpAny (model X.prog X.w) A (mergeMapping d (.ref o) false) Q E s := by
  obtain ⟨z1, y1, vs, r1, d1⟩ := dk_of I.hok hd
  obtain ⟨z2, y2, us, r2, d2⟩ := dk_rd I.hok ho
  refine merge_mapping (kk := mixKind X.prog X.w) ne y2 d1 d2 (by rw [← r1.length, ← r2.length]; exact z) fun h' e1 _ sb => ?_
  have ze : (mergeK xs ys).length ≤ sizeLine := Nat.le_trans (length_mergeK ys xs) z
  have he : ∃ q, h'.get? d = some q := let ⟨q, _, _, hq, _⟩ := e1; ⟨q, hq⟩
  exact q { s with heap := h' } (d_write (t' := s.toks) I (by rw [hd]; exact True.intro) sb he (dk_new ze y1 (r2.merge r1) e1))
/-- {**e, k: v, ..}: what is laid where -/
def tStar1 (te : TE) (trs : List (TE × TE)) : TE := fun σ H Q => ∀ p, H p = none → te σ (upd H p (.dK [])) fun x H1 => ∃ a kvs, x = .ref a ∧ a ≠ p ∧ H1 p = some (.dK []) ∧ Rd H1 a (.dK kvs) ∧ kvs.length ≤ 1000 ∧
  ∀ q, upd H1 p (.dK (mergeK [] kvs)) q = none → tPairs trs σ (upd (upd H1 p (.dK (mergeK [] kvs))) q (.dK [])) fun ps H2 => H2 q = some (.dK []) ∧ q ≠ p ∧ H2 p = some (.dK (mergeK [] kvs)) ∧ ∃ more : List (Key × V), ps = more.map (fun kv => (kV kv.1, kv.2)) ∧ more.length ≤ 15 ∧
    Q (.ref p) (upd (upd H2 q (.dK (mergeK [] more))) p (.dK (mergeK (mergeK [] kvs) (mergeK [] more))))
def tStar2 (ta tb : TE) : TE := fun σ H Q => ∀ p, H p = none → ta σ (upd H p (.dK [])) fun x H1 => ∃ a kvs, x = .ref a ∧ a ≠ p ∧ H1 p = some (.dK []) ∧ Rd H1 a (.dK kvs) ∧ kvs.length ≤ 1000 ∧
  tb σ (upd H1 p (.dK (mergeK [] kvs))) fun y H2 => ∃ b more, y = .ref b ∧ b ≠ p ∧ H2 p = some (.dK (mergeK [] kvs)) ∧ Rd H2 b (.dK more) ∧ more.length ≤ 1000 ∧ Q (.ref p) (upd H2 p (.dK (mergeK (mergeK [] kvs) more)))
theorem sz_of {n : Nat} (h : n ≤ 3000) : n ≤ sizeLine := by rw [sizeLine_eq]; omega
theorem eval_back {e : Expr} {te : TE} {pos : Pos} {Q : V → Hp → Prop} {P : Value → Shared → Prop} (he : PE X e te) (I : Inv X pins σ H s) (q : te σ H Q) (k : ∀ u s' x H', Inv X pins σ H' s' → RelV x u → Q x H' → P u s') :
    wpAny (model X.prog X.w) X.A (do let x ← eval e X.env; standAt pos; pure x) P X.xe s :=
  wpAny_bind (thn (he.run pins s σ H _ I q) fun u s' ⟨x, H', I', r, h⟩ => wpAny_bind (wpAny_standAt (wpAny_pure (k u s' x H' I' r h))))
theorem new_dict {A : Around} {E : Value → Shared → Prop} {Q : Addr → Shared → Prop} (I : Inv X pins σ H s) (q : ∀ p s', H p = none → Inv X pins σ (upd H p (.dK [])) s' → Q p s') : wpAny (model X.prog X.w) A (alloc { cls := .type "dict", data := .dict #[] }) Q E s :=
  wpAny_alloc (q s.heap.objs.size _ (I.hok.fresh (Nat.le_refl _)) (I.laid (a := s.heap.objs.size) (o := .dK []) (t' := s.toks) (fun _ _ z => Heap.get?_push_of_some _ z) (Nat.le_refl _) (dk_empty s.heap I.big)))
theorem pe_star1 {pos : Pos} {e : Expr} {te : TE} {keys : List (Option Expr)} {values : List Expr} {trs : List (TE × TE)} (he : PE X e te) (h : PPs X pos keys values trs) (hall : keys.all (·.isSome) = true := by rfl) (hl : keys.length = values.length := by rfl) (h0 : keys ≠ [] := by exact List.cons_ne_nil _ _)
    (h15 : keys.length ≤ 15 := by decide) : PE X (.Dict (none :: keys) (e :: values) pos) (tStar1 te trs) := by
  refine ⟨fun pins s σ H Q I q => ?_⟩
  have hn := pairTrees_length keys values X.env pos hall hl
  have shape : (evalEachOpt (none :: keys) X.env).zip ((evalEach (e :: values) X.env).map fun v => do let x ← v; standAt pos; pure x) = (none, (do let x ← eval e X.env; standAt pos; pure x)) :: (pairTrees keys values X.env pos).map fun p => (some p.1, p.2) := by
    show (none, _) :: (evalEachOpt keys X.env).zip _ = _
    rw [zip_pairTrees keys values X.env pos hall hl]
  rw [arm_eval_Dict, shape, display_one _ _ (fun z => by rw [z] at hn; exact h0 (List.length_eq_zero_iff.mp hn.symm)) (by omega)]
  refine wpAny_bind (wpAny_standAt (wpAny_bind (new_dict I fun p s1 np I1 => wpAny_bind (wp_star (eval_back he I1 (q p np) fun u s2 x H1 I2 rx ⟨a, kvs, ex, ne, hp, ha, zk, q2⟩ => ?_)))))
  subst ex
  obtain rfl : u = Value.ref a := rx
  refine merge_at I2 ne.symm hp ha (sz_of (by simp; omega)) fun s3 I3 => wpAny_bind (wpAny_holding ?_)
  have nq := I3.hok.fresh (Nat.le_refl s3.heap.objs.size)
  have I4 := I3.laid (a := s3.heap.objs.size) (o := .dK []) (h' := s3.heap.push { cls := .type "dict", data := .dict #[] }) (t' := s3.toks) (fun _ _ z => Heap.get?_push_of_some _ z) (Nat.le_refl _) (dk_empty s3.heap I3.big)
  refine wpAny_subDict (knd := mixKind X.prog X.w) (by omega) (thn (h.run pins _ σ _ _ I4 (q2 _ nq)) fun ws s5 ⟨ps, H2, I5, rel, e5, qp, hp2, more, ep, lk, q5⟩ => ?_)
  subst ep
  obtain ⟨rs, c, rk⟩ := carries_of (P := X.prog) (w := X.w) rel
  obtain ⟨z, hd, vs0, r0, dd⟩ := dk_of I5.hok e5
  cases r0
  refine ⟨rs, c, dd, fun h' d' hs => ?_⟩
  have zm : (mergeK [] more).length ≤ 15 := by
    have h1 := length_mergeK more []
    simp at h1; omega
  have I6 := d_write (t' := s5.toks + ws.length) I5 (by rw [e5]; exact True.intro) hs (let ⟨q, _, _, hq, _⟩ := d'; ⟨q, hq⟩) (dk_new (sz_of (by omega)) hd (rk.merge .nil) d')
  have zk2 := length_mergeK kvs []
  refine wpAny_bind (wpAny_onRaise (wpAny_holding (merge_at I6 qp.symm (by rw [upd_ne (Ne.symm qp)]; exact hp2) (.inl upd_same) (sz_of (by simp at zk2; omega)) fun s7 I7 => wpAny_pure ⟨.ref p, _, I7, rfl, q5⟩)))
theorem pe_star2 {pos : Pos} {a b : Expr} {ta tb : TE} (ha : PE X a ta) (hb : PE X b tb) : PE X (.Dict [none, none] [a, b] pos) (tStar2 ta tb) := by
  refine ⟨fun pins s σ H Q I q => ?_⟩
  have shape : (evalEachOpt [none, none] X.env).zip ((evalEach [a, b] X.env).map fun v => do let x ← v; standAt pos; pure x) = [(none, (do let x ← eval a X.env; standAt pos; pure x)), (none, (do let x ← eval b X.env; standAt pos; pure x))] := rfl
  rw [arm_eval_Dict, shape, display_two]
  refine wpAny_bind (wpAny_standAt (wpAny_bind (new_dict I fun p s1 np I1 => wpAny_bind (wp_star (eval_back ha I1 (q p np) fun u s2 x H1 I2 rx ⟨c, kvs, ex, ne, hp, hc, zk, q2⟩ => ?_)))))
  subst ex
  obtain rfl : u = Value.ref c := rx
  refine merge_at I2 ne.symm hp hc (sz_of (by simp; omega)) fun s3 I3 => wpAny_bind (wp_star (eval_back hb I3 q2 fun u2 s4 y H2 I4 ry ⟨d, more, ey, ne2, hp2, hd2, zm, q4⟩ => ?_))
  subst ey
  obtain rfl : u2 = Value.ref d := ry
  have zk2 := length_mergeK kvs []
  exact merge_at I4 ne2.symm hp2 hd2 (sz_of (by simp at zk2; omega)) fun s5 I5 => wpAny_pure ⟨.ref p, _, I5, rfl, q4⟩
end
end VL
/-! VL, part WD: dict displays as functions on trees. -/
namespace VL
open PySem L2
/-! ### a new object that is filled while it stands reserved -/
section
variable {G : Gam} {R : Addr → Prop} {E : WX} {σ : L2.St} {H H' : Hp} {Os Os' : Nat → List Addr} {ρ ρ' : VEnv} {Q : VK} {O : List Addr} {v : Val} {p : Addr} {o0 o1 : HO}
theorem Rel.fresh (rel : Rel G R H σ ρ Os) (hp : H p = none) : ¬ We Os p := fun z => let ⟨o, e⟩ := rel.we z; by rw [hp] at e; cases e
theorem Rel.root0 (rel : Rel G R H σ ρ Os) (hp : H p = none) : Rel G (fun a => R a ∨ a = p) (upd H p o0) σ ρ Os :=
  rel.grow (same_upd hp) (fun a z => z.imp id fun (z : a = p) => by rw [z]; exact hp) fun a z => by
    rcases z with z | z
    · obtain ⟨o, e⟩ := rel.rt a z
      exact ⟨o, same_upd hp a o e⟩
    · rw [z]; exact ⟨_, upd_same⟩
theorem keep_root {O' : Addr → Prop} (hp : H p = none) (k : KeepE (upd H p o0) Os H' Os' O') : ∀ a o, H a = some o → ¬ We Os a → (H' a = some o ∧ ¬ We Os' a ∧ ¬ O' a) ∧ a ≠ p := fun a o e nw => ⟨k a o (same_upd hp a o e) nw, ne_of_none e hp⟩
theorem root_end {pu : Bool} (hp : H p = none) (post : Post G R E σ H Os pu true ρ Q (.ok v ρ')) (rel : Rel G (fun a => (R a ∨ a = p) ∨ a ∈ O) H' σ ρ' Os') (nd : (p :: O).Nodup) (keep : KeepE H Os H' Os' fun a => a ∈ O)
    (rep : Rep G (WW (fun a => (R a ∨ a = p) ∨ a ∈ O) Os') (upd H' p o1) (.ref p) v (p :: O)) (pure : pu = true → ρ' = ρ ∧ Os' = Os ∧ Same H H') : Q (.ref p) (upd H' p o1) := by
  have hw : ∀ a, Rp R true (p :: O) a → (R a ∨ a = p) ∨ a ∈ O := fun a z => by
    rcases z with z | ⟨_, z⟩
    · exact .inl (.inl z)
    · rcases List.mem_cons.mp z with z | z
      · exact .inl (.inr z)
      · exact .inr z
  refine post (.ref p) _ Os' (p :: O) ((rel.chg (.inl (.inr rfl))).weak hw) (rep.mono (fun a o e nw => ⟨e, fun z => nw (z.imp (hw a) id)⟩) fun _ _ _ e => e) (fun _ => nd) (fun a o e nw => ?_) fun z => ?_
  · obtain ⟨e1, n1, n2⟩ := keep a o e nw
    have ne := ne_of_none e hp
    refine ⟨by rw [upd_ne ne]; exact e1, n1, fun z => ?_⟩
    rcases List.mem_cons.mp z.2 with z | z
    · exact ne z
    · exact n2 z
  · obtain ⟨a1, a2, a3⟩ := pure z
    exact ⟨a1, a2, fun a o e => by rw [upd_ne (ne_of_none e hp)]; exact a3 a o e⟩
/-- what is held stays, at a heap in which p is written -/
theorem Reps.other {W : Addr → Prop} {xs : List V} {vs : List Val} (q : Reps G W H' xs vs O) (hW : W p) (hO : p ∉ O) : Reps G W (L2.upd H' p o1) xs vs O :=
  q.mono (fun a o e nw => ⟨by rw [upd_ne (show a ≠ p from fun z => nw (z ▸ hW))]; exact e, nw⟩) fun a ha o e => by rw [upd_ne (show a ≠ p from fun z => hO (z ▸ ha))]; exact e
end

/-! ### dicts as lists of pairs -/
abbrev DL := List (Val × Val)
def putD (d : DL) (k v : Val) : DL := if (d.any fun q => decide (q.1 = k)) = true then d.map (fun q => if q.1 = k then (q.1, v) else q) else d ++ [(k, v)]
def mergeD (d e : DL) : DL := e.foldl (fun acc q => putD acc q.1 q.2) d
def dctOf (d : DL) : Val := .dct true .k (d.map (·.1)) (d.map (·.2))
structure KRel (G : Gam) (W : Addr → Prop) (H : Hp) (kvs : List (Key × V)) (d : DL) : Prop where
  ks : d.map (·.1) = kvs.map fun q => ofKey q.1
  vs : Reps G W H (kvs.map (·.2)) (d.map (·.2)) []
section
variable {G : Gam} {W : Addr → Prop} {H : Hp}
theorem KRel.any {kvs : List (Key × V)} {d : DL} (r : KRel G W H kvs d) (k : Key) : (d.any fun q => decide (q.1 = ofKey k)) = kvs.any fun q => decide (q.1 = k) := by
  have e := r.ks
  have h : ∀ (d : DL) (kvs : List (Key × V)), d.map (·.1) = kvs.map (fun q => ofKey q.1) → (d.any fun q => decide (q.1 = ofKey k)) = kvs.any fun q => decide (q.1 = k) := by
    intro d
    induction d with
    | nil => intro kvs e; cases kvs with | nil => rfl | cons _ _ => cases e
    | cons p d ih =>
      intro kvs e
      cases kvs with
      | nil => cases e
      | cons q kvs =>
        simp only [List.map_cons, List.cons.injEq] at e
        rw [List.any_cons, List.any_cons, ih kvs e.2, e.1]
        congr 1
        by_cases h : q.1 = k
        · simp [h]
        · have h' : ¬ ofKey q.1 = ofKey k := fun z => h (ofKey_inj z)
          simp [h, h']
  exact h d kvs e
theorem KRel.put {kvs : List (Key × V)} {d : DL} (r : KRel G W H kvs d) (k : Key) {x : V} {v : Val} (rx : Rep G W H x v []) : KRel G W H (putK kvs k x) (putD d (ofKey k) v) := by
  unfold putK putD
  rw [r.any k]
  by_cases a : (kvs.any fun q => decide (q.1 = k)) = true
  · rw [if_pos a, if_pos a]
    obtain ⟨e, rv⟩ := r
    clear a
    induction d generalizing kvs with
    | nil => cases kvs with
      | nil => exact ⟨rfl, .nil⟩
      | cons _ _ => cases e
    | cons p d ih => cases kvs with
      | nil => cases e
      | cons q kvs =>
        simp only [List.map_cons, List.cons.injEq] at e rv
        obtain ⟨y, ys, e1, r1, r2⟩ := rv.inv0
        simp only [List.cons.injEq] at e1
        obtain ⟨rfl, rfl⟩ := e1
        obtain ⟨i1, i2⟩ := ih e.2 r2
        refine ⟨?_, ?_⟩
        · simp only [List.map_cons]
          congr 1
          rw [e.1]
          by_cases h : q.1 = k
          · rw [if_pos h, if_pos (by rw [h])]
          · rw [if_neg h, if_neg fun z => h (ofKey_inj z)]; exact e.1
        · simp only [List.map_cons]
          refine .cons (O := []) (O' := []) ?_ i2
          rw [e.1]
          by_cases h : q.1 = k
          · rw [if_pos h, if_pos (by rw [h])]; exact rx
          · rw [if_neg h, if_neg fun z => h (ofKey_inj z)]; exact r1
  · rw [if_neg a, if_neg a]
    refine ⟨by simp [r.ks], ?_⟩
    simp only [List.map_append, List.map_cons, List.map_nil]
    exact r.vs.append (.cons (O := []) (O' := []) rx .nil)
theorem KRel.merge : ∀ {more : List (Key × V)} {e : DL} {kvs : List (Key × V)} {d : DL}, KRel G W H more e → KRel G W H kvs d → KRel G W H (mergeK kvs more) (mergeD d e)
  | [], [], _, _, _, r => r
  | [], _ :: _, _, _, q, _ => by have := q.ks; simp at this
  | _ :: _, [], _, _, q, _ => by have := q.ks; simp at this
  | p :: more, (k, v) :: e, kvs, d, q, r => by
    have h1 := q.ks
    have h2 := q.vs
    simp only [List.map_cons, List.cons.injEq] at h1 h2
    obtain ⟨x, xs, e1, r1, r2⟩ := h2.inv0
    simp only [List.cons.injEq] at e1
    obtain ⟨rfl, rfl⟩ := e1
    obtain ⟨h3, h4⟩ := h1
    subst h3
    exact KRel.merge (more := more) (e := e) ⟨h4, r2⟩ (r.put p.1 r1)
theorem KRel.mono {W' : Addr → Prop} {H' : Hp} {kvs : List (Key × V)} {d : DL} (r : KRel G W H kvs d) (k : Keep W H W' H') : KRel G W' H' kvs d := ⟨r.ks, r.vs.mono k fun _ z => nomatch z⟩
theorem zip_maps : ∀ {ks vs : List Val}, ks.length = vs.length → (ks.zip vs).map (·.1) = ks ∧ (ks.zip vs).map (·.2) = vs
  | [], [], _ => ⟨rfl, rfl⟩
  | [], _ :: _, h => by simp at h
  | _ :: _, [], h => by simp at h
  | k :: ks, v :: vs, h => by
    obtain ⟨h1, h2⟩ := zip_maps (ks := ks) (vs := vs) (by simpa using h)
    simp [h1, h2]
/-- a dict that is read: its pairs -/
theorem rep_dk {x : V} {o : Bool} {ks vs : List Val} {O : List Addr} (r : Rep G W H x (.dct o .k ks vs) O) (hf : fzs vs = true) : ∃ a kvs, x = .ref a ∧ Rd H a (.dK kvs) ∧ KRel G W H kvs (ks.zip vs) ∧ ks.length = vs.length ∧ kvs.length = ks.length := by
  have key : ∀ {a : Addr} {kvs : List (Key × V)} {O' : List Addr}, Rd H a (.dK kvs) → ks = kvs.map (fun q => ofKey q.1) → Reps G W H (kvs.map (·.2)) vs O' → ∃ a' kvs, (V.ref a) = .ref a' ∧ Rd H a' (.dK kvs) ∧ KRel G W H kvs (ks.zip vs) ∧ ks.length = vs.length ∧ kvs.length = ks.length := by
    intro a kvs O' h hk q
    have hl : ks.length = vs.length := by
      have := q.length
      rw [List.length_map] at this
      rw [hk, List.length_map, this]
    obtain ⟨z1, z2⟩ := zip_maps hl
    exact ⟨a, kvs, rfl, h, ⟨by rw [z1, hk], by rw [z2]; exact q.fz hf⟩, hl, by rw [hk, List.length_map]⟩
  cases r with
  | dkO h hk q => exact key (.inl h) hk q
  | dkF h hk q => exact key h.1 hk q
theorem merge_new : ∀ {more acc : List (Key × V)}, ((acc ++ more).map (·.1)).Nodup → mergeK acc more = acc ++ more
  | [], acc, _ => by simp [mergeK]
  | p :: more, acc, h => by
    have hn : valV acc p.1 = none := by
      cases e : valV acc p.1 with
      | none => rfl
      | some y =>
        have a := valV_any p.1 acc
        rw [e] at a
        obtain ⟨q, hq, hq2⟩ := List.any_eq_true.mp a
        rw [List.map_append, List.map_cons] at h
        exact absurd (of_decide_eq_true hq2) (List.nodup_append.mp h |>.2.2 q.1 (List.mem_map.mpr ⟨q, hq, rfl⟩) p.1 List.mem_cons_self)
    show mergeK (putK acc p.1 p.2) more = _
    rw [putK_new p.2 hn, merge_new (by simpa using h)]
    simp
end

/-! ### the displays -/
def trsOf (G : Gam) (E : WX) (l : List (Str × Op)) : List (TE × TE) := l.map fun q => (tC (.str q.1), rd G E q.2.p q.2.s q.2.m)
def VD (G : Gam) (X : Cx) (E : WX) (pos : Pos) (keys : List (Option Expr)) (values : List Expr) (l : List (Str × Op)) : Prop := PPs X pos keys values (trsOf G E l)
def mDct (ns : List Str) (ms : List ME) : ME := fun ρ => match evalM ms ρ with
  | .ok vs ρ' => .ok (.dct true .k (ns.map Val.str) vs) ρ'
  | .exc e ρ' => .exc e ρ'
  | .bad => .bad
/-- a dict whose values nobody changes: its pairs -/
def dlOf : Val → Option DL
  | .dct false .k ks vs => if fzs vs = true ∧ ks.length ≤ 1000 then some (ks.zip vs) else none
  | _ => none
def mDctS (m : ME) (ns : List Str) (ms : List ME) : ME := fun ρ => match m ρ with
  | .ok v ρ1 => (match dlOf v with
    | some d => (match evalM ms ρ1 with
      | .ok us ρ2 => if fzs us = true then .ok (dctOf (mergeD (mergeD [] d) (mergeD [] ((ns.map Val.str).zip us)))) ρ2 else .bad
      | .exc e ρ2 => .exc e ρ2
      | .bad => .bad)
    | none => .bad)
  | .exc e ρ1 => .exc e ρ1
  | .bad => .bad
def mDct2 (m1 m2 : ME) : ME := fun ρ => match m1 ρ with
  | .ok v ρ1 => (match dlOf v with
    | some d => (match m2 ρ1 with
      | .ok u ρ2 => (match dlOf u with
        | some e => .ok (dctOf (mergeD (mergeD [] d) e)) ρ2
        | none => .bad)
      | .exc e ρ2 => .exc e ρ2
      | .bad => .bad)
    | none => .bad)
  | .exc e ρ1 => .exc e ρ1
  | .bad => .bad
section
variable {G : Gam} {X : Cx} {E : WX} {pos : Pos} {keys : List (Option Expr)} {values : List Expr} {l : List (Str × Op)} {k e a b : Expr} {p s p2 s2 : Bool} {m m2 : ME} {x : Str}
theorem vd_nil : VD G X E pos [] [] [] := pps_nil
theorem vd_cons (hk : PE X k (tC (.str x))) (h : VE G X E p s e m) (t : VD G X E pos keys values l) : VD G X E pos (some k :: keys) (e :: values) ((x, ⟨p, s, m⟩) :: l) := pps_cons hk h t
theorem tPairs_of : ∀ {l : List (Str × Op)} {σ : L2.St} {H : Hp} {K : List (V × V) → Hp → Prop}, nest G E (l.map (·.2)) σ H (fun xs H' => K ((l.map fun q => V.str q.1).zip xs) H') → tPairs (trsOf G E l) σ H K
  | [], σ, H, K, h => h
  | q :: l, σ, H, K, h => rd_mono h fun x H1 h1 => tPairs_of (l := l) h1
def kvsOf (l : List (Str × Op)) (xs : List V) : List (Key × V) := (l.map fun q => (Sum.inr q.1 : Key)).zip xs
theorem kvs_maps : ∀ {l : List (Str × Op)} {xs : List V}, xs.length = l.length → (l.map fun q => V.str q.1).zip xs = (kvsOf l xs).map (fun kv => (kV kv.1, kv.2)) ∧ (kvsOf l xs).map (·.2) = xs ∧ (kvsOf l xs).map (·.1) = l.map (fun q => (Sum.inr q.1 : Key)) ∧ (kvsOf l xs).length = l.length
  | [], [], _ => ⟨rfl, rfl, rfl, rfl⟩
  | [], _ :: _, h => by simp at h
  | _ :: _, [], h => by simp at h
  | q :: l, x :: xs, h => by
    obtain ⟨h1, h2, h3, h4⟩ := kvs_maps (l := l) (xs := xs) (by simpa using h)
    unfold kvsOf at h1 h2 h3 h4 ⊢
    simp only [List.map_cons, List.zip_cons_cons, h2, h3, List.length_cons, h4, h1]
    exact ⟨rfl, trivial, trivial, trivial⟩
theorem nodup_inr : ∀ {l : List (Str × Op)}, (l.map (·.1)).Nodup → (l.map fun q => (Sum.inr q.1 : Key)).Nodup
  | [], _ => List.nodup_nil
  | q :: l, h => by
    simp only [List.map_cons, List.nodup_cons] at h ⊢
    refine ⟨fun z => h.1 ?_, nodup_inr h.2⟩
    obtain ⟨r, hr, e⟩ := List.mem_map.mp z
    exact List.mem_map.mpr ⟨r, hr, by simpa using e⟩
theorem ve_dct (h : VD G X E pos keys values l) (hs : (l.map (·.2)).all (·.s) = true := by rfl) (nd : (l.map (·.1)).Nodup := by decide +kernel) (hall : keys.all (·.isSome) = true := by rfl) (hl : keys.length = values.length := by rfl) (h0 : keys ≠ [] := by exact List.cons_ne_nil _ _) (h15 : keys.length ≤ 15 := by decide) (hlen : l.length ≤ 15 := by decide) :
    VE G X E ((l.map (·.2)).all (·.p)) true (.Dict keys values pos) (mDct (l.map (·.1)) ((l.map (·.2)).map Op.m)) := by
  refine PE.pre (pe_disp h hall hl h0 h15) fun σ H Q ⟨R, ρ, Os, rel, post⟩ p hp => tPairs_of (nest_of (wf_all hs) (rel.root0 (o0 := .dK []) hp) ?_)
  rw [evalA_eq]
  unfold mDct at post
  cases he : evalM ((l.map (·.2)).map Op.m) ρ with
  | bad => rw [he] at post; exact post
  | exc e ρ' =>
    rw [he] at post
    intro c d H' Os' rel' rx k
    refine post c d H' Os' (rel'.weak fun a z => .inl z) (rx.mono fun a o e nw => ⟨e, fun z => nw (z.imp .inl id)⟩) fun a o e nw => ?_
    exact (keep_root hp k a o e nw).1
  | ok vs ρ' =>
    rw [he] at post
    intro xs H' Os' Ol rel' reps nd' keep pure
    have hlen2 := reps.len
    have hv := evalM_len he
    rw [List.length_map, List.length_map] at hv
    obtain ⟨g1, g2, g3, g4⟩ := kvs_maps (l := l) (xs := xs) (hlen2.1.trans hv)
    have es := stab_all (os := l.map (·.2)) hs (by rw [List.length_map, ← hv]; exact hlen2.2)
    rw [es] at rel' nd' keep reps
    have hpp := keep p _ upd_same (rel.fresh hp)
    refine ⟨hpp.1, kvsOf l xs, g1, by rw [g4]; exact hlen, ?_⟩
    rw [merge_new (acc := []) (by rw [List.nil_append, g3]; exact nodup_inr nd), List.nil_append]
    refine root_end hp post rel' (List.nodup_cons.mpr ⟨hpp.2.2, nd'⟩) (fun a o e nw => keep a o (same_upd hp a o e) nw) (.dkO upd_same (by have g5 := congrArg (List.map ofKey) g3; simpa [List.map_map, Function.comp_def, ofKey] using g5.symm) (by rw [g2]; exact reps.reps.other (.inl (.inl (.inr rfl))) hpp.2.2)) fun z => let ⟨a1, a2, a3⟩ := pure (by simpa using z); ⟨a1, a2, fun a o e => a3 a o (same_upd hp a o e)⟩
theorem dl_of {W : Addr → Prop} {H : Hp} {x : V} {v : Val} {O : List Addr} {d : DL} (r : Rep G W H x v O) (h : dlOf v = some d) : ∃ a kvs, x = .ref a ∧ Rd H a (.dK kvs) ∧ ¬ W a ∧ KRel G W H kvs d ∧ kvs.length ≤ 1000 := by
  unfold dlOf at h
  split at h
  · split at h
    · rename_i hf
      cases h
      obtain ⟨a, kvs, e1, e2, e3, e4, e5⟩ := rep_dk r hf.1
      refine ⟨a, kvs, e1, e2, ?_, e3, by rw [e5]; exact hf.2⟩
      subst e1
      cases r with
      | dkF h _ _ => exact h.2
    · cases h
  · cases h
theorem ve_dctS (hd : VE G X E p s e m) (h : VD G X E pos keys values l) (hs : (l.map (·.2)).all (·.s) = true := by rfl) (hall : keys.all (·.isSome) = true := by rfl) (hl : keys.length = values.length := by rfl) (h0 : keys ≠ [] := by exact List.cons_ne_nil _ _) (h15 : keys.length ≤ 15 := by decide) (hlen : l.length ≤ 15 := by decide) :
    VE G X E (p && (l.map (·.2)).all (·.p)) true (.Dict (none :: keys) (e :: values) pos) (mDctS m (l.map (·.1)) ((l.map (·.2)).map Op.m)) := by
  refine PE.pre (pe_star1 hd h hall hl h0 h15) fun σ H Q ⟨R, ρ, Os, rel, post⟩ z hz => ⟨fun a => R a ∨ a = z, ρ, Os, rel.root0 (o0 := .dK []) hz, ?_⟩
  unfold mDctS at post
  cases hm : m ρ with
  | bad => rw [hm] at post; exact post
  | exc e ρ' =>
    rw [hm] at post
    intro c d H' Os' rel' rx k
    exact post c d H' Os' (rel'.weak fun a z => .inl z) (rx.mono fun a o e nw => ⟨e, fun z => nw (z.imp .inl id)⟩) fun a o e nw => (keep_root hz k a o e nw).1
  | ok v ρ1 =>
    rw [hm] at post
    dsimp only at post
    intro x H1 Os1 O1 rel1 rep1 _ keep1 pure1
    cases hdl : dlOf v with
    | none => rw [hdl] at post; exact post.elim
    | some d =>
    rw [hdl] at post
    dsimp only at post
    obtain ⟨a, kvs, ex, ea, na, kr, kl⟩ := dl_of rep1 hdl
    have hz1 := keep1 z _ upd_same (rel.fresh hz)
    have hzW : WW (Rp (fun a => R a ∨ a = z) s O1) Os1 z := .inl (.inl (.inr rfl))
    refine ⟨a, kvs, ex, fun q => na (q ▸ hzW), hz1.1, ea, kl, fun q hq => ?_⟩
    have rel2 : Rel G (fun a => R a ∨ a = z) (upd H1 z (.dK (mergeK [] kvs))) σ ρ1 Os1 := (rel1.weak fun a w => .inl w).chg (.inr rfl)
    have krm : KRel G (WW (fun a => R a ∨ a = z) Os1) (upd H1 z (.dK (mergeK [] kvs))) kvs d := kr.mono fun b o e nw => ⟨by rw [upd_ne (show b ≠ z from fun w => nw (w ▸ hzW))]; exact e, fun w => nw (w.imp .inl id)⟩
    have qz : q ≠ z := fun w => by rw [w, upd_same] at hq; cases hq
    have nq1 : H1 q = none := by rw [upd_ne qz] at hq; exact hq
    refine tPairs_of (nest_of (wf_all hs) (rel2.root0 (o0 := .dK []) hq) ?_)
    rw [evalA_eq]
    cases he : evalM ((l.map (·.2)).map Op.m) ρ1 with
    | bad => rw [he] at post; exact post
    | exc e ρ' =>
      rw [he] at post
      intro c d' H' Os' rel' rx k
      refine post c d' H' Os' (rel'.weak fun a w => .inl (.inl w)) (rx.mono fun a o e nw => ⟨e, fun w => nw (w.imp (fun w => .inl (.inl w)) id)⟩) fun b o e nw => ?_
      obtain ⟨⟨e1, n1, _⟩, n3⟩ := keep_root hz keep1 b o e nw
      exact (keep_root hq k b o (by rw [upd_ne n3]; exact e1) n1).1
    | ok vs ρ' =>
      rw [he] at post
      dsimp only at post
      by_cases hf : fzs vs = true
      rotate_left
      · rw [if_neg hf] at post; exact post.elim
      rw [if_pos hf] at post
      intro xs H' Os' Ol rel' reps nd' keep pure
      have hlen2 := reps.len
      have hv := evalM_len he
      rw [List.length_map, List.length_map] at hv
      obtain ⟨g1, g2, g3, g4⟩ := kvs_maps (l := l) (xs := xs) (hlen2.1.trans hv)
      have es := stab_all (os := l.map (·.2)) hs (by rw [List.length_map, ← hv]; exact hlen2.2)
      have hOl : Ol.flatten = [] := reps.reps.none_of_fz hf
      rw [es, hOl] at rel' keep reps
      have hqq := keep q _ upd_same (rel2.fresh hq)
      have hzz := keep z _ (by rw [upd_ne qz.symm]; exact upd_same) hz1.2.1
      refine ⟨hqq.1, qz, hzz.1, kvsOf l xs, g1, by rw [g4]; exact hlen, ?_⟩
      have kw : Keep (WW (fun a => R a ∨ a = z) Os1) (upd H1 z (.dK (mergeK [] kvs))) (WW (fun a => R a ∨ a = z) Os') (upd (upd H' q (.dK (mergeK [] (kvsOf l xs)))) z (.dK (mergeK (mergeK [] kvs) (mergeK [] (kvsOf l xs))))) := fun b o e nw => by
        have b1 : b ≠ z := fun w => nw (.inl (.inr w))
        have b2 := ne_of_none e hq
        obtain ⟨c1, c2, _⟩ := keep b o (same_upd hq b o e) fun w => nw (.inr w)
        exact ⟨by rw [upd_ne b1, upd_ne b2]; exact c1, fun w => w.elim (fun w => nw (.inl w)) c2⟩
      have kr1 := krm.mono kw
      have kr2 : KRel G (WW (fun a => R a ∨ a = z) Os') (upd (upd H' q (.dK (mergeK [] (kvsOf l xs)))) z (.dK (mergeK (mergeK [] kvs) (mergeK [] (kvsOf l xs))))) (kvsOf l xs) (((l.map (·.1)).map Val.str).zip vs) := by
        have hz2 := zip_maps (ks := (l.map (·.1)).map Val.str) (vs := vs) (by simp [hv])
        have rx : Reps G (WW (fun a => R a ∨ a = z) Os') (upd (upd H' q (.dK (mergeK [] (kvsOf l xs)))) z (.dK (mergeK (mergeK [] kvs) (mergeK [] (kvsOf l xs))))) xs vs [] := by
          refine (reps.reps.fz hf).mono (fun b o e nw => ⟨?_, fun w => nw ?_⟩) fun _ w => nomatch w
          · have b1 : b ≠ z := fun w => nw (.inl (.inl (.inl (.inr w))))
            have b2 : b ≠ q := fun w => nw (.inl (.inl (.inr w)))
            rw [upd_ne b1, upd_ne b2]; exact e
          · exact w.imp (fun w => .inl (.inl w)) id
        refine ⟨by rw [hz2.1]; have g5 := congrArg (List.map ofKey) g3; simpa [List.map_map, Function.comp_def, ofKey] using g5.symm, by rw [hz2.2, g2]; exact rx⟩
      have nilr : ∀ {W : Addr → Prop} {H : Hp}, KRel G W H [] [] := ⟨rfl, .nil⟩
      have kr3 := KRel.merge (KRel.merge kr2 nilr) (KRel.merge kr1 nilr)
      refine root_end (O := []) (R := R) (H' := upd H' q (.dK (mergeK [] (kvsOf l xs)))) hz post (((rel'.weak (R' := fun a => (R a ∨ a = z) ∨ a = q) fun a w => .inl w).chg (D := q) (.inr rfl)).weak fun a w => .inl (w.elim id fun w => nomatch w)) (by simp) (fun b o e nw => ?_) (.dkO upd_same kr3.ks (kr3.vs.mono (fun b o e nw => ⟨e, fun w => nw (w.imp (fun w => w.elim id fun w => nomatch w) id)⟩) fun _ w => nomatch w)) fun w => ?_
      · obtain ⟨⟨e1, n1, _⟩, bz⟩ := keep_root hz keep1 b o e nw
        obtain ⟨c1, c2, _⟩ := keep b o (same_upd hq b o (by rw [upd_ne bz]; exact e1)) n1
        exact ⟨by rw [upd_ne (ne_of_none e1 nq1)]; exact c1, c2, fun w => nomatch w⟩
      · simp only [Bool.and_eq_true] at w
        obtain ⟨a1, a2, a3⟩ := pure1 w.1
        obtain ⟨b1, b2, b3⟩ := pure (by simpa using w.2)
        refine ⟨b1.trans a1, b2.trans a2, fun b o e => ?_⟩
        have bz := ne_of_none e hz
        have e1 := a3 b o (same_upd hz b o e)
        rw [upd_ne (ne_of_none e1 nq1)]
        exact b3 b o (same_upd hq b o (by rw [upd_ne bz]; exact e1))
theorem ve_dct2 (ha : VE G X E p s a m) (hb : VE G X E p2 s2 b m2) : VE G X E (p && p2) true (.Dict [none, none] [a, b] pos) (mDct2 m m2) := by
  refine PE.pre (pe_star2 ha hb) fun σ H Q ⟨R, ρ, Os, rel, post⟩ z hz => ⟨fun a => R a ∨ a = z, ρ, Os, rel.root0 (o0 := .dK []) hz, ?_⟩
  unfold mDct2 at post
  cases hm : m ρ with
  | bad => rw [hm] at post; exact post
  | exc e ρ' =>
    rw [hm] at post
    intro c d H' Os' rel' rx k
    exact post c d H' Os' (rel'.weak fun a z => .inl z) (rx.mono fun a o e nw => ⟨e, fun z => nw (z.imp .inl id)⟩) fun a o e nw => (keep_root hz k a o e nw).1
  | ok v ρ1 =>
    rw [hm] at post
    dsimp only at post
    intro x H1 Os1 O1 rel1 rep1 _ keep1 pure1
    cases hdl : dlOf v with
    | none => rw [hdl] at post; exact post.elim
    | some d =>
    rw [hdl] at post
    dsimp only at post
    obtain ⟨a, kvs, ex, ea, na, kr, kl⟩ := dl_of rep1 hdl
    have hz1 := keep1 z _ upd_same (rel.fresh hz)
    have hzW : WW (Rp (fun a => R a ∨ a = z) s O1) Os1 z := .inl (.inl (.inr rfl))
    refine ⟨a, kvs, ex, fun q => na (q ▸ hzW), hz1.1, ea, kl, ?_⟩
    have rel2 : Rel G (fun a => R a ∨ a = z) (upd H1 z (.dK (mergeK [] kvs))) σ ρ1 Os1 := (rel1.weak fun a w => .inl w).chg (.inr rfl)
    have krm : KRel G (WW (fun a => R a ∨ a = z) Os1) (upd H1 z (.dK (mergeK [] kvs))) kvs d := kr.mono fun b o e nw => ⟨by rw [upd_ne (show b ≠ z from fun w => nw (w ▸ hzW))]; exact e, fun w => nw (w.imp .inl id)⟩
    refine ⟨fun a => R a ∨ a = z, ρ1, Os1, rel2, ?_⟩
    cases he : m2 ρ1 with
    | bad => rw [he] at post; exact post
    | exc e ρ' =>
      rw [he] at post
      intro c d' H' Os' rel' rx k
      refine post c d' H' Os' (rel'.weak fun a w => .inl w) (rx.mono fun a o e nw => ⟨e, fun w => nw (w.imp .inl id)⟩) fun b o e nw => ?_
      obtain ⟨⟨e1, n1, _⟩, n3⟩ := keep_root hz keep1 b o e nw
      exact k b o (by rw [upd_ne n3]; exact e1) n1
    | ok u ρ' =>
      rw [he] at post
      dsimp only at post
      intro y H' Os' O2 rel' rep2 _ keep2 pure2
      cases hdl2 : dlOf u with
      | none => rw [hdl2] at post; exact post.elim
      | some d2 =>
      rw [hdl2] at post
      dsimp only at post
      obtain ⟨b, more, ey, eb, nb, kr2, ml⟩ := dl_of rep2 hdl2
      have hzz := keep2 z _ upd_same hz1.2.1
      have hzW2 : WW (Rp (fun a => R a ∨ a = z) s2 O2) Os' z := .inl (.inl (.inr rfl))
      refine ⟨b, more, ey, fun q => nb (q ▸ hzW2), hzz.1, eb, ml, ?_⟩
      have nilr : ∀ {W : Addr → Prop} {H : Hp}, KRel G W H [] [] := ⟨rfl, .nil⟩
      have kr1 : KRel G (WW (fun a => R a ∨ a = z) Os') (upd H' z (.dK (mergeK (mergeK [] kvs) more))) kvs d := krm.mono fun c o e nw => by
        have c1 : c ≠ z := fun w => nw (.inl (.inr w))
        obtain ⟨e1, n1, _⟩ := keep2 c o e fun w => nw (.inr w)
        exact ⟨by rw [upd_ne c1]; exact e1, fun w => w.elim (fun w => nw (.inl w)) n1⟩
      have kr3 : KRel G (WW (fun a => R a ∨ a = z) Os') (upd H' z (.dK (mergeK (mergeK [] kvs) more))) more d2 := kr2.mono fun c o e nw => ⟨by rw [upd_ne (show c ≠ z from fun w => nw (w ▸ hzW2))]; exact e, fun w => nw (w.imp .inl id)⟩
      have kr4 := KRel.merge kr3 (KRel.merge kr1 nilr)
      refine root_end (O := []) (R := R) (H' := H') hz post (rel'.weak fun a w => .inl (w.elim id fun w => nomatch w)) (by simp) (fun b o e nw => ?_) (.dkO upd_same kr4.ks (kr4.vs.mono (fun b o e nw => ⟨e, fun w => nw (w.imp (fun w => w.elim id fun w => nomatch w) id)⟩) fun _ w => nomatch w)) fun w => ?_
      · obtain ⟨⟨e1, n1, _⟩, bz⟩ := keep_root hz keep1 b o e nw
        obtain ⟨c1, c2, _⟩ := keep2 b o (by rw [upd_ne bz]; exact e1) n1
        exact ⟨c1, c2, fun w => nomatch w⟩
      · simp only [Bool.and_eq_true] at w
        obtain ⟨a1, a2, a3⟩ := pure1 w.1
        obtain ⟨b1, b2, b3⟩ := pure2 w.2
        refine ⟨b1.trans a1, b2.trans a2, fun b o e => ?_⟩
        have bz := ne_of_none e hz
        exact b3 b o (by rw [upd_ne bz]; exact a3 b o (same_upd hz b o e))
end
end VL
/-! VL, part WE: changes deep within what a name holds. -/
namespace VL
open PySem L2
/-- a step into a value: an attribute (of an object of these classes), a text key of a dict -/
inductive Stp where
  | f (cs : List Nat) (n : Str) | k (z : Str)
  deriving DecidableEq
def idxL (x : Val) : List Val → Nat → Option Nat
  | [], _ => none
  | y :: ys, j => if y = x then some j else idxL x ys (j + 1)
def idxS (x : Str) : List Str → Nat → Option Nat
  | [], _ => none
  | y :: ys, j => if y = x then some j else idxS x ys (j + 1)
def stepV : Stp → Val → Option Nat
  | .f cs n, .obj true c fs _ => if c ∈ cs then idxS n fs 0 else none
  | .k z, .dct true .k ks _ => idxL (.str z) ks 0
  | _, _ => none
def kids : Val → List Val
  | .obj _ _ _ xs => xs
  | .dct _ _ _ xs => xs
  | _ => []
def withKids (v : Val) (xs : List Val) : Val := match v with
  | .obj o c fs _ => .obj o c fs xs
  | .dct o d ks _ => .dct o d ks xs
  | v => v
def getP : List Stp → Val → Option Val
  | [], v => some v
  | s :: r, v => match stepV s v with
    | some j => (match (kids v)[j]? with
      | some u => getP r u
      | none => none)
    | none => none
def setP : List Stp → Val → Val → Val
  | [], _, w => w
  | s :: r, v, w => match stepV s v with
    | some j => (match (kids v)[j]? with
      | some u => withKids v ((kids v).set j (setP r u w))
      | none => v)
    | none => v
def Nav (K : PySem.W.Frag) (H : Hp) : List Stp → V → V → Prop
  | [], x, y => x = y
  | .f _ n :: r, x, y => ∃ a C dx fs z, x = .ref a ∧ H a = some (.ins C dx fs) ∧ Cls K C ∧ NoAttr K C n ∧ fs.lookup n = some z ∧ Nav K H r z y
  | .k s :: r, x, y => ∃ a kvs z, x = .ref a ∧ H a = some (.dK kvs) ∧ valV kvs (.inr s) = some z ∧ Nav K H r z y
theorem Nav.app {K : PySem.W.Frag} {H : Hp} {y : V} : ∀ {r r' : List Stp} {x : V}, Nav K H (r ++ r') x y → ∃ z, Nav K H r x z ∧ Nav K H r' z y
  | [], r', x, h => ⟨x, rfl, h⟩
  | .f cs n :: r, r', x, ⟨a, C, dx, fs, z, h1, h2, h3, h4, h5, h6⟩ => by
    obtain ⟨u, g1, g2⟩ := Nav.app (r := r) h6
    exact ⟨u, ⟨a, C, dx, fs, z, h1, h2, h3, h4, h5, g1⟩, g2⟩
  | .k s :: r, r', x, ⟨a, kvs, z, h1, h2, h3, h4⟩ => by
    obtain ⟨u, g1, g2⟩ := Nav.app (r := r) h4
    exact ⟨u, ⟨a, kvs, z, h1, h2, h3, g1⟩, g2⟩
/-- e is what lies behind these steps from the name in the slot i -/
def tNav (K : PySem.W.Frag) (i : Nat) (r : List Stp) : TE := fun σ H Q => ∃ x y, σ[i]? = some (some x) ∧ Nav K H r x y ∧ Q y H
section
variable {G : Gam} {X : Cx} {o : Expr} {i : Nat} {r : List Stp} {pos : Pos}
theorem tn_root (h : PE X o (tVar i)) : PE X o (tNav X.K i []) := PE.pre h fun σ H Q ⟨x, y, h1, h2, q⟩ => ⟨x, h1, by cases h2; exact q⟩
theorem tn_f {cs : List Nat} {f : Str} (h : PE X o (tNav X.K i r)) (hb : attributeBase o f X.env (eval o X.env) = eval o X.env := by rfl) : PE X (.Attribute o f pos) (tNav X.K i (r ++ [.f cs f])) :=
  PE.pre (pe_fld h hb) fun σ H Q ⟨x, y, h1, h2, q⟩ => by
    obtain ⟨z, g1, a, C, dx, fs, u, e1, e2, e3, e4, e5, e6⟩ := Nav.app h2
    exact ⟨x, z, h1, g1, a, C, dx, fs, u, e1, e2, e3, e4, e5, by cases e6; exact q⟩
theorem tn_k {e : Expr} {z : Str} (h : PE X o (tNav X.K i r)) (hu : X.A.units + 1 < cLine) (hk : PE X e (tC (.str z))) (hs : NoSl e := by exact fun _ _ => rfl) : PE X (.Subscript o e pos) (tNav X.K i (r ++ [.k z])) :=
  PE.pre (pe_dget hu h hk hs) fun σ H Q ⟨x, y, h1, h2, q⟩ => by
    obtain ⟨w, g1, a, kvs, u, e1, e2, e3, e4⟩ := Nav.app h2
    cases e4
    exact ⟨x, w, h1, g1, a, y, e1, .inl ⟨kvs, .inr z, .inl e2, rfl, e3.symm⟩, q⟩
end
section
variable {G : Gam} {W : Addr → Prop} {H : Hp}
theorem idxS_get {x : Str} : ∀ {ys : List Str} {j k : Nat}, idxS x ys j = some k → j ≤ k ∧ ys[k - j]? = some x ∧ ∀ l, l < k - j → ys[l]? ≠ some x
  | [], j, k, h => by cases h
  | y :: ys, j, k, h => by
    unfold idxS at h
    by_cases e : y = x
    · rw [if_pos e] at h
      cases h
      exact ⟨Nat.le_refl _, by simp [e], fun l hl => by omega⟩
    · rw [if_neg e] at h
      obtain ⟨h1, h2, h3⟩ := idxS_get h
      have e1 : k - j = (k - (j + 1)) + 1 := by omega
      refine ⟨by omega, by rw [e1]; simpa using h2, fun l hl => ?_⟩
      cases l with
      | zero => simpa using e
      | succ l => simpa using h3 l (by omega)
theorem idxL_get {x : Val} : ∀ {ys : List Val} {j k : Nat}, idxL x ys j = some k → j ≤ k ∧ ys[k - j]? = some x ∧ ∀ l, l < k - j → ys[l]? ≠ some x
  | [], j, k, h => by cases h
  | y :: ys, j, k, h => by
    unfold idxL at h
    by_cases e : y = x
    · rw [if_pos e] at h
      cases h
      exact ⟨Nat.le_refl _, by simp [e], fun l hl => by omega⟩
    · rw [if_neg e] at h
      obtain ⟨h1, h2, h3⟩ := idxL_get h
      have e1 : k - j = (k - (j + 1)) + 1 := by omega
      refine ⟨by omega, by rw [e1]; simpa using h2, fun l hl => ?_⟩
      cases l with
      | zero => simpa using e
      | succ l => simpa using h3 l (by omega)
theorem look_idx {n : Str} : ∀ {fs : List (Str × V)} {j : Nat} {x : V}, (fs.map (·.1))[j]? = some n → (∀ l, l < j → (fs.map (·.1))[l]? ≠ some n) → (fs.map (·.2))[j]? = some x → fs.lookup n = some x
  | [], j, x, h, _, _ => by simp at h
  | (g, y) :: fs, 0, x, h, _, hx => by
    simp at h hx
    subst h; subst hx
    simp [List.lookup]
  | (g, y) :: fs, j + 1, x, h, hl, hx => by
    have e : ¬ g = n := by simpa using hl 0 (by omega)
    show (match n == g with | true => some y | false => fs.lookup n) = some x
    rw [beq_false_of_ne fun z => e z.symm]
    exact look_idx (j := j) (by simpa using h) (fun l h' => by simpa using hl (l + 1) (by omega)) (by simpa using hx)
theorem val_idx {k : Key} : ∀ {kvs : List (Key × V)} {j : Nat} {x : V}, (kvs.map fun q => ofKey q.1)[j]? = some (ofKey k) → (∀ l, l < j → (kvs.map fun q => ofKey q.1)[l]? ≠ some (ofKey k)) → (kvs.map (·.2))[j]? = some x → valV kvs k = some x
  | [], j, x, h, _, _ => by simp at h
  | (g, y) :: fs, 0, x, h, _, hx => by
    simp at h hx
    subst hx
    exact valV_pos (p := (g, y)) (ofKey_inj h)
  | (g, y) :: fs, j + 1, x, h, hl, hx => by
    have e : ¬ g = k := fun z => hl 0 (by omega) (by simp [z])
    rw [valV_neg (p := (g, y)) e]
    exact val_idx (j := j) (by simpa using h) (fun l h' => by simpa using hl (l + 1) (by omega)) (by simpa using hx)
/-- the object at the root of a value: its address, its children -/
theorem set_same {α : Type} {xs : List α} {j : Nat} {x : α} (h : xs[j]? = some x) : xs.set j x = xs := by
  apply List.ext_getElem?
  intro k
  by_cases e : j = k
  · subst e; rw [List.getElem?_set_self (List.getElem?_eq_some_iff.mp h).1, h]
  · rw [List.getElem?_set_ne e]
/-- down the steps: what lies there, and what the whole is once that is exchanged -/
theorem Rep.path {K : PySem.W.Frag} : ∀ {r : List Stp} {x : V} {v w : Val} {O : List Addr}, (∀ cs n, Stp.f cs n ∈ r → FldF G K cs n) → Rep G W H x v O → getP r v = some w →
    ∃ y O1 Ow O2, Nav K H r x y ∧ Rep G W H y w Ow ∧ O = O1 ++ (Ow ++ O2) ∧
      ∀ W' H' w' Ow', (∀ z u Oz, (∀ a ∈ Oz, a ∈ O1 ++ O2) → Rep G W H z u Oz → Rep G W' H' z u Oz) → (∀ a ∈ O1, ∀ o, H a = some o → H' a = some o) → Rep G W' H' y w' Ow' → Rep G W' H' x (setP r v w') (O1 ++ (Ow' ++ O2))
  | [], x, v, w, O, _, rep, h => by
    cases h
    exact ⟨x, [], O, [], rfl, rep, by simp, fun W' H' w' Ow' _ _ q => by simpa [setP] using q⟩
  | s :: r, x, v, w, O, F, rep, h => by
    unfold getP at h
    cases hs : stepV s v with
    | none => rw [hs] at h; cases h
    | some j =>
    rw [hs] at h
    dsimp only at h
    cases hu : (kids v)[j]? with
    | none => rw [hu] at h; cases h
    | some u =>
    rw [hu] at h
    dsimp only at h
    have fin : setP (s :: r) v = fun w' => withKids v ((kids v).set j (setP r u w')) := funext fun w' => by rw [setP, hs]; simp only [hu]
    cases s with
    | f cs n =>
      cases v with
      | obj ow c fs xs =>
        cases ow with
        | false => cases hs
        | true =>
          have hs' : (if c ∈ cs then idxS n fs 0 else none) = some j := hs
          by_cases hc : c ∈ cs
          rotate_left
          · rw [if_neg hc] at hs'; cases hs'
          rw [if_pos hc] at hs'
          obtain ⟨_, i1, i2⟩ := idxS_get hs'
          rw [Nat.sub_zero] at i1 i2
          obtain ⟨a, C, dx, gs, P, rfl, rfl, ea, hC, rfl, reps⟩ := rep_objO rep
          obtain ⟨z, O1, Oi, O2, e1, e2, rz, set⟩ := reps.set hu
          obtain ⟨y, P1, Ow, P2, nav, rw', e3, set2⟩ := Rep.path (fun cs n h => F cs n (List.mem_cons_of_mem _ h)) rz h
          obtain ⟨f1, f2⟩ := F cs n List.mem_cons_self c hc C hC
          refine ⟨y, a :: (O1 ++ P1), Ow, P2 ++ O2, ⟨a, C, dx, gs, z, rfl, ea, f1, f2, look_idx i1 i2 e1, nav⟩, rw', by rw [e2, e3]; simp [List.append_assoc], fun W' H' w' Ow' tr stay q => ?_⟩
          rw [fin]
          have q2 := set2 W' H' w' Ow' (fun z u Oz hz => tr z u Oz fun b hb => by
            rcases List.mem_append.mp (hz b hb) with q | q
            · exact List.mem_append_left _ (List.mem_cons_of_mem _ (List.mem_append_right _ q))
            · exact List.mem_append_right _ (List.mem_append_left _ q)) (fun b hb => stay b (List.mem_cons_of_mem _ (List.mem_append_right _ hb))) q
          have q3 := set W' H' z _ _ (fun z u Oz hz => tr z u Oz fun b hb => by
            rcases List.mem_append.mp (hz b hb) with q | q
            · exact List.mem_append_left _ (List.mem_cons_of_mem _ (List.mem_append_left _ q))
            · exact List.mem_append_right _ (List.mem_append_right _ q)) q2
          rw [set_same e1] at q3
          have q4 : Rep G W' H' (.ref a) (.obj true c (gs.map (·.1)) (xs.set j (setP r u w'))) (a :: (O1 ++ ((P1 ++ (Ow' ++ P2)) ++ O2))) := .objO (stay a List.mem_cons_self _ ea) hC rfl q3
          simpa [withKids, kids, List.append_assoc] using q4
      | _ => cases hs
    | k zz =>
      cases v with
      | dct ow dk ks xs =>
        cases ow with
        | false => cases hs
        | true =>
          cases dk with
          | k =>
            have hs' : idxL (.str zz) ks 0 = some j := hs
            obtain ⟨_, i1, i2⟩ := idxL_get hs'
            rw [Nat.sub_zero] at i1 i2
            cases rep with
            | @dkO a kvs _ _ P ea hk reps =>
            subst hk
            obtain ⟨z, O1, Oi, O2, e1, e2, rz, set⟩ := reps.set hu
            obtain ⟨y, P1, Ow, P2, nav, rw', e3, set2⟩ := Rep.path (fun cs n h => F cs n (List.mem_cons_of_mem _ h)) rz h
            refine ⟨y, a :: (O1 ++ P1), Ow, P2 ++ O2, ⟨a, kvs, z, rfl, ea, val_idx (k := .inr zz) i1 i2 e1, nav⟩, rw', by rw [e2, e3]; simp [List.append_assoc], fun W' H' w' Ow' tr stay q => ?_⟩
            rw [fin]
            have q2 := set2 W' H' w' Ow' (fun z u Oz hz => tr z u Oz fun b hb => by
              rcases List.mem_append.mp (hz b hb) with q | q
              · exact List.mem_append_left _ (List.mem_cons_of_mem _ (List.mem_append_right _ q))
              · exact List.mem_append_right _ (List.mem_append_left _ q)) (fun b hb => stay b (List.mem_cons_of_mem _ (List.mem_append_right _ hb))) q
            have q3 := set W' H' z _ _ (fun z u Oz hz => tr z u Oz fun b hb => by
              rcases List.mem_append.mp (hz b hb) with q | q
              · exact List.mem_append_left _ (List.mem_cons_of_mem _ (List.mem_append_left _ q))
              · exact List.mem_append_right _ (List.mem_append_right _ q)) q2
            rw [set_same e1] at q3
            have q4 : Rep G W' H' (.ref a) (.dct true .k (kvs.map fun q => ofKey q.1) (xs.set j (setP r u w'))) (a :: (O1 ++ ((P1 ++ (Ow' ++ P2)) ++ O2))) := .dkO (stay a List.mem_cons_self _ ea) rfl q3
            simpa [withKids, kids, List.append_assoc] using q4
          | _ => cases hs
      | _ => cases hs
/-- an object deep within what a name holds is written anew -/
theorem Rel.deep {R : Addr → Prop} {H : Hp} {σ : L2.St} {ρ : VEnv} {Os : Nat → List Addr} {O P' : List Addr} {i : Nat} {v w : Val} {x : V} {b : Addr} {ob' : HO} (rel : Rel G (fun a => R a ∨ a ∈ O) H σ ρ Os) (nO : ∀ a ∈ O, ¬ R a) (hv : ρ[i]? = some (some v)) (hx : σ[i]? = some (some x))
    (bin : b ∈ Os i) (hP : ∀ c ∈ P', c ∈ Os i ∨ c ∈ O) (nd : P'.Nodup)
    (mk : (∀ z u Oz, (∀ c ∈ Oz, (c ∈ Os i ∨ c ∈ O) ∧ c ≠ b) → Rep G (WW (fun a => R a ∨ a ∈ O) Os) H z u Oz → Rep G (WW R (fun j => if j = i then P' else Os j)) (upd H b ob') z u Oz) → Rep G (WW R (fun j => if j = i then P' else Os j)) (upd H b ob') x w P') :
    Rel G R (upd H b ob') σ (ρ.set i (some w)) (fun j => if j = i then P' else Os j) ∧ ∀ c o, H c = some o → ¬ We Os c → ¬ c ∈ O → upd H b ob' c = some o ∧ ¬ We (fun j => if j = i then P' else Os j) c := by
  have bO : b ∉ O := fun z => rel.dr i b bin (.inr z)
  have we : ∀ c, We (fun j => if j = i then P' else Os j) c → We Os c ∨ c ∈ O := fun c ⟨j, z⟩ => by
    by_cases hj : j = i
    · simp only [hj, if_true] at z; exact (hP c z).imp (fun z => ⟨i, z⟩) id
    · simp only [hj, if_false] at z; exact .inl ⟨j, z⟩
  have kp : Keep (WW (fun a => R a ∨ a ∈ O) Os) H (WW R (fun j => if j = i then P' else Os j)) (upd H b ob') := fun c o e nw => by
    refine ⟨(upd_ne (show c ≠ b from fun z => nw (.inr ⟨i, by rw [z]; exact bin⟩))).trans e, fun z => ?_⟩
    rcases z with z | z
    · exact nw (.inl (.inl z))
    · exact (we c z).elim (fun z => nw (.inr z)) fun z => nw (.inl (.inr z))
  have hi : i < ρ.length := (List.getElem?_eq_some_iff.mp hv).1
  refine ⟨⟨by rw [List.length_set]; exact rel.len, fun j u hu => ?_, fun j hj => ?_, fun j => ?_, fun j k c hb hb' => ?_, fun j c hb z => ?_, fun c z => ?_⟩, fun c o e nw nO => ⟨(upd_ne (show c ≠ b from fun z => nw ⟨i, by rw [z]; exact bin⟩)).trans e, fun z => (we c z).elim nw nO⟩⟩
  · by_cases h : j = i
    · subst h
      rw [List.getElem?_set_self hi] at hu
      cases hu
      refine ⟨x, hx, ?_⟩
      show Rep G _ _ _ _ (if j = j then P' else Os j)
      rw [if_pos rfl]
      exact mk fun z u Oz hz r => r.mono kp fun c hc o e => by rw [upd_ne (hz c hc).2]; exact e
    · rw [List.getElem?_set_ne (Ne.symm h)] at hu
      obtain ⟨y, e, r⟩ := rel.rep j u hu
      refine ⟨y, e, ?_⟩
      show Rep G _ _ _ _ (if j = i then P' else Os j)
      rw [if_neg h]
      exact r.mono kp fun c hc o e => (upd_ne (show c ≠ b from fun z => h (rel.dj j i b (by rw [← z]; exact hc) bin))).trans e
  · by_cases h : j = i
    · subst h; exact absurd (List.getElem?_set_self hi) (hj w)
    · simp only [h, if_false]
      exact rel.nil j fun u hu => hj u (by rw [List.getElem?_set_ne (Ne.symm h)]; exact hu)
  · by_cases h : j = i
    · simp only [h, if_true]; exact nd
    · simp only [h, if_false]; exact rel.nd j
  · by_cases h : j = i <;> by_cases h' : k = i
    · rw [h, h']
    · simp only [h, h', if_true, if_false] at hb hb'
      exact (hP c hb).elim (fun z => absurd (rel.dj k i c hb' z) h') fun z => absurd (.inr z) (rel.dr k c hb')
    · simp only [h, h', if_true, if_false] at hb hb'
      exact (hP c hb').elim (fun z => absurd (rel.dj j i c hb z) h) fun z => absurd (.inr z) (rel.dr j c hb)
    · simp only [h, h', if_false] at hb hb'; exact rel.dj j k c hb hb'
  · by_cases h : j = i
    · simp only [h, if_true] at hb
      exact (hP c hb).elim (fun q => rel.dr i c q (.inl z)) fun q => nO c q z
    · simp only [h, if_false] at hb; exact rel.dr j c hb (.inl z)
  · by_cases h : c = b
    · subst h; exact ⟨_, upd_same⟩
    · rw [upd_ne h]; exact rel.rt c (.inl z)
/-- .. at the end of these steps: the object there is exchanged for one that holds what it held, or what O has, or what is frozen -/
theorem Rel.at_path {K : PySem.W.Frag} {R : Addr → Prop} {H : Hp} {σ : L2.St} {ρ : VEnv} {Os : Nat → List Addr} {O : List Addr} {i : Nat} {r : List Stp} {v w : Val} (rel : Rel G (fun a => R a ∨ a ∈ O) H σ ρ Os) (nO : ∀ a ∈ O, ¬ R a) (ndO : O.Nodup) (F : ∀ cs n, Stp.f cs n ∈ r → FldF G K cs n)
    (hv : ρ[i]? = some (some v)) (hg : getP r v = some w) :
    ∃ x y Ow, σ[i]? = some (some x) ∧ Nav K H r x y ∧ Rep G (WW (fun a => R a ∨ a ∈ O) Os) H y w Ow ∧ Ow.Nodup ∧ (∀ c ∈ Ow, c ∈ Os i) ∧
      ∀ b ob' w' P, y = .ref b → b ∈ Ow → (b :: P).Nodup → (∀ c ∈ P, c ∈ Ow ∨ c ∈ O) →
        (∀ W', (∀ z u Oz, (∀ c ∈ Oz, (c ∈ Ow ∨ c ∈ O) ∧ c ≠ b) → Rep G (WW (fun a => R a ∨ a ∈ O) Os) H z u Oz → Rep G W' (upd H b ob') z u Oz) → Rep G W' (upd H b ob') y w' (b :: P)) →
        ∃ Os', Rel G R (upd H b ob') σ (ρ.set i (some (setP r v w'))) Os' ∧ ∀ c o, H c = some o → ¬ We Os c → ¬ c ∈ O → upd H b ob' c = some o ∧ ¬ We Os' c := by
  obtain ⟨x, hx, rep⟩ := rel.rep i v hv
  obtain ⟨y, O1, Ow, O2, nav, rw', e, set⟩ := Rep.path F rep hg
  have hnd := rel.nd i
  rw [e] at hnd
  obtain ⟨n1, n2, n3⟩ := List.nodup_append.mp hnd
  obtain ⟨n4, n5, n6⟩ := List.nodup_append.mp n2
  have sub : ∀ c ∈ Ow, c ∈ Os i := fun c hc => by rw [e]; exact List.mem_append_right _ (List.mem_append_left _ hc)
  refine ⟨x, y, Ow, hx, nav, rw', n4, sub, fun b ob' w' P hy hb ndP hP mk => ?_⟩
  have inO : ∀ c ∈ b :: P, c ∈ Ow ∨ c ∈ O := fun c hc => by
    rcases List.mem_cons.mp hc with z | z
    · exact .inl (z ▸ hb)
    · exact hP c z
  have dj : ∀ c, c ∈ Os i → c ∉ O := fun c hc z => rel.dr i c hc (.inr z)
  have nd' : (O1 ++ ((b :: P) ++ O2)).Nodup := by
    refine List.nodup_append.mpr ⟨n1, List.nodup_append.mpr ⟨ndP, n5, fun a ha c hc q => ?_⟩, fun a ha c hc q => ?_⟩
    · subst q
      exact (inO a ha).elim (fun z => n6 a z a hc rfl) fun z => dj a (by rw [e]; exact List.mem_append_right _ (List.mem_append_right _ hc)) z
    · subst q
      rcases List.mem_append.mp hc with z | z
      · exact (inO a z).elim (fun z => n3 a ha a (List.mem_append_left _ z) rfl) fun z => dj a (by rw [e]; exact List.mem_append_left _ ha) z
      · exact n3 a ha a (List.mem_append_right _ z) rfl
  have hd := Rel.deep (P' := O1 ++ ((b :: P) ++ O2)) (ob' := ob') (w := setP r v w') rel nO hv hx (sub b hb) (fun c hc => by
    rcases List.mem_append.mp hc with z | z
    · exact .inl (by rw [e]; exact List.mem_append_left _ z)
    · rcases List.mem_append.mp z with z | z
      · exact (inO c z).imp (sub c) id
      · exact .inl (by rw [e]; exact List.mem_append_right _ (List.mem_append_right _ z))) nd' fun tr => by
    refine set _ _ w' (b :: P) (fun z u Oz hz q => tr z u Oz (fun c hc => ?_) q) (fun a ha o ea => ?_) (mk _ fun z u Oz hz q => tr z u Oz (fun c hc => ⟨(hz c hc).1.imp (sub c) id, (hz c hc).2⟩) q)
    · rcases List.mem_append.mp (hz c hc) with z | z
      · exact ⟨.inl (by rw [e]; exact List.mem_append_left _ z), fun q => n3 c z c (List.mem_append_left _ (q ▸ hb)) rfl⟩
      · exact ⟨.inl (by rw [e]; exact List.mem_append_right _ (List.mem_append_right _ z)), fun q => n6 c (q ▸ hb) c z rfl⟩
    · rw [upd_ne (show a ≠ b from fun q => n3 a ha a (List.mem_append_left _ (q ▸ hb)) rfl)]; exact ea
  exact ⟨_, hd.1, hd.2⟩
end
end VL
/-! VL, part WF: append, extend, pop at the end of steps; d[k] = v there. -/
namespace VL
open PySem L2
def mPath (i : Nat) (r : List Stp) : ME := fun ρ => match ρ[i]? with
  | some (some v) => (match getP r v with
    | some w => .ok w ρ
    | none => .bad)
  | _ => .bad
/-- what is done to a list at the end of the steps -/
def mLop (i : Nat) (r : List Stp) (f : List Val → Val → Option (List Val)) (m : ME) : ME := fun ρ => match ρ[i]? with
  | some (some v) => (match getP r v with
    | some (.lst true ys) => (match m ρ with
      | .ok u _ => (match f ys u with
        | some zs => .ok .non (ρ.set i (some (setP r v (.lst true zs))))
        | none => .bad)
      | .exc e ρ1 => .exc e ρ1
      | .bad => .bad)
    | _ => .bad)
  | _ => .bad
def fApp (ys : List Val) (u : Val) : Option (List Val) := if ys.length < 16777216 then some (ys ++ [u]) else none
def fExt (ys : List Val) (u : Val) : Option (List Val) := match u with
  | .lst _ us => if fzs us = true ∧ ys.length + us.length ≤ 16777216 then some (ys ++ us) else none
  | _ => none
section
variable {G : Gam} {X : Cx} {E : WX} {o e : Expr} {i : Nat} {r : List Stp} {pos apos : Pos} {p s : Bool} {m : ME}
def StpF (G : Gam) (K : PySem.W.Frag) (r : List Stp) : Prop := ∀ cs n, Stp.f cs n ∈ r → FldF G K cs n
theorem stpF_nil {K : PySem.W.Frag} : StpF G K [] := fun _ _ h => nomatch h
theorem stpF_f {K : PySem.W.Frag} {cs : List Nat} {n : Str} (h : StpF G K r) (f : FldF G K cs n) : StpF G K (r ++ [.f cs n]) := fun cs' n' z => by
  rcases List.mem_append.mp z with z | z
  · exact h cs' n' z
  · cases List.mem_singleton.mp z; exact f
theorem stpF_k {K : PySem.W.Frag} {z : Str} (h : StpF G K r) : StpF G K (r ++ [.k z]) := fun cs' n' w => by
  rcases List.mem_append.mp w with w | w
  · exact h cs' n' w
  · cases List.mem_singleton.mp w
theorem ve_path (hF : StpF G X.K r) (ho : PE X o (tNav X.K i r)) : VE G X E true false o (mPath i r) := by
  refine PE.pre ho fun σ H Q ⟨R, ρ, Os, rel, post⟩ => ?_
  unfold mPath at post
  split at post
  · rename_i v hv
    split at post
    · rename_i w hg
      obtain ⟨x, hx, rep⟩ := rel.rep i v hv
      obtain ⟨y, O1, Ow, O2, nav, rw', _, _⟩ := Rep.path hF rep hg
      refine ⟨x, y, hx, nav, post y H Os Ow (rel.weak fun a z => z.elim id fun z => by cases z.1) (rw'.mono (fun a o e nw => ⟨e, fun z => nw (z.imp (fun z => z.elim id fun z => by cases z.1) id)⟩) fun _ _ _ e => e) (fun z => by cases z) (KeepE.refl.imp fun a z => by cases z.1) fun _ => ⟨rfl, rfl, fun _ _ e => e⟩⟩
    · exact post.elim
  · exact post.elim
theorem Nav.same {K : PySem.W.Frag} {H H' : Hp} {y : V} (sm : Same H H') : ∀ {r : List Stp} {x : V}, Nav K H r x y → Nav K H' r x y
  | [], x, h => h
  | .f cs n :: r, x, ⟨a, C, dx, fs, z, h1, h2, h3, h4, h5, h6⟩ => ⟨a, C, dx, fs, z, h1, sm _ _ h2, h3, h4, h5, Nav.same sm h6⟩
  | .k s :: r, x, ⟨a, kvs, z, h1, h2, h3, h4⟩ => ⟨a, kvs, z, h1, sm _ _ h2, h3, Nav.same sm h4⟩
theorem Nav.det {K : PySem.W.Frag} {H : Hp} {y y' : V} : ∀ {r : List Stp} {x : V}, Nav K H r x y → Nav K H r x y' → y = y'
  | [], x, h, h' => by cases h; cases h'; rfl
  | .f cs n :: r, x, ⟨a, C, dx, fs, z, h1, h2, h3, h4, h5, h6⟩, ⟨a', C', dx', fs', z', g1, g2, g3, g4, g5, g6⟩ => by
    rw [h1] at g1; cases g1
    rw [h2] at g2; cases g2
    rw [h5] at g5; cases g5
    exact Nav.det h6 g6
  | .k s :: r, x, ⟨a, kvs, z, h1, h2, h3, h4⟩, ⟨a', kvs', z', g1, g2, g3, g4⟩ => by
    rw [h1] at g1; cases g1
    rw [h2] at g2; cases g2
    rw [h3] at g3; cases g3
    exact Nav.det h4 g4
/-- what a method of lists does, on trees -/
def LopOk (G : Gam) (rr : V → List V → Hp → VK → Prop) (f : List Val → Val → Option (List Val)) : Prop :=
  ∀ (W : Addr → Prop) H b xs ys O u y Ou zs, H b = some (.lst xs) → Reps G W H xs ys O → Rep G W H y u Ou → (b :: O).Nodup → Ou.Nodup → (∀ a ∈ b :: O, a ∉ Ou) → f ys u = some zs →
    ∃ xs' P, (∀ Q, Q .non (upd H b (.lst xs')) → rr (.ref b) [y] H Q) ∧ P.Nodup ∧ (∀ c ∈ P, c ∈ O ∨ c ∈ Ou) ∧ ∀ W' H', (∀ z u Oz, (∀ c ∈ Oz, c ∈ O ∨ c ∈ Ou) → Rep G W H z u Oz → Rep G W' H' z u Oz) → Reps G W' H' xs' zs P
theorem sameO {P : Prop} (h : P) : P := h
/-- a list at the end of the steps is changed by a method with one argument that changes nothing by itself -/
theorem lop_pre {f : List Val → Val → Option (List Val)} {rr : V → List V → Hp → VK → Prop} {σ : L2.St} {H : Hp} {Q : VK} (hF : StpF G X.K r) (ok : LopOk G rr f)
    (h : rd G E false true (mLop i r f m) σ H Q) : tNav X.K i r σ H fun x H1 => tyV X.K "list" x H1 ∧ rd G E true true m σ H1 fun y H2 => rr x [y] H2 Q := by
  obtain ⟨R, ρ, Os, rel, post⟩ := h
  unfold mLop at post
  split at post
  rotate_left
  · exact post.elim
  rename_i v hv
  split at post
  rotate_left
  · exact post.elim
  rename_i ys hg
  have e0 : (fun a => R a ∨ a ∈ ([] : List Addr)) = R := setEq fun a => ⟨fun z => z.elim id (fun z => nomatch z), Or.inl⟩
  obtain ⟨x, y, Ow, hx, nav, rw', _, _, _⟩ := Rel.at_path (O := []) (e0.symm ▸ rel) (fun _ z => nomatch z) List.nodup_nil hF hv hg
  obtain ⟨b, xs, ey, eb⟩ : ∃ b xs, y = .ref b ∧ H b = some (.lst xs) := by
    cases rw' with
    | lstO h q => exact ⟨_, _, rfl, h⟩
  refine ⟨x, y, hx, nav, ?_, R, ρ, Os, rel, ?_⟩
  · subst ey
    exact .inl ⟨rfl, xs, .inl (.inl eb)⟩
  cases hm : m ρ with
  | bad => rw [hm] at post; exact post
  | exc e ρ1 => rw [hm] at post; exact post
  | ok u ρ1 =>
    rw [hm] at post
    dsimp only at post
    cases hf : f ys u with
    | none => rw [hf] at post; exact post.elim
    | some zs =>
    rw [hf] at post
    dsimp only at post
    intro y2 H2 Os2 Ou rel2 rep2 nd2 keep2 pure2
    obtain ⟨rfl, rfl, same⟩ := pure2 rfl
    have e1 : Rp R true Ou = fun a => R a ∨ a ∈ Ou := setEq fun a => ⟨fun z => z.imp id fun z => z.2, fun z => z.imp id fun z => ⟨rfl, z⟩⟩
    rw [e1] at rel2 rep2
    have nO : ∀ a ∈ Ou, ¬ R a := fun a ha z => by
      obtain ⟨o, ea, nw⟩ := rel.hr a z
      exact (keep2 a o ea nw).2.2 ⟨rfl, ha⟩
    obtain ⟨x', y', Ow2, hx', nav', rw2, ndw, sub, chg⟩ := Rel.at_path rel2 nO (nd2 rfl) hF hv hg
    rw [hx] at hx'
    cases hx'
    have ey' := Nav.det (nav.same same) nav'
    subst ey'
    subst ey
    cases rw2 with
    | @lstO _ xs2 _ P0 eb2 q =>
    have dj : ∀ a ∈ b :: P0, a ∉ Ou := fun a ha z => rel2.dr i a (sub a ha) (.inr z)
    obtain ⟨xs', P, run, ndP, hP, mk⟩ := ok _ H2 b xs2 ys P0 u y2 Ou zs eb2 q rep2 ndw (nd2 rfl) dj hf
    refine run Q ?_
    have ndb := List.nodup_cons.mp ndw
    obtain ⟨Os', r3, k3⟩ := chg b (.lst xs') (.lst true zs) P rfl List.mem_cons_self (List.nodup_cons.mpr ⟨fun z => (hP b z).elim ndb.1 fun z => dj b List.mem_cons_self z, ndP⟩) (fun c hc => (hP c hc).imp (List.mem_cons_of_mem _) id) fun W' tr =>
      .lstO upd_same (mk W' _ fun z u Oz hz => tr z u Oz fun c hc => ⟨(hz c hc).imp (List.mem_cons_of_mem _) id, fun w => (hz c hc).elim (fun z => ndb.1 (w ▸ z)) fun z => dj b List.mem_cons_self (w ▸ z)⟩)
    refine post .non _ Os' [] (r3.weak fun a z => z.elim id fun z => nomatch z.2) .non (fun _ => List.nodup_nil) (fun a o ea nw => ?_) fun z => by cases z
    obtain ⟨e2, n1, n2⟩ := keep2 a o ea nw
    obtain ⟨e3, n3⟩ := k3 a o e2 n1 fun z => n2 ⟨rfl, z⟩
    exact ⟨e3, n3, fun z => nomatch z.2⟩
theorem ok_app : LopOk G rAppend fApp := by
  intro W H b xs ys O u y Ou zs eb q ry nd ndu dj hf
  unfold fApp at hf
  split at hf
  · rename_i hl
    cases hf
    have ndO := (List.nodup_cons.mp nd).2
    refine ⟨xs ++ [y], O ++ Ou, fun Q h => ⟨b, xs, y, rfl, rfl, eb, by rw [q.length, sizeLine_eq]; exact hl, h⟩, List.nodup_append.mpr ⟨ndO, ndu, fun a ha c hc e => dj a (List.mem_cons_of_mem _ ha) (e ▸ hc)⟩, fun c hc => List.mem_append.mp hc, fun W' H' tr => ?_⟩
    have e : ∀ {xs : List V} {ys : List Val} {P : List Addr}, Reps G W H xs ys P → (∀ c ∈ P, c ∈ O) → Reps G W' H' xs ys P := by
      intro xs ys P r
      induction ys generalizing xs P with
      | nil => intro _; cases r; exact .nil
      | cons v vs ih =>
        intro hP
        cases r with
        | cons r t => exact .cons (tr _ _ _ (fun c hc => .inl (hP c (List.mem_append_left _ hc))) r) (ih t fun c hc => hP c (List.mem_append_right _ hc))
    have := (e q fun c hc => hc).append (.cons (tr _ _ _ (fun c hc => .inr hc) ry) .nil)
    simpa using this
  · cases hf
theorem ok_ext : LopOk G rExtend fExt := by
  intro W H b xs ys O u y Ou zs eb q ry nd ndu dj hf
  unfold fExt at hf
  split at hf
  · rename_i o us
    split at hf
    · rename_i hl
      cases hf
      obtain ⟨a, zs, O1, rfl, e1, q1⟩ := rep_lstL ry
      have q2 := q1.fz hl.1
      have ndO := (List.nodup_cons.mp nd).2
      refine ⟨xs ++ zs, O, fun Q h => ⟨b, a, xs, zs, rfl, rfl, eb, e1, by rw [q.length, q2.length, sizeLine_eq]; exact hl.2, h⟩, ndO, fun c hc => .inl hc, fun W' H' tr => ?_⟩
      have e : ∀ {xs : List V} {ys : List Val} {P : List Addr}, Reps G W H xs ys P → (∀ c ∈ P, c ∈ O) → Reps G W' H' xs ys P := by
        intro xs ys P r
        induction ys generalizing xs P with
        | nil => intro _; cases r; exact .nil
        | cons v vs ih =>
          intro hP
          cases r with
          | cons r t => exact .cons (tr _ _ _ (fun c hc => .inl (hP c (List.mem_append_left _ hc))) r) (ih t fun c hc => hP c (List.mem_append_right _ hc))
      simpa using (e q fun c hc => hc).append (e q2 fun c hc => nomatch hc)
    · cases hf
  · cases hf
theorem ve_app {o : Expr} (hF : StpF G X.K r) (ho : PE X o (tNav X.K i r)) (he : VE G X E true true e m) (hbase : attributeBase o "append" X.env (eval o X.env) = eval o X.env := by rfl)
    (hfew : ((backTo pos (starEach [e] X.env)).all (fun x => !x.1) && (backToKw pos (keywordEach [] X.env)).all (fun x => x.1.isSome) && decide (([e] : List Expr).length + ([] : List Keyword).length + (if ([] : List Keyword).isEmpty then 0 else 1) < 30)) = true := by rfl)
    (hline : (apos.endLine == pos.line) = true := by rfl) (hs : starEach [e] X.env = (false, eval e X.env) :: starEach [] X.env := by rfl) (hp : (backTo pos (starEach [] X.env)).any (·.1) = false := by rfl) : VE G X E false true (.Call (.Attribute o "append" apos) [e] [] pos) (mLop i r fApp m) :=
  PE.pre (pe_bm PySem.F.plainAttrs_list PySem.F.slot_list_append PySem.F.type_list_append mt_append ho (pa_cons he pa_nil hs) hbase hfew hline hs hp) fun σ H Q h => lop_pre hF ok_app h
theorem ve_ext {o : Expr} (hF : StpF G X.K r) (ho : PE X o (tNav X.K i r)) (he : VE G X E true true e m) (hbase : attributeBase o "extend" X.env (eval o X.env) = eval o X.env := by rfl)
    (hfew : ((backTo pos (starEach [e] X.env)).all (fun x => !x.1) && (backToKw pos (keywordEach [] X.env)).all (fun x => x.1.isSome) && decide (([e] : List Expr).length + ([] : List Keyword).length + (if ([] : List Keyword).isEmpty then 0 else 1) < 30)) = true := by rfl)
    (hline : (apos.endLine == pos.line) = true := by rfl) (hs : starEach [e] X.env = (false, eval e X.env) :: starEach [] X.env := by rfl) (hp : (backTo pos (starEach [] X.env)).any (·.1) = false := by rfl) : VE G X E false true (.Call (.Attribute o "extend" apos) [e] [] pos) (mLop i r fExt m) :=
  PE.pre (pe_bm PySem.F.plainAttrs_list PySem.F.slot_list_extend PySem.F.type_list_extend mt_extend ho (pa_cons he pa_nil hs) hbase hfew hline hs hp) fun σ H Q h => lop_pre hF ok_ext h
end
end VL
/-! VL, part WG: dict comprehensions (values that nobody changes). -/
namespace VL
open PySem L2
def dcL (g : MG) (tt km vm : ME) (own : List Nat) : List Val → DL → VEnv → RE
  | [], acc, ρ => .ok (dctOf acc) ρ
  | u :: us, acc, ρ => match g u ρ with
    | none => .bad
    | some ρ1 => match tt ρ1 with
      | .ok (.bl b) ρ2 => if b = true then (match km ρ2 with
        | .ok k ρ3 => (match vm ρ3 with
          | .ok v ρ4 => if isKey .k k = true ∧ v.fz = true ∧ acc.length < 1000000 then dcL g tt km vm own us (putD acc k v) (wipeV ρ4 own) else .bad
          | _ => .bad)
        | _ => .bad) else dcL g tt km vm own us acc (wipeV ρ2 own)
      | _ => .bad
def mDc (mi : MI) (g : MG) (tt km vm : ME) (own : List Nat) : ME := fun ρ => match mi ρ with
  | .ok us ρ1 => dcL g tt km vm own us [] (wipeV ρ1 own)
  | .exc e ρ' => .exc e ρ'
  | .bad => .bad
section
variable {G : Gam} {X : Cx} {E : WX} {p pk sk pv : Bool} {pos : Pos}
theorem KRel.len {W : Addr → Prop} {H : Hp} {kvs : List (Key × V)} {d : DL} (r : KRel G W H kvs d) : kvs.length = d.length := by
  have := congrArg List.length r.ks
  simpa using this.symm
theorem dc_reading {tg iter : Expr} {ow : List Nat} {n : Nat} {wi : TI} {mi : MI} {g : MG} {tt km vm : ME} {σ : L2.St} {H : Hp} {Q : VK} (hwi : wi = tI G E mi) (hlen : σ.length = n) (h : rd G E false true (mDc mi g tt km vm ow) σ H Q) :
    tDc wi (fun x σ H Q => ∃ σ0, tG G (pinsBut n ow) σ0 g x σ H Q) (tT G WF p tt) (rd G WF pk sk km) (rd G WF pv true vm) ow σ H Q := by
  subst hwi
  obtain ⟨R, ρ, Os, rel, post⟩ := h
  refine ⟨R, ρ, Os, rel, ?_⟩
  unfold mDc at post
  cases hm : mi ρ with
  | bad => rw [hm] at post; exact post
  | exc e ρ' => rw [hm] at post; exact post
  | ok us ρ1 =>
    rw [hm] at post
    dsimp only at post
    intro J H1 Os1 rel1 walk keep1 D hD
    obtain ⟨Osw, relw, wew⟩ := rel1.wipe ow
    let St := fun (i : Nat) (H' : Hp) => i ≤ us.length ∧ ∃ ρ2 Os2 acc kvs, Rel G (fun a => R a ∨ a = D) H' (L2.wipe σ ow) ρ2 Os2 ∧ H' D = some (.dK kvs) ∧ KRel G (WW (fun a => R a ∨ a = D) Os2) H' kvs acc ∧ KeepE H1 Os1 H' Os2 (fun a => a = D) ∧
      Post G R E σ H Os false true ρ Q (dcL g tt km vm ow (us.drop i) acc ρ2)
    refine ⟨fun i n H' => n = us.length - i ∧ St i H', ⟨us.length, by simp, Nat.zero_le _, wipeV ρ1 ow, Osw, [], [], relw.root0 hD, upd_same, ⟨rfl, .nil⟩, fun a o e nw => ⟨same_upd hD a o e, fun z => nw (wew a z), ne_of_none e hD⟩, by simpa using post⟩, ?_⟩
    rintro i n H' ⟨rfl, hile, ρ2, Os2, acc, kvs, rel2, hDx, kr, keep2, post2⟩
    have kw : Keep (WW R Os1) H1 (WW (fun a => R a ∨ a = D) Os2) H' := fun a o e nw => by
      obtain ⟨e1, n1, n2⟩ := keep2 a o e fun z => nw (.inr z)
      exact ⟨e1, fun z => z.elim (fun z => z.elim (fun z => nw (.inl z)) n2) n1⟩
    obtain ⟨hstop, hgo⟩ := walk _ _ kw i
    by_cases hlt : i < us.length
    rotate_left
    · refine .inl ⟨hstop (by omega), ?_⟩
      rw [List.drop_eq_nil_of_le (by omega)] at post2
      unfold dcL at post2
      have e0 : (fun a => R a ∨ a = D) = Rp R true [D] := setEq fun a => ⟨fun z => z.imp id fun z => ⟨rfl, List.mem_singleton.mpr z⟩, fun z => z.imp id fun z => List.mem_singleton.mp z.2⟩
      rw [e0] at rel2 kr
      refine post2 (.ref D) H' Os2 [D] rel2.unwipe (.dkO hDx kr.ks kr.vs) (fun _ => by simp) (fun a o e nw => ?_) fun z => by cases z
      obtain ⟨e1, n1, _⟩ := keep1 a o e nw
      obtain ⟨e2, n2, n3⟩ := keep2 a o e1 n1
      exact ⟨e2, n2, fun z => n3 (List.mem_singleton.mp z.2)⟩
    refine .inr ?_
    obtain ⟨go, yld⟩ := hgo us[i] (List.getElem?_eq_getElem hlt)
    refine ⟨go, St (i + 1), fun H3 h1 => ⟨us.length - (i + 1), by omega, rfl, h1⟩, fun x H'' y => ?_⟩
    obtain ⟨same, repw⟩ := yld x H'' y
    have rep := repw fun p hp => rel2.ww hp
    have rel3 : Rel G (fun a => R a ∨ a = D) H'' (L2.wipe σ ow) ρ2 Os2 := rel2.grow same (fun a z => .inl z) fun a z => let ⟨o, e⟩ := rel2.rt a z; ⟨o, same a o e⟩
    have keep3 : KeepE H1 Os1 H'' Os2 fun a => a = D := keep2.grow same fun a z => .inl z
    have hD3 := same D _ hDx
    have kr3 : KRel G (WW (fun a => R a ∨ a = D) Os2) H'' kvs acc := kr.mono fun a o e nw => ⟨same a o e, nw⟩
    rw [List.drop_eq_getElem_cons hlt] at post2
    unfold dcL at post2
    have e0 : (fun a => R a ∨ a = D) = fun a => (R a ∨ a = D) ∨ a ∈ ([] : List Addr) := setEq fun a => ⟨.inl, fun z => z.elim id fun z => nomatch z⟩
    refine ⟨L2.wipe σ ow, fun a => R a ∨ a = D, ρ2, Os2, us[i], [], e0 ▸ rel3, e0 ▸ rep, List.nodup_nil, fun a z => (nomatch z), fun _ _ => rfl, ?_⟩
    cases hgu : g us[i] ρ2 with
    | none => rw [hgu] at post2; exact post2
    | some ρ3 =>
    rw [hgu] at post2
    dsimp only at post2
    intro σ3 Os3 pin3 hl3 rel4 we4
    have hw : L2.wipe σ3 ow = L2.wipe σ ow := wipe_eq hlen (by rw [hl3, wipe_length]) pin3
    have keep4 : KeepE H1 Os1 H'' Os3 fun a => a = D := fun a o e nw => let ⟨e1, n1, n2⟩ := keep3 a o e nw; ⟨e1, fun z => (we4 a z).elim n1 (fun z => nomatch z), n2⟩
    have kr4 : KRel G (WW (fun a => R a ∨ a = D) Os3) H'' kvs acc := kr3.mono fun a o e nw => ⟨e, fun z => nw (z.imp id fun z => (we4 a z).elim id fun z => nomatch z)⟩
    refine ⟨hw, fun a => R a ∨ a = D, ρ3, Os3, rel4, ?_⟩
    /- what stays from one part to the next -/
    have go1 : ∀ {Ha Hb : Hp} {Osa Osb : Nat → List Addr} {ρa ρb : VEnv} {P : Addr → Prop}, Rel G (fun a => R a ∨ a = D) Ha σ3 ρa Osa → Ha D = some (.dK kvs) → KRel G (WW (fun a => R a ∨ a = D) Osa) Ha kvs acc → KeepE H1 Os1 Ha Osa (fun a => a = D) → Rel G (fun a => R a ∨ a = D) Hb σ3 ρb Osb → KeepE Ha Osa Hb Osb P →
        Hb D = some (.dK kvs) ∧ KRel G (WW (fun a => R a ∨ a = D) Osb) Hb kvs acc ∧ KeepE H1 Os1 Hb Osb (fun a => a = D) := fun ra hd kr ka rb kb => by
      refine ⟨(kb D _ hd (ra.nr (.inr rfl))).1, kr.mono fun a o e nw => ?_, fun a o e nw => ?_⟩
      · obtain ⟨e1, n1, _⟩ := kb a o e fun z => nw (.inr z)
        exact ⟨e1, fun z => z.elim (fun z => nw (.inl z)) n1⟩
      · obtain ⟨e1, n1, n2⟩ := ka a o e nw
        obtain ⟨e2, n3, _⟩ := kb a o e1 n1
        exact ⟨e2, n3, n2⟩
    cases htt : tt ρ3 with
    | bad => rw [htt] at post2; exact post2.elim
    | exc e ρ4 => rw [htt] at post2; exact post2.elim
    | ok tv ρ4 =>
    rw [htt] at post2
    cases tv with
    | bl b =>
      intro H5 Os5 rel5 k5 _
      obtain ⟨hD5, kr5, keep5⟩ := go1 rel4 hD3 kr4 keep4 rel5 k5
      cases b with
      | false =>
        simp only [Bool.false_eq_true, if_false] at post2 ⊢
        obtain ⟨Os6, rel6, we6⟩ := rel5.wipe ow
        rw [hw] at rel6
        exact ⟨hlt, wipeV ρ4 ow, Os6, acc, kvs, rel6, hD5, kr5.mono fun a o e nw => ⟨e, fun z => nw (z.imp id (we6 a))⟩, fun a o e nw => let ⟨e1, n1, n2⟩ := keep5 a o e nw; ⟨e1, fun z => n1 (we6 a z), n2⟩, post2⟩
      | true =>
        simp only [if_true] at post2 ⊢
        refine ⟨fun a => R a ∨ a = D, ρ4, Os5, rel5, ?_⟩
        cases hkm : km ρ4 with
        | bad => rw [hkm] at post2; exact post2.elim
        | exc e ρ6 => rw [hkm] at post2; exact post2.elim
        | ok k ρ5 =>
        rw [hkm] at post2
        dsimp only at post2
        intro ky H6 Os6 Ok rel6 rep6 _ k6 _
        have rel6' : Rel G (fun a => R a ∨ a = D) H6 σ3 ρ5 Os6 := rel6.weak fun a z => .inl z
        obtain ⟨hD6, kr6, keep6⟩ := go1 rel5 hD5 kr5 keep5 rel6' k6
        refine ⟨fun a => R a ∨ a = D, ρ5, Os6, rel6', ?_⟩
        cases hvm : vm ρ5 with
        | bad => rw [hvm] at post2; exact post2.elim
        | exc e ρ6 => rw [hvm] at post2; exact post2.elim
        | ok v ρ6 =>
        rw [hvm] at post2
        dsimp only at post2
        intro vy H7 Os7 Ov rel7 rep7 _ k7 _
        by_cases hc : isKey .k k = true ∧ v.fz = true ∧ acc.length < 1000000
        rotate_left
        · rw [if_neg hc] at post2; exact post2.elim
        rw [if_pos hc] at post2
        have hOv := rep7.none_of_fz hc.2.1
        subst hOv
        have rel7' : Rel G (fun a => R a ∨ a = D) H7 σ3 ρ6 Os7 := rel7.weak fun a z => .inl z
        have rep7' : Rep G (WW (fun a => R a ∨ a = D) Os7) H7 vy v [] := rep7.mono (fun a o e nw => ⟨e, fun z => nw (z.imp (fun z => .inl z) id)⟩) fun _ z => nomatch z
        obtain ⟨hD7, kr7, keep7⟩ := go1 rel6' hD6 kr6 keep6 rel7' k7
        obtain ⟨kk, ek, exk⟩ := isKey_k hc.1 rep6
        subst ek exk
        refine ⟨kvs, kk, rfl, hD7, by rw [kr7.len, sizeLine_eq]; omega, hlt, ?_⟩
        have rel8 := Rel.chg (D := D) (o := .dK (putK kvs kk vy)) rel7' (.inr rfl)
        obtain ⟨Os9, rel9, we9⟩ := rel8.wipe ow
        rw [hw] at rel9
        refine ⟨wipeV ρ6 ow, Os9, putD acc (ofKey kk) v, putK kvs kk vy, rel9, upd_same, (kr7.put kk rep7').mono fun a o e nw => ⟨by rw [upd_ne (show a ≠ D from fun z => nw (.inl (.inr z)))]; exact e, fun z => nw (z.imp id (we9 a))⟩, fun a o e nw => ?_, post2⟩
        obtain ⟨e1, n1, n2⟩ := keep7 a o e nw
        exact ⟨by rw [upd_ne n2]; exact e1, fun z => n1 (we9 a z), n2⟩
    | _ => exact post2.elim
/-- {k: v for target in iter if ..} -/
theorem ve_dc {kx vx tg iter : Expr} {ifs : List Expr} {scope : Scope} {own : List (Str × Nat)} {mi : MI} {g : MG} {tt km vm : ME} (hc : X.calm = true) (hN : X.N.Nodup) (hi : VI G X E tg iter mi) (ok : BlkOk X.N X.env.scope scope own)
    (hg : ∀ (s : Shared) (H : Hp) (C : Addr) (cl : List (Str × Addr)) (fp : List Addr) (σ0 : L2.St), VG G (X.blk s H scope (compEnvC scope cl C X.env) fp) (pinsBut X.N.length (own.map (·.2))) σ0 tg g)
    (ht : ∀ (s : Shared) (H : Hp) (C : Addr) (cl : List (Str × Addr)) (fp : List Addr), PTs (X.blk s H scope (compEnvC scope cl C X.env) fp) ifs (tT G WF p tt))
    (hk : ∀ (s : Shared) (H : Hp) (C : Addr) (cl : List (Str × Addr)) (fp : List Addr), VE G (X.blk s H scope (compEnvC scope cl C X.env) fp) WF pk sk kx km)
    (he : ∀ (s : Shared) (H : Hp) (C : Addr) (cl : List (Str × Addr)) (fp : List Addr), VE G (X.blk s H scope (compEnvC scope cl C X.env) fp) WF pv true vx vm) (hs : ∀ x, foldedSetIterable iter X.env x = pure x := by intro _; rfl) :
    VE G X E false true (.DictComp kx vx [⟨tg, iter, ifs, 0⟩] scope pos) (mDc mi g tt km vm (own.map (·.2))) := by
  have hg2 : ∀ (s : Shared) (H : Hp) (C : Addr) (cl : List (Str × Addr)) (fp : List Addr), PG (X.blk s H scope (compEnvC scope cl C X.env) fp) tg (fun x σ H Q => ∃ σ0, tG G (pinsBut X.N.length (own.map (·.2))) σ0 g x σ H Q) := fun s H C cl fp =>
    ⟨fun pins st σ H' v u Q I r ⟨σ0, q⟩ => (hg s H C cl fp σ0).run pins st σ H' v u Q I r q⟩
  exact ⟨fun pins s1 σ H Q I h => (pe_dc hc hN hi ok hg2 ht hk he hs).run pins s1 σ H Q I (dc_reading (tg := tg) (iter := iter) rfl I.len h)⟩
end
end VL
/-! VL, part WH: own operators with a built-in value on the right, in place, in. -/
namespace VL
open PySem L2 PyProof.Rows
section
variable {prog : Program} {w : World} {A : Around} {E : Value → Shared → Prop} {s : Shared} {K : PySem.W.Frag} {x C f : Addr} {ox : Obj} {od : Option Obj} {T : String}
open PySem.W in
theorem binop_KT {op : Operator} {b : Value} {fo ro : Option Value} {Q : Value → Shared → Prop} (X : K.In s.heap) (I : InstAt s.heap x ox C od) (hb : Looks (model prog w) s.heap (typeOf b) (.type T)) (hc : selfFirst K C = true)
    (hs : findIn K (.ref C) (PySem.dunder op.info.2) = some (some (.ref f))) (hf : isFn K (.ref f) = true) (hr : findIn K (.ref C) (dunderR op.info.2) = some none) (h1 : findIn K (.type T) (PySem.dunder op.info.2) = some fo) (h2 : findIn K (.type T) (dunderR op.info.2) = some ro)
    (hsub : subIn K (.type T) (.ref C) = some false) (h : wpAny (model prog w) A (call (.ref f) [.ref x, b]) (PySem.W.CmpBack Q) E s) : wpAny (model prog w) A (binaryOp op (.ref x) b) Q E s := by
  obtain ⟨cd, rest, hcd, hm⟩ := ksp_first hc
  rcases hi : op.info with ⟨sym, nm'⟩
  rw [hi] at hs hr h1 h2
  dsimp only at hs hr h1 h2
  have one := ksp_try X I hs hf h
  obtain ⟨hh, g, d, tt, os⟩ := s
  have L1 : Looks (model prog w) hh (typeOf (.ref x)) (.ref C) := I.type
  have L2 : Looks (model prog w) hh (typeOf b) (.type T) := hb
  have L3 : Looks (model prog w) hh (fillsNumberSlot (.ref C) nm') true := fills_K X hcd hm hs
  have L4 := ksp_fillsT (M := model prog w) X h1 h2
  have L5 : Looks (model prog w) hh (isSubtype (.type T) (.ref C)) false := looks_subIn X hsub
  have L6 : Looks (model prog w) hh (numberSlotInPython (.ref C) nm') true := ksp_inPy X hs hr (.inl rfl)
  have L7 : Looks (model prog w) hh (numberSlotInPython (.type T) nm') false := Looks.of_pure rfl
  have L8 : Looks (model prog w) hh (typeLookup (.type T) (dunderR nm')) ro := looks_findIn X h2
  generalize ((fo.isSome && !isSeqSlot fo) || (ro.isSome && !isSeqSlot ro)) = right at L4
  have ne : (Value.ref C == Value.type T) = false := by first | rfl | simp
  simp only [binaryOp, hi]
  refine wpAny_holding (wpAny_bind ?_)
  unfold binaryOp1
  refine wpAny_bind (L1.at (wpAny_bind (L2.at (wpAny_bind (L3.at ?_)))))
  simp only [ne, Bool.false_eq_true, if_false]
  cases right <;> (ksp_lk; refine wpAny_mono one (fun r s' z => ?_) (fun _ _ e => e); obtain ⟨v, rfl, hq⟩ := z; ksp_lk; exact hq)
end

/-- what the class must have for an operator whose reflected form it lacks -/
structure OwnL (K : PySem.W.Frag) (C : Addr) (nm : String) (f : Addr) : Prop where
  sf : PySem.W.selfFirst K C = true
  l : PySem.W.findIn K (.ref C) (PySem.dunder nm) = some (some (.ref f))
  lf : PySem.W.isFn K (.ref f) = true
  r : PySem.W.findIn K (.ref C) (dunderR nm) = some none
  ts : ∀ t ∈ tyAll, (PySem.W.findIn K (.type t) (PySem.dunder nm)).isSome = true ∧ (PySem.W.findIn K (.type t) (dunderR nm)).isSome = true ∧ PySem.W.subIn K (.type t) (.ref C) = some false
def tOwnL (x : Str) (nm : String) : Ftest := fun K => PySem.W.selfFirst K (He.ga K x) && (He.eqO (PySem.W.findIn K (.ref (He.ga K x)) (PySem.dunder nm)) (some (some (.ref (He.ma K (He.ga K x) (PySem.dunder nm))))) && (PySem.W.isFn K (.ref (He.ma K (He.ga K x) (PySem.dunder nm))) &&
  (He.eqO (PySem.W.findIn K (.ref (He.ga K x)) (dunderR nm)) (some none) && tyAll.all fun t => (PySem.W.findIn K (.type t) (PySem.dunder nm)).isSome && ((PySem.W.findIn K (.type t) (dunderR nm)).isSome && decide (PySem.W.subIn K (.type t) (.ref (He.ga K x)) = some false)))))
theorem ownL_ok {K : PySem.W.Frag} {x : Str} {nm : String} (c : tOwnL x nm K = true) : OwnL K (He.ga K x) nm (He.ma K (He.ga K x) (PySem.dunder nm)) := by
  unfold tOwnL at c
  simp only [Bool.and_eq_true] at c
  obtain ⟨c1, c2, c3, c4, c5⟩ := c
  refine ⟨c1, He.eqO_ok c2, c3, He.eqO_ok c4, fun t ht => ?_⟩
  have := List.all_eq_true.mp c5 t ht
  simp only [Bool.and_eq_true] at this
  exact ⟨this.1, this.2.1, of_decide_eq_true this.2.2⟩
/-- a op b, the left's own def; b an object of the same class or of a built-in kind -/
def mfLeft (c : Nat) (ml : MF) : MF := fun vs => match vs with
  | [.obj o n fs xs, .obj p k gs ys] => if n = c ∧ k = c then voidR (ml [.obj o n fs xs, .obj p k gs ys]) else .bad
  | [.obj o n fs xs, v] => if n = c ∧ (tyName v).isSome = true then voidR (ml [.obj o n fs xs, v]) else .bad
  | _ => .bad
section
variable {G : Gam} {H : Hp}
theorem left_own {c : Nat} {C : Addr} {ml : MF} {x y : V} {Q : VK} {E : XK} (hc : G.cn c = some C) (h : spV G 2 (mfLeft c ml) [x, y] H Q E) :
    ∃ a dx fs, x = .ref a ∧ H a = some (.ins C dx fs) ∧ ((∃ b dy gs, y = .ref b ∧ H b = some (.ins C dy gs)) ∨ ∃ t, t ∈ tyAll ∧ TyX G.K H y (.type t)) ∧ spV G 2 ml [x, y] H Q E := by
  obtain ⟨_, R, v, u, Oa, rel, r1, r2, post⟩ := sp_two h
  unfold mfLeft at post
  split at post
  · rename_i o n fs xs p k gs ys hvu
    cases hvu
    by_cases hn : n = c ∧ k = c
    · rw [if_pos hn] at post
      obtain ⟨rfl, rfl⟩ := hn
      obtain ⟨a, C', dx, fs', rfl, ea, hC, _⟩ := rep_obj r1
      rw [hc] at hC; cases hC
      obtain ⟨b, C', dy, gs', rfl, eb, hC, _⟩ := rep_obj r2
      rw [hc] at hC; cases hC
      exact ⟨a, dx, fs', rfl, ea, .inl ⟨b, dy, gs', rfl, eb⟩, rfl, R, [_, _], Oa, rel, post.unvoid fun _ _ _ z => z⟩
    · rw [if_neg hn] at post; exact post.elim
  · rename_i o n fs xs w _ hvu
    cases hvu
    by_cases hn : n = c ∧ (tyName u).isSome = true
    · rw [if_pos hn] at post
      obtain ⟨rfl, ht⟩ := hn
      obtain ⟨a, C', dx, fs', rfl, ea, hC, _⟩ := rep_obj r1
      rw [hc] at hC; cases hC
      obtain ⟨t, ht⟩ := Option.isSome_iff_exists.mp ht
      exact ⟨a, dx, fs', rfl, ea, .inr ⟨t, tyName_mem ht, rep_tyX r2 ht⟩, rfl, R, [_, _], Oa, rel, post.unvoid fun _ _ _ z => z⟩
    · rw [if_neg hn] at post; exact post.elim
  · exact post.elim
section
variable {X : Cx} {E : WX} {a b e : Expr} {p1 p2 p : Bool} {m1 m2 m : ME} {pos : Pos} {C f : Addr} {c i : Nat} {ml : MF}
theorem left_run {op : Operator} (T : OwnL X.K C op.info.2 f) (hK : X.K = G.K) (hc : G.cn c = some C) (hl : CalV G X E (.ref f) 2 ml []) (pins : List (Addr × Obj)) (s : Shared) (σ : L2.St) (H : Hp) (x y : V) (v u : Value) (Q : VK)
    (I : Inv X pins σ H s) (rx : RelV x v) (ry : RelV y u) (h : spV G 2 (mfLeft c ml) [x, y] H Q (WE E σ)) : wpAny (model X.prog X.w) X.A (binaryOp op v u) (EP X pins σ Q) X.xe s := by
  obtain ⟨m, hF⟩ := I.fr
  obtain ⟨x0, dx, fs, rfl, ea, hy, q⟩ := left_own hc h
  cases rx
  obtain ⟨hx, od, J⟩ := ins_here I ea
  have one := thn (hl pins s σ H [.ref x0, y] [.ref x0, u] Q I (.cons rfl (.cons ry .nil)) (by simpa using q)) fun w s' (⟨z, H', I', rz, q⟩ : EP X pins σ Q w s') => SlX.cmpback (P := EP X pins σ Q) rz ⟨z, H', I', rz, q⟩
  rcases hy with ⟨b0, dy, gs, rfl, eb⟩ | ⟨t, ht, ty⟩
  · cases ry
    obtain ⟨hy, od', J'⟩ := ins_here I eb
    exact PySem.W.binop_K hF I.ok.mod.kin J J'.type T.sf T.l T.lf one
  · obtain ⟨P, Z, pp, _⟩ := kit_of I ry (hK ▸ ty)
    obtain ⟨t1, t2, t3⟩ := T.ts t ht
    obtain ⟨fo, hfo⟩ := Option.isSome_iff_exists.mp t1
    obtain ⟨ro, hro⟩ := Option.isSome_iff_exists.mp t2
    exact binop_KT I.kIn J (Z.ty _ _ I.kIn pp) T.sf T.l T.lf T.r hfo hro t3 one
theorem ve_left {op : Operator} (T : OwnL X.K C op.info.2 f) (hK : X.K = G.K) (hc : G.cn c = some C) (hl : CalV G X E (.ref f) 2 ml []) (h1 : VE G X E p1 true a m1) (h2 : VE G X E p2 true b m2) :
    VE G X E (p1 && p2) true (.BinOp a op b pos) (mCall (mfLeft c ml) [.v ⟨p1, true, m1⟩, .v ⟨p2, true, m2⟩]) := by
  refine ⟨fun pins s σ H Q I h => ?_⟩
  have q := call_of (E := E) (as := [.v ⟨p1, true, m1⟩, .v ⟨p2, true, m2⟩]) (n := 2) trivial rfl rfl (σ := σ) (H := H) (Q := Q) (mf := mfLeft c ml) (by simpa [argsP] using h)
  refine wpAny_BinOp (thn (h1.run pins s σ H _ I q) fun v s1 ⟨x, H1, I1, rx, q1⟩ => ?_)
  exact thn (h2.run pins s1 σ H1 _ I1 q1) fun u s2 ⟨y, H2, I2, ry, q2⟩ => left_run T hK hc hl pins s2 σ H2 x y v u Q I2 rx ry q2

/-! ### name op= e, by an own def: the name's value goes in, the result comes back -/
structure OwnI (K : PySem.W.Frag) (C : Addr) (nm : String) (f : Addr) : Prop where
  sf : PySem.W.selfFirst K C = true
  l : PySem.W.findIn K (.ref C) (dunderI nm) = some (some (.ref f))
  lf : PySem.W.isFn K (.ref f) = true
def tOwnI (x : Str) (nm : String) : Ftest := fun K => PySem.W.selfFirst K (He.ga K x) && (He.eqO (PySem.W.findIn K (.ref (He.ga K x)) (dunderI nm)) (some (some (.ref (He.ma K (He.ga K x) (dunderI nm))))) && PySem.W.isFn K (.ref (He.ma K (He.ga K x) (dunderI nm))))
theorem ownI_ok {K : PySem.W.Frag} {x : Str} {nm : String} (c : tOwnI x nm K = true) : OwnI K (He.ga K x) nm (He.ma K (He.ga K x) (dunderI nm)) := by
  unfold tOwnI at c
  simp only [Bool.and_eq_true] at c
  exact ⟨c.1, He.eqO_ok c.2.1, c.2.2⟩
def mfInp (c : Nat) (ml : MF) : MF := fun vs => match vs with
  | [.obj o n fs xs, v] => if n = c then voidR (ml [.obj o n fs xs, v]) else .bad
  | _ => .bad
theorem vs_augO {bs : List Bool} {σ0 : L2.St} {op : Operator} {x : Str} {pos' : Pos} (T : OwnI X.K C op.info.2 f) (hc : G.cn c = some C) (hl : CalV G X E (.ref f) 2 ml []) (hN : X.N.Nodup) (hi : X.N[i]? = some x) (hx : Loc X.env.scope x) (he : VE G X E p true e m) (hb : bs[i]? ≠ some true := by decide)
    (hf : X.fn x = true ∨ X.env.scope.names.lookup x = some .local := by first | exact .inl rfl | exact .inr rfl | assumption) : VS G X E bs σ0 (.AugAssign (.Name x pos') op e pos) (mSet i (mCall (mfInp c ml) [.v ⟨false, true, mMov i⟩, .v ⟨p, true, m⟩])) := by
  refine ⟨fun pins s σ H D I h => ?_⟩
  obtain ⟨R, ρ, Os, rel, pin, post⟩ := h
  have post2 : Post G R E σ H Os false true ρ (fun z H2 => D.nx (σ.set i (some z)) H2) (mCall (mfInp c ml) [.v ⟨false, true, mMov i⟩, .v ⟨p, true, m⟩] ρ) := by
    unfold mSet at post
    refine PostS.post (s := true) (f := fun v ρ' => if i < ρ'.length then .nx (ρ'.set i (some v)) else .bad) pin post fun v ρ' x H' Os' O _ post rel' rep nd k => ?_
    by_cases hi' : i < ρ'.length
    · rw [if_pos hi'] at post
      obtain ⟨Os2, r2, k2⟩ := set_of (D := D) (.inr trivial) rel.hr rel' rep (nd rfl) k hi'
      exact post _ _ Os2 (pin.set hb) r2 k2
    · rw [if_neg hi'] at post
      exact post.elim
  have q := call_of (E := E) (as := [.v ⟨false, true, mMov i⟩, .v ⟨p, true, m⟩]) (n := 2) trivial rfl rfl (σ := σ) (H := H) (Q := fun z H2 => D.nx (σ.set i (some z)) H2) (mf := mfInp c ml) ⟨R, ρ, Os, rel, by simpa [argsP] using post2⟩
  have mv : ∀ {K : V → Hp → Prop}, rd G E false true (mMov i) σ H K → ∃ v, σ[i]? = some (some v) ∧ K v H := fun {K} ⟨R, ρ, Os, rel, post⟩ => by
    unfold mMov at post
    cases hv : ρ[i]? with
    | none => rw [hv] at post; exact post.elim
    | some o =>
      cases o with
      | none => rw [hv] at post; exact post.elim
      | some v =>
        rw [hv] at post
        obtain ⟨x, hx, rel', rep⟩ := rel.take hv
        have ef : (fun a => R a ∨ a ∈ Os i) = Rp R true (Os i) := funext fun a => propext ⟨fun z => z.imp id fun z => ⟨rfl, z⟩, fun z => z.imp id fun z => z.2⟩
        rw [ef] at rel' rep
        refine ⟨x, hx, post x H _ (Os i) rel' rep (fun _ => rel.nd i) (fun a o e nw => ⟨e, fun z => nw ?_, fun z => nw ⟨i, z.2⟩⟩) fun z => by cases z⟩
        obtain ⟨j, z⟩ := z
        by_cases h : j = i
        · simp [h] at z
        · simp only [h, if_false] at z; exact ⟨j, z⟩
  obtain ⟨v, e1, q1⟩ := mv q
  obtain ⟨mm, hn, hll⟩ := I.loc
  have vis : Vis X.env.scope x := by rcases hx with k | k; exact .inl k; exact .inr (.inl k)
  obtain ⟨u, r, l⟩ := hll i x v hi e1 vis
  refine wpAny_AugAssign_Name ?_
  have go : wpAny (model X.prog X.w) X.A (eval e X.env) (fun w s₂ => wpAny (model X.prog X.w) X.A (inplaceOp op u w) (fun r s₃ => wpAny (model X.prog X.w) X.A (storeName X.env x r) (fun _ => SP X pins D .next) X.xe s₃) X.xe s₂) X.xe s := by
    refine thn (he.run pins s σ H _ I q1) fun w s1 ⟨y, H1, I1, ry, q2⟩ => ?_
    obtain ⟨m0, hF⟩ := I1.fr
    obtain ⟨_, R2, v2, u2, Oa, rel2, r1, r2, post3⟩ := sp_two q2
    unfold mfInp at post3
    split at post3
    rotate_left
    · exact post3.elim
    rename_i o n fs xs w2 hvu
    cases hvu
    by_cases hnc : n = c
    rotate_left
    · rw [if_neg hnc] at post3; exact post3.elim
    rw [if_pos hnc] at post3
    subst hnc
    obtain ⟨a, C', dx, fs', rfl, ea, hC, _⟩ := rep_obj r1
    rw [hc] at hC; cases hC
    cases r
    obtain ⟨hxx, od, J⟩ := ins_here I1 ea
    have q4 : spV G 2 ml [.ref a, y] H1 (fun z H2 => D.nx (σ.set i (some z)) H2) (WE E σ) := ⟨rfl, R2, [_, _], Oa, rel2, post3.unvoid fun _ _ _ z => z⟩
    have one := thn (hl pins s1 σ H1 [.ref a, y] [.ref a, w] _ I1 (.cons rfl (.cons ry .nil)) (by simpa using q4)) fun w s' (⟨z, H', I', rz, q⟩ : EP X pins σ (fun z H2 => D.nx (σ.set i (some z)) H2) w s') => SlX.cmpback (P := EP X pins σ fun z H2 => D.nx (σ.set i (some z)) H2) rz ⟨z, H', I', rz, q⟩
    refine thn (PySem.W.ksp_inplace hF I.ok.mod.kin J T.sf T.l T.lf one) fun z s2 ⟨zv, H2, I2, r2, q2⟩ => ?_
    exact store_ok I2 hN hi hx r2 (fun s3 I3 => ⟨_, H2, I3, q2⟩) hf
  rcases l with ⟨hk, hm⟩ | ⟨hk, cc, hcc, hcell⟩
  · exact wpAny_loadName_local I.ok.kind hk hn hm go
  · rcases hk with hk | hk
    · exact wpAny_loadName_cell I.ok.kind hk hcc hcell go
    · rcases hx with k | k
      · have z : X.env.scope.names.lookup x = some .free := hk
        rw [k] at z; cases z
      · have z : X.env.scope.names.lookup x = some .free := hk
        rw [k] at z; cases z
end
end
end VL
/-! VL, part WI: is None, in, all, name += int, zip, keywords, defs held by names. -/
namespace VL
open PySem L2
section
variable {G : Gam} {X : Cx}
/-! ### is None -/
def semIsN (neg : Bool) : List Val → Option Val
  | [v, .non] => some (.bl (match v with | .non => !neg | _ => neg))
  | _ => none
theorem ok_isN : OkF G (r2 fun x y H Q => y = .non ∧ Q (.bl (decide (x = .non))) H) (semIsN false) := by
  intro W H xs vs Ol v Q w r hs m
  unfold semIsN at hs
  split at hs
  · obtain ⟨x, y, O, O', rfl, r1, r2⟩ := r.inv2
    cases r2
    cases hs
    refine ⟨rfl, ?_⟩
    cases r1 <;> exact m.same (.bl _)
  · cases hs
theorem ok_notN : OkF G (r2 fun x y H Q => y = .non ∧ Q (.bl (!decide (x = .non))) H) (semIsN true) := by
  intro W H xs vs Ol v Q w r hs m
  unfold semIsN at hs
  split at hs
  · obtain ⟨x, y, O, O', rfl, r1, r2⟩ := r.inv2
    cases r2
    cases hs
    refine ⟨rfl, ?_⟩
    cases r1 <;> exact m.same (.bl _)
  · cases hs
/-! ### in -/
def strB : Val → Bool
  | .str _ => true
  | _ => false
def intB : Val → Bool
  | .int _ => true
  | _ => false
def hasV (x : Val) (l : List Val) : Bool := l.any fun y => decide (y = x)
/-- a text, a number in a list or tuple of such -/
def semIn (neg : Bool) : List Val → Option Val
  | [x, .tup l] => if (strB x && l.all strB || intB x && l.all intB) = true then some (.bl (xor neg (hasV x l))) else none
  | [x, .wtp l] => if (strB x && l.all strB || intB x && l.all intB) = true then some (.bl (xor neg (hasV x l))) else none
  | [x, .lst _ l] => if (strB x && l.all strB || intB x && l.all intB) = true then some (.bl (xor neg (hasV x l))) else none
  | _ => none
theorem flat_in {W : Addr → Prop} {H : Hp} {x : V} {v : Val} {O : List Addr} (rx : Rep G W H x v O) : {l : List Val} → {xs : List V} → {O' : List Addr} → Reps G W H xs l O' → (strB v && l.all strB || intB v && l.all intB) = true → flatV x = true ∧ xs.all flatV = true ∧ inV x xs = hasV v l
  | l, xs, O', r, h => by
    simp only [Bool.or_eq_true, Bool.and_eq_true] at h
    rcases h with ⟨hv, hl⟩ | ⟨hv, hl⟩
    · cases v with
      | str z =>
        cases rx
        refine ⟨rfl, ?_⟩
        clear hv
        revert hl
        revert xs O'
        induction l with
        | nil => intro xs O' r hl; cases r; exact ⟨rfl, rfl⟩
        | cons u l ih =>
          intro xs O' r hl
          simp only [List.all_cons, Bool.and_eq_true] at hl
          cases r with
          | cons r t =>
            obtain ⟨i1, i2⟩ := ih _ _ t hl.2
            cases u with
            | str y =>
              cases r
              refine ⟨by simp [flatV, i1], ?_⟩
              unfold inV hasV at i2 ⊢
              rw [List.any_cons, List.any_cons, i2]
              congr 1
              simp [eqV, Bool.beq_eq_decide_eq]
            | _ => simp [strB] at hl
      | _ => simp [strB] at hv
    · cases v with
      | int z =>
        cases rx
        refine ⟨rfl, ?_⟩
        clear hv
        revert hl
        revert xs O'
        induction l with
        | nil => intro xs O' r hl; cases r; exact ⟨rfl, rfl⟩
        | cons u l ih =>
          intro xs O' r hl
          simp only [List.all_cons, Bool.and_eq_true] at hl
          cases r with
          | cons r t =>
            obtain ⟨i1, i2⟩ := ih _ _ t hl.2
            cases u with
            | int y =>
              cases r
              refine ⟨by simp [flatV, i1], ?_⟩
              unfold inV hasV at i2 ⊢
              rw [List.any_cons, List.any_cons, i2]
              congr 1
              simp [eqV, Bool.beq_eq_decide_eq]
            | _ => simp [intB] at hl
      | _ => simp [intB] at hv
theorem ok_in (hK : X.K = G.K) {neg : Bool} : OkF G (r2 (rIn X.K neg)) (semIn neg) := by
  rw [hK]
  intro W H xs vs Ol v Q w r hs m
  unfold semIn at hs
  have fin : ∀ {x : V} {a : Addr} {ys : List V} {u : Val} {l : List Val} {O O' : List Addr}, Rep G W H x u O → (SqL G.K H a ys ∨ SqT G.K H a ys) → Reps G W H ys l O' → (if (strB u && l.all strB || intB u && l.all intB) = true then some (Val.bl (xor neg (hasV u l))) else none) = some v → rIn G.K neg x (.ref a) H Q := by
    intro x a ys u l O O' rx hq ry hs
    split at hs
    · rename_i h
      cases hs
      obtain ⟨f1, f2, f3⟩ := flat_in rx ry h
      refine ⟨a, ys, rfl, hq, f1, f2, ?_⟩
      have e : (if neg = true then !inV x ys else inV x ys) = xor neg (hasV u l) := by rw [f3]; cases neg <;> simp
      rw [e]
      exact m.same (.bl _)
    · cases hs
  split at hs
  · obtain ⟨x, y, O, O', rfl, r1, r2⟩ := r.inv2
    obtain ⟨a, ys, rfl, e1, q1⟩ := rep_tupT r2
    exact fin r1 (.inr e1) q1 hs
  · obtain ⟨x, y, O, O', rfl, r1, r2⟩ := r.inv2
    obtain ⟨a, ys, rfl, e1, q1⟩ := rep_wtp r2
    exact fin r1 (.inr e1) q1 hs
  · obtain ⟨x, y, O, O', rfl, r1, r2⟩ := r.inv2
    obtain ⟨a, ys, O1, rfl, e1, q1⟩ := rep_lstL r2
    exact fin r1 (.inl (.inl (.inl e1))) q1 hs
  · cases hs
/-- a key in a dict -/
def semInD (neg : Bool) : List Val → Option Val
  | [.str z, .wdk ks _] => some (.bl (xor neg (hasV (.str z) ks)))
  | [k, .dct _ .k ks _] => if isKey .k k = true then some (.bl (xor neg (hasV k ks))) else none
  | _ => none
def rInDk (K : PySem.W.Frag) (w : World) (neg : Bool) : R2 := fun x y H Q => (∃ (z : Str) (r : Option Value) (d : Addr), x = .str z ∧ y = .ref d ∧ (∃ es n, KDict K w d es n) ∧ PySem.W.nsIn K d z = some r ∧ Q (.bl (xor neg r.isSome)) H) ∨ (∃ a o, y = .ref a ∧ DGet H a x o ∧ Q (.bl (xor neg o.isSome)) H)
theorem op_inDk (hu : X.A.units + 1 < cLine) : OpR X (compareOp .In) (rInDk X.K X.w false) := by
  intro pins s σ H x y v u Q I rx ry h
  rcases h with ⟨z, r, d, rfl, rfl, ⟨es, n, D⟩, e, q⟩ | ⟨a, o, rfl, g, q⟩
  · exact op_in_kd D pins s σ H _ _ v u Q I rx ry ⟨z, r, rfl, rfl, e, by simpa using q⟩
  · cases ry
    exact d_in hu I g rx fun s3 I3 => ⟨.bl o.isSome, H, I3, rfl, by simpa using q⟩
theorem op_notInDk (hu : X.A.units + 1 < cLine) : OpR X (compareOp .NotIn) (rInDk X.K X.w true) := by
  intro pins s σ H x y v u Q I rx ry h
  rcases h with ⟨z, r, d, rfl, rfl, ⟨es, n, D⟩, e, q⟩ | ⟨a, o, rfl, g, q⟩
  · exact op_notIn_kd D pins s σ H _ _ v u Q I rx ry ⟨z, r, rfl, rfl, e, by simpa using q⟩
  · cases ry
    exact d_notIn hu I g rx fun s3 I3 => ⟨.bl (!o.isSome), H, I3, rfl, by simpa using q⟩
theorem has_of (k : Key) : ∀ kvs : List (Key × V), hasV (ofKey k) (kvs.map fun p => ofKey p.1) = (valV kvs k).isSome
  | [] => rfl
  | p :: kvs => by
    have ih := has_of k kvs
    unfold hasV at ih ⊢
    rw [List.map_cons, List.any_cons, ih]
    by_cases h : p.1 = k
    · rw [valV_pos h]; simp [h]
    · rw [valV_neg h]
      have h' : ¬ ofKey p.1 = ofKey k := fun z => h (ofKey_inj z)
      simp [h']
theorem ok_inDk (hK : X.K = G.K) (hw : X.w = G.w) {neg : Bool} : OkF G (r2 (rInDk X.K X.w neg)) (semInD neg) := by
  rw [hK, hw]
  intro W H xs vs Ol v Q w r hs m
  unfold semInD at hs
  split at hs
  · rename_i z ks us
    obtain ⟨x, y, O, O', rfl, r1, r2⟩ := r.inv2
    cases hs
    cases r1
    cases r2 with
    | @wdk a kvs _ _ h hk q =>
      subst hk
      have e := has_of (.inr z) kvs
      simp only [ofKey] at e
      cases hv : valV kvs (.inr z) with
      | none =>
        rw [hv] at e
        refine .inl ⟨z, none, a, rfl, rfl, h.1, h.2.2 z hv, ?_⟩
        rw [show (Option.isSome (none : Option Value)) = hasV (.str z) (kvs.map fun p => ofKey p.1) from e.symm]
        exact m.same (.bl _)
      | some x =>
        rw [hv] at e
        obtain ⟨es, n, u, _, _, h3, _⟩ := h.2.1 z x hv
        refine .inl ⟨z, some u, a, rfl, rfl, h.1, h3, ?_⟩
        rw [show (Option.isSome (some u)) = hasV (.str z) (kvs.map fun p => ofKey p.1) from e.symm]
        exact m.same (.bl _)
  · rename_i k o ks us
    split at hs
    · rename_i hk0
      cases hs
      obtain ⟨x, y, O, O', rfl, r1, r2⟩ := r.inv2
      obtain ⟨kk, rfl, rfl⟩ := isKey_k hk0 r1
      have go : ∀ {a : Addr} {kvs : List (Key × V)}, Rd H a (.dK kvs) → ks = kvs.map (fun p => ofKey p.1) → rInDk G.K G.w neg (kV kk) (.ref a) H Q := fun {a kvs} ea hk => by
        subst hk
        refine .inr ⟨a, valV kvs kk, rfl, .inl ⟨_, _, ea, rfl, rfl⟩, ?_⟩
        rw [← has_of kk kvs]
        exact m.same (.bl _)
      cases r2 with
      | dkO h hk q => exact go (.inl h) hk
      | dkF h hk q => exact go h.1 hk
    · cases hs
  · cases hs
/-! ### all -/
def bools : List Val → Option (List Bool)
  | [] => some []
  | .bl b :: r => (bools r).map (b :: ·)
  | _ => none
def semAll : List Val → Option Val
  | [.lst _ l] => match bools l with
    | some bs => some (.bl (bs.all id))
    | none => none
  | _ => none
theorem bools_of {W : Addr → Prop} {H : Hp} : ∀ {l : List Val} {xs : List V} {O : List Addr} {bs : List Bool}, Reps G W H xs l O → bools l = some bs → xs = bs.map V.bl
  | [], _, _, _, r, h => by cases r; cases h; rfl
  | u :: l, _, _, bs, r, h => by
    cases r with
    | cons r t =>
      cases u with
      | bl b =>
        simp only [bools] at h
        cases hb : bools l with
        | none => rw [hb] at h; cases h
        | some cs =>
          rw [hb] at h
          cases h
          cases r
          rw [bools_of t hb]; rfl
      | _ => cases h
theorem ok_all (hK : X.K = G.K) : OkF G (rAll X.K) semAll := by
  rw [hK]
  intro W H xs vs Ol v Q w r hs m
  unfold semAll at hs
  split at hs
  · obtain ⟨x, O, rfl, r1⟩ := r.inv1
    split at hs
    · rename_i bs hb
      cases hs
      obtain ⟨a, ys, O1, rfl, e1, q1⟩ := rep_lstL r1
      have e := bools_of q1 hb
      subst e
      exact ⟨a, bs, rfl, .inl (.inl e1), m.same (.bl _)⟩
    · cases hs
  · cases hs
end
/-! ### name += a number -/
def mAugI (i : Nat) (f : Int → Int → Int) (m : ME) : MS := fun ρ => match ρ[i]? with
  | some (some (.int a)) => (match m ρ with
    | .ok (.int b) ρ1 => if i < ρ1.length then .nx (ρ1.set i (some (.int (f a b)))) else .bad
    | .ok _ _ => .bad
    | .exc e ρ1 => .exc e ρ1
    | .bad => .bad)
  | _ => .bad
section
variable {G : Gam} {X : Cx} {E : WX} {bs : List Bool} {σ0 : L2.St} {e e2 : Expr} {p s p2 s2 : Bool} {m m2 : ME} {pos : Pos} {i : Nat}
theorem vs_augI {op : Operator} {f : Int → Int → Int} {x : Str} {pos' : Pos} (ho : PIp X op (ipI f)) (hN : X.N.Nodup) (hi : X.N[i]? = some x) (hx : Loc X.env.scope x) (he : VE G X E p s e m) (hb : bs[i]? ≠ some true := by decide)
    (hf : X.fn x = true ∨ X.env.scope.names.lookup x = some .local := by first | exact .inl rfl | exact .inr rfl | assumption) : VS G X E bs σ0 (.AugAssign (.Name x pos') op e pos) (mAugI i f m) := by
  refine PS.pre (ps_aug hN hi hx he ho hf) fun D σ H ⟨R, ρ, Os, rel, pin, post⟩ => ?_
  unfold mAugI at post
  split at post
  rotate_left
  · exact post.elim
  rename_i a hv
  obtain ⟨x, hx, rep⟩ := rel.rep i _ hv
  obtain rfl : x = .int a := by generalize Os i = O at rep; cases rep; rfl
  refine ⟨.int a, hx, R, ρ, Os, rel, ?_⟩
  cases hm : m ρ with
  | bad => rw [hm] at post; exact post
  | exc e ρ' => rw [hm] at post; exact fun c d H' Os' rel' rx k => post c d σ H' Os' pin rel' rx k
  | ok v ρ1 =>
    rw [hm] at post
    cases v with
    | int b =>
      dsimp only at post
      intro y H' Os' O rel' rep' nd k _
      cases rep'
      refine ⟨a, b, rfl, rfl, ?_⟩
      by_cases hi' : i < ρ1.length
      · rw [if_pos hi'] at post
        have e0 : (fun a => R a ∨ a ∈ ([] : List Addr)) = R := setEq fun a => ⟨fun z => z.elim id (fun z => nomatch z), Or.inl⟩
        have rel2 : Rel G R H' σ ρ1 Os' := rel'.weak fun a z => .inl z
        have r3 := Rel.put (O := []) (i := i) (x := .int (f a b)) (v := .int (f a b)) (by rw [e0]; exact rel2) (.int _) List.nodup_nil hi' (fun _ z => nomatch z)
        refine post _ H' _ (pin.set hb) r3 fun c o ec nw => ?_
        obtain ⟨e1, n1, _⟩ := k c o ec nw
        refine ⟨e1, fun ⟨j, z⟩ => ?_, id⟩
        by_cases hj : j = i
        · simp only [hj, if_true] at z; cases z
        · simp only [hj, if_false] at z; exact n1 ⟨j, z⟩
      · rw [if_neg hi'] at post; exact post.elim
    | _ => exact post.elim
/-! ### zip -/
def zipV : List Val → List Val → List Val
  | x :: xs, y :: ys => .tup [x, y] :: zipV xs ys
  | _, _ => []
theorem zipV_len : ∀ (xs ys : List Val), (zipV xs ys).length = min xs.length ys.length
  | [], _ => by simp [zipV]
  | _ :: _, [] => by simp [zipV]
  | x :: xs, y :: ys => by simp [zipV, zipV_len xs ys]
theorem zipV_get : ∀ {xs ys : List Val} {i : Nat} {u : Val}, (zipV xs ys)[i]? = some u → ∃ a b, xs[i]? = some a ∧ ys[i]? = some b ∧ u = .tup [a, b]
  | [], _, i, u, h => by simp [zipV] at h
  | _ :: _, [], i, u, h => by simp [zipV] at h
  | x :: xs, y :: ys, 0, u, h => by simp [zipV] at h; exact ⟨x, y, rfl, rfl, h.symm⟩
  | x :: xs, y :: ys, i + 1, u, h => by simpa using zipV_get (xs := xs) (ys := ys) (i := i) (by simpa [zipV] using h)
def mZip (m1 m2 : ME) : MI := fun ρ => match evalM [m1, m2] ρ with
  | .ok [.lst false xs, .lst false ys] ρ' => .ok (zipV xs ys) ρ'
  | .ok _ _ => .bad
  | .exc e ρ' => .exc e ρ'
  | .bad => .bad
theorem walk_zip {W : Addr → Prop} {H : Hp} {a b : Addr} {xs ys : List V} {us ws : List Val} (h1 : Fz W H a (.lst xs)) (h2 : Fz W H b (.lst ys)) (r1 : Reps G W H xs us []) (r2 : Reps G W H ys ws []) : Walk G W H (Itz G.K a b) (zipV us ws) := by
  intro W' H' kp i
  have q1 : SqL G.K H' a xs := .inl (.inl (kp _ _ h1.1 h1.2).1)
  have q2 : SqL G.K H' b ys := .inl (.inl (kp _ _ h2.1 h2.2).1)
  refine ⟨fun h => ⟨xs, ys, q1, q2, ?_⟩, fun u hu => ?_⟩
  · rw [zipV_len] at h
    rw [r1.length, r2.length]
    omega
  obtain ⟨x, y, e1, e2, rfl⟩ := zipV_get hu
  obtain ⟨x', f1, g1⟩ := r1.one e1
  obtain ⟨y', f2, g2⟩ := r2.one e2
  refine ⟨⟨xs, ys, x', y', q1, q2, f1, f2⟩, fun z H'' ⟨T, x2, y2, e3, hT, e4, e5, e6⟩ => ?_⟩
  subst e3 e4
  have t1 := e5 xs q1
  have t2 := e6 ys q2
  rw [f1] at t1; cases t1
  rw [f2] at t2; cases t2
  refine ⟨same_upd hT, fun ww => .tup (O := [] ++ ([] ++ [])) ⟨upd_same, fresh_nw ww T hT⟩ (.cons ((g1.mono kp fun _ z => nomatch z).upd hT fun z hz => .inl hz) (.cons ((g2.mono kp fun _ z => nomatch z).upd hT fun z hz => .inl hz) .nil))⟩
theorem vi_zip {elts : List Expr} {kk : Nat} {tpos zp : Pos} (hK : X.K = G.K) (hg : Gl X "zip") (hm : X.mg "zip" = none) (h1 : VE G X E p s e m) (h2 : VE G X E p2 s2 e2 m2) (wf : (s || p2) = true := by rfl) (hs : starEach [e, e2] X.env = (false, eval e X.env) :: starEach [e2] X.env := by rfl) (hs2 : starEach [e2] X.env = (false, eval e2 X.env) :: starEach [] X.env := by rfl) (hpl : (backTo pos (starEach [e2] X.env)).any (·.1) = false := by rfl) :
    VI G X E (.Tuple elts kk tpos) (.Call (.Name "zip" zp) [e, e2] [] pos) (mZip m m2) := by
  refine PI.pre (pi_zip hg hm (pa_cons h1 (pa_cons h2 pa_nil hs2) hs) hs hpl) fun σ H K ⟨R, ρ, Os, rel, post⟩ => ?_
  have key := nest_of (G := G) (E := E) (σ := σ) (os := [⟨p, s, m⟩, ⟨p2, s2, m2⟩]) (wf2 wf) rel (K := fun vs H1 => ∃ a b xs ys, vs = [.ref a, .ref b] ∧ SqL X.K H1 a xs ∧ SqL X.K H1 b ys ∧ K (Itz X.K a b) H1) ?_
  · exact key
  · rw [evalA_eq]
    unfold mZip at post
    simp only [List.map_cons, List.map_nil]
    cases he : evalM [m, m2] ρ with
    | bad => rw [he] at post; exact post
    | exc e ρ' => rw [he] at post; exact post
    | ok vs ρ' =>
      rw [he] at post
      intro xs H' Os' Ol rel' reps nd keep pure
      match vs, reps, post with
      | [.lst false us, .lst false ws], reps, post =>
        obtain ⟨x, y, O, O', rfl, r1, r2⟩ := reps.inv2
        cases r1 with
        | @lstF a xs _ f1 g1 =>
        cases r2 with
        | @lstF b ys _ f2 g2 =>
        rw [hK]
        refine ⟨a, b, xs, ys, rfl, .inl (.inl f1.1), .inl (.inl f2.1), post _ H' Os' (rel'.weak fun a z => .inl z) ?_ (keep.imp fun _ z => z.elim)⟩
        have up : ∀ c, WW R Os' c → WW (fun a => R a ∨ a ∈ stab [⟨p, s, m⟩, ⟨p2, s2, m2⟩] Ol) Os' c := fun c z => z.imp .inl id
        exact walk_zip ⟨f1.1, fun z => f1.2 (up _ z)⟩ ⟨f2.1, fun z => f2.2 (up _ z)⟩ (g1.weakW up) (g2.weakW up)
/-! ### a def held by a name -/
def mCallT (i : Nat) (tab : List (Nat × MF)) (as : List Arg) : ME := fun ρ => match ρ[i]? with
  | some (some (.fn k)) => (match tab.lookup k with
    | some mf => mCall mf as ρ
    | none => .bad)
  | _ => .bad
theorem ve_callT {x : Str} {n : Nat} {px : Pos} {es : List Expr} {as : List Arg} {tab : List (Nat × MF)} (hN : X.N[i]? = some x) (hv : Vis X.env.scope x) (ht : ∀ k mf, tab.lookup k = some mf → ∃ a, G.fa k = some a ∧ CalV G X E (.ref a) n mf [] ∧ PySem.W.keepIn X.K (.ref a) = true) (ha : VAg G X E (e :: es) as)
    (hs : (vals as).all (·.s) = true := by rfl) (hnk : noK as = true := by rfl) (hn : as.length = n := by rfl) (hdb : (x == ("__debug__" : Str)) = false := by decide) (hcd : (x == ("__classdict__" : Str)) = false := by decide)
    (he : starEach (e :: es) X.env = (false, eval e X.env) :: starEach es X.env := by rfl) (hpl : (backTo pos (starEach es X.env)).any (·.1) = false := by rfl) : VE G X E false true (.Call (.Name x px) (e :: es) [] pos) (mCallT i tab as) := by
  refine ⟨fun pins s1 σ H Q I ⟨R, ρ, Os, rel, post⟩ => ?_⟩
  unfold mCallT at post
  split at post
  rotate_left
  · exact post.elim
  rename_i k hk
  cases hl : tab.lookup k with
  | none => rw [hl] at post; exact post.elim
  | some mf =>
  rw [hl] at post
  dsimp only at post
  obtain ⟨a, hc, cal, kp⟩ := ht k mf hl
  obtain ⟨y, hy, rep⟩ := rel.rep i _ hk
  obtain rfl : y = .ref a := by
    generalize Os i = O at rep
    cases rep with
    | fn h => rw [hc] at h; cases h; rfl
  have pv : argsP (as ++ dArgs []) = true → False ∨ True := fun _ => .inr trivial
  have h2 : rd G E (argsP (as ++ dArgs [])) true (mCall mf (as ++ dArgs [])) σ H Q := by
    refine ⟨R, ρ, Os, rel, ?_⟩
    have e : as ++ dArgs [] = as := by simp [dArgs]
    rw [e]
    exact Post.later (p := false) (p1 := true) (p2 := argsP as) (s2 := true) (by simp) id post KeepE.refl fun _ => ⟨rfl, rfl, fun _ _ e => e⟩
  have q := call_dk (dks := []) (n := n) (fun q hq => nomatch hq) hnk hs (by simpa using hn) h2
  refine wpAny_Call_Name_kw (thn ((pe_var (pos := px) hN hv hdb hcd).run pins s1 σ H (fun v H1 => v = .ref a ∧ H1 = H) I ⟨.ref a, hy, rfl, rfl⟩) fun u s2 ⟨v, H1, I1, r1, q1⟩ => ?_)
  obtain ⟨rfl, rfl⟩ := q1
  cases r1
  refine PySem.W.callWith_K (h₀ := X.base) I.ok.mod.kin kp (thn (ha.run pos pins s2 σ _ _ I1 q) fun us s3 ⟨xs, H2, I2, r, q⟩ => ⟨I2.kIn, ?_⟩) he hpl
  exact cal pins s3 σ H2 xs us Q I2 r q
end
end VL
/-! VL, part WJ: C(k = v, ..). -/
namespace VL
open PySem L2
section
variable {G : Gam} {X : Cx} {E : WX} {σ : L2.St}
theorem nest_len : ∀ {os : List Op} {H : Hp} {K : List V → Hp → Prop}, nest G E os σ H K → nest G E os σ H fun xs H' => xs.length = os.length ∧ K xs H'
  | [], H, K, h => ⟨rfl, h⟩
  | o :: os, H, K, h => rd_mono h fun x H1 h1 => nest_imp (nest_len h1) fun xs H2 ⟨l, k⟩ => ⟨by simp [l], k⟩
where
  nest_imp : ∀ {os : List Op} {H : Hp} {K K' : List V → Hp → Prop}, nest G E os σ H K → (∀ xs H', K xs H' → K' xs H') → nest G E os σ H K'
    | [], H, K, K', h, k => k _ _ h
    | o :: os, H, K, K', h, k => rd_mono h fun x H1 h1 => nest_imp h1 fun xs H2 q => k _ _ q
/-- the values in the parameters' order -/
def mergeD0 : List Arg → List V → List V
  | [], _ => []
  | .v _ :: as, x :: xs => x :: mergeD0 as xs
  | .v _ :: as, [] => .non :: mergeD0 as []
  | .r _ :: as, xs => mergeD0 as xs
  | .k x _ :: as, xs => x :: mergeD0 as xs
theorem nest_of_G : ∀ {as : List Arg} {H : Hp} {K : List V → Hp → Prop}, noRefs as = true → nestG G E as σ H K → nest G E (vals as) σ H fun xs H' => K (mergeD0 as xs) H'
  | [], H, K, _, h => h
  | .v o :: as, H, K, hn, h => rd_mono h fun x H1 h1 => nest_of_G (as := as) hn h1
  | .r i :: as, H, K, hn, h => by cases hn
  | .k x u :: as, H, K, hn, h => nest_of_G (as := as) hn h
theorem ve_makeK0 {x : Str} {px pos : Pos} {k n c : Nat} {f C : Addr} {fd : FuncData} {ps ks : List Str} {mf : MF} {as : List Arg} {kws : List Keyword} {g : List Value → List Value → List Value} {gV : List V → List V → List V} (hC : G.cn c = some C) (M : Mk X.K C f)
    (F : FnOk X.prog X.w X.K X.mg X.base (L2.CX X.prog X.w) k f fd ps (spV G (n + 1) mf)) (hr : Room (k + 1) X.A) (hb : KBn X.K fd ps 1 ks g gV) (tk : Takes X E) (hg : Gl X x) (hm : X.mg x = some (.ref C)) (hkw : PK X kws fun σ H K => nest G E (vals as) σ H K) (df : Dfl G as)
    (hgv : ∀ y zs, zs.length = (vals as).length → gV [y] zs = y :: mergeD0 as zs) (hn : as.length = n := by rfl) (hs : (vals as).all (·.s) = true := by rfl) (nr : noRefs as = true := by rfl) (hks0 : (vals as).length = ks.length := by rfl)
    (hall : (backToKw pos (keywordEach kws X.env)).all (·.1.isSome) = true := by rfl) (hks : (backToKw pos (keywordEach kws X.env)).filterMap (·.1) = ks := by rfl) (hdb : (x == ("__debug__" : Str)) = false := by decide)
    (hpl : ((backTo pos (starEach [] X.env)).any (·.1) || (backToKw pos (keywordEach kws X.env)).any (·.1.isNone)) = false := by rfl) :
    VE G X E (argsP as) true (.Call (.Name x px) [] kws pos) (mCall (mMake c mf) as) := by
  refine ⟨fun pins s σ H Q I h => ?_⟩
  have q0 := nest_len (nest_of_G nr (call_of df hs hn h))
  refine wpAny_Call_Name_kw (ld_glob I hg hm ?_ hdb)
  refine PySem.W.callWith_KW0 (h₀ := X.base) I.ok.mod.kin M.kp hall ?_ hpl
  refine thn (hkw.run pos pins s σ H _ I q0) fun ws s2 ⟨zs, H2, I2, rz, hlen, q2⟩ => ⟨I2.kIn, ?_⟩
  rw [hks]
  have hx := I2.hok.fresh (Nat.le_succ s2.heap.objs.size)
  have hdx := I2.hok.fresh (Nat.le_refl s2.heap.objs.size)
  have hq := sp_make (x := s2.heap.objs.size + 1) (dx := s2.heap.objs.size) hC q2 hx hdx (Nat.ne_of_lt (Nat.lt_succ_self _))
  rw [← hgv _ zs hlen] at hq
  have I3 := Inv.made (C := C) I2
  have r1 : Vals [V.ref (s2.heap.objs.size + 1)] [Value.ref (s2.heap.objs.size + 1)] := .cons rfl .nil
  refine wpAny_call (make_map (f := f) I2.kIn M.makes M.init (beq_iff_eq.mp M.fn) ?_)
  have run := F.run (X.A.under (.builtin "type.__call__" ⟨.ref C :: [], ks.zip ws⟩)) X.stack _ _ ⟨[Value.ref (s2.heap.objs.size + 1)], ks.zip ws⟩ (g [Value.ref (s2.heap.objs.size + 1)] ws) _ _ (WE E σ) (hr.make C [] (ks.zip ws)) (I3.env0.make C [] (ks.zip ws))
    (hb.to _ [Value.ref (s2.heap.objs.size + 1)] ws I3.kIn rfl (by rw [← rz.length, hlen, hks0])) (hb.rel r1 rz) hq
  refine codeAny_mono run fun res s4 hq2 => ?_
  cases res with
  | error er => exact passAt tk σ pins _ _ er s4 I3 hq2
  | ok fl =>
    cases fl with
    | ret u =>
      obtain ⟨v, H', I4, rv3, ev, q3⟩ := I3.after hq2
      subst ev
      exact ⟨rv3, ⟨V.ref (s2.heap.objs.size + 1), H', I4, rfl, q3⟩⟩
    | next => exact hq2.elim
    | brk => exact hq2.elim
    | cont => exact hq2.elim
/-- the keywords' values -/
theorem vk_nil : PK X [] fun σ H K => nest G E [] σ H K := pk_nil
theorem vk_cons {e : Expr} {nm : Option Str} {kpos : Pos} {kws : List Keyword} {os : List Op} {p s : Bool} {m : ME} (h : VE G X E p s e m) (t : PK X kws fun σ H K => nest G E os σ H K) : PK X (⟨nm, e, kpos⟩ :: kws) fun σ H K => nest G E (⟨p, s, m⟩ :: os) σ H K := pk_cons h t
end
end VL
/-! VL, part WK: constants of the module; the head's facts with tables. -/
namespace VL
open PySem L2
mutual
/-- the value u, of the written part, is the tree v -/
def chkV (K : PySem.W.Frag) : Val → Value → Bool
  | .non, .none => true
  | .bl b, .bool c => b == c
  | .int i, .int j _ => decide (i = j)
  | .str x, .str y _ => decide (x = y)
  | .wtp vs, .ref a => (match K.lookup a with
    | some ⟨.type c, _, .seq its _, _⟩ => decide (c = "tuple") && (decide (its.size ≤ 1000) && chkVs K vs its.toList)
    | _ => false)
  | _, _ => false
def chkVs (K : PySem.W.Frag) : List Val → List Value → Bool
  | [], [] => true
  | v :: vs, u :: us => chkV K v u && chkVs K vs us
  | _, _ => false
end
mutual
theorem chkV_ok {K : PySem.W.Frag} : ∀ {v : Val} {u : Value}, chkV K v u = true → ∃ x, RelV x u ∧ ∀ (G : Gam) W H, G.K = K → Rep G W H x v []
  | .non, u, h => by cases u <;> simp [chkV] at h; exact ⟨.non, rfl, fun _ _ _ _ => .non⟩
  | .bl b, u, h => by
    cases u <;> simp [chkV] at h
    subst h
    exact ⟨.bl b, rfl, fun _ _ _ _ => .bl b⟩
  | .int i, u, h => by
    cases u <;> simp [chkV] at h
    subst h
    exact ⟨.int i, ⟨_, rfl⟩, fun _ _ _ _ => .int i⟩
  | .str x, u, h => by
    cases u <;> simp [chkV] at h
    subst h
    exact ⟨.str x, ⟨_, rfl⟩, fun _ _ _ _ => .str x⟩
  | .wtp vs, u, h => by
    cases u with
    | ref a =>
      simp only [chkV] at h
      cases q : K.lookup a with
      | none => rw [q] at h; cases h
      | some o =>
        obtain ⟨oc, od, dt, osl⟩ := o
        rw [q] at h
        cases oc with
        | type c =>
          cases dt with
          | seq its n =>
            simp only [Bool.and_eq_true, decide_eq_true_eq] at h
            obtain ⟨rfl, hz, hv⟩ := h
            obtain ⟨xs, rv, rr⟩ := chkVs_ok hv
            exact ⟨.ref a, rfl, fun G W H hG => .wtp (.inr ⟨_, its, n, hG ▸ q, rfl, rfl, sz_le (by omega), rv⟩) (rr G W H hG)⟩
          | _ => cases h
        | _ => cases dt <;> cases h
    | _ => simp [chkV] at h
  | .ty n, u, h => by simp [chkV] at h
  | .cn n, u, h => by simp [chkV] at h
  | .fn n, u, h => by simp [chkV] at h
  | .tup xs, u, h => by simp [chkV] at h
  | .lst o xs, u, h => by simp [chkV] at h
  | .dct o d ks xs, u, h => by simp [chkV] at h
  | .obj o c fs xs, u, h => by simp [chkV] at h
  | .exn c fs xs, u, h => by simp [chkV] at h
  | .scr ns, u, h => by simp [chkV] at h
  | .wdk ks xs, u, h => by simp [chkV] at h
theorem chkVs_ok {K : PySem.W.Frag} : ∀ {vs : List Val} {us : List Value}, chkVs K vs us = true → ∃ xs, Vals xs us ∧ ∀ (G : Gam) W H, G.K = K → Reps G W H xs vs []
  | [], us, h => by
    cases us with
    | nil => exact ⟨[], .nil, fun _ _ _ _ => .nil⟩
    | cons _ _ => simp [chkVs] at h
  | v :: vs, us, h => by
    cases us with
    | nil => simp [chkVs] at h
    | cons u us =>
      simp only [chkVs, Bool.and_eq_true] at h
      obtain ⟨x, r, q⟩ := chkV_ok h.1
      obtain ⟨xs, rs, qs⟩ := chkVs_ok h.2
      exact ⟨x :: xs, .cons r rs, fun G W H hG => .cons (O := []) (O' := []) (q G W H hG) (qs G W H hG)⟩
end
/-- the global x is the tree v -/
def tConst (x : Str) (v : Val) : Ftest := fun K => chkV K v (.ref (He.ga K x))
theorem const_ok {K : PySem.W.Frag} {x : Str} {v : Val} (h : tConst x v K = true) : ∀ (G : Gam) W H, G.K = K → Rep G W H (.ref (He.ga K x)) v [] := by
  obtain ⟨y, r, q⟩ := chkV_ok h
  cases y with
  | ref a =>
    cases r
    exact q
  | non => cases r
  | bl b => cases r
  | int i => obtain ⟨_, z⟩ := r; cases z
  | str s => obtain ⟨_, z⟩ := r; cases z
  | flt s => obtain ⟨_, z⟩ := r; cases z
  | byt s => obtain ⟨_, z⟩ := r; cases z
  | ty s => cases r
/-- the global x is a dict with these keys and values -/
def tTab (x : Str) (l : List (Str × Val)) : Ftest := fun K => l.all fun q => match PySem.W.nsIn K (He.ga K x) q.1 with
  | some (some u) => chkV K q.2 u
  | _ => false
theorem absent {es : List DictEntry} {P : Params} {ks : List Str} {z : Str} (h : es.map He.keyOf = He.keysIn P ks) (hz : z ∉ ks) : (es.find? (·.key.isStr z)) = none ∧ es.any (·.refKey) = false := by
  induction es generalizing ks with
  | nil => exact ⟨rfl, rfl⟩
  | cons e es ih =>
    cases ks with
    | nil => cases h
    | cons k ks =>
      have h1 : He.keyOf e :: es.map He.keyOf = some (k, PyData.keyHash P k) :: He.keysIn P ks := h
      injection h1 with h2 h3
      obtain ⟨i1, i2⟩ := ih h3 fun q => hz (List.mem_cons_of_mem _ q)
      unfold He.keyOf at h2
      split at h2
      · rename_i x t q
        have h4 := Option.some.inj h2
        obtain ⟨h5, h6⟩ := Prod.mk.inj h4
        subst h5
        have n : (e.key.isStr z) = false := by
          have nz : ¬ x = z := fun w => hz (w ▸ List.mem_cons_self)
          rw [q]
          first | exact decide_eq_false nz | exact beq_false_of_ne nz | simpa [Value.isStr] using nz
        exact ⟨by rw [List.find?_cons, n]; exact i1, by rw [List.any_cons, i2, Bool.or_false]; unfold DictEntry.refKey; rw [q]⟩
      · cases h2
def valT (K : PySem.W.Frag) (P : Params) (t : He.Tab) : Prop := He.dicW K (t.1 K) = some (He.keysIn P t.2)
theorem valV_mem {kvs : List (Key × V)} {k : Key} {v : V} (h : valV kvs k = some v) : (k, v) ∈ kvs := by
  unfold valV at h
  cases e : kvs.find? (fun kv => decide (kv.1 = k)) with
  | none => rw [e] at h; cases h
  | some p =>
    rw [e] at h
    obtain ⟨a, b⟩ := p
    cases h
    have h1 := List.find?_some e
    have h2 := List.mem_of_find?_eq_some e
    have h3 : a = k := of_decide_eq_true h1
    subst h3
    exact h2
theorem tab_ok {K : PySem.W.Frag} {w : World} {xn : Str} {l : List (Str × Val)} (h : tTab xn l K = true) (ht : He.dicW K (He.ga K xn) = some (He.keysIn w.params (l.map (·.1)))) : ∀ (G : Gam) W H, G.K = K → G.w = w → Rep G W H (.ref (He.ga K xn)) (.wdk (l.map fun q => Val.str q.1) (l.map (·.2))) [] := by
  intro G W H hG hw
  subst hG hw
  obtain ⟨es, n, D⟩ := He.dicW_ok ht
  have hk : es.toList.map He.keyOf = He.keysIn G.w.params (l.map (·.1)) := by
    have e := D.at_
    unfold He.dicW at ht
    rw [e] at ht
    dsimp only at ht
    split at ht
    · exact Option.some.inj ht
    · cases ht
  have each : ∀ q ∈ l, ∃ u x, PySem.W.nsIn G.K (He.ga G.K xn) q.1 = some (some u) ∧ RelV x u ∧ Rep G W H x q.2 [] := fun q hq => by
    have h2 := List.all_eq_true.mp h q hq
    split at h2
    · rename_i u e
      obtain ⟨x, r, rr⟩ := chkV_ok h2
      exact ⟨u, x, e, r, rr G W H rfl⟩
    · cases h2
  obtain ⟨kvs, e1, e2, e3⟩ : ∃ kvs : List (Key × V), (kvs.map (·.1)) = l.map (fun q => (Sum.inr q.1 : Key)) ∧ Reps G W H (kvs.map (·.2)) (l.map (·.2)) [] ∧ ∀ p ∈ kvs, ∃ z u, p.1 = .inr z ∧ PySem.W.nsIn G.K (He.ga G.K xn) z = some (some u) ∧ RelV p.2 u := by
    clear hk ht h
    induction l with
    | nil => exact ⟨[], rfl, .nil, fun _ z => nomatch z⟩
    | cons q l ih =>
      obtain ⟨u, x, g1, g2, g3⟩ := each q List.mem_cons_self
      obtain ⟨kvs, i1, i2, i3⟩ := ih fun q hq => each q (List.mem_cons_of_mem _ hq)
      refine ⟨(.inr q.1, x) :: kvs, by simp [i1], .cons (O := []) (O' := []) g3 i2, fun p hp => ?_⟩
      rcases List.mem_cons.mp hp with z | z
      · subst z; exact ⟨q.1, u, rfl, g1, g2⟩
      · exact i3 p z
  refine .wdk (kvs := kvs) ⟨⟨es, n, D⟩, fun z v hv => ?_, fun z hz => ?_⟩ ?_ e2
  · obtain ⟨z', u, q1, q2, q3⟩ := e3 _ (valV_mem hv)
    cases q1
    exact ⟨es, n, u, D.at_, D.lit, q2, q3⟩
  · have nin : z ∉ l.map (·.1) := fun w => by
      have : (Sum.inr z : Key) ∈ kvs.map (·.1) := by
        rw [e1]
        obtain ⟨q, hq, e⟩ := List.mem_map.mp w
        exact List.mem_map.mpr ⟨q, hq, by rw [e]⟩
      obtain ⟨p, hp, e⟩ := List.mem_map.mp this
      have a := valV_any (Sum.inr z) kvs
      rw [hz] at a
      have b : (kvs.any fun kv => decide (kv.1 = Sum.inr z)) = true := List.any_eq_true.mpr ⟨p, hp, by simp [e]⟩
      rw [b] at a
      cases a
    obtain ⟨f1, f2⟩ := absent hk nin
    unfold PySem.W.nsIn
    rw [D.at_]
    dsimp only
    rw [f1, f2]
    rfl
  · have := congrArg (List.map ofKey) e1
    simpa [List.map_map, Function.comp_def, ofKey] using this.symm

/-! ### facts by any test, defs, tables: read by the head -/
abbrev AlW : Type := He.AlD × List (Option (List (Option (Str × Int))))
def obsW (fa : List (PySem.W.Frag → Bool)) (fn : List VDef) (ts : List He.Tab) (K : PySem.W.Frag) : AlW := (obsV fa fn K, ts.map fun t => He.dicW K (t.1 K))
def valW (fn : List VDef) (ts : List He.Tab) (w : World) : AlW := ((true, fn.map VDef.shape), ts.map fun t => some (He.keysIn w.params t.2))
def SaysW (fa : List (PySem.W.Frag → Bool)) (fn : List VDef) (ts : List He.Tab) (w : World) (K : PySem.W.Frag) : Prop := obsW fa fn ts K = valW fn ts w
/-! ### the part of the heap that is looked at: what the module's names reach in n steps, each object once -/
def visitK {α : Type} : List Addr → Nat → List Addr → (Nat → List Addr → α) → α
  | [], seen, new, k => k seen new
  | a :: r, seen, new, k => match Nat.testBit seen a with
    | true => visitK r seen new k
    | false => HandSHeadRun.frNat (seen ||| (1 <<< a)) fun seen' => HandSHeadRun.frNat a fun a' => visitK r seen' (a' :: new) k
theorem visitK_ok : ∀ (l : List Addr) (seen : Nat) (new : List Addr), ∃ seen' new', ∀ (α : Type) (k : Nat → List Addr → α), visitK l seen new k = k seen' new'
  | [], seen, new => ⟨seen, new, fun _ _ => rfl⟩
  | a :: r, seen, new => by
    cases h : Nat.testBit seen a with
    | true =>
      obtain ⟨s', n', e⟩ := visitK_ok r seen new
      exact ⟨s', n', fun α k => by unfold visitK; rw [h]; exact e α k⟩
    | false =>
      obtain ⟨s', n', e⟩ := visitK_ok r (seen ||| (1 <<< a)) (a :: new)
      exact ⟨s', n', fun α k => by unfold visitK; rw [h]; dsimp only; rw [HandSHeadRun.frNat_eq, HandSHeadRun.frNat_eq]; exact e α k⟩
def growK {α : Type} (g : Addr → Option Obj) : List Addr → Nat → List Addr → PySem.W.Frag → (Nat → List Addr → PySem.W.Frag → α) → α
  | [], seen, new, K, k => k seen new K
  | a :: r, seen, new, K, k => match g a with
    | some o => visitK (He.refsD o) seen new fun seen new => growK g r seen new ((a, o) :: K) k
    | none => growK g r seen new K k
def GoodK (g : Addr → Option Obj) (K : PySem.W.Frag) : Prop := ∀ p ∈ K, g p.1 = some p.2
theorem growK_ok (g : Addr → Option Obj) : ∀ (l : List Addr) (seen : Nat) (new : List Addr) (K : PySem.W.Frag), GoodK g K → ∃ seen' new' K', GoodK g K' ∧ ∀ (α : Type) (k : Nat → List Addr → PySem.W.Frag → α), growK g l seen new K k = k seen' new' K'
  | [], seen, new, K, h => ⟨seen, new, K, h, fun _ _ => rfl⟩
  | a :: r, seen, new, K, h => by
    cases e : g a with
    | none =>
      obtain ⟨s', n', K', h', e'⟩ := growK_ok g r seen new K h
      exact ⟨s', n', K', h', fun α k => by unfold growK; rw [e]; exact e' α k⟩
    | some o =>
      obtain ⟨s1, n1, e1⟩ := visitK_ok (He.refsD o) seen new
      obtain ⟨s', n', K', h', e'⟩ := growK_ok g r s1 n1 ((a, o) :: K) (fun p hp => (List.mem_cons.mp hp).elim (fun z => by rw [z]; exact e) (h p))
      exact ⟨s', n', K', h', fun α k => by unfold growK; rw [e]; dsimp only; rw [e1]; exact e' α k⟩
def revK {α : Type} : PySem.W.Frag → PySem.W.Frag → (PySem.W.Frag → α) → α
  | [], acc, k => k acc
  | p :: r, acc, k => revK r (p :: acc) k
theorem revK_ok {g : Addr → Option Obj} : ∀ (K acc : PySem.W.Frag), GoodK g K → GoodK g acc → ∃ K', GoodK g K' ∧ ∀ (α : Type) (k : PySem.W.Frag → α), revK K acc k = k K'
  | [], acc, _, h => ⟨acc, h, fun _ _ => rfl⟩
  | p :: r, acc, h1, h2 => revK_ok r (p :: acc) (fun q hq => h1 q (List.mem_cons_of_mem _ hq)) fun q hq => (List.mem_cons.mp hq).elim (fun z => by rw [z]; exact h1 p List.mem_cons_self) (h2 q)
def bfsK {α : Type} (g : Addr → Option Obj) : Nat → List Addr → Nat → PySem.W.Frag → (PySem.W.Frag → α) → α
  | 0, _, _, K, k => revK K [] k
  | n + 1, l, seen, K, k => growK g l seen [] K fun seen new K => bfsK g n new seen K k
theorem bfsK_ok (g : Addr → Option Obj) : ∀ (n : Nat) (l : List Addr) (seen : Nat) (K : PySem.W.Frag), GoodK g K → ∃ K', GoodK g K' ∧ ∀ (α : Type) (k : PySem.W.Frag → α), bfsK g n l seen K k = k K'
  | 0, _, _, K, h => revK_ok K [] h fun _ z => nomatch z
  | n + 1, l, seen, K, h => by
    obtain ⟨s1, n1, K1, h1, e1⟩ := growK_ok g l seen [] K h
    obtain ⟨K2, h2, e2⟩ := bfsK_ok g n n1 s1 K1 h1
    exact ⟨K2, h2, fun α k => by unfold bfsK; rw [e1]; exact e2 α k⟩
/-- .. and the table of the interpreter's statics, which readsIn asks -/
def withK {α : Type} (g : Addr → Option Obj) (n : Nat) (k : PySem.W.Frag → α) : α := HandSHeadRun.frNat (1 <<< mainGlobals) fun s => match g cStatics with
  | some o => bfsK g n [mainGlobals] s [(cStatics, o)] k
  | none => bfsK g n [mainGlobals] s [] k
theorem goodK_in {g : Addr → Option Obj} : ∀ {K : PySem.W.Frag}, GoodK g K → ∀ a o, K.lookup a = some o → g a = some o
  | [], _, _, _, e => nomatch (show (none : Option Obj) = some _ from e)
  | (b, x) :: r, h, a, o, e => by
    have e2 : (match a == b with | true => some x | false => r.lookup a) = some o := e
    cases q : a == b with
    | true =>
      rw [q] at e2
      cases e2
      have : a = b := by simpa using q
      rw [this]
      exact h (b, x) List.mem_cons_self
    | false =>
      rw [q] at e2
      exact goodK_in (fun p hp => h p (List.mem_cons_of_mem _ hp)) a o e2
theorem withK_ok (g : Addr → Option Obj) (n : Nat) : ∃ K : PySem.W.Frag, (∀ a o, K.lookup a = some o → g a = some o) ∧ ∀ (α : Type) (k : PySem.W.Frag → α), withK g n k = k K := by
  cases hc : g cStatics with
  | some o =>
    obtain ⟨K, h, e⟩ := bfsK_ok g n [mainGlobals] (1 <<< mainGlobals) [(cStatics, o)] (fun p hp => by rw [List.mem_singleton.mp hp]; exact hc)
    exact ⟨K, goodK_in h, fun α k => by unfold withK; rw [HandSHeadRun.frNat_eq, hc]; exact e α k⟩
  | none =>
    obtain ⟨K, h, e⟩ := bfsK_ok g n [mainGlobals] (1 <<< mainGlobals) [] (fun _ z => nomatch z)
    exact ⟨K, goodK_in h, fun α k => by unfold withK; rw [HandSHeadRun.frNat_eq, hc]; exact e α k⟩
def obsWG (n : Nat) (fa : List (PySem.W.Frag → Bool)) (fn : List VDef) (ts : List He.Tab) (g : Addr → Option Obj) : AlW := withK g n (obsW fa fn ts)
def hookW (n : Nat) (fa : List (PySem.W.Frag → Bool)) (fn : List VDef) (ts : List He.Tab) : PySem.W.Hook where
  α := AlW
  obs := fun s => obsWG n fa fn ts s.heap.get?
  val := fun w => valW fn ts w
  says := fun w h => ∃ K : PySem.W.Frag, K.In h ∧ SaysW fa fn ts w K
  of := fun _ s e => by
    obtain ⟨K, hK, eK⟩ := withK_ok s.heap.get? n
    exact ⟨K, hK, (eK _ _).symm.trans e⟩
  keeps := fun _ _ _ ⟨K, hK, c⟩ k => ⟨K, PySem.W.Frag.In.keeps hK k, c⟩
theorem obsWG_eq {n : Nat} {fa : List (PySem.W.Frag → Bool)} {fn : List VDef} {ts : List He.Tab} {g : Addr → Option Obj} {s : Shared} (h : ∀ a, g a = s.heap.get? a) : obsWG n fa fn ts g = (hookW n fa fn ts).obs s := by
  have e : g = s.heap.get? := funext h
  rw [e]; rfl
section
variable {fa : List (PySem.W.Frag → Bool)} {fn : List VDef} {ts : List He.Tab} {w : World} {K : PySem.W.Frag}
theorem SaysW.v (c : SaysW fa fn ts w K) : SaysV fa fn K := congrArg (fun z : AlW => z.1) c
theorem SaysW.tab (c : SaysW fa fn ts w K) (i : Nat) {t : He.Tab} (h : ts[i]? = some t := by rfl) : He.dicW K (t.1 K) = some (He.keysIn w.params t.2) := by
  have e : ts.map (fun t => He.dicW K (t.1 K)) = ts.map fun t => some (He.keysIn w.params t.2) := congrArg (fun z : AlW => z.2) c
  have e2 : (ts.map fun t => He.dicW K (t.1 K))[i]? = (ts.map fun t => some (He.keysIn w.params t.2))[i]? := by rw [e]
  rw [List.getElem?_map, List.getElem?_map, h] at e2
  exact Option.some.inj e2
end
end VL
/-! VL, part WL: defs that call each other, some levels deep. -/
namespace VL
open PySem L2
def mfNone : MF := fun _ => .bad
theorem ok_none {P : Program} {w : World} {K : PySem.W.Frag} {mg : Str → Option Value} {base : Heap} {G : Gam} {d : VDef} {k : Nat} {ps : List Str} (F : ∃ fd, FunV K d fd) : Ok P w K mg base G d k ps mfNone := by
  obtain ⟨fd, F⟩ := F
  refine ⟨fd, F, fun vs H Q E h => h.1, fun A outer s H args us vs Q E hr he hb hv h => ?_⟩
  obtain ⟨_, R, ws, Oa, rel, post⟩ := h
  exact post.elim
end VL
/-! VL, part WM: walks over a dict's keys (the dict stands locked meanwhile). -/
namespace VL
open PySem L2

/-- H and H' differ at most in whether the dict at d is locked -/
structure Xc (d : Addr) (kvs : List (Key × V)) (H H' : Hp) : Prop where
  off : ∀ a, a ≠ d → H' a = H a
  old : Rd H d (.dK kvs)
  new : Rd H' d (.dK kvs)
section
variable {G : Gam} {W : Addr → Prop} {H H' : Hp} {d : Addr} {kvs : List (Key × V)}
theorem Xc.at (X : Xc d kvs H H') {a : Addr} {o : HO} (h : H a = some o) (h1 : o ≠ .dK kvs) (h2 : ∀ od, o ≠ .frz od (.dK kvs)) : H' a = some o := by
  rw [X.off a fun z => ?_]; exact h
  subst z
  rcases X.old with e | ⟨od, e⟩
  · rw [h] at e; cases e; exact h1 rfl
  · rw [h] at e; cases e; exact h2 _ rfl
theorem Xc.fz (X : Xc d kvs H H') {a : Addr} {o : HO} (h : Fz W H a o) (h1 : o ≠ .dK kvs) (h2 : ∀ od, o ≠ .frz od (.dK kvs)) : Fz W H' a o := ⟨X.at h.1 h1 h2, h.2⟩
theorem Xc.fd (X : Xc d kvs H H') {a : Addr} {ks : List (Key × V)} (h : Fd W H a (.dK ks)) : Fd W H' a (.dK ks) := by
  refine ⟨?_, h.2⟩
  by_cases e : a = d
  · subst e
    have : ks = kvs := by
      rcases h.1 with q | ⟨o, q⟩ <;> rcases X.old with r | ⟨o', r⟩ <;> rw [q] at r <;> cases r <;> rfl
    subst this
    exact X.new
  · rcases h.1 with q | ⟨o, q⟩
    · exact .inl ((X.off a e).trans q)
    · exact .inr ⟨o, (X.off a e).trans q⟩
mutual
theorem Rep.xc {x : V} {v : Val} {O : List Addr} (r : Rep G W H x v O) (X : Xc d kvs H H') (nd : d ∉ O) : Rep G W H' x v O := by
  cases r with
  | non => exact .non
  | bl b => exact .bl b
  | int i => exact .int i
  | str x => exact .str x
  | ty n => exact .ty n
  | cn h => exact .cn h
  | fn h => exact .fn h
  | tup h r => exact .tup (X.fz h (fun z => nomatch z) fun _ z => nomatch z) (r.xc X nd)
  | wtp h r => exact .wtp h (r.xc X fun z => nomatch z)
  | lstO h r => exact .lstO (X.at h (fun z => nomatch z) fun _ z => nomatch z) (r.xc X fun z => nd (List.mem_cons_of_mem _ z))
  | lstF h r => exact .lstF (X.fz h (fun z => nomatch z) fun _ z => nomatch z) (r.xc X fun z => nomatch z)
  | scr h => exact .scr (h.imp (fun ⟨o, e, nw⟩ => ⟨o, X.at e (fun z => nomatch z) (fun _ z => nomatch z), nw⟩) id)
  | wdk h hk r => exact .wdk h hk (r.xc X fun z => nomatch z)
  | dkO h hk r => exact .dkO ((X.off _ fun z => nd (z ▸ List.mem_cons_self)).trans h) hk (r.xc X fun z => nd (List.mem_cons_of_mem _ z))
  | dkF h hk r => exact .dkF (X.fd h) hk (r.xc X fun z => nomatch z)
  | dtO h hk r => exact .dtO (X.at h (fun z => nomatch z) fun _ z => nomatch z) hk (r.xc X fun z => nd (List.mem_cons_of_mem _ z))
  | dtF h hk r => exact .dtF (X.fz h (fun z => nomatch z) fun _ z => nomatch z) hk (r.xc X fun z => nomatch z)
  | objO h hc hn r => exact .objO (X.at h (fun z => nomatch z) fun _ z => nomatch z) hc hn (r.xc X fun z => nd (List.mem_cons_of_mem _ z))
  | objF h hc hn r => exact .objF (X.fz h (fun z => nomatch z) fun _ z => nomatch z) hc hn (r.xc X fun z => nomatch z)
  | exn hh hc h hn r => exact .exn hh hc ⟨X.at h.1 (fun z => nomatch z) (fun _ z => nomatch z), h.2⟩ hn (r.xc X fun z => nomatch z)
theorem Reps.xc {xs : List V} {vs : List Val} {O : List Addr} (r : Reps G W H xs vs O) (X : Xc d kvs H H') (nd : d ∉ O) : Reps G W H' xs vs O := by
  cases r with
  | nil => exact .nil
  | cons r t => exact .cons (r.xc X fun z => nd (List.mem_append_left _ z)) (t.xc X fun z => nd (List.mem_append_right _ z))
end
theorem Rel.xc {R : Addr → Prop} {σ : L2.St} {ρ : VEnv} {Os : Nat → List Addr} (r : Rel G R H σ ρ Os) (X : Xc d kvs H H') (nd : ¬ We Os d) : Rel G R H' σ ρ Os := by
  refine ⟨r.len, fun i v hv => ?_, r.nil, r.nd, r.dj, r.dr, fun a ha => ?_⟩
  · obtain ⟨x, hx, q⟩ := r.rep i v hv
    exact ⟨x, hx, q.xc X fun z => nd ⟨i, z⟩⟩
  · by_cases e : a = d
    · subst e
      rcases X.new with q | ⟨o, q⟩ <;> exact ⟨_, q⟩
    · rw [X.off a e]; exact r.rt a ha
end
theorem rep_dkF {G : Gam} {W : Addr → Prop} {H : Hp} {x : V} {ks vs : List Val} {O : List Addr} (r : Rep G W H x (.dct false .k ks vs) O) : ∃ d kvs, x = .ref d ∧ Fd W H d (.dK kvs) ∧ ks = kvs.map fun p => ofKey p.1 := by
  cases r with
  | dkF h hk q => exact ⟨_, _, rfl, h, hk⟩
/-- slot i holds a dict that stands locked -/
def Lk (i : Nat) (σ : L2.St) (H : Hp) : Prop := ∃ d o kvs, σ[i]? = some (some (.ref d)) ∧ H d = some (.frz o (.dK kvs))
def noX : RE → RE
  | .ok v ρ => .ok v ρ
  | _ => .bad
def mHold (i : Nat) (m : ME) : ME := fun ρ => match ρ[i]? with
  | some (some (.dct false .k _ _)) => noX (m ρ)
  | _ => .bad
def noXS : RS → RS
  | .exc _ _ => .bad
  | r => r
def sHold (i : Nat) (m : MS) : MS := fun ρ => match ρ[i]? with
  | some (some (.dct false .k _ _)) => noXS (m ρ)
  | _ => .bad
/-- the keys of the dict in slot i -/
def mKeysD (i : Nat) : MI := fun ρ => match ρ[i]? with
  | some (some (.dct false .k ks _)) => .ok ks ρ
  | _ => .bad
section
variable {G : Gam} {X : Cx} {E : WX} {e tg : Expr} {m : ME} {i : Nat} {p : Bool}
theorem keep_xc {R : Addr → Prop} {σ : L2.St} {H H' : Hp} {Os Os' : Nat → List Addr} {Z : Addr → Prop} {d : Addr} {od : Obj} {u : HO} (hd : H d = some u) (k : KeepE (upd H d (.frz od u)) Os H' Os' Z) (nd : ¬ We Os d) : H' d = some (.frz od u) ∧ ¬ We Os' d ∧ ¬ Z d ∧ KeepE H Os (upd H' d u) Os' Z := by
  obtain ⟨e, n1, n2⟩ := k d _ upd_same nd
  refine ⟨e, n1, n2, fun a o ha nw => ?_⟩
  by_cases z : a = d
  · subst z
    rw [hd] at ha; cases ha
    exact ⟨upd_same, n1, n2⟩
  · obtain ⟨e1, m1, m2⟩ := k a o (by rw [upd_ne z]; exact ha) nw
    exact ⟨by rw [upd_ne z]; exact e1, m1, m2⟩
theorem xc_up {H : Hp} {d : Addr} {kvs : List (Key × V)} {od : Obj} (hd : H d = some (.dK kvs)) : Xc d kvs H (upd H d (.frz od (.dK kvs))) := ⟨fun a z => upd_ne z, .inl hd, .inr ⟨od, upd_same⟩⟩
theorem xc_down {H : Hp} {d : Addr} {kvs : List (Key × V)} {od : Obj} (hd : H d = some (.frz od (.dK kvs))) : Xc d kvs H (upd H d (.dK kvs)) := ⟨fun a z => upd_ne z, .inr ⟨od, hd⟩, .inl upd_same⟩
theorem ve_hold (h : PE X e (fun σ H Q => Lk i σ H ∧ rd G E p true m σ H Q)) : VE G X E false true e (mHold i m) := by
  refine ⟨fun pins s σ H Q I q => ?_⟩
  obtain ⟨R, ρ, Os, rel, post⟩ := q
  unfold mHold at post
  split at post
  rotate_left
  · exact post.elim
  rename_i ks vs hv
  obtain ⟨x, hx, rep⟩ := rel.rep i _ hv
  obtain ⟨d, kvs, rfl, hd, hk⟩ := rep_dkF rep
  · have nW : ¬ We Os d := fun z => hd.2 (.inr z)
    have nR : ¬ R d := fun z => hd.2 (.inl z)
    rcases hd.1 with hd1 | ⟨o, hd1⟩
    · refine (pe_lock h).run pins s σ H Q I ⟨d, .dK kvs, hd1, trivial, fun od => ⟨⟨d, od, kvs, hx, upd_same⟩, R, ρ, Os, rel.xc (xc_up hd1) nW, ?_⟩⟩
      unfold noX at post
      cases hm : m ρ with
      | bad => rw [hm] at post; exact post
      | exc e ρ' => rw [hm] at post; exact post.elim
      | ok v ρ' =>
        rw [hm] at post
        intro x H' Os' O rel' rep' nd k _
        obtain ⟨e1, n1, n2, k2⟩ := keep_xc (R := R) (σ := σ) hd1 k nW
        have nO : d ∉ O := fun z => n2 ⟨rfl, z⟩
        exact ⟨e1, post x _ Os' O (rel'.xc (xc_down e1) n1) (rep'.xc (xc_down e1) nO) nd k2 fun z => by cases z⟩
    · refine h.run pins s σ H Q I ⟨⟨d, o, kvs, hx, hd1⟩, R, ρ, Os, rel, ?_⟩
      unfold noX at post
      cases hm : m ρ with
      | bad => rw [hm] at post; exact post
      | exc e ρ' => rw [hm] at post; exact post.elim
      | ok v ρ' => rw [hm] at post; exact fun x H' Os' O rel' rep' nd k _ => post x H' Os' O rel' rep' nd k fun z => by cases z
theorem vs_hold {bs : List Bool} {σ0 : L2.St} {st : Stmt} {m : MS} (h : PS X st (fun D σ H => Lk i σ H ∧ tS G E bs σ0 m D σ H)) : VS G X E bs σ0 st (sHold i m) := by
  refine ⟨fun pins s σ H D I q => ?_⟩
  obtain ⟨R, ρ, Os, rel, pin, post⟩ := q
  unfold sHold at post
  split at post
  rotate_left
  · exact post.elim
  rename_i ks vs hv
  obtain ⟨x, hx, rep⟩ := rel.rep i _ hv
  obtain ⟨d, kvs, rfl, hd, hk⟩ := rep_dkF rep
  · have nW : ¬ We Os d := fun z => hd.2 (.inr z)
    have nR : ¬ R d := fun z => hd.2 (.inl z)
    rcases hd.1 with hd1 | ⟨o, hd1⟩
    · refine (ps_lock h).run pins s σ H D I ⟨d, .dK kvs, hd1, trivial, fun od => ⟨⟨d, od, kvs, hx, upd_same⟩, R, ρ, Os, rel.xc (xc_up hd1) nW, pin, ?_⟩⟩
      unfold noXS at post
      cases hm : m ρ with
      | bad => rw [hm] at post; exact post
      | exc e ρ' => rw [hm] at post; exact post.elim
      | nx ρ' =>
        rw [hm] at post
        intro σ' H' Os' pin' rel' k
        obtain ⟨e1, n1, n2, k2⟩ := keep_xc (R := R) (σ := σ) hd1 k nW
        exact ⟨e1, post σ' _ Os' pin' (rel'.xc (xc_down e1) n1) k2⟩
      | bk ρ' =>
        rw [hm] at post
        intro σ' H' Os' pin' rel' k
        obtain ⟨e1, n1, n2, k2⟩ := keep_xc (R := R) (σ := σ) hd1 k nW
        exact ⟨e1, post σ' _ Os' pin' (rel'.xc (xc_down e1) n1) k2⟩
      | ct ρ' =>
        rw [hm] at post
        intro σ' H' Os' pin' rel' k
        obtain ⟨e1, n1, n2, k2⟩ := keep_xc (R := R) (σ := σ) hd1 k nW
        exact ⟨e1, post σ' _ Os' pin' (rel'.xc (xc_down e1) n1) k2⟩
      | rt v ρ' =>
        rw [hm] at post
        intro x σ' H' Os' O pin' rel' rep' nd k
        obtain ⟨e1, n1, n2, k2⟩ := keep_xc (R := R) (σ := σ) hd1 k nW
        have nO : d ∉ O := fun z => n2 ⟨rfl, z⟩
        exact ⟨e1, post x σ' _ Os' O pin' (rel'.xc (xc_down e1) n1) (rep'.xc (xc_down e1) nO) nd k2⟩
    · refine h.run pins s σ H D I ⟨⟨d, o, kvs, hx, hd1⟩, R, ρ, Os, rel, pin, ?_⟩
      unfold noXS at post
      cases hm : m ρ with
      | exc e ρ' => rw [hm] at post; exact post.elim
      | _ => rw [hm] at post; exact post
theorem walk_keys {W : Addr → Prop} {H : Hp} {d : Addr} {o : Obj} {kvs : List (Key × V)} (h : H d = some (.frz o (.dK kvs))) (nw : ¬ W d) : Walk G W H (Itk d o kvs) (kvs.map fun p => ofKey p.1) := by
  intro W' H' kp i
  have h' := (kp _ _ h nw).1
  refine ⟨fun z => ⟨h', by simpa using z⟩, fun u hu => ?_⟩
  rw [List.getElem?_map] at hu
  cases hq : kvs[i]? with
  | none => rw [hq] at hu; cases hu
  | some q =>
    rw [hq] at hu
    cases hu
    refine ⟨⟨h', (List.getElem?_eq_some_iff.mp hq).1⟩, fun x H'' ⟨e1, k, v, e2, e3⟩ => ?_⟩
    rw [hq] at e2
    cases e2
    subst e1 e3
    refine ⟨fun _ _ e => e, fun _ => ?_⟩
    cases k with
    | inl i => exact .int i
    | inr z => exact .str z
theorem mKeysD_cases (i : Nat) (ρ : VEnv) : mKeysD i ρ = .bad ∨ ∃ ks vs, ρ[i]? = some (some (.dct false .k ks vs)) ∧ mKeysD i ρ = .ok ks ρ := by
  unfold mKeysD
  split
  · rename_i ks vs h; exact .inr ⟨ks, vs, h, rfl⟩
  · exact .inl rfl
/-- for k in d, the dict locked -/
theorem pi_keysL (h : PE X e (tVar i)) : PI X tg e (fun σ H K => Lk i σ H ∧ tI G E (mKeysD i) σ H K) := by
  refine PI.pre (pi_keys h) fun σ H K ⟨⟨d, o, kvs, hx, hd⟩, R, ρ, Os, rel, post⟩ => ?_
  rcases mKeysD_cases i ρ with em | ⟨ks, vs, hv, em⟩
  · rw [em] at post; exact post.elim
  rw [em] at post
  obtain ⟨x, hx', rep⟩ := rel.rep i _ hv
  obtain ⟨d', kvs', rfl, hd', hk⟩ := rep_dkF rep
  · rw [hx] at hx'; cases hx'
    have e : kvs' = kvs := by
      rcases hd'.1 with q | ⟨o', q⟩ <;> rw [q] at hd <;> cases hd; rfl
    subst e
    refine ⟨_, hx, d, o, rfl, .inl ⟨kvs', hd, post (Itk d o kvs') H Os rel ?_ KeepE.refl⟩⟩
    rw [hk]
    exact walk_keys hd hd'.2
/-- [elt for k in d if ..] -/
theorem ve_lcK {sb : Bool} {pos : Pos} {elt : Expr} {ifs : List Expr} {scope : Scope} {own : List (Str × Nat)} {g : MG} {tt me : ME} (hc : X.calm = true) (hN : X.N.Nodup) (hv : PE X e (tVar i)) (ok : BlkOk X.N X.env.scope scope own)
    (hg : ∀ (s : Shared) (H : Hp) (C : Addr) (cl : List (Str × Addr)) (fp : List Addr) (σ0 : L2.St), VG G (X.blk s H scope (compEnvC scope cl C X.env) fp) (pinsBut X.N.length (own.map (·.2))) σ0 tg g)
    (ht : ∀ (s : Shared) (H : Hp) (C : Addr) (cl : List (Str × Addr)) (fp : List Addr), PTs (X.blk s H scope (compEnvC scope cl C X.env) fp) ifs (tT G WF p tt))
    (he : ∀ (s : Shared) (H : Hp) (C : Addr) (cl : List (Str × Addr)) (fp : List Addr), VE G (X.blk s H scope (compEnvC scope cl C X.env) fp) WF sb true elt me) (hs : ∀ x, foldedSetIterable e X.env x = pure x := by intro _; rfl) :
    VE G X E false true (.ListComp elt [⟨tg, e, ifs, 0⟩] scope pos) (mHold i (mLc (mKeysD i) g tt me (own.map (·.2)))) := by
  have hg2 : ∀ (s : Shared) (H : Hp) (C : Addr) (cl : List (Str × Addr)) (fp : List Addr), PG (X.blk s H scope (compEnvC scope cl C X.env) fp) tg (fun x σ H Q => ∃ σ0, tG G (pinsBut X.N.length (own.map (·.2))) σ0 g x σ H Q) := fun s H C cl fp =>
    ⟨fun pins st σ H' v u Q I r ⟨σ0, q⟩ => (hg s H C cl fp σ0).run pins st σ H' v u Q I r q⟩
  refine ve_hold (p := false) ⟨fun pins s1 σ H Q I h => (pe_lc hc hN (pi_keysL (G := G) (E := E) (tg := tg) hv) ok hg2 ht he hs).run pins s1 σ H Q I ?_⟩
  have q := lc_reading (p := p) (sb := sb) (tg := tg) (iter := e) (elt := elt) rfl I.len h.2
  exact ⟨h.1, q⟩
/-- for k in d: -/
theorem vs_forK {bs : List Bool} {σ0 : L2.St} {pos : Pos} {body : List Stmt} {g : MG} {mb : MS} (hp : PassesOwn (model X.prog X.w) X.A X.env X.xe) (hc : X.calm = true) (hv : PE X e (tVar i)) (hg : VG G X bs σ0 tg g) (hb : VSs G X E bs σ0 body mb) (hs : ∀ x, foldedSetIterable e X.env x = pure x := by intro _; rfl) :
    VS G X E bs σ0 (.For tg e body [] pos) (sHold i (mFor (mKeysD i) g mb)) := by
  refine vs_hold ⟨fun pins s1 σ H D I h => (ps_for hp hc (pi_keysL (G := G) (E := E) (tg := tg) hv) hg hb hs).run pins s1 σ H D I ?_⟩
  exact ⟨h.1, for_reading rfl h.2⟩
end
end VL
/-! VL, part WN: targets that change what stands (d[k] = v, x.f = v), for values that nobody changes. -/
namespace VL
open PySem L2

/-- the target takes a value that nobody changes -/
def tGd (G : Gam) (bs : List Bool) (σ0 : L2.St) (g : MG) : TG := fun x σ H Q => ∃ R ρ Os v, (∀ a, R a → ∃ o, H a = some o ∧ ¬ We Os a) ∧ Rel G R H σ ρ Os ∧ Rep G (WW R Os) H x v [] ∧ PinB bs σ0 σ ∧
  (match g v ρ with
    | some ρ' => ∀ σ' H' Os', PinB bs σ0 σ' → σ'.length = σ.length → Rel G R H' σ' ρ' Os' → KeepE H Os H' Os' (fun _ => False) → Q σ' H'
    | none => False)
def tGds (G : Gam) (bs : List Bool) (σ0 : L2.St) (g : MGs) : TGs := fun xs σ H Q => ∃ R ρ Os vs, (∀ a, R a → ∃ o, H a = some o ∧ ¬ We Os a) ∧ Rel G R H σ ρ Os ∧ Reps G (WW R Os) H xs vs [] ∧ PinB bs σ0 σ ∧
  (match g vs ρ with
    | some ρ' => ∀ σ' H' Os', PinB bs σ0 σ' → σ'.length = σ.length → Rel G R H' σ' ρ' Os' → KeepE H Os H' Os' (fun _ => False) → Q σ' H'
    | none => False)
def VGd (G : Gam) (X : Cx) (bs : List Bool) (σ0 : L2.St) (tg : Expr) (g : MG) : Prop := PG X tg (tGd G bs σ0 g)
def VGds (G : Gam) (X : Cx) (bs : List Bool) (σ0 : L2.St) (tg : List Expr) (g : MGs) : Prop := PGs X tg (tGds G bs σ0 g)
/-- d[k] = v, the dict in slot i -/
def gPutD (i : Nat) (mk : ME) : MG := fun v ρ => match mk ρ with
  | .ok kv ρ2 => if ρ2 = ρ ∧ isKey .k kv = true then (match ρ[i]? with
    | some (some (.dct true .k ks vs)) => if fzs vs = true ∧ ks.length = vs.length ∧ ks.length < 16777216 then some (ρ.set i (some (dctOf (putD (ks.zip vs) kv v)))) else none
    | _ => none) else none
  | _ => none
/-- the value is frozen, then stored -/
def mAsgD (m : ME) (g : MG) : MS := fun ρ => match m ρ with
  | .ok v ρ' => if v.fz = true then (match g v ρ' with
    | some ρ2 => .nx ρ2
    | none => .bad) else .bad
  | .exc e ρ' => .exc e ρ'
  | .bad => .bad
section
variable {G : Gam} {X : Cx} {E : WX} {bs : List Bool} {σ0 : L2.St} {pos pos' : Pos} {p : Bool} {m : ME}
theorem vgd_of {tg : Expr} {g : MG} (h : VG G X bs σ0 tg g) : VGd G X bs σ0 tg g := by
  refine PG.pre h fun x σ H Q ⟨R, ρ, Os, v, hr, rel, rep, pin, post⟩ => ?_
  have e0 : R = fun a => R a ∨ a ∈ ([] : List Addr) := setEq fun a => ⟨.inl, fun z => z.elim id fun z => nomatch z⟩
  refine ⟨R, ρ, Os, v, [], e0 ▸ rel, e0 ▸ rep, List.nodup_nil, fun a z => (nomatch z), pin, ?_⟩
  cases hg : g v ρ with
  | none => rw [hg] at post; exact post
  | some ρ' =>
    rw [hg] at post
    exact fun σ' Os' p1 l1 r1 w1 => post σ' H Os' p1 l1 r1 fun a o e nw => ⟨e, (fun z => (w1 a z).elim nw (fun z => nomatch z)), id⟩
theorem vgds_nil : VGds G X bs σ0 [] gNilV := by
  refine PGs.pre pgs_nil fun xs σ H Q ⟨R, ρ, Os, vs, hr, rel, reps, pin, post⟩ => ?_
  unfold gNilV at post
  cases vs with
  | cons v vs => exact post.elim
  | nil =>
    cases reps
    exact ⟨rfl, post σ H Os pin rfl rel KeepE.refl⟩
theorem vgds_cons {e : Expr} {es : List Expr} {g : MG} {gs : MGs} (h1 : VGd G X bs σ0 e g) (h2 : VGds G X bs σ0 es gs) (hs : (assignEach (e :: es) X.env).map (·.2) = assign e X.env :: (assignEach es X.env).map (·.2) := by rfl) : VGds G X bs σ0 (e :: es) (gConsV g gs) := by
  refine PGs.pre (pgs_cons h1 h2 hs) fun xs σ H Q ⟨R, ρ, Os, vs, hr, rel, reps, pin, post⟩ => ?_
  unfold gConsV at post
  cases vs with
  | nil => exact post.elim
  | cons v vs =>
    dsimp only at post
    obtain ⟨x, xs', rfl, r, t⟩ := reps.inv0
    refine ⟨x, xs', rfl, R, ρ, Os, v, hr, rel, r, pin, ?_⟩
    cases hg : g v ρ with
    | none => rw [hg] at post; exact post
    | some ρ' =>
      rw [hg] at post
      dsimp only at post
      intro σ1 H1 Os1 pin1 l1 rel1 k1
      have hr1 : ∀ a, R a → ∃ o, H1 a = some o ∧ ¬ We Os1 a := fun a z => let ⟨o, e, nw⟩ := hr a z; let ⟨e1, n1, _⟩ := k1 a o e nw; ⟨o, e1, n1⟩
      refine ⟨R, ρ', Os1, vs, hr1, rel1, t.mono (keep_of rel k1) fun a z => (nomatch z), pin1, ?_⟩
      cases hg2 : gs vs ρ' with
      | none => rw [hg2] at post; exact post
      | some ρ2 =>
        rw [hg2] at post
        exact fun σ2 H2 Os2 pin2 l2 rel2 k2 => post σ2 H2 Os2 pin2 (l2.trans l1) rel2 (k1.trans k2)
theorem vgd_tup {es : List Expr} {k : Nat} {gs : MGs} {n : Nat} (hK : X.K = G.K) (hc : X.calm = true) (h : VGds G X bs σ0 es gs) (hn : (assignEach es X.env).length = n := by rfl) (hst : (assignEach es X.env).findIdx? (·.1) = none := by rfl) :
    VGd G X bs σ0 (.Tuple es k pos) (gTupV gs n) := by
  refine PG.pre (pg_tup hc h hn hst) fun x σ H Q ⟨R, ρ, Os, v, hr, rel, rep, pin, post⟩ => ?_
  unfold gTupV at post
  rw [hK]
  cases v with
  | tup vs =>
    dsimp only at post
    by_cases hl : vs.length = n
    · rw [if_pos hl] at post
      obtain ⟨a, xs, rfl, hq, reps⟩ := rep_tupT rep
      exact ⟨a, xs, rfl, hq, by rw [reps.length]; exact hl, R, ρ, Os, vs, hr, rel, reps, pin, post⟩
    · rw [if_neg hl] at post
      exact post.elim
  | wtp vs =>
    dsimp only at post
    by_cases hl : vs.length = n
    · rw [if_pos hl] at post
      obtain ⟨a, xs, rfl, hq, reps⟩ := rep_wtp rep
      exact ⟨a, xs, rfl, hK ▸ (by simpa [hK] using hq), by rw [reps.length]; exact hl, R, ρ, Os, vs, hr, rel, reps, pin, post⟩
    · rw [if_neg hl] at post
      exact post.elim
  | _ => exact post.elim
theorem gPutD_cases (i : Nat) (mk : ME) (v : Val) (ρ : VEnv) : gPutD i mk v ρ = none ∨ ∃ kv ks vs, mk ρ = .ok kv ρ ∧ isKey .k kv = true ∧ ρ[i]? = some (some (.dct true .k ks vs)) ∧ (fzs vs = true ∧ ks.length = vs.length ∧ ks.length < 16777216) ∧ gPutD i mk v ρ = some (ρ.set i (some (dctOf (putD (ks.zip vs) kv v)))) := by
  unfold gPutD
  cases hmk : mk ρ with
  | bad => exact .inl rfl
  | exc e ρ2 => exact .inl rfl
  | ok kv ρ2 =>
    dsimp only
    by_cases hp : ρ2 = ρ ∧ isKey .k kv = true
    rotate_left
    · rw [if_neg hp]; exact .inl rfl
    rw [if_pos hp]
    obtain ⟨rfl, hkey⟩ := hp
    split
    · rename_i ks vs hv
      by_cases hc : fzs vs = true ∧ ks.length = vs.length ∧ ks.length < 16777216
      · rw [if_pos hc]; exact .inr ⟨kv, ks, vs, rfl, hkey, hv, hc, rfl⟩
      · rw [if_neg hc]; exact .inl rfl
    · exact .inl rfl
theorem Rep.toFz {W : Addr → Prop} {H : Hp} {x : V} {v : Val} {O : List Addr} (r : Rep G W H x v O) (h : v.fz = true) : Rep G W H x v [] := by
  have e := r.none_of_fz h
  subst e
  exact r
theorem vgd_put {i : Nat} {o ix : Expr} {mk : ME} {sp2 : Bool} (hu : X.A.units + 1 < cLine) (ho : PE X o (tVar i)) (hi : VE G X (fun _ _ _ _ => False) true sp2 ix mk)
    (ha : ∀ v, assign (.Subscript o ix pos') X.env v = (do
      let ov ← holding [v] (eval o X.env)
      let iv ← holding [v, ov] (eval ix X.env)
      standAt pos'
      holding [v, ov, iv] (setItem ov iv v)
      release [v, ov, iv] []) := by intro _; rfl) : VGd G X bs σ0 (.Subscript o ix pos') (gPutD i mk) := by
  refine PG.pre (pg_sub ho hi (set_dict hu) ha) fun y σ H Q ⟨R, ρ, Os, v, hr, rel, rep, pin, post⟩ => ?_
  rcases gPutD_cases i mk v ρ with e | ⟨kv, ks, vs, hmk, hkey, hv, hc, e⟩
  · rw [e] at post; exact post.elim
  · rw [e] at post
    dsimp only at post
    obtain ⟨hf, hl, hlen⟩ := hc
    obtain ⟨x, hx, rv⟩ := rel.rep i _ hv
    refine ⟨x, hx, R, ρ, Os, rel, ?_⟩
    rw [hmk]
    intro kx H2 Os2 Ok rel2 rk ndk k2 pure
    obtain ⟨_, rfl, same⟩ := pure rfl
    have rel3 : Rel G R H2 σ ρ Os2 := rel2.weak fun a z => .inl z
    have wk : ∀ a, WW R Os2 a → WW (Rp R sp2 Ok) Os2 a := fun a z => z.imp .inl id
    obtain ⟨kk, rfl, rfl⟩ := isKey_k hkey rk
    obtain ⟨x', hx', rv3⟩ := rel3.rep i _ hv
    rw [hx] at hx'
    cases hx'
    have rep3 : Rep G (WW R Os2) H2 y v [] := rep.mono (fun a o e nw => ⟨same a o e, nw⟩) fun a z => (nomatch z)
    generalize hOi : Os2 i = Oi at rv3
    cases rv3 with
    | @dkO a kvs _ _ P ea hk q =>
      have hP : P = [] := by
        have := q.none_of_fz hf
        exact this
      subst hP
      refine ⟨a, _, rfl, DPut.k ea ?_, ?_⟩
      · have : kvs.length = ks.length := by rw [hk, List.length_map]
        rw [this, sizeLine_eq]; omega
      have e0 : R = fun a => R a ∨ a ∈ ([] : List Addr) := setEq fun a => ⟨.inl, fun z => z.elim id fun z => nomatch z⟩
      obtain ⟨z1, z2⟩ := zip_maps hl
      have kr : KRel G (WW R Os2) H2 kvs (ks.zip vs) := ⟨by rw [z1, hk], by rw [z2]; exact q⟩
      have kr2 := kr.put kk rep3
      obtain ⟨r2, k3⟩ := Rel.root (O := []) (P := []) (P' := []) (ob' := .dK (putK kvs kk y)) (w := dctOf (putD (ks.zip vs) (ofKey kk) v)) (e0 ▸ rel3) (fun a z => nomatch z) hv hx hOi ea (fun b z => nomatch z) List.nodup_nil fun tr same2 => by
        refine .dkO same2 kr2.ks ?_
        have tr2 : ∀ {xs : List V} {us : List Val}, Reps G (WW R Os2) H2 xs us [] → Reps G (WW R (fun j => if j = i then [a] else Os2 j)) (upd H2 a (.dK (putK kvs kk y))) xs us [] := by
          intro xs
          induction xs with
          | nil => intro us r; cases r; exact .nil
          | cons z xs ih =>
            intro us r
            cases us with
            | nil => cases r
            | cons u us =>
              obtain ⟨z', xs', e, r1, r2⟩ := r.inv0
              cases e
              exact .cons (O := []) (O' := []) (tr _ _ _ (fun b z => nomatch z) (e0 ▸ r1)) (ih r2)
        exact tr2 kr2.vs
      refine post σ _ _ pin rfl r2 fun b o e nw => ?_
      obtain ⟨e4, n3⟩ := k3 b o (same b o e) nw fun z => nomatch z
      exact ⟨e4, n3, id⟩
/-- target = e, e's value frozen -/
theorem vs_asgD {tg e : Expr} {g : MG} (he : VE G X E p true e m) (hg : VGd G X bs σ0 tg g) (hs : swapsWithSole [tg] e pos.line X.env = pure false := by rfl) (hw : swappedStores [tg] e X.env = pure none := by rfl) (h1 : (assignEach [tg] X.env).map (·.2) = [assign tg X.env] := by rfl) :
    VS G X E bs σ0 (.Assign [tg] e pos) (mAsgD m g) := by
  refine PS.pre (ps_asg he hg hs hw h1) fun D σ H ⟨R, ρ, Os, rel, pin, post⟩ => ⟨R, ρ, Os, rel, ?_⟩
  refine PostS.post (s := true) (f := fun v ρ' => if v.fz = true then (match g v ρ' with
    | some ρ2 => .nx ρ2
    | none => .bad) else .bad) pin post fun v ρ' x H' Os' O _ post rel' rep nd k => ?_
  by_cases hf : v.fz = true
  rotate_left
  · rw [if_neg hf] at post; exact post.elim
  rw [if_pos hf] at post
  have hr1 : ∀ a, R a → ∃ o, H' a = some o ∧ ¬ We Os' a := fun a z => let ⟨o, e, nw⟩ := rel.hr a z; let ⟨e1, n1, _⟩ := k a o e nw; ⟨o, e1, n1⟩
  refine ⟨R, ρ', Os', v, hr1, rel'.weak fun a z => .inl z, (rep.toFz hf).weakW fun a z => z.imp .inl id, pin, ?_⟩
  cases hg : g v ρ' with
  | none => rw [hg] at post; exact post
  | some ρ2 =>
    rw [hg] at post
    exact fun σ' H2 Os2 p r1 r2 k2 => post σ' H2 Os2 p r2 (KeepE.trans (k.imp (O' := fun _ => False) fun _ z => z.elim) k2)
end
end VL
/-! VL, part WO: list(d.items()), dict(pairs), a or b as values. -/
namespace VL
open PySem PySem.Spec PyProof.Rows L2
/-- the pairs of a dict that may stand locked, as new tuples in a new list -/
def rLiR : V → Hp → VK → Prop := fun x H Q => ∃ (d : Addr) (kvs : List (Key × V)), x = .ref d ∧ Rd H d (.dK kvs) ∧
  ∀ (H2 : Hp) (l : Addr) (ts : List Addr), Same H H2 → H l = none → (∀ t ∈ ts, H t = none) → l ∉ ts → ts.Nodup → H2 l = some (.lst (ts.map V.ref)) → Paired (fun (t : Addr) (q : Key × V) => H2 t = some (.tup [kV q.1, q.2])) ts kvs → Q (.ref l) H2
section
variable {X : Cx} {e : Expr} {te : TE} {p apos cpos pos : Pos}
theorem pe_liR (hc : X.calm = true) (he : PE X e te) (hg : Gl X "list") (hm : X.mg "list" = none) (hv : bootBuiltins "list" = some (.type "list"))
    (hb : attributeBase e "items" X.env (eval e X.env) = eval e X.env := by rfl) (hl : (apos.endLine == cpos.line) = true := by rfl)
    (hs : starEach [.Call (.Attribute e "items" apos) [] [] cpos] X.env = (false, eval (.Call (.Attribute e "items" apos) [] [] cpos) X.env) :: starEach [] X.env := by rfl) :
    PE X (.Call (.Name "list" p) [.Call (.Attribute e "items" apos) [] [] cpos] [] pos) (fun σ H Q => te σ H fun x H1 => rLiR x H1 Q) := by
  refine ⟨fun pins s σ H Q I hq => wpAny_Call_Name_kw (ld_blt I hg hm hv (PyProof.Rows.callWith_type1 ?_ hs rfl))⟩
  rw [hs]
  refine Calls.spliced_cons (x := eval (.Call (.Attribute e "items" apos) [] [] cpos) X.env) (rest := backTo pos (starEach [] X.env)) ?_
  refine (wpAny_Call_method (T := "dict") (id := "dict.items") hb rfl hl F.plainAttrs_dict F.slot_dict_items F.type_dict_items (thn (he.run pins s σ H _ I hq) fun u s1 ⟨x, H1, J1, rx, d, kvs, ex, hd, q⟩ => ?_))
  subst ex
  obtain rfl : u = Value.ref d := rx
  obtain ⟨sz, low, vs, kv, dd⟩ := dk_rd J1.hok hd
  obtain ⟨ep, at_⟩ := dd.dictAt
  have J2 : Inv X pins σ H1 { s1 with heap := s1.heap.push { cls := .type "dict_items", data := .fields #[.ref d] } } := J1.kept (t' := s1.toks) fun b ob q => Heap.get?_push_of_some _ q
  have len := Paired.length kv
  refine ⟨dd.typeIs, dd.mapOf.noDict, method_meetsIn F.slot_dict_items F.entry_dict_items rfl (PySem.evalArgs_none ⟨rfl, dd.typeIs, F.args_dict_items_1 _, _, meets_dict_items (mixKind X.prog X.w) d low, ⟨vs, dd⟩, ?_⟩)⟩
  refine Calls.spliced_nil (PySem.W.kdx_call (knd := mixKind X.prog X.w) (kvs := vs) (ep := ep) (J1.ok.hd hc) ⟨_, Heap.get?_push_size _ rfl, rfl, rfl⟩ (at_.push _) (by omega) fun h2 tk acc c ts k1 k2 k3 k4 k5 => ?_)
  obtain ⟨H2, r1, r2, r3, r4, r5, r6, J⟩ := LiI.items_laid (tk := tk) J2 sz kv k1 k2 k3 k4 k5
  have nd : ts.Nodup := List.Pairwise.imp (fun {a b} (h : a < b) => Nat.ne_of_lt h) k4.rise
  exact ⟨.ref _, H2, J, rfl, q H2 _ ts r1 r2 r3 r4 nd r5 r6⟩
end
def pairV (p : Val × Val) : Val := .tup [p.1, p.2]
/-- list(d.items()) -/
def mLi (m : ME) : ME := fun ρ => match m ρ with
  | .ok (.dct o .k ks vs) ρ' => if fzs vs = true then .ok (.lst true ((ks.zip vs).map pairV)) ρ' else .bad
  | .ok _ _ => .bad
  | .exc e ρ' => .exc e ρ'
  | .bad => .bad
section
variable {G : Gam} {X : Cx} {E : WX} {e : Expr} {pu s : Bool} {m : ME} {p apos cpos pos : Pos}
theorem pairs_rep {W W2 : Addr → Prop} {H H2 : Hp} (kp : Keep W H W2 H2) : ∀ {ts : List Addr} {kvs : List (Key × V)} {d : DL}, (∀ t ∈ ts, ¬ W2 t) → KRel G W H kvs d → Paired (fun (t : Addr) (q : Key × V) => H2 t = some (.tup [kV q.1, q.2])) ts kvs → Reps G W2 H2 (ts.map V.ref) (d.map pairV) []
  | [], [], [], _, _, _ => .nil
  | [], [], _ :: _, _, r, _ => by have := r.ks; simp at this
  | _ :: _, _ :: _, [], _, r, _ => by have := r.ks; simp at this
  | t :: ts, q :: kvs, (k, v) :: d, hn, r, .cons h tl => by
    have e1 := r.ks
    have e2 := r.vs
    simp only [List.map_cons, List.cons.injEq] at e1 e2
    obtain ⟨x, xs, e3, r1, r2⟩ := e2.inv0
    simp only [List.cons.injEq] at e3
    obtain ⟨rfl, rfl⟩ := e3
    obtain ⟨rfl, e4⟩ := e1
    have ih := pairs_rep kp (fun t ht => hn t (List.mem_cons_of_mem _ ht)) (⟨e4, r2⟩ : KRel G W H kvs d) tl
    refine .cons (O := []) (O' := []) (.tup (O := []) ⟨h, hn t List.mem_cons_self⟩ (.cons (O := []) (O' := []) ?_ (.cons (O := []) (O' := []) (r1.mono kp fun a z => nomatch z) .nil))) ih
    cases q.1 with
    | inl i => exact .int i
    | inr z => exact .str z
theorem ve_li (hc : X.calm = true) (he : VE G X E pu s e m) (hg : Gl X "list") (hm : X.mg "list" = none) (hv : bootBuiltins "list" = some (.type "list"))
    (hb : attributeBase e "items" X.env (eval e X.env) = eval e X.env := by rfl) (hl : (apos.endLine == cpos.line) = true := by rfl)
    (hs : starEach [.Call (.Attribute e "items" apos) [] [] cpos] X.env = (false, eval (.Call (.Attribute e "items" apos) [] [] cpos) X.env) :: starEach [] X.env := by rfl) :
    VE G X E pu true (.Call (.Name "list" p) [.Call (.Attribute e "items" apos) [] [] cpos] [] pos) (mLi m) := by
  refine PE.pre (pe_liR hc he hg hm hv hb hl hs) fun σ H Q ⟨R, ρ, Os, rel, post⟩ => ⟨R, ρ, Os, rel, ?_⟩
  unfold mLi at post
  cases hm : m ρ with
  | bad => rw [hm] at post; exact post
  | exc e ρ' => rw [hm] at post; exact post
  | ok v ρ' =>
    rw [hm] at post
    cases v with
    | dct o dk ks vs =>
      cases dk with
      | k =>
        dsimp only at post
        by_cases hf : fzs vs = true
        rotate_left
        · rw [if_neg hf] at post; exact post.elim
        rw [if_pos hf] at post
        intro x H1 Os1 O rel1 rep nd k pure
        obtain ⟨d, kvs, rfl, hd, kr, _, _⟩ := rep_dk rep hf
        refine ⟨d, kvs, rfl, hd, fun H2 l ts same hl hts lts ndt hL hP => ?_⟩
        have relR : Rel G R H1 σ ρ' Os1 := rel1.weak fun a z => .inl z
        have nR : ∀ a, H1 a = none → ¬ WW R Os1 a := fun a e z => by
          obtain ⟨o, eo⟩ := relR.ww z
          rw [e] at eo; cases eo
        have relL : Rel G (Rp R true [l]) H2 σ ρ' Os1 := by
          refine relR.grow same (fun a z => ?_) fun a z => ?_
          · rcases z with z | ⟨_, z⟩
            · exact .inl z
            · rw [List.mem_singleton.mp z]; exact .inr hl
          · rcases z with z | ⟨_, z⟩
            · obtain ⟨o, e⟩ := relR.rt a z
              exact ⟨o, same a o e⟩
            · rw [List.mem_singleton.mp z]; exact ⟨_, hL⟩
        have nt : ∀ t ∈ ts, ¬ WW (Rp R true [l]) Os1 t := fun t ht z => by
          rcases z with (z | ⟨_, z⟩) | z
          · exact nR t (hts t ht) (.inl z)
          · rw [List.mem_singleton.mp z] at ht; exact lts ht
          · exact nR t (hts t ht) (.inr z)
        have kp : Keep (WW (Rp R s O) Os1) H1 (WW (Rp R true [l]) Os1) H2 := fun a o e nw => ⟨same a o e, fun z => by
          rcases z with (z | ⟨_, z⟩) | z
          · exact nw (.inl (.inl z))
          · rw [List.mem_singleton.mp z, hl] at e; cases e
          · exact nw (.inr z)⟩
        refine post (.ref l) H2 Os1 [l] relL (.lstO (O := []) hL (pairs_rep kp nt kr hP)) (fun _ => by simp) (fun a o e nw => ?_) fun z => ?_
        · obtain ⟨e1, n1, _⟩ := k a o e nw
          refine ⟨same a o e1, n1, fun z => ?_⟩
          rw [List.mem_singleton.mp z.2, hl] at e1; cases e1
        · obtain ⟨a1, a2, a3⟩ := pure z
          exact ⟨a1, a2, a3.trans same⟩
      | _ => exact post.elim
    | _ => exact post.elim

/-! ### dict(pairs) -/
def keyPair : Val → Option (Val × Val)
  | .tup [k, v] => if isKey .k k = true ∧ v.fz = true then some (k, v) else none
  | _ => none
def keyPairs : List Val → Option DL
  | [] => some []
  | x :: xs => match keyPair x, keyPairs xs with
    | some p, some r => some (p :: r)
    | _, _ => none
def semDict : List Val → Option Val
  | [.lst _ xs] => match keyPairs xs with
    | some d => if d.length ≤ 1000 then some (dctOf (mergeD [] d)) else none
    | none => none
  | [.dct _ .k ks vs] => if fzs vs = true then some (.dct true .k ks vs) else none
  | _ => none
theorem keyPair_some {v : Val} {p : Val × Val} (h : keyPair v = some p) : v = .tup [p.1, p.2] ∧ isKey .k p.1 = true ∧ p.2.fz = true := by
  unfold keyPair at h
  split at h
  · split at h
    · rename_i hh
      cases h
      exact ⟨rfl, hh.1, hh.2⟩
    · cases h
  · cases h
theorem pairs_of_rep {W : Addr → Prop} {H : Hp} : ∀ {xs : List Val} {ys : List V} {O : List Addr} {d : DL}, Reps G W H ys xs O → keyPairs xs = some d → ∃ (ps : List Addr) (kvs : List (Key × V)), ys = ps.map V.ref ∧ Paired (fun p kv => SqT G.K H p [kV kv.1, kv.2]) ps kvs ∧ KRel G W H kvs d
  | [], _, _, _, r, h => by
    cases r; cases h
    exact ⟨[], [], rfl, .nil, ⟨rfl, .nil⟩⟩
  | x :: xs, _, _, d, r, h => by
    unfold keyPairs at h
    split at h
    · rename_i p dr h1 h2
      cases h
      obtain ⟨rfl, hk, hf⟩ := keyPair_some h1
      cases r with
      | cons r t =>
        obtain ⟨ps, kvs, e1, e2, e3⟩ := pairs_of_rep t h2
        subst e1
        obtain ⟨a, zs, rfl, hq, q⟩ := rep_tupT r
        cases q with
        | cons q1 q2 =>
          cases q2 with
          | cons q2 q3 =>
            cases q3
            obtain ⟨kk, ek, rfl⟩ := isKey_k hk q1
            have q2' := q2.toFz hf
            obtain ⟨a1, a2⟩ := e3
            refine ⟨a :: ps, (kk, _) :: kvs, rfl, .cons hq e2, ⟨by simp [a1, ek], ?_⟩⟩
            simp only [List.map_cons]
            exact .cons (O := []) (O' := []) q2' a2
    · cases h
theorem call_dictW (hc : X.calm = true) (hK : X.K = G.K) : CallR X (.type "dict") (fun xs H Q => (∃ (a : Addr) (ps : List Addr) (kvs : List (Key × V)), xs = [.ref a] ∧ SqL G.K H a (ps.map V.ref) ∧ Paired (fun p kv => SqT G.K H p [kV kv.1, kv.2]) ps kvs ∧ ∀ p, H p = none → Q (.ref p) (upd H p (.dK (mergeK [] kvs)))) ∨
    (∃ (a : Addr) (kvs : List (Key × V)), xs = [.ref a] ∧ Rd H a (.dK kvs) ∧ ∀ p, H p = none → Q (.ref p) (upd H p (.dK kvs)))) := by
  rw [← hK]
  exact CallR.or (call_dictP hc) call_dictD
theorem ok_dict : OkF G (fun xs H Q => (∃ (a : Addr) (ps : List Addr) (kvs : List (Key × V)), xs = [.ref a] ∧ SqL G.K H a (ps.map V.ref) ∧ Paired (fun p kv => SqT G.K H p [kV kv.1, kv.2]) ps kvs ∧ ∀ p, H p = none → Q (.ref p) (upd H p (.dK (mergeK [] kvs)))) ∨
    (∃ (a : Addr) (kvs : List (Key × V)), xs = [.ref a] ∧ Rd H a (.dK kvs) ∧ ∀ p, H p = none → Q (.ref p) (upd H p (.dK kvs)))) semDict := by
  intro W H xs vs Ol v Q w r hs m
  have made : ∀ {kvs : List (Key × V)} {d : DL} {p : Addr}, KRel G W H kvs d → H p = none → (Made G W H (dctOf d) Q) → Q (.ref p) (upd H p (.dK kvs)) := fun {kvs d p} kr hp m =>
    m (.ref p) _ [p] (same_upd hp) (fun a z => by rw [List.mem_singleton.mp z]; exact hp) (.dkO (O := []) upd_same kr.ks (kr.vs.upd hp fun z q => q.imp id fun q => by rw [List.mem_singleton.mp q]; exact hp)) (by simp)
  unfold semDict at hs
  split at hs
  · obtain ⟨x, O, rfl, r1⟩ := r.inv1
    split at hs
    · rename_i d hd
      split at hs
      · cases hs
        obtain ⟨a, ys, O1, rfl, e1, q1⟩ := rep_lstL r1
        obtain ⟨ps, kvs, rfl, e2, kr⟩ := pairs_of_rep q1 hd
        exact .inl ⟨a, ps, kvs, rfl, .inl (.inl e1), e2, fun p hp => made (KRel.merge kr ⟨rfl, .nil⟩) hp m⟩
      · cases hs
    · cases hs
  · obtain ⟨x, O, rfl, r1⟩ := r.inv1
    split at hs
    · rename_i hf
      cases hs
      obtain ⟨a, kvs, rfl, hd, kr, e1, e2⟩ := rep_dk r1 hf
      refine .inr ⟨a, kvs, rfl, hd, fun p hp => made kr hp ?_⟩
      obtain ⟨z1, z2⟩ := zip_maps e1
      unfold dctOf
      rw [z1, z2]
      exact m
    · cases hs
  · cases hs
end
end VL
/-! VL, part WP: a or b, a and b as values; tests on values. -/
namespace VL
open PySem L2
def truB : Val → Option Bool
  | .non => some false
  | .bl b => some b
  | .int i => some (i != 0)
  | _ => none
def mOrV (m1 m2 : ME) : ME := fun ρ => match m1 ρ with
  | .ok v ρ1 => (match truB v with
    | some true => .ok v ρ1
    | some false => m2 ρ1
    | none => .bad)
  | .exc e ρ1 => .exc e ρ1
  | .bad => .bad
/-- a test on a value -/
def mTru (m : ME) : ME := fun ρ => match m ρ with
  | .ok v ρ1 => (match truB v with
    | some k => .ok (.bl k) ρ1
    | none => .bad)
  | .exc e ρ1 => .exc e ρ1
  | .bad => .bad
section
variable {G : Gam} {X : Cx} {E : WX} {a b : Expr} {rest : List Expr} {pos : Pos} {p1 s1 p2 s2 : Bool} {m m1 m2 : ME}
theorem tru_of {W : Addr → Prop} {H : Hp} {x : V} {v : Val} {O : List Addr} {k : Bool} (r : Rep G W H x v O) (h : truB v = some k) : TruV G.K x H k ∧ O = [] := by
  cases r <;> simp [truB] at h <;> subst h <;> simp [TruV]
theorem ve_orV (hK : X.K = G.K) (ha : VE G X E p1 s1 a m1) (hb : VE G X E p2 true (.BoolOp .Or (b :: rest) pos) m2) : VE G X E (p1 && p2) true (.BoolOp .Or (a :: b :: rest) pos) (mOrV m1 m2) := by
  refine PE.pre (pe_orT ha hb) fun σ H Q ⟨R, ρ, Os, rel, post⟩ => ⟨R, ρ, Os, rel, ?_⟩
  unfold mOrV at post
  cases hm : m1 ρ with
  | bad => rw [hm] at post; exact post
  | exc e ρ' => rw [hm] at post; exact post
  | ok v ρ1 =>
    rw [hm] at post
    dsimp only at post
    intro x H1 Os1 O rel1 rep nd k pure
    cases ht : truB v with
    | none => rw [ht] at post; exact post.elim
    | some t =>
      rw [ht] at post
      obtain ⟨tv, rfl⟩ := tru_of rep ht
      rw [hK]
      refine ⟨t, tv, ?_⟩
      have relR : Rel G R H1 σ ρ1 Os1 := rel1.weak fun a z => .inl z
      have kl : KeepE H Os H1 Os1 fun _ => False := k.imp fun _ z => z.elim
      cases t with
      | true =>
        rw [if_pos rfl]
        have hw : ∀ a, Rp R true [] a → Rp R s1 [] a := fun a z => z.elim .inl fun z => nomatch z.2
        refine post x H1 Os1 [] (rel1.weak hw) (rep.weakW fun a z => z.imp (hw a) id) (fun _ => List.nodup_nil) (k.imp fun a z => nomatch z.2) fun z => ?_
        rw [Bool.and_eq_true] at z
        exact pure z.1
      | false =>
        rw [if_neg (by decide)]
        refine ⟨R, ρ1, Os1, relR, Post.later (fun z => ?_) (fun z => z) post kl pure⟩
        rw [Bool.and_eq_true] at z
        exact z
/-- if v: v no bool -/
theorem vt_tru (hK : X.K = G.K) (h : VE G X E p1 s1 a m) (hv : PT X a (fun σ H Q => rd G E p1 s1 m σ H fun x H' => ∃ k, TruV X.K x H' k ∧ Q k H')) : VT G X E p1 a (mTru m) := by
  refine PT.pre hv fun σ H Q ⟨R, ρ, Os, rel, post⟩ => ⟨R, ρ, Os, rel, ?_⟩
  unfold mTru at post
  cases hm : m ρ with
  | bad => rw [hm] at post; exact post
  | exc e ρ' => rw [hm] at post; exact post
  | ok v ρ1 =>
    rw [hm] at post
    dsimp only at post
    intro x H1 Os1 O rel1 rep nd k pure
    cases ht : truB v with
    | none => rw [ht] at post; exact post.elim
    | some t =>
      rw [ht] at post
      obtain ⟨tv, rfl⟩ := tru_of rep ht
      rw [hK]
      exact ⟨t, tv, post H1 Os1 (rel1.weak fun a z => .inl z) (k.imp fun _ z => z.elim) pure⟩
end
end VL
/-! VL, part WQ: range(a, b). -/
namespace VL
open PySem L2
section
variable {G : Gam} {X : Cx} {E : WX} {tg a b : Expr} {pos x1 : Pos} {p1 s1 p2 s2 : Bool} {m1 m2 : ME}
theorem vi_rng2 (hg : Gl X "range") (hm : X.mg "range" = none) (h1 : VE G X E p1 s1 a m1) (h2 : VE G X E p2 s2 b m2) (wf : (s1 || p2) = true := by rfl) (hs : starEach [a, b] X.env = (false, eval a X.env) :: starEach [b] X.env := by rfl) (hs2 : starEach [b] X.env = (false, eval b X.env) :: starEach [] X.env := by rfl)
    (ht : starEach [a, b] X.env = [(false, eval a X.env), (false, eval b X.env)] := by rfl) (ht2 : starEach [b] X.env = [(false, eval b X.env)] := by rfl) : VI G X E tg (.Call (.Name "range" x1) [a, b] [] pos) (mRng2 m1 m2) := by
  refine PI.pre (pi_range2 hg hm (pa_cons h1 (pa_cons h2 pa_nil hs2) hs) ht ht2) fun σ H K ⟨R, ρ, Os, rel, post⟩ => ?_
  have key := nest_of (G := G) (E := E) (σ := σ) (os := [⟨p1, s1, m1⟩, ⟨p2, s2, m2⟩]) (wf2 wf) rel (K := fun vs H1 => ∃ i j : Int, vs = [.int i, .int j] ∧ (-(2 ^ 62) ≤ i ∧ i < 2 ^ 62 ∧ -(2 ^ 62) ≤ j ∧ j < 2 ^ 62) ∧ K (Itr i (j - i).toNat) H1) ?_
  · exact key
  · rw [evalA_eq]
    unfold mRng2 at post
    simp only [List.map_cons, List.map_nil]
    cases he : evalM [m1, m2] ρ with
    | bad => rw [he] at post; exact post
    | exc e ρ' => rw [he] at post; exact post
    | ok vs ρ' =>
      rw [he] at post
      intro xs H' Os' Ol rel' reps nd keep pure
      match vs, reps, post with
      | [.int i, .int j], reps, post =>
        obtain ⟨x, y, O, O', rfl, r1, r2⟩ := reps.inv2
        cases r1; cases r2
        dsimp only at post
        by_cases hb : -(2 ^ 62) ≤ i ∧ i < 2 ^ 62 ∧ -(2 ^ 62) ≤ j ∧ j < 2 ^ 62
        · rw [if_pos hb] at post
          exact ⟨i, j, rfl, hb, post _ H' Os' (rel'.weak fun a z => .inl z) (walk_rng i _) (keep.imp fun _ z => z.elim)⟩
        · rw [if_neg hb] at post; exact post.elim
end
/-! ### is True, is not False -/
def semIsB (neg : Bool) : List Val → Option Val
  | [.bl a, .bl b] => some (.bl (xor neg (decide (a = b))))
  | _ => none
section
variable {G : Gam} {X : Cx}
theorem beq_bl (a b : Bool) : decide (a = b) = (Value.bool a == Value.bool b) := by cases a <;> cases b <;> rfl
theorem op_isB : OpR X (compareOp .Is) (fun x y H Q => ∃ a b, x = .bl a ∧ y = .bl b ∧ Q (.bl (decide (a = b))) H) := by
  intro pins s σ H x y v u Q I rx ry ⟨a, b, ex, ey, q⟩
  subst ex ey
  cases (show v = Value.bool a from rx)
  cases (show u = Value.bool b from ry)
  exact wpAny_is_plain rfl (fin_bl I q (beq_bl a b))
theorem op_notB : OpR X (compareOp .IsNot) (fun x y H Q => ∃ a b, x = .bl a ∧ y = .bl b ∧ Q (.bl (!decide (a = b))) H) := by
  intro pins s σ H x y v u Q I rx ry ⟨a, b, ex, ey, q⟩
  subst ex ey
  cases (show v = Value.bool a from rx)
  cases (show u = Value.bool b from ry)
  exact wpAny_isNot_plain rfl (fin_bl I q (congrArg not (beq_bl a b)))
theorem ok_isB : OkF G (r2 fun x y H Q => ∃ a b, x = .bl a ∧ y = .bl b ∧ Q (.bl (decide (a = b))) H) (semIsB false) := by
  intro W H xs vs Ol v Q w r hs m
  unfold semIsB at hs
  split at hs
  · obtain ⟨x, y, O, O', rfl, r1, r2⟩ := r.inv2
    cases r1; cases r2; cases hs
    exact ⟨_, _, rfl, rfl, by simpa using m.same (.bl _)⟩
  · cases hs
theorem ok_notB : OkF G (r2 fun x y H Q => ∃ a b, x = .bl a ∧ y = .bl b ∧ Q (.bl (!decide (a = b))) H) (semIsB true) := by
  intro W H xs vs Ol v Q w r hs m
  unfold semIsB at hs
  split at hs
  · obtain ⟨x, y, O, O', rfl, r1, r2⟩ := r.inv2
    cases r1; cases r2; cases hs
    exact ⟨_, _, rfl, rfl, by simpa using m.same (.bl _)⟩
  · cases hs
end
end VL
/-! VL, part WR: a list unpacked into targets. -/
namespace VL
open PySem L2
def gUnV (g : MGs) (n : Nat) : MG := fun v ρ => match v with
  | .lst _ vs => if vs.length = n then g vs ρ else none
  | _ => none
section
variable {G : Gam} {X : Cx} {bs : List Bool} {σ0 : L2.St} {pos : Pos}
theorem vg_unl {es : List Expr} {k : Nat} {gs : MGs} {n : Nat} (hK : X.K = G.K) (hc : X.calm = true) (h : VGs G X bs σ0 es gs) (hn : (assignEach es X.env).length = n := by rfl) (hst : (assignEach es X.env).findIdx? (·.1) = none := by rfl) :
    VG G X bs σ0 (.Tuple es k pos) (gUnV gs n) := by
  refine PG.pre (pg_unl hc h hn hst) fun x σ H Q ⟨R, ρ, Os, v, O, rel, rep, nd, nr, pin, post⟩ => ?_
  unfold gUnV at post
  rw [hK]
  cases v with
  | lst o vs =>
    dsimp only at post
    by_cases hl : vs.length = n
    · rw [if_pos hl] at post
      obtain ⟨a, xs, P, hx, hq, reps, hP, ndP⟩ : ∃ a xs P, x = .ref a ∧ SqL G.K H a xs ∧ Reps G (WW (fun a => R a ∨ a ∈ O) Os) H xs vs P ∧ (∀ b ∈ P, b ∈ O) ∧ P.Nodup := by
        cases rep with
        | lstO h r => exact ⟨_, _, _, rfl, .inl (.inl h), r, fun b hb => List.mem_cons_of_mem _ hb, (List.nodup_cons.mp nd).2⟩
        | lstF h r => exact ⟨_, _, [], rfl, .inl (.inl h.1), r, (fun b hb => by cases hb), List.nodup_nil⟩
      have hw : ∀ b, R b ∨ b ∈ P → R b ∨ b ∈ O := fun b z => z.imp id (hP b)
      refine ⟨a, xs, hx, hq, by rw [reps.length]; exact hl, R, ρ, Os, vs, P, rel.weak hw, reps.weakW fun b z => z.imp (hw b) id, ndP, fun b hb => nr b (hP b hb), pin, ?_⟩
      cases hg : gs vs ρ with
      | none => rw [hg] at post; exact post
      | some ρ' => rw [hg] at post; exact fun σ' Os' p l r w => post σ' Os' p l r fun b z => (w b z).imp id (hP b)
    · rw [if_neg hl] at post
      exact post.elim
  | _ => exact post.elim
end
end VL
/-! VL, part WS: a, b, c = x, y, z. -/
namespace VL
open PySem L2
def mPar3 (i j l : Nat) (m1 m2 m3 : ME) : MS := fun ρ => match evalM [m1, m2, m3] ρ with
  | .ok [u, v, w] ρ' => if i < ρ'.length ∧ j < ρ'.length ∧ l < ρ'.length then .nx (((ρ'.set i (some u)).set j (some v)).set l (some w)) else .bad
  | .ok _ _ => .bad
  | .exc e ρ' => .exc e ρ'
  | .bad => .bad
def osPut (Os : Nat → List Addr) (i : Nat) (O : List Addr) : Nat → List Addr := fun j => if j = i then O else Os j
section
variable {G : Gam} {X : Cx} {E : WX} {bs : List Bool} {σ0 : L2.St} {a b c : Expr} {pos : Pos} {p1 p2 p3 : Bool} {m1 m2 m3 : ME}
theorem put_step {R : Addr → Prop} {H : Hp} {σ : L2.St} {ρ : VEnv} {Os : Nat → List Addr} {O P : List Addr} {x : V} {v : Val} {i : Nat} (rel : Rel G (fun a => R a ∨ a ∈ O ++ P) H σ ρ Os) (r : Rep G (WW (fun a => R a ∨ a ∈ O ++ P) Os) H x v O) (nd : (O ++ P).Nodup) (nr : ∀ a ∈ O, ¬ R a) (hi : i < ρ.length) :
    Rel G (fun a => R a ∨ a ∈ P) H (σ.set i (some x)) (ρ.set i (some v)) (osPut Os i O) ∧ (∀ y w Q, Rep G (WW (fun a => R a ∨ a ∈ O ++ P) Os) H y w Q → Rep G (WW (fun a => R a ∨ a ∈ P) (osPut Os i O)) H y w Q) ∧ ∀ a, We (osPut Os i O) a → We Os a ∨ a ∈ O := by
  obtain ⟨n1, n2, n3⟩ := List.nodup_append.mp nd
  have s1 : (fun a => R a ∨ a ∈ O ++ P) = fun a => (R a ∨ a ∈ P) ∨ a ∈ O := setEq fun a => by
    rw [List.mem_append]
    constructor
    · rintro (z | z | z)
      · exact .inl (.inl z)
      · exact .inr z
      · exact .inl (.inr z)
    · rintro ((z | z) | z)
      · exact .inl z
      · exact .inr (.inr z)
      · exact .inr (.inl z)
  rw [s1] at rel r
  have q1 := rel.put r n1 hi fun a ha z => z.elim (nr a ha) fun z => n3 a ha a z rfl
  refine ⟨q1, fun y w Q ry => ry.mono (fun a o e nw => ⟨e, fun z => nw ?_⟩) fun _ _ _ e => e, fun a z => ?_⟩
  · rcases z with (z | z) | ⟨j, z⟩
    · exact .inl (.inl z)
    · exact .inl (.inr (List.mem_append_right _ z))
    · unfold osPut at z
      by_cases hj : j = i
      · simp only [hj, if_true] at z; exact .inl (.inr (List.mem_append_left _ z))
      · simp only [hj, if_false] at z; exact .inr ⟨j, z⟩
  · obtain ⟨j, z⟩ := z
    unfold osPut at z
    by_cases hj : j = i
    · simp only [hj, if_true] at z; exact .inr z
    · simp only [hj, if_false] at z; exact .inl ⟨j, z⟩
theorem vs_par3 {i j l : Nat} {x y z : Str} {px py pz pt : Pos} {kt k2 : Nat} {pt2 : Pos} (hc : X.calm = true) (hN : X.N.Nodup) (hi : X.N[i]? = some x) (hj : X.N[j]? = some y) (hl : X.N[l]? = some z) (hij : i ≠ j) (hil : i ≠ l) (hjl : j ≠ l)
    (hx : X.env.scope.names.lookup x = some .local) (hy : X.env.scope.names.lookup y = some .local) (hz : X.env.scope.names.lookup z = some .local)
    (ha : VE G X E p1 true a m1) (hb : VE G X E p2 true b m2) (hcc : VE G X E p3 true c m3) (hw : swappedStores [.Tuple [.Name x px, .Name y py, .Name z pz] kt pt] (.Tuple [a, b, c] k2 pt2) X.env = pure (some [x, y, z]))
    (b1 : bs[i]? ≠ some true := by decide) (b2 : bs[j]? ≠ some true := by decide) (b3 : bs[l]? ≠ some true := by decide)
    (hs : swapsWithSole [.Tuple [.Name x px, .Name y py, .Name z pz] kt pt] (.Tuple [a, b, c] k2 pt2) pos.line X.env = pure false := by rfl) (hst : starEach [a, b, c] X.env = (false, eval a X.env) :: starEach [b, c] X.env := by rfl) (hst2 : starEach [b, c] X.env = (false, eval b X.env) :: starEach [c] X.env := by rfl) (hst3 : starEach [c] X.env = (false, eval c X.env) :: starEach [] X.env := by rfl) :
    VS G X E bs σ0 (.Assign [.Tuple [.Name x px, .Name y py, .Name z pz] kt pt] (.Tuple [a, b, c] k2 pt2) pos) (mPar3 i j l m1 m2 m3) := by
  refine PS.pre (ps_par3 hc hN hi hj hl hij hil hjl hx hy hz (pa_cons ha (pa_cons hb (pa_cons hcc pa_nil hst3) hst2) hst) hw hs) fun D σ H ⟨R, ρ, Os, rel, pin, post⟩ => ?_
  have key := nest_of (G := G) (E := E) (σ := σ) (os := [⟨p1, true, m1⟩, ⟨p2, true, m2⟩, ⟨p3, true, m3⟩]) rfl rel (K := fun vs H1 => ∃ u v w, vs = [u, v, w] ∧ D.nx (((σ.set i (some u)).set j (some v)).set l (some w)) H1) ?_
  · exact key
  rw [evalA_eq]
  unfold mPar3 at post
  simp only [List.map_cons, List.map_nil]
  cases he : evalM [m1, m2, m3] ρ with
  | bad => rw [he] at post; exact post
  | exc e ρ' => rw [he] at post; exact fun c d H' Os' rel rx k => post c d σ H' Os' pin rel rx k
  | ok vs ρ' =>
    rw [he] at post
    intro xs H1 Os1 Ol rel1 reps nd keep _
    match vs, reps, post with
    | [u, v, w], reps, post =>
      dsimp only at post
      by_cases hh : i < ρ'.length ∧ j < ρ'.length ∧ l < ρ'.length
      rotate_left
      · rw [if_neg hh] at post; exact post.elim
      rw [if_pos hh] at post
      cases reps with
      | @cons x1 _ O1 _ _ _ r1 t =>
        cases t with
        | @cons x2 _ O2 _ _ _ r2 t2 =>
          cases t2 with
          | @cons x3 _ O3 _ _ _ r3 t3 =>
          cases t3
          refine ⟨x1, x2, x3, rfl, ?_⟩
          have es : stab [⟨p1, true, m1⟩, ⟨p2, true, m2⟩, ⟨p3, true, m3⟩] [O1, O2, O3] = O1 ++ (O2 ++ (O3 ++ [])) := rfl
          rw [es] at rel1 r1 r2 r3 nd keep
          have nr : ∀ a ∈ O1 ++ (O2 ++ (O3 ++ [])), ¬ R a := fun a ha z => let ⟨o, e, nw⟩ := rel.hr a z; (keep a o e nw).2.2 ha
          obtain ⟨q1, c1, w1⟩ := put_step (i := i) rel1 r1 nd (fun a ha => nr a (List.mem_append_left _ ha)) hh.1
          have nd2 := (List.nodup_append.mp nd).2.1
          obtain ⟨q2, c2, w2⟩ := put_step (i := j) q1 (c1 _ _ _ r2) nd2 (fun a ha => nr a (List.mem_append_right _ (List.mem_append_left _ ha))) (by rw [List.length_set]; exact hh.2.1)
          have nd3 := (List.nodup_append.mp nd2).2.1
          obtain ⟨q3, c3, w3⟩ := put_step (i := l) q2 (c2 _ _ _ (c1 _ _ _ r3)) nd3 (fun a ha => nr a (List.mem_append_right _ (List.mem_append_right _ (List.mem_append_left _ ha)))) (by rw [List.length_set, List.length_set]; exact hh.2.2)
          refine post _ H1 _ (((pin.set b1).set b2).set b3) (q3.weak fun a z => .inl z) fun a o e nw => ?_
          obtain ⟨e1, m1, m2⟩ := keep a o e nw
          refine ⟨e1, fun z => ?_, id⟩
          rcases w3 a z with z | z
          · rcases w2 a z with z | z
            · exact (w1 a z).elim m1 fun z => m2 (List.mem_append_left _ z)
            · exact m2 (List.mem_append_right _ (List.mem_append_left _ z))
          · exact m2 (List.mem_append_right _ (List.mem_append_right _ (List.mem_append_left _ z)))
end
end VL
/-! VL, part WU: defaults that are objects; C(e, k = v); x.append(e) where e changes names. -/
namespace VL
open PySem L2
/-- the keyword default x of the def at ad, if it is an object -/
def kwAt (ad : PySem.W.Frag → Addr) (x : Str) (K : PySem.W.Frag) : Addr := match K.lookup (ad K) with
  | some ⟨_, _, .func fd, _⟩ => (match fd.kwdefaults with
    | .ref D => (match PySem.W.nsIn K D x with
      | some (some (.ref a)) => a
      | _ => 0)
    | _ => 0)
  | _ => 0
/-- the i-th positional default of the def at ad, if it is an object -/
def dfAt (ad : PySem.W.Frag → Addr) (i : Nat) (K : PySem.W.Frag) : Addr := match K.lookup (ad K) with
  | some ⟨_, _, .func fd, _⟩ => (match fd.defaults with
    | .ref T => (match K.lookup T with
      | some ⟨_, _, .seq its _, _⟩ => (match its[i]? with
        | some (.ref a) => a
        | _ => 0)
      | _ => 0)
    | _ => 0)
  | _ => 0
/-- what stands at p is the tree v -/
def tAt (p : PySem.W.Frag → Addr) (v : Val) : Ftest := fun K => chkV K v (.ref (p K))
theorem at_ok {K : PySem.W.Frag} {p : PySem.W.Frag → Addr} {v : Val} (h : tAt p v K = true) : ∀ (G : Gam) W H, G.K = K → Rep G W H (.ref (p K)) v [] := by
  obtain ⟨y, r, q⟩ := chkV_ok h
  cases y with
  | ref a =>
    cases r
    exact q
  | non => cases r
  | bl b => cases r
  | int i => obtain ⟨_, z⟩ := r; cases z
  | str s => obtain ⟨_, z⟩ := r; cases z
  | flt s => obtain ⟨_, z⟩ := r; cases z
  | byt s => obtain ⟨_, z⟩ := r; cases z
  | ty s => cases r
section
variable {G : Gam} {X : Cx} {E : WX} {σ : L2.St}
theorem nest_app : ∀ {os ps : List Op} {H : Hp} {K : List V → Hp → Prop}, nest G E (os ++ ps) σ H K → nest G E os σ H fun xs H1 => nest G E ps σ H1 fun ys H2 => K (xs ++ ys) H2
  | [], ps, H, K, h => h
  | o :: os, ps, H, K, h => rd_mono h fun x H1 h1 => nest_app (os := os) h1
theorem nest_imp : ∀ {os : List Op} {H : Hp} {K K' : List V → Hp → Prop}, nest G E os σ H K → (∀ xs H', K xs H' → K' xs H') → nest G E os σ H K'
  | [], H, K, K', h, k => k _ _ h
  | o :: os, H, K, K', h, k => rd_mono h fun x H1 h1 => nest_imp h1 fun xs H2 q => k _ _ q
/-- C(e, .., k = v, ..), all parameters written, or with literal defaults -/
theorem ve_makeK1 {x : Str} {px pos : Pos} {k n c : Nat} {f C : Addr} {fd : FuncData} {ps ks : List Str} {mf : MF} {as : List Arg} {kws : List Keyword} {e : Expr} {es : List Expr} {os1 os2 : List Op} {g : List Value → List Value → List Value} {gV : List V → List V → List V} (hC : G.cn c = some C) (M : Mk X.K C f)
    (F : FnOk X.prog X.w X.K X.mg X.base (L2.CX X.prog X.w) k f fd ps (spV G (n + 1) mf)) (hr : Room (k + 1) X.A) (hb : KBn X.K fd ps (os1.length + 1) ks g gV) (tk : Takes X E) (hg : Gl X x) (hm : X.mg x = some (.ref C)) (ha : VAs G X E (e :: es) os1) (hkw : PK X kws fun σ H K => nest G E os2 σ H K) (df : Dfl G as)
    (hv : vals as = os1 ++ os2) (hgv : ∀ y xs zs, xs.length = os1.length → zs.length = os2.length → gV (y :: xs) zs = y :: mergeD0 as (xs ++ zs)) (hn : as.length = n := by rfl) (hs : (vals as).all (·.s) = true := by rfl) (nr : noRefs as = true := by rfl) (hks0 : os2.length = ks.length := by rfl)
    (hall : (backToKw pos (keywordEach kws X.env)).all (·.1.isSome) = true := by rfl) (hks : (backToKw pos (keywordEach kws X.env)).filterMap (·.1) = ks := by rfl) (hdb : (x == ("__debug__" : Str)) = false := by decide)
    (he : starEach (e :: es) X.env = (false, eval e X.env) :: starEach es X.env := by rfl) (hpl : ((backTo pos (starEach (e :: es) X.env)).any (·.1) || (backToKw pos (keywordEach kws X.env)).any (·.1.isNone)) = false := by rfl) :
    VE G X E (argsP as) true (.Call (.Name x px) (e :: es) kws pos) (mCall (mMake c mf) as) := by
  refine ⟨fun pins s σ H Q I h => ?_⟩
  have q0 := nest_of_G nr (call_of df hs hn h)
  rw [hv] at q0
  have q1 := nest_len (nest_app q0)
  have q2 := nest_imp q1 (K' := fun xs H1 => xs.length = os1.length ∧ nest G E os2 σ H1 fun zs H2 => zs.length = os2.length ∧ spV G n (mMake c mf) (mergeD0 as (xs ++ zs)) H2 Q (WE E σ)) fun xs H1 ⟨l, z⟩ => ⟨l, nest_len z⟩
  refine wpAny_Call_Name_kw (ld_glob I hg hm ?_ hdb)
  refine PySem.W.callWith_KW (h₀ := X.base) I.ok.mod.kin M.kp hall (thn (ha.run pos pins s σ H _ I q2) fun us s1 ⟨xs, H1, I1, r, lx, q3⟩ => ?_) hpl he
  refine thn (hkw.run pos pins s1 σ H1 _ I1 q3) fun ws s2 ⟨zs, H2, I2, rz, hlen, q2⟩ => ⟨I2.kIn, ?_⟩
  rw [hks]
  have hx := I2.hok.fresh (Nat.le_succ s2.heap.objs.size)
  have hdx := I2.hok.fresh (Nat.le_refl s2.heap.objs.size)
  have hq := sp_make (x := s2.heap.objs.size + 1) (dx := s2.heap.objs.size) hC q2 hx hdx (Nat.ne_of_lt (Nat.lt_succ_self _))
  rw [← hgv _ xs zs lx hlen] at hq
  have I3 := Inv.made (C := C) I2
  have r1 : Vals (V.ref (s2.heap.objs.size + 1) :: xs) (Value.ref (s2.heap.objs.size + 1) :: us) := .cons rfl r
  refine wpAny_call (make_map (f := f) I2.kIn M.makes M.init (beq_iff_eq.mp M.fn) ?_)
  have run := F.run (X.A.under (.builtin "type.__call__" ⟨.ref C :: us, ks.zip ws⟩)) X.stack _ _ ⟨Value.ref (s2.heap.objs.size + 1) :: us, ks.zip ws⟩ (g (Value.ref (s2.heap.objs.size + 1) :: us) ws) _ _ (WE E σ) (hr.make C us (ks.zip ws)) (I3.env0.make C us (ks.zip ws))
    (hb.to _ (Value.ref (s2.heap.objs.size + 1) :: us) ws I3.kIn (by rw [List.length_cons, ← r.length, lx]) (by rw [← rz.length, hlen, hks0])) (hb.rel r1 rz) hq
  refine codeAny_mono run fun res s4 hq2 => ?_
  cases res with
  | error er => exact passAt tk σ pins _ _ er s4 I3 hq2
  | ok fl =>
    cases fl with
    | ret u =>
      obtain ⟨v, H', I4, rv3, ev, q3⟩ := I3.after hq2
      subst ev
      exact ⟨rv3, ⟨V.ref (s2.heap.objs.size + 1), H', I4, rfl, q3⟩⟩
    | next => exact hq2.elim
    | brk => exact hq2.elim
    | cont => exact hq2.elim
end
end VL
/-! VL, part WV: sorted(ints), enumerate, x.append(e) where e changes names. -/
namespace VL
open PySem L2
def intsL : List Val → Option (List Int)
  | [] => some []
  | .int i :: l => match intsL l with
    | some ns => some (i :: ns)
    | none => none
  | _ => none
def insI (x : Int) : List Int → List Int
  | [] => [x]
  | y :: ys => if x ≤ y then x :: y :: ys else y :: insI x ys
def sortI : List Int → List Int
  | [] => []
  | x :: xs => insI x (sortI xs)
def semSorted : List Val → Option Val
  | [.lst _ l] => match intsL l with
    | some ns => some (.lst true ((sortI ns).map Val.int))
    | none => none
  | _ => none
theorem insI_perm (x : Int) : ∀ ys : List Int, (insI x ys).Perm (x :: ys)
  | [] => .refl _
  | y :: ys => by
    unfold insI
    split
    · exact .refl _
    · exact ((insI_perm x ys).cons y).trans (.swap x y ys)
theorem sortI_perm : ∀ xs : List Int, (sortI xs).Perm xs
  | [] => .refl _
  | x :: xs => (insI_perm x (sortI xs)).trans ((sortI_perm xs).cons x)
theorem insI_sorted (x : Int) : ∀ {ys : List Int}, ys.Pairwise (· ≤ ·) → (insI x ys).Pairwise (· ≤ ·)
  | [], _ => by simp [insI]
  | y :: ys, h => by
    have h2 := List.pairwise_cons.mp h
    unfold insI
    split
    · rename_i c
      exact List.pairwise_cons.mpr ⟨fun z hz => (List.mem_cons.mp hz).elim (fun e => e ▸ c) fun hz => Int.le_trans c (h2.1 z hz), h⟩
    · rename_i c
      refine List.pairwise_cons.mpr ⟨fun z hz => ?_, insI_sorted x h2.2⟩
      rcases List.mem_cons.mp ((insI_perm x ys).mem_iff.mp hz) with e | hz
      · subst e; omega
      · exact h2.1 z hz
theorem sortI_sorted : ∀ xs : List Int, (sortI xs).Pairwise (· ≤ ·)
  | [] => .nil
  | x :: xs => insI_sorted x (sortI_sorted xs)
theorem sorted_eq : ∀ {xs ys : List Int}, xs.Perm ys → xs.Pairwise (· ≤ ·) → ys.Pairwise (· ≤ ·) → xs = ys
  | [], ys, p, _, _ => (List.Perm.nil_eq p)
  | x :: xs, [], p, _, _ => absurd p.length_eq (by simp)
  | x :: xs, y :: ys, p, h1, h2 => by
    have a := List.pairwise_cons.mp h1
    have b := List.pairwise_cons.mp h2
    have e : x = y := by
      have hx : x ∈ y :: ys := p.mem_iff.mp List.mem_cons_self
      have hy : y ∈ x :: xs := p.mem_iff.mpr List.mem_cons_self
      rcases List.mem_cons.mp hx with hx | hx
      · exact hx
      · rcases List.mem_cons.mp hy with hy | hy
        · exact hy.symm
        · have := a.1 y hy
          have := b.1 x hx
          omega
    subst e
    rw [sorted_eq (List.Perm.cons_inv p) a.2 b.2]
section
variable {G : Gam} {X : Cx} {E : WX}
theorem ints_of_reps {W : Addr → Prop} {H : Hp} : ∀ {l : List Val} {xs : List V} {O : List Addr} {ns : List Int}, Reps G W H xs l O → intsL l = some ns → xs = ns.map V.int ∧ l = ns.map Val.int
  | [], _, _, _, r, h => by cases r; cases h; exact ⟨rfl, rfl⟩
  | u :: l, _, _, ns, r, h => by
    cases r with
    | cons r t =>
      cases u with
      | int i =>
        simp only [intsL] at h
        cases hb : intsL l with
        | none => rw [hb] at h; cases h
        | some cs =>
          rw [hb] at h
          cases h
          cases r
          obtain ⟨a, b⟩ := ints_of_reps t hb
          exact ⟨by rw [a]; rfl, by rw [b]; rfl⟩
      | _ => cases h
theorem reps_ints {W : Addr → Prop} {H : Hp} : ∀ ns : List Int, Reps G W H (ns.map V.int) (ns.map Val.int) []
  | [] => .nil
  | n :: ns => .cons (O := []) (O' := []) (.int n) (reps_ints ns)
theorem ok_sorted (hK : X.K = G.K) : OkF G (rSortedI X.K) semSorted := by
  rw [hK]
  intro W H xs vs Ol v Q w r hs m
  unfold semSorted at hs
  split at hs
  · obtain ⟨x, O, rfl, r1⟩ := r.inv1
    split at hs
    · rename_i ns hb
      cases hs
      obtain ⟨a, ys, O1, rfl, e1, q1⟩ := rep_lstL r1
      obtain ⟨e, _⟩ := ints_of_reps q1 hb
      subst e
      refine ⟨a, ns, rfl, .inl (.inl e1), fun ns' p hp hs' hn => ?_⟩
      have : ns' = sortI ns := sorted_eq (hp.trans (sortI_perm ns).symm) hs' (sortI_sorted ns)
      subst this
      exact m.lst (reps_ints _) p hn
    · cases hs
  · cases hs
theorem intsL_map : ∀ ns : List Int, intsL (ns.map Val.int) = some ns
  | [] => rfl
  | n :: ns => by simp [intsL, intsL_map ns]
/-! ### enumerate -/
def enumV : Nat → List Val → List Val
  | _, [] => []
  | n, u :: us => .tup [.int (n : Int), u] :: enumV (n + 1) us
def mEnum (m : ME) : MI := fun ρ => match m ρ with
  | .ok (.lst false us) ρ' => .ok (enumV 0 us) ρ'
  | .ok _ _ => .bad
  | .exc e ρ' => .exc e ρ'
  | .bad => .bad
theorem enumV_len : ∀ (n : Nat) (us : List Val), (enumV n us).length = us.length
  | _, [] => rfl
  | n, u :: us => by simp [enumV, enumV_len (n + 1) us]
theorem enumV_at : ∀ (n i : Nat) (us : List Val), (enumV n us)[i]? = (us[i]?).map fun u => .tup [.int ((n + i : Nat) : Int), u]
  | n, i, [] => by simp [enumV]
  | n, 0, u :: us => by simp [enumV]
  | n, i + 1, u :: us => by
    have := enumV_at (n + 1) i us
    simp only [enumV, List.getElem?_cons_succ, this]
    have e : n + 1 + i = n + (i + 1) := by omega
    rw [e]
theorem walk_enum {W : Addr → Prop} {H : Hp} {a : Addr} {xs : List V} {us : List Val} (h1 : Fz W H a (.lst xs)) (r1 : Reps G W H xs us []) : Walk G W H (Ite G.K a) (enumV 0 us) := by
  intro W' H' kp i
  have q1 : SqL G.K H' a xs := .inl (.inl (kp _ _ h1.1 h1.2).1)
  have k1 := (kp _ _ h1.1 h1.2).1
  refine ⟨fun h => ⟨xs, q1, by rw [r1.length]; rw [enumV_len] at h; exact h⟩, fun u hu => ?_⟩
  rw [enumV_at] at hu
  cases hv : us[i]? with
  | none => rw [hv] at hu; cases hu
  | some v =>
  rw [hv] at hu
  cases hu
  obtain ⟨x, O1, Oi, O2, e1, e2, q⟩ := r1.split hv
  have eO : Oi = [] := by
    have : O1 = [] ∧ Oi = [] ∧ O2 = [] := by simpa using e2.symm
    exact this.2.1
  subst eO
  rw [show 0 + i = i from Nat.zero_add i]
  refine ⟨⟨xs, x, q1, e1⟩, fun y H'' hy => ?_⟩
  obtain ⟨T, x', rfl, hT, rfl, hx'⟩ := hy
  have ex : x' = x := by
    have := hx' xs q1
    rw [e1] at this
    cases this; rfl
  subst ex
  refine ⟨same_upd hT, fun ww => .tup (O := [] ++ ([] ++ [])) ⟨upd_same, fresh_nw ww T hT⟩ (.cons (.int _) (.cons ((q.mono kp fun _ z => nomatch z).upd hT fun z hz => .inl hz) .nil))⟩
variable {p s : Bool} {m : ME} {e : Expr} {pos : Pos}
theorem vi_enum {elts : List Expr} {kk : Nat} {tpos zp : Pos} (hK : X.K = G.K) (hg : Gl X "enumerate") (hm : X.mg "enumerate" = none) (h1 : VE G X E p s e m) (hs : starEach [e] X.env = (false, eval e X.env) :: starEach [] X.env := by rfl) (hs2 : starEach [e] X.env = [(false, eval e X.env)] := by rfl) :
    VI G X E (.Tuple elts kk tpos) (.Call (.Name "enumerate" zp) [e] [] pos) (mEnum m) := by
  refine PI.pre (pi_enum hg hm (pa_cons h1 pa_nil hs) hs2) fun σ H K ⟨R, ρ, Os, rel, post⟩ => ?_
  have key := nest_of (G := G) (E := E) (σ := σ) (os := [⟨p, s, m⟩]) wf1 rel (K := fun vs H1 => ∃ a xs, vs = [.ref a] ∧ SqL X.K H1 a xs ∧ K (Ite X.K a) H1) ?_
  · exact key
  · rw [evalA_eq]
    unfold mEnum at post
    simp only [List.map_cons, List.map_nil]
    cases he : m ρ with
    | bad => rw [he] at post; simp [evalM, he]; exact post
    | exc e ρ' => rw [he] at post; simp [evalM, he]; exact post
    | ok v ρ' =>
      rw [he] at post
      have e2 : evalM [m] ρ = .ok [v] ρ' := by simp [evalM, he]
      rw [e2]
      intro xs H' Os' Ol rel' reps nd keep pure
      match v, reps, post with
      | .lst false us, reps, post =>
        obtain ⟨x, O, rfl, r1⟩ := reps.inv1
        cases r1 with
        | @lstF a xs _ f1 g1 =>
        rw [hK]
        refine ⟨a, xs, rfl, .inl (.inl f1.1), post _ H' Os' (rel'.weak fun a z => .inl z) ?_ (keep.imp fun _ z => z.elim)⟩
        have up : ∀ c, WW R Os' c → WW (fun a => R a ∨ a ∈ stab [⟨p, s, m⟩] Ol) Os' c := fun c z => z.imp .inl id
        exact walk_enum ⟨f1.1, fun z => f1.2 (up _ z)⟩ (g1.weakW up)
/-! ### x.append(e), x.extend(e), where e changes names -/
def mLopN (i : Nat) (f : List Val → Val → Option (List Val)) (m : ME) : ME := fun ρ => match ρ[i]? with
  | some (some (.lst true _)) => (match m ρ with
    | .ok u ρ1 => (match ρ1[i]? with
      | some (some (.lst true ys)) => (match f ys u with
        | some zs => .ok .non (ρ1.set i (some (.lst true zs)))
        | none => .bad)
      | _ => .bad)
    | .exc e ρ1 => .exc e ρ1
    | .bad => .bad)
  | _ => .bad
theorem lopN_pre {i : Nat} {f : List Val → Val → Option (List Val)} {rr : V → List V → Hp → VK → Prop} {σ : L2.St} {H : Hp} {Q : VK} (ok : LopOk G rr f)
    (h : rd G E false true (mLopN i f m) σ H Q) : tNav X.K i [] σ H fun x H1 => tyV X.K "list" x H1 ∧ rd G E p true m σ H1 fun y H2 => rr x [y] H2 Q := by
  obtain ⟨R, ρ, Os, rel, post⟩ := h
  unfold mLopN at post
  split at post
  rotate_left
  · exact post.elim
  rename_i ys0 hv
  have e0 : (fun a => R a ∨ a ∈ ([] : List Addr)) = R := setEq fun a => ⟨fun z => z.elim id (fun z => nomatch z), Or.inl⟩
  obtain ⟨x, hx, rw'⟩ := rel.rep i _ hv
  obtain ⟨b, xs, ey, eb⟩ : ∃ b xs, x = .ref b ∧ H b = some (.lst xs) := by
    obtain ⟨a, ys, O1, e1, e2, _⟩ := rep_lstL rw'
    exact ⟨a, ys, e1, e2⟩
  refine ⟨x, x, hx, rfl, ?_, R, ρ, Os, rel, ?_⟩
  · subst ey
    exact .inl ⟨rfl, xs, .inl (.inl eb)⟩
  cases hm : m ρ with
  | bad => rw [hm] at post; exact post
  | exc e ρ1 => rw [hm] at post; exact post
  | ok u ρ1 =>
    rw [hm] at post
    dsimp only at post
    cases hv2 : ρ1[i]? with
    | none => rw [hv2] at post; exact post.elim
    | some v2 =>
    rw [hv2] at post
    match v2, hv2, post with
    | some (.lst true ys), hv2, post =>
    dsimp only at post
    cases hf : f ys u with
    | none => rw [hf] at post; exact post.elim
    | some zs =>
    rw [hf] at post
    dsimp only at post
    intro y2 H2 Os2 Ou rel2 rep2 nd2 keep2 _
    have e1 : Rp R true Ou = fun a => R a ∨ a ∈ Ou := setEq fun a => ⟨fun z => z.imp id fun z => z.2, fun z => z.imp id fun z => ⟨rfl, z⟩⟩
    rw [e1] at rel2 rep2
    have nO : ∀ a ∈ Ou, ¬ R a := fun a ha z => by
      obtain ⟨o, ea, nw⟩ := rel.hr a z
      exact (keep2 a o ea nw).2.2 ⟨rfl, ha⟩
    obtain ⟨x', y', Ow2, hx', nav', rw2, ndw, sub, chg⟩ := Rel.at_path (K := X.K) (r := []) rel2 nO (nd2 rfl) (fun _ _ z => nomatch z) hv2 rfl
    rw [hx] at hx'
    cases hx'
    cases nav'
    subst ey
    cases rw2 with
    | @lstO _ xs2 _ P0 eb2 q =>
    have dj : ∀ a ∈ b :: P0, a ∉ Ou := fun a ha z => rel2.dr i a (sub a ha) (.inr z)
    obtain ⟨xs', P, run, ndP, hP, mk⟩ := ok _ H2 b xs2 ys P0 u y2 Ou zs eb2 q rep2 ndw (nd2 rfl) dj hf
    refine run Q ?_
    have ndb := List.nodup_cons.mp ndw
    obtain ⟨Os', r3, k3⟩ := chg b (.lst xs') (.lst true zs) P rfl List.mem_cons_self (List.nodup_cons.mpr ⟨fun z => (hP b z).elim ndb.1 fun z => dj b List.mem_cons_self z, ndP⟩) (fun c hc => (hP c hc).imp (List.mem_cons_of_mem _) id) fun W' tr =>
      .lstO upd_same (mk W' _ fun z u Oz hz => tr z u Oz fun c hc => ⟨(hz c hc).imp (List.mem_cons_of_mem _) id, fun w => (hz c hc).elim (fun z => ndb.1 (w ▸ z)) fun z => dj b List.mem_cons_self (w ▸ z)⟩)
    refine post .non _ Os' [] (r3.weak fun a z => z.elim id fun z => nomatch z.2) .non (fun _ => List.nodup_nil) (fun a o ea nw => ?_) fun z => by cases z
    obtain ⟨e2, n1, n2⟩ := keep2 a o ea nw
    obtain ⟨e3, n3⟩ := k3 a o e2 n1 fun z => n2 ⟨rfl, z⟩
    exact ⟨e3, n3, fun z => nomatch z.2⟩
theorem ve_appN {i : Nat} {o : Expr} {apos : Pos} (ho : PE X o (tNav X.K i [])) (he : VE G X E p true e m) (hbase : attributeBase o "append" X.env (eval o X.env) = eval o X.env := by rfl)
    (hfew : ((backTo pos (starEach [e] X.env)).all (fun x => !x.1) && (backToKw pos (keywordEach [] X.env)).all (fun x => x.1.isSome) && decide (([e] : List Expr).length + ([] : List Keyword).length + (if ([] : List Keyword).isEmpty then 0 else 1) < 30)) = true := by rfl)
    (hline : (apos.endLine == pos.line) = true := by rfl) (hs : starEach [e] X.env = (false, eval e X.env) :: starEach [] X.env := by rfl) (hp : (backTo pos (starEach [] X.env)).any (·.1) = false := by rfl) : VE G X E false true (.Call (.Attribute o "append" apos) [e] [] pos) (mLopN i fApp m) :=
  PE.pre (pe_bm PySem.F.plainAttrs_list PySem.F.slot_list_append PySem.F.type_list_append mt_append ho (pa_cons he pa_nil hs) hbase hfew hline hs hp) fun σ H Q h => lopN_pre ok_app h
/-! ### list(range(n)) -/
def semLR : List Val → Option Val
  | [.int n] => if -(2 ^ 62) ≤ n ∧ n ≤ 16777216 then some (.lst true ((List.range n.toNat).map fun i : Nat => Val.int (i : Int))) else none
  | _ => none
def rLR : List V → Hp → VK → Prop := fun xs H Q => ∃ n : Int, xs = [.int n] ∧ RgOk 0 n ∧ ∀ q, H q = none → Q (.ref q) (upd H q (.lst (rgV 0 n)))
theorem ok_LR : OkF G rLR semLR := by
  intro W H xs vs Ol v Q w r hs m
  unfold semLR at hs
  split at hs
  · obtain ⟨x, O, rfl, r1⟩ := r.inv1
    split at hs
    · rename_i n hn
      cases hs
      cases r1
      have e : rgV 0 n = (((List.range n.toNat).map fun i : Nat => (i : Int)).map V.int) := by simp [rgV]
      have e2 : ((List.range n.toNat).map fun i : Nat => Val.int (i : Int)) = (((List.range n.toNat).map fun i : Nat => (i : Int)).map Val.int) := by simp
      rw [e2] at m
      refine ⟨n, rfl, ⟨by omega, by omega, hn.1, by omega, by omega⟩, ?_⟩
      rw [e]
      exact m.lst (reps_ints _)
    · cases hs
  · cases hs
theorem ve_lr {zp lp rp : Pos} (hc : X.calm = true) (hg : Gl X "list") (hm : X.mg "list" = none) (hg2 : Gl X "range") (hm2 : X.mg "range" = none) (h1 : VE G X E p s e m)
    (na : starEach [e] X.env = (false, eval e X.env) :: starEach [] X.env := by rfl) (na2 : starEach [.Call (.Name "range" rp) [e] [] pos] X.env = (false, eval (.Call (.Name "range" rp) [e] [] pos) X.env) :: starEach [] X.env := by rfl) : VE G X E p true (.Call (.Name "list" lp) [.Call (.Name "range" rp) [e] [] pos] [] zp) (mFun semLR [m]) := by
  have h := ve_fun (G := G) (E := E) (os := [⟨p, s, m⟩]) (r := rLR) (pe_listRg (p := lp) (pos := zp) hc hg hm (prg_1 hg2 hm2 h1 na) na2) (fun σ H Q z => rd_mono z fun x H1 ⟨n, e, r, q⟩ => ⟨n, by cases e; rfl, r, q⟩) ok_LR wf1
  simpa using h
end
end VL
/-! VL, part WX: C.m(..), m a static method. -/
namespace VL
open PySem L2 ClX
/-- where a static method's record stands, its def -/
def smP (K : PySem.W.Frag) (C : Addr) (m : Str) : Addr := match PySem.W.findIn K (.ref C) m with
  | some (some (.ref p)) => p
  | _ => 0
def smF (K : PySem.W.Frag) (C : Addr) (m : Str) : Addr := match PySem.W.recIn K (smP K C m) "staticmethod" with
  | some (.ref f :: _) => f
  | _ => 0
/-- C.m is a static method: its record at p, its def at f -/
structure SMet (K : PySem.W.Frag) (C : Addr) (m : Str) (p f : Addr) : Prop where
  rd : PySem.W.readsIn K C (.type "type") = true
  ga : PySem.W.specialIn K (.ref C) "__getattribute__" = some (some (.builtin "type.__getattribute__"))
  at_ : PySem.W.findCls K (.ref C) (.type "type") m = some (.get (.builtin "staticmethod.__get__") (.ref p) .none (.ref C))
  rc : ∃ rest, PySem.W.recIn K p "staticmethod" = some (.ref f :: rest)
  kp : PySem.W.keepIn K (.ref f) = true
/-- the test of it -/
def isGet (K : PySem.W.Frag) (C : Addr) (m : Str) : Bool := match PySem.W.findCls K (.ref C) (.type "type") m with
  | some (.get g a o t) => decide (g = .builtin "staticmethod.__get__") && decide (a = .ref (smP K C m)) && decide (o = .none) && decide (t = .ref C)
  | _ => false
def tSMet (c m : Str) : Ftest := fun K => PySem.W.readsIn K (He.ga K c) (.type "type") && (decide (PySem.W.specialIn K (.ref (He.ga K c)) "__getattribute__" = some (some (.builtin "type.__getattribute__"))) && (isGet K (He.ga K c) m && ((match PySem.W.recIn K (smP K (He.ga K c) m) "staticmethod" with
  | some (.ref _ :: _) => true
  | _ => false) && PySem.W.keepIn K (.ref (smF K (He.ga K c) m)))))
theorem smet_ok {K : PySem.W.Frag} {c m : Str} (h : tSMet c m K = true) : SMet K (He.ga K c) m (smP K (He.ga K c) m) (smF K (He.ga K c) m) := by
  unfold tSMet at h
  simp only [Bool.and_eq_true, decide_eq_true_eq] at h
  obtain ⟨h1, h2, h3, h4, h5⟩ := h
  refine ⟨h1, h2, ?_, ?_, h5⟩
  · unfold isGet at h3
    split at h3
    · rename_i g a o t e
      simp only [Bool.and_eq_true, decide_eq_true_eq] at h3
      obtain ⟨⟨⟨rfl, rfl⟩, rfl⟩, rfl⟩ := h3
      exact e
    · cases h3
  · split at h4
    · rename_i f rest e
      refine ⟨rest, ?_⟩
      have : smF K (He.ga K c) m = f := by unfold smF; rw [e]
      rw [this]; exact e
    · cases h4
section
variable {G : Gam} {X : Cx} {E : WX} {e o : Expr} {es : List Expr} {as : List Arg} {pos apos : Pos} {C p f : Addr} {m : Str}
theorem getsm_ok {A : Around} {E : Value → Shared → Prop} {pins : List (Addr × Obj)} {σ : L2.St} {H : Hp} {s : Shared} {pl : Sem Bool} {Q : Value × List Value → Shared → Prop} (I : Inv X pins σ H s) (k : SMet X.K C m p f)
    (h : ∀ s', Inv X pins σ H s' → Q (.ref f, []) s') : wpAny (model X.prog X.w) A (getMethod (.ref C) m pl) Q E s := by
  obtain ⟨rest, hp⟩ := k.rc
  refine PySem.W.method_cls I.kIn k.ga (PySem.W.cls_bind I.kIn k.rd k.at_ ?_)
  refine wpAny_call (PySem.W.sm_get (s := { s with toks := s.toks + 1 }) I.kIn hp (PySem.W.handed_on rfl ?_))
  exact h _ (I.tok _)
theorem ve_static {pl : Sem Bool} {n : Nat} {mf : MF} {dks : List (V × Val)} (k : SMet X.K C m p f) (ho : PE X o (tC (.ref C))) (hc : CalV G X E (.ref f) n mf dks) (ha : VAg G X E (e :: es) as) (hd : DflL G dks) (hs : (vals as).all (·.s) = true := by rfl) (hnk : noK as = true := by rfl) (hn : as.length + dks.length = n := by rfl)
    (he : starEach (e :: es) X.env = (false, eval e X.env) :: starEach es X.env := by rfl) (hpl : (backTo pos (starEach es X.env)).any (·.1) = false := by rfl) (ht : eval (.Call (.Attribute o m apos) (e :: es) [] pos) X.env = mcTree o m apos pos (e :: es) pl X.env := by rfl) :
    VE G X E (argsP (as ++ dArgs dks)) true (.Call (.Attribute o m apos) (e :: es) [] pos) (mCall mf (as ++ dArgs dks)) := by
  refine ⟨fun pins s1 σ H Q I h => PySem.W.methodCall_KW (pl := pl) (thn (ho.run pins s1 σ H (fun x H1 => x = .ref C ∧ H1 = H) I ⟨rfl, rfl⟩) fun u s2 hx => ?_) ht⟩
  obtain ⟨x, H1, I1, rx, ex, eh⟩ := hx
  subst ex
  subst eh
  obtain rfl : u = Value.ref C := rx
  refine getsm_ok I1 k fun s3 I3 => PySem.W.callWith_K (first := []) (h₀ := X.base) I3.ok.mod.kin k.kp ?_ he hpl
  exact thn (ha.run pos pins s3 σ H1 _ I3 (call_dk hd hnk hs hn h)) fun us s4 ⟨xs, H2, I2, r, q⟩ => ⟨I2.kIn, hc pins s4 σ H2 xs us Q I2 r q⟩
end
/-! ### x(..), x an own object -/
/-- the first is an object of the class c -/
def mfOwn (c : Nat) (mf : MF) : MF := fun vs => match vs with
  | .obj o n fs xs :: r => if n = c then mf (.obj o n fs xs :: r) else .bad
  | _ => .bad
def mCallO (i c : Nat) (mf : MF) (as : List Arg) : ME := fun ρ => match ρ[i]? with
  | some (some (.obj _ n _ _)) => if n = c then mCall (mfOwn c mf) (.r i :: as) ρ else .bad
  | _ => .bad
section
open PySem.W PySem.Calls PyProof.Rows
variable {M : Model} {A : Around} {E : Value → Shared → Prop} {s : Shared} {K : Frag} {env : Env} {pos : Pos} {x : Addr} {first : List Value} {Q : Value → Shared → Prop}
theorem callWith_own {args : List (Bool × Sem Value)} {keywords : List (Option Str × Sem Value)} (hplain : (args.any (·.1) || keywords.any (·.1.isNone)) = false)
    (h : wpAny M A (evalArgs (.ref x) true args keywords) (fun a s₁ => (∃ ox, s₁.heap.get? x = some ox ∧ ox.data = .plain) ∧ wpAny M A (call (.ref x) (first ++ a.pos) a.kw) Q E s₁) E s) : wpAny M A (callWith pos (.ref x) first args keywords) Q E s := by
  unfold callWith
  refine wpAny_bind (wpAny_holding (wpAny_mono h (fun a s₁ h₁ => wpAny_bind (wpAny_standAt ?_)) fun _ _ y => y))
  obtain ⟨⟨ox, h2, hd⟩, h3⟩ := h₁
  have L : Looks M s₁.heap (keeperOf (.ref x)) .caller := by
    refine (Looks.ld (part := none) h2).andThen ?_
    simp only [hd]
    exact .now
  simp only [hplain]
  refine wpAny_bind (L.here ?_)
  have tail : ∀ {t : Sem Value}, wpAny M A t Q E s₁ → wpAny M A (t >>= fun r => holding [r] point >>= fun _ => pure r) Q E s₁ :=
    fun ht => wpAny_bind (wpAny_mono ht (fun r s₂ hr => wpAny_bind (wpAny_holding (wpAny_point (wpAny_pure hr)))) fun _ _ y => y)
  exact tail (wpAny_operateT h3)
end
section
variable {G : Gam} {X : Cx} {E : WX} {e : Expr} {es : List Expr} {as : List Arg} {pos px : Pos} {C f : Addr} {x : Str}
theorem ve_callO {i c k n : Nat} {fd : FuncData} {ps : List Str} {mf : MF} (hcn : G.cn c = some C) (hc1 : PySem.W.findIn X.K (.ref C) "__call__" = some (some (.ref f))) (hc2 : PySem.W.isFn X.K (.ref f) = true) (hc3 : PySem.W.fnIn X.K f = true) (hN : X.N[i]? = some x) (hv : Vis X.env.scope x)
    (F : FnOk X.prog X.w X.K X.mg X.base (L2.CX X.prog X.w) k f fd ps (spV G n mf)) (hr : Room k X.A) (hb : Binds X.K fd ps []) (tk : Takes X E) (ha : VAg G X E (e :: es) as)
    (hs : (vals as).all (·.s) = true := by rfl) (hnk : noK as = true := by rfl) (hn : as.length + 1 = n := by rfl) (hdb : (x == ("__debug__" : Str)) = false := by decide) (hcd : (x == ("__classdict__" : Str)) = false := by decide)
    (he : starEach (e :: es) X.env = (false, eval e X.env) :: starEach es X.env := by rfl) (hpl : (backTo pos (starEach es X.env)).any (·.1) = false := by rfl) : VE G X E false true (.Call (.Name x px) (e :: es) [] pos) (mCallO i c mf as) := by
  refine ⟨fun pins s1 σ H Q I ⟨R, ρ, Os, rel, post⟩ => ?_⟩
  unfold mCallO at post
  split at post
  rotate_left
  · exact post.elim
  rename_i o0 n0 fs0 xs0 hk
  by_cases hn0 : n0 = c
  rotate_left
  · rw [if_neg hn0] at post; exact post.elim
  rw [if_pos hn0] at post
  obtain ⟨y, hy, rep0⟩ := rel.rep i _ hk
  obtain ⟨a, C0, dx0, fs1, rfl, ea0, hC0, _⟩ := rep_obj rep0
  have h2 : rd G E (argsP (.r i :: as ++ dArgs [])) true (mCall (mfOwn c mf) (.r i :: as ++ dArgs [])) σ H Q := by
    have e : (.r i :: as ++ dArgs [] : List Arg) = .r i :: as := by simp [dArgs]
    rw [e]
    exact ⟨R, ρ, Os, rel, post⟩
  obtain ⟨y, hy2, q⟩ := call_dk (as := .r i :: as) (dks := []) (n := n) (fun q hq => nomatch hq) hnk hs (by simpa using hn) (σ := σ) h2
  rw [hy] at hy2
  cases hy2
  refine wpAny_Call_Name_kw (thn ((pe_var (pos := px) hN hv hdb hcd).run pins s1 σ H (fun v H1 => v = .ref a ∧ H1 = H) I ⟨.ref a, hy, rfl, rfl⟩) fun u s2 ⟨v, H1, I1, r1, q1⟩ => ?_)
  obtain ⟨rfl, rfl⟩ := q1
  cases r1
  rw [he]
  refine callWith_own (by show ((false || (backTo pos (starEach es X.env)).any (·.1)) || false) = false; rw [hpl]; rfl) (PySem.Calls.evalArgs_plain ?_)
  have run := ha.run pos pins s2 σ _ _ I1 q
  rw [he] at run
  refine thn run fun us s3 ⟨xs, H2, I2, r, q2⟩ => ?_
  obtain ⟨len0, R2, vs, Oa, rel2, post2⟩ := q2
  have hl := rel2.len
  cases vs with
  | nil => exact post2.elim
  | cons v vs =>
  obtain ⟨x', e', rr⟩ := rel2.rep 0 v rfl
  have ex : V.ref a = x' := by simpa using e'
  subst ex
  obtain ⟨o, fs, ys, rfl, e2⟩ : ∃ o fs ys, v = .obj o c fs ys ∧ mfOwn c mf (v :: vs) = mf (v :: vs) := by
    cases v with
    | obj o n1 fs ys =>
      by_cases hn1 : n1 = c
      · subst hn1
        exact ⟨o, fs, ys, rfl, if_pos rfl⟩
      · have e2 : mfOwn c mf (.obj o n1 fs ys :: vs) = .bad := if_neg hn1
        rw [e2] at post2
        exact post2.elim
    | _ => exact post2.elim
  rw [e2] at post2
  obtain ⟨a', C', dx, fs', ea', ea, hC, _⟩ := rep_obj rr
  cases ea'
  rw [hcn] at hC; cases hC
  obtain ⟨hx, od, J⟩ := ins_here I2 ea
  refine ⟨⟨_, hx, rfl⟩, ?_⟩
  have q4 : spV G n mf (.ref a :: xs) H2 Q (WE E σ) := ⟨by simpa using len0, R2, .obj o c fs ys :: vs, Oa, by simpa using rel2, by simpa using post2⟩
  have hlen : (Value.ref a :: us).length = ps.length := by rw [← F.len _ _ _ _ q4, List.length_cons, List.length_cons, r.length]
  have b := hb s3 (.ref a :: us) I2.kIn (by rw [List.append_nil]; exact hlen)
  rw [List.append_nil] at b
  refine wpAny_call (PySem.W.kco_code I2.kIn J rfl hc1 hc2 hc3 (codeAny_mono (F.run X.A X.stack s3 H2 ⟨.ref a :: us, []⟩ (.ref a :: us) (.ref a :: xs) Q (WE E σ) hr I2.env0 b (.cons rfl r) q4) fun res s' hq => ?_))
  cases res with
  | error er => exact passAt tk σ pins H2 s3 er s' I2 hq
  | ok fl =>
    cases fl with
    | ret u => exact I2.after hq
    | next => exact False.elim hq
    | brk => exact False.elim hq
    | cont => exact False.elim hq
/-- f(e, .., k = v, ..), all parameters written -/
theorem ve_callK1 {k n : Nat} {fd : FuncData} {ps ks : List Str} {mf : MF} {kws : List Keyword} {os1 os2 : List Op} {g : List Value → List Value → List Value} {gV : List V → List V → List V}
    (F : FnOk X.prog X.w X.K X.mg X.base (L2.CX X.prog X.w) k f fd ps (spV G n mf)) (hr : Room k X.A) (hb : KBn X.K fd ps os1.length ks g gV) (tk : Takes X E) (hg : Gl X x) (hm : X.mg x = some (.ref f)) (hk : PySem.W.keepIn X.K (.ref f) = true) (ha : VAs G X E (e :: es) os1) (hkw : PK X kws fun σ H K => nest G E os2 σ H K) (df : Dfl G as)
    (hv : vals as = os1 ++ os2) (hgv : ∀ xs zs, xs.length = os1.length → zs.length = os2.length → gV xs zs = mergeD0 as (xs ++ zs)) (hn : as.length = n := by rfl) (hs : (vals as).all (·.s) = true := by rfl) (nr : noRefs as = true := by rfl) (hks0 : os2.length = ks.length := by rfl)
    (hall : (backToKw pos (keywordEach kws X.env)).all (·.1.isSome) = true := by rfl) (hks : (backToKw pos (keywordEach kws X.env)).filterMap (·.1) = ks := by rfl) (hdb : (x == ("__debug__" : Str)) = false := by decide)
    (he : starEach (e :: es) X.env = (false, eval e X.env) :: starEach es X.env := by rfl) (hpl : ((backTo pos (starEach (e :: es) X.env)).any (·.1) || (backToKw pos (keywordEach kws X.env)).any (·.1.isNone)) = false := by rfl) :
    VE G X E (argsP as) true (.Call (.Name x px) (e :: es) kws pos) (mCall mf as) := by
  refine ⟨fun pins s σ H Q I h => ?_⟩
  have q0 := nest_of_G nr (call_of df hs hn h)
  rw [hv] at q0
  have q1 := nest_len (nest_app q0)
  have q2 := nest_imp q1 (K' := fun xs H1 => xs.length = os1.length ∧ nest G E os2 σ H1 fun zs H2 => zs.length = os2.length ∧ spV G n mf (mergeD0 as (xs ++ zs)) H2 Q (WE E σ)) fun xs H1 ⟨l, z⟩ => ⟨l, nest_len z⟩
  refine wpAny_Call_Name_kw (ld_glob I hg hm ?_ hdb)
  refine PySem.W.callWith_KW (h₀ := X.base) I.ok.mod.kin hk hall (thn (ha.run pos pins s σ H _ I q2) fun us s1 ⟨xs, H1, I1, r, lx, q3⟩ => ?_) hpl he
  refine thn (hkw.run pos pins s1 σ H1 _ I1 q3) fun ws s2 ⟨zs, H2, I2, rz, hlen, q2⟩ => ⟨I2.kIn, ?_⟩
  rw [hks]
  rw [← hgv xs zs lx hlen] at q2
  refine wpAny_call (codeAny_mono (F.run X.A X.stack s2 H2 ⟨us, ks.zip ws⟩ (g us ws) (gV xs zs) Q (WE E σ) hr I2.env0 (hb.to s2 us ws I2.kIn (by rw [← r.length, lx]) (by rw [← rz.length, hlen, hks0])) (hb.rel r rz) q2) fun res s' hq => ?_)
  cases res with
  | error er => exact passAt tk σ pins H2 s2 er s' I2 hq
  | ok fl =>
    cases fl with
    | ret u => exact I2.after hq
    | next => exact False.elim hq
    | brk => exact False.elim hq
    | cont => exact False.elim hq
end
end VL
/-! VL, part WY: a in b, b an own object. -/
namespace VL
open PySem L2
def mfIn (g : Bool → Bool) (c : Nat) (ml : MF) : MF := fun vs => match vs with
  | [v, .obj o n fs xs] => if n = c then boolR g (ml [.obj o n fs xs, v]) else .bad
  | _ => .bad
structure OwnIn (K : PySem.W.Frag) (C f : Addr) : Prop where
  l : PySem.W.findIn K (.ref C) "__contains__" = some (some (.ref f))
  lf : PySem.W.isFn K (.ref f) = true
def tOwnIn (c : Str) : Ftest := fun K => decide (PySem.W.findIn K (.ref (He.ga K c)) "__contains__" = some (some (.ref (He.ma K (He.ga K c) "__contains__")))) && PySem.W.isFn K (.ref (He.ma K (He.ga K c) "__contains__"))
theorem ownin_ok {K : PySem.W.Frag} {c : Str} (h : tOwnIn c K = true) : OwnIn K (He.ga K c) (He.ma K (He.ga K c) "__contains__") := by
  unfold tOwnIn at h
  rw [Bool.and_eq_true, decide_eq_true_eq] at h
  exact ⟨h.1, h.2⟩
section
open PySem.W PySem.Calls PyProof.Rows Builtin
variable {M : Model} {A : Around} {E : Value → Shared → Prop} {s : Shared} {K : Frag} {x C f : Addr} {ox : Obj} {od : Option Obj} {v : Value}
theorem contains_own {Q : Bool → Shared → Prop} (X : K.In s.heap) (I : InstAt s.heap x ox C od) (hs : findIn K (.ref C) "__contains__" = some (some (.ref f))) (hf : isFn K (.ref f) = true)
    (h : wpAny M A (call (.ref f) [.ref x, v]) (fun r s' => wpAny M A (truthy r) Q E s') E s) : wpAny M A (contains (.ref x) v) Q E s := by
  unfold contains
  refine wpAny_holding (wpAny_bind (wpAny_bind (I.type.here ((looks_findIn X hs).here ?_))))
  rw [if_neg (by simp)]
  exact wpAny_bind (unlessNone_K X I hs hf h)
end
section
variable {G : Gam} {X : Cx} {E : WX} {a b : Expr} {C f : Addr} {c : Nat} {ml : MF} {p1 p2 : Bool} {m1 m2 : ME} {H : Hp}
theorem in_own {g : Bool → Bool} {x y : V} {Q : VK} {E : XK} (hc : G.cn c = some C) (h : spV G 2 (mfIn g c ml) [x, y] H Q E) :
    ∃ b dy gs, y = .ref b ∧ H b = some (.ins C dy gs) ∧ spV G 2 ml [y, x] H (fun z H' => ∃ k, z = .bl k ∧ Q (.bl (g k)) H') E := by
  obtain ⟨_, R, v, u, Oa, rel, r1, r2, post⟩ := sp_two h
  have fin : ∀ {τ : L2.St} {r : RE} {ρ2 : VEnv} {Os : Nat → List Addr}, (∀ a, We Os a ↔ We Oa a) → Post G R (fun c d _ H => E c d H) [some x, some y] H Oa false true [some v, some u] Q (boolR g r) → Post G R (fun c d _ H => E c d H) τ H Os false true ρ2 (fun z H' => ∃ k, z = .bl k ∧ Q (.bl (g k)) H') r := by
    intro τ r ρ2 Os hw post
    cases r with
    | bad => exact post
    | exc e ρ' => exact fun c d H' Os' rel rx k => post c d H' (fun _ => []) (rel.void _) (rx.mono fun a o e nw => ⟨e, fun z => nw (z.imp id fun z => (we_nil z).elim)⟩) fun a o e nw => k.void a o e fun z => nw ((hw a).mp z)
    | ok w ρ' =>
      cases w with
      | bl k =>
        intro x' H' Os' O rel rep nd kk _
        cases rep
        refine ⟨k, rfl, post (.bl (g k)) H' (fun _ => []) [] ((rel.void _).weak fun a z => z.elim .inl fun z => nomatch z.2) (.bl _) (fun _ => List.nodup_nil) (fun a o e nw => ?_) fun z => by cases z⟩
        obtain ⟨e1, n1, _⟩ := kk.void a o e fun z => nw ((hw a).mp z)
        exact ⟨e1, n1, fun z => nomatch z.2⟩
      | _ => exact post.elim
  unfold mfIn at post
  split at post
  · rename_i w o n fs xs hvu
    cases hvu
    by_cases hn : n = c
    · rw [if_pos hn] at post
      subst hn
      obtain ⟨b, C', dy, gs', rfl, eb, hC, _⟩ := rep_obj r2
      rw [hc] at hC; cases hC
      refine ⟨b, dy, gs', rfl, eb, rfl, R, [_, _], _, rel.swap, fin (fun a => ?_) post⟩
      constructor
      · rintro ⟨j, z⟩
        match j, z with
        | 0, z => exact ⟨1, z⟩
        | 1, z => exact ⟨0, z⟩
        | _ + 2, z => exact nomatch z
      · rintro ⟨j, z⟩
        match j, z with
        | 0, z => exact ⟨1, z⟩
        | 1, z => exact ⟨0, z⟩
        | j + 2, z => rw [rel.nil (j + 2) (fun v hv => by simp at hv)] at z; cases z
    · rw [if_neg hn] at post; exact post.elim
  · exact post.elim
theorem in_run {g : Bool → Bool} {op : CmpOp} (hop : (op = .In ∧ g = id) ∨ (op = .NotIn ∧ g = not)) (T : OwnIn X.K C f) (hc : G.cn c = some C) (hl : CalV G X E (.ref f) 2 ml []) (pins : List (Addr × Obj)) (s : Shared) (σ : L2.St) (H : Hp) (x y : V) (v u : Value) (Q : VK)
    (I : Inv X pins σ H s) (rx : RelV x v) (ry : RelV y u) (h : spV G 2 (mfIn g c ml) [x, y] H Q (WE E σ)) : wpAny (model X.prog X.w) X.A (compareOp op v u) (EP X pins σ Q) X.xe s := by
  obtain ⟨b, dy, gs, rfl, eb, q⟩ := in_own hc h
  obtain rfl : u = Value.ref b := ry
  obtain ⟨hx, od, J⟩ := ins_here I eb
  have one := hl pins s σ H [.ref b, x] [.ref b, v] _ I (.cons rfl (.cons rx .nil)) (by show spV G 2 ml ([.ref b, x] ++ []) H _ _; rw [List.append_nil]; exact q)
  rcases hop with ⟨rfl, rfl⟩ | ⟨rfl, rfl⟩
  · refine wpAny_bind (contains_own I.kIn J T.l T.lf (wpAny_mono one (fun w s' ⟨z, H', I', rz, k, e, qq⟩ => ?_) fun _ _ z => z))
    subst e
    cases rz
    exact wpAny_truthy_bool (wpAny_pure ⟨.bl k, H', I', rfl, qq⟩)
  · refine wpAny_bind (contains_own I.kIn J T.l T.lf (wpAny_mono one (fun w s' ⟨z, H', I', rz, k, e, qq⟩ => ?_) fun _ _ z => z))
    subst e
    cases rz
    exact wpAny_truthy_bool (wpAny_pure ⟨.bl (!k), H', I', rfl, qq⟩)
theorem pc_ino {g : Bool → Bool} {op : CmpOp} (hop : (op = .In ∧ g = id) ∨ (op = .NotIn ∧ g = not)) (T : OwnIn X.K C f) (hc : G.cn c = some C) (hl : CalV G X E (.ref f) 2 ml []) (h1 : VE G X E p1 true a m1) (h2 : VE G X E p2 true b m2) :
    PC X op a b (rd G E (p1 && p2) true (mCall (mfIn g c ml) [.v ⟨p1, true, m1⟩, .v ⟨p2, true, m2⟩])) := by
  refine ⟨fun pins s σ H Q I h => ?_⟩
  have q := call_of (E := E) (as := [.v ⟨p1, true, m1⟩, .v ⟨p2, true, m2⟩]) (n := 2) trivial rfl rfl (σ := σ) (H := H) (Q := Q) (mf := mfIn g c ml) (by simpa [argsP] using h)
  refine thn (h1.run pins s σ H _ I q) fun v s1 hv => ?_
  obtain ⟨x, H1, I1, rx, q1⟩ := hv
  refine thn (h2.run pins s1 σ H1 _ I1 q1) fun u s2 hu2 => ?_
  obtain ⟨y, H2, I2, ry, q2⟩ := hu2
  exact in_run hop T hc hl pins s2 σ H2 x y v u Q I2 rx ry q2
end
end VL
/-! VL, part XA: max, min, sum of a list of ints; any of a list of bools. -/
namespace VL
open PySem L2
def maxL : Int → List Int → Int
  | m, [] => m
  | m, x :: xs => maxL (if x > m then x else m) xs
def minL : Int → List Int → Int
  | m, [] => m
  | m, x :: xs => minL (if x < m then x else m) xs
theorem maxL_mem : ∀ (m : Int) (xs : List Int), maxL m xs ∈ m :: xs
  | m, [] => by simp [maxL]
  | m, x :: xs => by
    have := maxL_mem (if x > m then x else m) xs
    unfold maxL
    rcases List.mem_cons.mp this with h | h
    · split at h
      · rename_i c; rw [if_pos c, h]; simp
      · rename_i c; rw [if_neg c, h]; simp
    · exact List.mem_cons_of_mem _ (List.mem_cons_of_mem _ h)
theorem maxL_ge : ∀ (m : Int) (xs : List Int), ∀ y ∈ m :: xs, y ≤ maxL m xs
  | m, [], y, h => by simp at h; simp [maxL, h]
  | m, x :: xs, y, h => by
    have e : maxL m (x :: xs) = maxL (if x > m then x else m) xs := rfl
    rw [e]
    by_cases c : x > m
    · rw [if_pos c]
      have ih := maxL_ge x xs
      rcases List.mem_cons.mp h with h | h
      · have := ih x List.mem_cons_self; omega
      · exact ih y h
    · rw [if_neg c]
      have ih := maxL_ge m xs
      rcases List.mem_cons.mp h with h | h
      · exact ih y (by rw [h]; exact List.mem_cons_self)
      · rcases List.mem_cons.mp h with h | h
        · have := ih m List.mem_cons_self; omega
        · exact ih y (List.mem_cons_of_mem _ h)
theorem minL_mem : ∀ (m : Int) (xs : List Int), minL m xs ∈ m :: xs
  | m, [] => by simp [minL]
  | m, x :: xs => by
    have := minL_mem (if x < m then x else m) xs
    unfold minL
    rcases List.mem_cons.mp this with h | h
    · split at h
      · rename_i c; rw [if_pos c, h]; simp
      · rename_i c; rw [if_neg c, h]; simp
    · exact List.mem_cons_of_mem _ (List.mem_cons_of_mem _ h)
theorem minL_le : ∀ (m : Int) (xs : List Int), ∀ y ∈ m :: xs, minL m xs ≤ y
  | m, [], y, h => by simp at h; simp [minL, h]
  | m, x :: xs, y, h => by
    have e : minL m (x :: xs) = minL (if x < m then x else m) xs := rfl
    rw [e]
    by_cases c : x < m
    · rw [if_pos c]
      have ih := minL_le x xs
      rcases List.mem_cons.mp h with h | h
      · have := ih x List.mem_cons_self; omega
      · exact ih y h
    · rw [if_neg c]
      have ih := minL_le m xs
      rcases List.mem_cons.mp h with h | h
      · exact ih y (by rw [h]; exact List.mem_cons_self)
      · rcases List.mem_cons.mp h with h | h
        · have := ih m List.mem_cons_self; omega
        · exact ih y (List.mem_cons_of_mem _ h)
def semMaxL : List Val → Option Val
  | [.lst _ l] => match intsL l with
    | some (n :: ns) => some (.int (maxL n ns))
    | _ => none
  | _ => none
def semMinL : List Val → Option Val
  | [.lst _ l] => match intsL l with
    | some (n :: ns) => some (.int (minL n ns))
    | _ => none
  | _ => none
def semSum : List Val → Option Val
  | [.lst _ l] => match intsL l with
    | some ns => some (.int ns.sum)
    | none => none
  | _ => none
def semAny : List Val → Option Val
  | [.lst _ l] => match bools l with
    | some bs => some (.bl (bs.any id))
    | none => none
  | _ => none
section
variable {G : Gam} {X : Cx}
theorem ok_maxL (hK : X.K = G.K) : OkF G (rMax X.K) semMaxL := by
  rw [hK]
  intro W H xs vs Ol v Q w r hs m
  unfold semMaxL at hs
  split at hs
  · obtain ⟨x, O, rfl, r1⟩ := r.inv1
    split at hs
    · rename_i n ns hb
      cases hs
      obtain ⟨a, ys, O1, rfl, e1, q1⟩ := rep_lstL r1
      obtain ⟨e, _⟩ := ints_of_reps q1 hb
      subst e
      refine ⟨a, n :: ns, rfl, .inl (.inl e1), by simp, fun k hk hle => ?_⟩
      have a1 := hle _ (maxL_mem n ns)
      have a2 := maxL_ge n ns k hk
      have : k = maxL n ns := by omega
      subst this
      exact m.same (.int _)
    · cases hs
  · cases hs
theorem ok_minL (hK : X.K = G.K) : OkF G (rMin X.K) semMinL := by
  rw [hK]
  intro W H xs vs Ol v Q w r hs m
  unfold semMinL at hs
  split at hs
  · obtain ⟨x, O, rfl, r1⟩ := r.inv1
    split at hs
    · rename_i n ns hb
      cases hs
      obtain ⟨a, ys, O1, rfl, e1, q1⟩ := rep_lstL r1
      obtain ⟨e, _⟩ := ints_of_reps q1 hb
      subst e
      refine ⟨a, n :: ns, rfl, .inl (.inl e1), by simp, fun k hk hle => ?_⟩
      have a1 := hle _ (minL_mem n ns)
      have a2 := minL_le n ns k hk
      have : k = minL n ns := by omega
      subst this
      exact m.same (.int _)
    · cases hs
  · cases hs
theorem ok_sum (hK : X.K = G.K) : OkF G (rSum X.K) semSum := by
  rw [hK]
  intro W H xs vs Ol v Q w r hs m
  unfold semSum at hs
  split at hs
  · obtain ⟨x, O, rfl, r1⟩ := r.inv1
    split at hs
    · rename_i ns hb
      cases hs
      obtain ⟨a, ys, O1, rfl, e1, q1⟩ := rep_lstL r1
      obtain ⟨e, _⟩ := ints_of_reps q1 hb
      subst e
      exact ⟨a, ns, rfl, .inl (.inl e1), m.same (.int _)⟩
    · cases hs
  · cases hs
theorem ok_any (hK : X.K = G.K) : OkF G (rAny X.K) semAny := by
  rw [hK]
  intro W H xs vs Ol v Q w r hs m
  unfold semAny at hs
  split at hs
  · obtain ⟨x, O, rfl, r1⟩ := r.inv1
    split at hs
    · rename_i bs hb
      cases hs
      obtain ⟨a, ys, O1, rfl, e1, q1⟩ := rep_lstL r1
      have e := bools_of q1 hb
      subst e
      exact ⟨a, bs, rfl, .inl (.inl e1), m.same (.bl _)⟩
    · cases hs
  · cases hs
end
end VL
/-! VL, part XB: dicts by keys that are flat tuples; in by plain data; tuple * n; zip of a tuple and a list. -/
namespace L2
open PySem PySem.Spec PyProof.Rows
/-- what a comprehension stores: keys of either kind -/
theorem put_dc {X : Cx} {pins : List (Addr × Obj)} {σ : St} {H H' : Hp} {s : Shared} {E : Value → Shared → Prop} {D : Addr} {y z : V} {u r : Value} {Q : Unit → Shared → Prop} (hu : X.A.units < cLine) (Iv : Inv X pins σ H s) (gp : DPut H D y z H')
    (ry : RelV y u) (rz : RelV z r) (fin : ∀ s', Inv X pins σ H' s' → Q () s') : wpAny (model X.prog X.w) X.A (dictSet D u r) Q E s := by
  rcases gp with ⟨kvs, k, eD, rfl, hl, rfl⟩ | ⟨kvs, k, b, eD, rfl, eb, hl, rfl⟩
  · exact d_dictSet Iv eD hl ry rz fin
  · cases (show u = Value.ref b from ry)
    obtain ⟨fit, low, xs, q, dd⟩ := dt_of Iv.hok eD
    have fx : xs.length ≤ sizeLine := by rw [← Paired.length q]; exact fit
    refine wpAny_dictSet_heap (hsz := fx) hu (key_of Iv.hok eb) dd fun hp d2 same => fin _ ?_
    obtain ⟨o, es, ep, a1, a2, a3, a4, _, a5⟩ := d2
    have fit2 : (putK kvs k z).length ≤ sizeLine := by have := length_putK kvs k z; omega
    have kt := (q.put k eb rz).keeps (H' := upd H D (.dT (putK kvs k z))) fun c ys ec => by
      rw [upd_ne (ne_of ec eD (fun w => nomatch w))]; exact ec
    exact d_write Iv (by rw [eD]; trivial) same ⟨o, a1⟩ ⟨fit2, low, _, kt, o, es, ep, a1, a2, a3, a4, a5⟩
end L2
namespace L2
open PySem PySem.Spec PyProof.Rows
/-- {k: v for target in iter if ..}: u0 is the dict at its beginning, its keys ints and texts, or flat tuples -/
def tDcP (u0 : HO) (wi : TI) (g : TG) (tt : TT) (tk tv : TE) (ow : List Nat) : TE := fun σ H Q => wi σ H fun J H1 => ∀ D, H1 D = none → ∃ M : Nat → Nat → Hp → Prop, (∃ n, M 0 n (upd H1 D u0)) ∧ ∀ j n Hj, M j n Hj →
  (J.stop j Hj ∧ Q (.ref D) Hj) ∨ (J.go j Hj ∧ ∃ Nx : Hp → Prop, (∀ H', Nx H' → ∃ n', n' < n ∧ M (j + 1) n' H') ∧ ∀ x H', J.yld j Hj x H' → g x (wipe σ ow) H' fun σ' H2 => wipe σ' ow = wipe σ ow ∧ tt σ' H2 fun b H3 =>
    if b = true then tk σ' H3 fun y H4 => tv σ' H4 fun z H5 => ∃ H6, DPut H5 D y z H6 ∧ Nx H6 else Nx H3)
section
variable {X : Cx} {kx vx tg iter : Expr} {ifs : List Expr} {scope : Scope} {own : List (Str × Nat)} {pos : Pos} {wi : TI} {g : TG} {tt : TT} {tk tv : TE} {u0 : HO}
/-- the block's own context -/
abbrev bx (X : Cx) (scope : Scope) (s : Shared) (H : Hp) (C : Addr) (cl : List (Str × Addr)) (fp : List Addr) : Cx := X.blk s H scope (compEnvC scope cl C X.env) fp
theorem pe_dcP (fresh : ∀ (W : Hp) (hp : Heap), sysModules < hp.objs.size → ObjOk X.prog X.w W (hp.push { cls := .type "dict", data := .dict #[] }) hp.objs.size u0) (hu : X.A.units < cLine) (calm : X.calm = true) (nd : X.N.Nodup) (hi : PI X tg iter wi) (bo : BlkOk X.N X.env.scope scope own)
    (hg : ∀ s H C cl fp, PG (bx X scope s H C cl fp) tg g) (ht : ∀ s H C cl fp, PTs (bx X scope s H C cl fp) ifs tt) (hk : ∀ s H C cl fp, PE (bx X scope s H C cl fp) kx tk) (he : ∀ s H C cl fp, PE (bx X scope s H C cl fp) vx tv) (hs : ∀ x, foldedSetIterable iter X.env x = pure x := by intro _; rfl) :
    PE X (.DictComp kx vx [⟨tg, iter, ifs, 0⟩] scope pos) (tDcP u0 wi g tt tk tv (own.map (·.2))) := by
  refine ⟨fun pins s σ H Q Iv h => ?_⟩
  rw [arm_eval_DictComp]
  refine wpAny_comprehension_free (use := none) rfl hs (closure_ok fun y hy e => (bo.free y hy e).elim (fun k => Iv.ok.has _ (.inl k)) fun k => Iv.ok.has _ (.inr k)) bo.kind (fun y hy e => by rw [bo.uniq y hy, e]) (thn (hi.run pins s σ H _ Iv h) fun _ sA hA => thn hA fun _ sB hB => ?_)
  obtain ⟨it, fp, tn, J, HB, rfl, IB, T, tB, fB, walk⟩ := hB
  refine wpAny_newObj_type (newEnv_comp ?_)
  obtain ⟨D, hD⟩ : ∃ D, D = sB.heap.objs.size := ⟨_, rfl⟩
  obtain ⟨M, ⟨n0, m0⟩, turn⟩ := walk D (IB.hok.fresh (Nat.le_of_eq hD.symm))
  have low : ∀ b ∈ fp, b < D := fun b hb => let ⟨_, e, _⟩ := T.obj _ _ tB b hb; hD ▸ Heap.lt_size e
  have grow : ∀ (b : Addr) (o : Obj), sB.heap.get? b = some o → (sB.heap.push { cls := .type "dict", data := .dict #[] }).get? b = some o := fun b o e => Heap.get?_push_of_some _ e
  obtain ⟨sC, hC⟩ : ∃ sC : Shared, sC = { sB with heap := sB.heap.push { cls := .type "dict", data := .dict #[] } } := ⟨_, rfl⟩
  obtain ⟨HC, hHC⟩ : ∃ HC : Hp, HC = upd HB D u0 := ⟨_, rfl⟩
  have IC : Inv X pins σ HC sC := by
    subst hHC hC hD
    exact IB.laid (t' := sB.toks) grow (Nat.le_refl _) (fresh _ sB.heap IB.big)
  have fC : ∀ b ∈ fp, FpOk X pins HC b ∧ b < sC.heap.objs.size := fun b hb => by
    subst hHC hC
    refine ⟨⟨(upd_ne (Nat.ne_of_lt (low b hb))).trans (fB b hb).1, (fB b hb).2⟩, ?_⟩
    show b < (sB.heap.push _).objs.size
    rw [Heap.size_push]
    exact Nat.lt_succ_of_lt (hD ▸ low b hb)
  have tC : tn 0 sC.heap := T.keep _ _ _ tB fun b _ o e => by subst hC; exact grow b o e
  have IE := block_start IC bo nd fC
  obtain ⟨cl, hcl⟩ : ∃ cl, cl = cellsFrom (sC.heap.objs.size + 1) scope.names (cloFrom X.env.cells scope.names []) := ⟨_, rfl⟩
  obtain ⟨C, hCC⟩ : ∃ C, C = sC.heap.objs.size := ⟨_, rfl⟩
  have key : ∀ ce : Env, ce = compEnvC scope cl C X.env → ∀ sD : Shared, sD = { sC with heap := pushCells (sC.heap.push { cls := .type "dict", data := .dict #[] }) scope.names } → Inv (X.blk sC HC scope ce fp) [] (wipe σ (own.map (·.2))) HC sD →
      codeAny (model X.prog X.w) X.A (.compStart (.DictComp kx vx [⟨tg, iter, ifs, 0⟩] scope pos) 0 (.ref it) (.ref D) ce) (compPost (model X.prog X.w) X.A X.xe none (EP X pins σ Q) (.ref D) C) sD := by
    intro ce hce sD hsD ID
    have pg : PG (X.blk sC HC scope ce fp) tg g := by subst hce; exact hg sC HC C cl fp
    have pt : PTs (X.blk sC HC scope ce fp) ifs tt := by subst hce; exact ht sC HC C cl fp
    have pk : PE (X.blk sC HC scope ce fp) kx tk := by subst hce; exact hk sC HC C cl fp
    have pv : PE (X.blk sC HC scope ce fp) vx tv := by subst hce; exact he sC HC C cl fp
    have loc : ce.locals = C := by subst hce; rfl
    have tD : tn 0 sD.heap := T.keep _ _ _ tC fun b _ o e => by subst hsD; exact pushCells_keeps _ _ _ _ (Heap.get?_push_of_some _ e)
    have free : ∀ b ∈ fp, HC b = none := fun b hb => (fC b hb).1.1
    have apart : ∀ {σ' : L2.St} {H' : Hp} {s' : Shared}, Inv (X.blk sC HC scope ce fp) [] σ' H' s' → (∀ b ∈ fp, H' b = none) → ∀ b ∈ fp, FpOk (X.blk sC HC scope ce fp) [] H' b := fun I' nb b hb =>
      ⟨nb b hb, (I'.ok.exf b hb).1, I'.ok.exfs b hb, .inl hb, fun x c e => (I'.ok.exf b hb).2 x c e, fun p hp => absurd (show p ∈ ([] : List (Addr × Obj)) ++ [] from hp) (by simp)⟩
    suffices hh : codeAny (model X.prog X.w) X.A (.compLoop (.DictComp kx vx [⟨tg, iter, ifs, 0⟩] scope pos) 0 (.ref it) (.ref D) ce) (compPost (model X.prog X.w) X.A X.xe none (EP X pins σ Q) (.ref D) C) sD from codeAny_compStart_dict hh (T.self X.A 0 _ _ _ tD hh)
    refine compLoop_anyD (fun n s' => ∃ j H', Inv (X.blk sC HC scope ce fp) [] (wipe σ (own.map (·.2))) H' s' ∧ tn j s'.heap ∧ (∀ b ∈ fp, H' b = none) ∧ M j n H') (fun n s1 hI => ?_) n0 ⟨0, HC, ID, tD, free, hHC ▸ m0⟩
    obtain ⟨j, H1, I1, t1, nb1, m1⟩ := hI
    rcases turn j n H1 m1 with ⟨stop, q⟩ | ⟨go, Nx, less, step⟩
    · refine thnF (T.done (X.blk sC HC scope ce fp) rfl rfl rfl calm j [] s1 _ H1 (fun _ _ => False) I1 (apart I1 nb1) t1 stop) fun r s2 hr => ?_
      obtain ⟨rfl, I2⟩ := hr
      have back : Inv X pins σ H1 s2 := IC.call' (ch := fp) I2.os I2.base I2.hok I2.bare fun b hb => let ⟨_, f1, f2, f3, f4, f5⟩ := (fC b hb).1; ⟨f3, f1, f4, f5⟩
      obtain ⟨m, hm, _⟩ := I2.loc
      have nC : H1 C = none := loc ▸ (show H1 ce.locals = none from I2.free)
      have hm' : s2.heap.Ns C m := loc ▸ (show s2.heap.Ns ce.locals m from hm)
      obtain ⟨f0, f1, f2, f3, f4, f5⟩ := IC.fpOk (b := C) (by rw [hCC]; exact Nat.le_refl _) nC
      exact ⟨m, hm', fun h2 sb => ⟨.ref D, H1, back.turned (t' := s2.toks) (fun b o hb e => (sb.2 b hb).trans e) f0 f1 f3 f4 f5, rfl, q⟩⟩
    · refine thnF (T.item (X.blk sC HC scope ce fp) rfl rfl rfl calm j [] s1 _ H1 (fun _ _ => False) I1 (apart I1 nb1) t1 go) fun r s2 hr => ?_
      obtain ⟨u, rfl, hr⟩ := hr
      refine thnF hr fun _ s3 ⟨x, H3, I3, r3, y3, t3, nb3⟩ => ?_
      have I3' := I3.pinned (apart I3 nb3) (T.obj _ _ t3)
      refine thnF (pg.run _ s3 _ H3 x u _ I3' r3 (step x H3 y3)) fun _ s4 ⟨σ4, H4, I4, hw, q4⟩ => ?_
      have over : ∀ {s' : Shared} {H' : Hp}, Inv (X.blk sC HC scope ce fp) ([] ++ pinsAt fp s3.heap) σ4 H' s' → Nx H' → ∃ m, m < n ∧ ∃ j H', Inv (X.blk sC HC scope ce fp) [] (wipe σ (own.map (·.2))) H' s' ∧ tn j s'.heap ∧ (∀ b ∈ fp, H' b = none) ∧ M j m H' := fun {s' H'} I' nx => by
        have there : ∀ b ∈ fp, ∀ o, s3.heap.get? b = some o → s'.heap.get? b = some o ∧ H' b = none := fun b hb o e =>
          let ⟨z1, z2, _⟩ := I'.pin (b, o) (List.mem_append_right _ (List.mem_append_right _ (mem_pinsAt hb e)))
          ⟨z1, z2⟩
        obtain ⟨m, lt, w⟩ := less H' nx
        refine ⟨m, lt, j + 1, H', I'.unpinned (pins := []) |>.weak (by rw [← hw, wipe_length]) fun i v e => ?_, T.keep _ _ _ t3 fun b hb o e => (there b hb o e).1, fun b hb => ?_, w⟩
        · rw [← hw] at e; exact (wipe_some e).1
        · exact let ⟨o, e, _⟩ := T.obj _ _ t3 b hb; (there b hb o e).2
      refine thnF (pt.run _ s4 σ4 H4 _ I4 q4) fun b s5 ⟨H5, I5, q5⟩ => ?_
      cases b with
      | false => simp only [Bool.false_eq_true, if_false] at q5 ⊢; exact over I5 q5
      | true =>
        simp only [if_true] at q5 ⊢
        refine thnF (pk.run _ s5 σ4 H5 _ I5 q5) fun _ s6 ⟨ky, H6, I6, r6, q6⟩ => thnF (pv.run _ s6 σ4 H6 _ I6 q6) fun _ s7 ⟨vy, H7, I7, r7, H8, put, nx⟩ => ?_
        exact put_dc (X := X.blk sC HC scope ce fp) hu I7 put r6 r7 fun s8 I8 => over I8 nx
  have fin := key _ rfl _ rfl (by subst hcl hCC; exact IE)
  subst hcl hCC hC hD
  exact fin
end
end L2
namespace VL
open PySem L2
/-! ### dict comprehensions, keys flat tuples -/
def isTK (k : Val) : Bool := isKey .t k
def dctT (d : DL) : Val := .dct true .t (d.map (·.1)) (d.map (·.2))
def dcT (g : MG) (tt km vm : ME) (own : List Nat) : List Val → DL → VEnv → RE
  | [], acc, ρ => .ok (dctT acc) ρ
  | u :: us, acc, ρ => match g u ρ with
    | none => .bad
    | some ρ1 => match tt ρ1 with
      | .ok (.bl b) ρ2 => if b = true then (match km ρ2 with
        | .ok k ρ3 => (match vm ρ3 with
          | .ok v ρ4 => if isTK k = true ∧ v.fz = true ∧ acc.length < 1000000 then dcT g tt km vm own us (putD acc k v) (wipeV ρ4 own) else .bad
          | _ => .bad)
        | _ => .bad) else dcT g tt km vm own us acc (wipeV ρ2 own)
      | _ => .bad
def mDcT (mi : MI) (g : MG) (tt km vm : ME) (own : List Nat) : ME := fun ρ => match mi ρ with
  | .ok us ρ1 => dcT g tt km vm own us [] (wipeV ρ1 own)
  | .exc e ρ' => .exc e ρ'
  | .bad => .bad
def tkey (k : List Key) : Val := .tup (k.map ofKey)
theorem tkey_inj {k l : List Key} (h : tkey k = tkey l) : k = l := by
  unfold tkey at h
  exact ofKey_map_inj (by simpa using h)
structure TRel (G : Gam) (W : Addr → Prop) (H : Hp) (kvs : List (List Key × V)) (d : DL) : Prop where
  ks : d.map (·.1) = kvs.map fun q => tkey q.1
  vs : Reps G W H (kvs.map (·.2)) (d.map (·.2)) []
section
variable {G : Gam} {W : Addr → Prop} {H : Hp} {X : Cx} {E : WX} {p pk sk pv : Bool} {pos : Pos}
theorem isTK_k {v : Val} {x : V} {O : List Addr} (h : isTK v = true) (r : Rep G W H x v O) : ∃ (k : List Key) (b : Addr), v = tkey k ∧ x = .ref b ∧ H b = some (.tup (k.map kV)) := by
  unfold isTK at h
  cases r with
  | @tup b _ _ _ h' r =>
    obtain ⟨k, rfl, rfl⟩ := isKeys (by simpa [isKey] using h) r
    exact ⟨k, b, rfl, rfl, h'.1⟩
  | _ => simp [isKey] at h
theorem TRel.len {kvs : List (List Key × V)} {d : DL} (r : TRel G W H kvs d) : kvs.length = d.length := by
  have := congrArg List.length r.ks
  simpa using this.symm
theorem TRel.mono {W' : Addr → Prop} {H' : Hp} {kvs : List (List Key × V)} {d : DL} (r : TRel G W H kvs d) (k : Keep W H W' H') : TRel G W' H' kvs d := ⟨r.ks, r.vs.mono k fun _ z => nomatch z⟩
theorem TRel.put {kvs : List (List Key × V)} {d : DL} (r : TRel G W H kvs d) (k : List Key) {x : V} {v : Val} (rx : Rep G W H x v []) : TRel G W H (putK kvs k x) (putD d (tkey k) v) := by
  have same : ∀ (d : DL) (kvs : List (List Key × V)), d.map (·.1) = kvs.map (fun q => tkey q.1) → (d.any fun q => decide (q.1 = tkey k)) = kvs.any fun q => decide (q.1 = k) := by
    intro d
    induction d with
    | nil => intro kvs e; cases kvs with | nil => rfl | cons _ _ => cases e
    | cons q d ih =>
      intro kvs e
      cases kvs with
      | nil => cases e
      | cons q' kvs =>
        simp only [List.map_cons, List.cons.injEq] at e
        rw [List.any_cons, List.any_cons, ih kvs e.2, e.1]
        congr 1
        rw [decide_eq_decide]
        exact ⟨tkey_inj, fun z => by rw [z]⟩
  unfold putK putD
  rw [same d kvs r.ks]
  split
  · have go : ∀ (d : DL) (kvs : List (List Key × V)), d.map (·.1) = kvs.map (fun q => tkey q.1) → Reps G W H (kvs.map (·.2)) (d.map (·.2)) [] → TRel G W H (kvs.map fun kv => if kv.1 = k then (kv.1, x) else kv) (d.map fun q => if q.1 = tkey k then (q.1, v) else q) := by
      intro d
      induction d with
      | nil => intro kvs e _; cases kvs with
        | nil => exact ⟨rfl, .nil⟩
        | cons _ _ => cases e
      | cons q d ih => intro kvs e rv; cases kvs with
        | nil => cases e
        | cons q' kvs =>
          simp only [List.map_cons, List.cons.injEq] at e rv
          obtain ⟨y, ys, e1, r1, r2⟩ := rv.inv0
          simp only [List.cons.injEq] at e1
          obtain ⟨rfl, rfl⟩ := e1
          obtain ⟨i1, i2⟩ := ih kvs e.2 r2
          by_cases h : q'.1 = k
          · have h' : q.1 = tkey k := by rw [e.1, h]
            refine ⟨?_, ?_⟩
            · simp only [List.map_cons, if_pos h, if_pos h']
              exact congr (congrArg List.cons e.1) i1
            · simp only [List.map_cons, if_pos h, if_pos h']
              exact .cons (O := []) (O' := []) rx i2
          · have h' : ¬ q.1 = tkey k := fun z => h (tkey_inj (e.1.symm.trans z))
            refine ⟨?_, ?_⟩
            · simp only [List.map_cons, if_neg h, if_neg h']
              exact congr (congrArg List.cons e.1) i1
            · simp only [List.map_cons, if_neg h, if_neg h']
              exact .cons (O := []) (O' := []) r1 i2
    exact go d kvs r.ks r.vs
  · refine ⟨by simp [r.ks], ?_⟩
    simp only [List.map_append, List.map_cons, List.map_nil]
    exact r.vs.append (.cons (O := []) (O' := []) rx .nil)
theorem dcT_reading {tg iter : Expr} {ow : List Nat} {n : Nat} {wi : TI} {mi : MI} {g : MG} {tt km vm : ME} {σ : L2.St} {H : Hp} {Q : VK} (hwi : wi = tI G E mi) (hlen : σ.length = n) (h : rd G E false true (mDcT mi g tt km vm ow) σ H Q) :
    tDcP (.dT []) wi (fun x σ H Q => ∃ σ0, tG G (pinsBut n ow) σ0 g x σ H Q) (tT G WF p tt) (rd G WF pk sk km) (rd G WF pv true vm) ow σ H Q := by
  subst hwi
  obtain ⟨R, ρ, Os, rel, post⟩ := h
  refine ⟨R, ρ, Os, rel, ?_⟩
  unfold mDcT at post
  cases hm : mi ρ with
  | bad => rw [hm] at post; exact post
  | exc e ρ' => rw [hm] at post; exact post
  | ok us ρ1 =>
    rw [hm] at post
    dsimp only at post
    intro J H1 Os1 rel1 walk keep1 D hD
    obtain ⟨Osw, relw, wew⟩ := rel1.wipe ow
    let St := fun (i : Nat) (H' : Hp) => i ≤ us.length ∧ ∃ ρ2 Os2 acc kvs, Rel G (fun a => R a ∨ a = D) H' (L2.wipe σ ow) ρ2 Os2 ∧ H' D = some (.dT kvs) ∧ TRel G (WW (fun a => R a ∨ a = D) Os2) H' kvs acc ∧ KeepE H1 Os1 H' Os2 (fun a => a = D) ∧
      Post G R E σ H Os false true ρ Q (dcT g tt km vm ow (us.drop i) acc ρ2)
    refine ⟨fun i n H' => n = us.length - i ∧ St i H', ⟨us.length, by simp, Nat.zero_le _, wipeV ρ1 ow, Osw, [], [], relw.root0 hD, upd_same, ⟨rfl, .nil⟩, fun a o e nw => ⟨same_upd hD a o e, fun z => nw (wew a z), ne_of_none e hD⟩, by simpa using post⟩, ?_⟩
    rintro i n H' ⟨rfl, hile, ρ2, Os2, acc, kvs, rel2, hDx, kr, keep2, post2⟩
    have kw : Keep (WW R Os1) H1 (WW (fun a => R a ∨ a = D) Os2) H' := fun a o e nw => by
      obtain ⟨e1, n1, n2⟩ := keep2 a o e fun z => nw (.inr z)
      exact ⟨e1, fun z => z.elim (fun z => z.elim (fun z => nw (.inl z)) n2) n1⟩
    obtain ⟨hstop, hgo⟩ := walk _ _ kw i
    by_cases hlt : i < us.length
    rotate_left
    · refine .inl ⟨hstop (by omega), ?_⟩
      rw [List.drop_eq_nil_of_le (by omega)] at post2
      unfold dcT at post2
      have e0 : (fun a => R a ∨ a = D) = Rp R true [D] := setEq fun a => ⟨fun z => z.imp id fun z => ⟨rfl, List.mem_singleton.mpr z⟩, fun z => z.imp id fun z => List.mem_singleton.mp z.2⟩
      rw [e0] at rel2 kr
      refine post2 (.ref D) H' Os2 [D] rel2.unwipe (.dtO hDx kr.ks kr.vs) (fun _ => by simp) (fun a o e nw => ?_) fun z => by cases z
      obtain ⟨e1, n1, _⟩ := keep1 a o e nw
      obtain ⟨e2, n2, n3⟩ := keep2 a o e1 n1
      exact ⟨e2, n2, fun z => n3 (List.mem_singleton.mp z.2)⟩
    refine .inr ?_
    obtain ⟨go, yld⟩ := hgo us[i] (List.getElem?_eq_getElem hlt)
    refine ⟨go, St (i + 1), fun H3 h1 => ⟨us.length - (i + 1), by omega, rfl, h1⟩, fun x H'' y => ?_⟩
    obtain ⟨same, repw⟩ := yld x H'' y
    have rep := repw fun p hp => rel2.ww hp
    have rel3 : Rel G (fun a => R a ∨ a = D) H'' (L2.wipe σ ow) ρ2 Os2 := rel2.grow same (fun a z => .inl z) fun a z => let ⟨o, e⟩ := rel2.rt a z; ⟨o, same a o e⟩
    have keep3 : KeepE H1 Os1 H'' Os2 fun a => a = D := keep2.grow same fun a z => .inl z
    have hD3 := same D _ hDx
    have kr3 : TRel G (WW (fun a => R a ∨ a = D) Os2) H'' kvs acc := kr.mono fun a o e nw => ⟨same a o e, nw⟩
    rw [List.drop_eq_getElem_cons hlt] at post2
    unfold dcT at post2
    have e0 : (fun a => R a ∨ a = D) = fun a => (R a ∨ a = D) ∨ a ∈ ([] : List Addr) := setEq fun a => ⟨.inl, fun z => z.elim id fun z => nomatch z⟩
    refine ⟨L2.wipe σ ow, fun a => R a ∨ a = D, ρ2, Os2, us[i], [], e0 ▸ rel3, e0 ▸ rep, List.nodup_nil, fun a z => (nomatch z), fun _ _ => rfl, ?_⟩
    cases hgu : g us[i] ρ2 with
    | none => rw [hgu] at post2; exact post2
    | some ρ3 =>
    rw [hgu] at post2
    dsimp only at post2
    intro σ3 Os3 pin3 hl3 rel4 we4
    have hw : L2.wipe σ3 ow = L2.wipe σ ow := wipe_eq hlen (by rw [hl3, wipe_length]) pin3
    have keep4 : KeepE H1 Os1 H'' Os3 fun a => a = D := fun a o e nw => let ⟨e1, n1, n2⟩ := keep3 a o e nw; ⟨e1, fun z => (we4 a z).elim n1 (fun z => nomatch z), n2⟩
    have kr4 : TRel G (WW (fun a => R a ∨ a = D) Os3) H'' kvs acc := kr3.mono fun a o e nw => ⟨e, fun z => nw (z.imp id fun z => (we4 a z).elim id fun z => nomatch z)⟩
    refine ⟨hw, fun a => R a ∨ a = D, ρ3, Os3, rel4, ?_⟩
    have go1 : ∀ {Ha Hb : Hp} {Osa Osb : Nat → List Addr} {ρa ρb : VEnv} {P : Addr → Prop}, Rel G (fun a => R a ∨ a = D) Ha σ3 ρa Osa → Ha D = some (.dT kvs) → TRel G (WW (fun a => R a ∨ a = D) Osa) Ha kvs acc → KeepE H1 Os1 Ha Osa (fun a => a = D) → Rel G (fun a => R a ∨ a = D) Hb σ3 ρb Osb → KeepE Ha Osa Hb Osb P →
        Hb D = some (.dT kvs) ∧ TRel G (WW (fun a => R a ∨ a = D) Osb) Hb kvs acc ∧ KeepE H1 Os1 Hb Osb (fun a => a = D) := fun ra hd kr ka rb kb => by
      refine ⟨(kb D _ hd (ra.nr (.inr rfl))).1, kr.mono fun a o e nw => ?_, fun a o e nw => ?_⟩
      · obtain ⟨e1, n1, _⟩ := kb a o e fun z => nw (.inr z)
        exact ⟨e1, fun z => z.elim (fun z => nw (.inl z)) n1⟩
      · obtain ⟨e1, n1, n2⟩ := ka a o e nw
        obtain ⟨e2, n3, _⟩ := kb a o e1 n1
        exact ⟨e2, n3, n2⟩
    cases htt : tt ρ3 with
    | bad => rw [htt] at post2; exact post2.elim
    | exc e ρ4 => rw [htt] at post2; exact post2.elim
    | ok tv ρ4 =>
    rw [htt] at post2
    cases tv with
    | bl b =>
      intro H5 Os5 rel5 k5 _
      obtain ⟨hD5, kr5, keep5⟩ := go1 rel4 hD3 kr4 keep4 rel5 k5
      cases b with
      | false =>
        simp only [Bool.false_eq_true, if_false] at post2 ⊢
        obtain ⟨Os6, rel6, we6⟩ := rel5.wipe ow
        rw [hw] at rel6
        exact ⟨hlt, wipeV ρ4 ow, Os6, acc, kvs, rel6, hD5, kr5.mono fun a o e nw => ⟨e, fun z => nw (z.imp id (we6 a))⟩, fun a o e nw => let ⟨e1, n1, n2⟩ := keep5 a o e nw; ⟨e1, fun z => n1 (we6 a z), n2⟩, post2⟩
      | true =>
        simp only [if_true] at post2 ⊢
        refine ⟨fun a => R a ∨ a = D, ρ4, Os5, rel5, ?_⟩
        cases hkm : km ρ4 with
        | bad => rw [hkm] at post2; exact post2.elim
        | exc e ρ6 => rw [hkm] at post2; exact post2.elim
        | ok k ρ5 =>
        rw [hkm] at post2
        dsimp only at post2
        intro ky H6 Os6 Ok rel6 rep6 _ k6 _
        have rel6' : Rel G (fun a => R a ∨ a = D) H6 σ3 ρ5 Os6 := rel6.weak fun a z => .inl z
        obtain ⟨hD6, kr6, keep6⟩ := go1 rel5 hD5 kr5 keep5 rel6' k6
        refine ⟨fun a => R a ∨ a = D, ρ5, Os6, rel6', ?_⟩
        cases hvm : vm ρ5 with
        | bad => rw [hvm] at post2; exact post2.elim
        | exc e ρ6 => rw [hvm] at post2; exact post2.elim
        | ok v ρ6 =>
        rw [hvm] at post2
        dsimp only at post2
        intro vy H7 Os7 Ov rel7 rep7 _ k7 _
        by_cases hc : isTK k = true ∧ v.fz = true ∧ acc.length < 1000000
        rotate_left
        · rw [if_neg hc] at post2; exact post2.elim
        rw [if_pos hc] at post2
        have hOv := rep7.none_of_fz hc.2.1
        subst hOv
        have rel7' : Rel G (fun a => R a ∨ a = D) H7 σ3 ρ6 Os7 := rel7.weak fun a z => .inl z
        have rep7' : Rep G (WW (fun a => R a ∨ a = D) Os7) H7 vy v [] := rep7.mono (fun a o e nw => ⟨e, fun z => nw (z.imp (fun z => .inl z) id)⟩) fun _ z => nomatch z
        obtain ⟨hD7, kr7, keep7⟩ := go1 rel6' hD6 kr6 keep6 rel7' k7
        obtain ⟨kk, kb, ek, exk, hkb⟩ := isTK_k hc.1 rep6
        subst ek exk
        have fk : ¬ WW (Rp (fun a => R a ∨ a = D) sk Ok) Os6 kb := by
          cases rep6 with
          | tup hf _ => exact hf.2
        have hkb7 : H7 kb = some (.tup (kk.map kV)) := (k7 kb _ hkb fun z => fk (.inr z)).1
        refine ⟨upd H7 D (.dT (putK kvs kk vy)), DPut.t hD7 hkb7 (by rw [kr7.len, sizeLine_eq]; omega), hlt, ?_⟩
        have rel8 := Rel.chg (D := D) (o := .dT (putK kvs kk vy)) rel7' (.inr rfl)
        obtain ⟨Os9, rel9, we9⟩ := rel8.wipe ow
        rw [hw] at rel9
        refine ⟨wipeV ρ6 ow, Os9, putD acc (tkey kk) v, putK kvs kk vy, rel9, upd_same, (kr7.put kk rep7').mono fun a o e nw => ⟨by rw [upd_ne (show a ≠ D from fun z => nw (.inl (.inr z)))]; exact e, fun z => nw (z.imp id (we9 a))⟩, fun a o e nw => ?_, post2⟩
        obtain ⟨e1, n1, n2⟩ := keep7 a o e nw
        exact ⟨by rw [upd_ne n2]; exact e1, fun z => n1 (we9 a z), n2⟩
    | _ => exact post2.elim
theorem ve_dcT {kx vx tg iter : Expr} {ifs : List Expr} {scope : Scope} {own : List (Str × Nat)} {mi : MI} {g : MG} {tt km vm : ME} (hu : X.A.units < cLine) (hc : X.calm = true) (hN : X.N.Nodup) (hi : VI G X E tg iter mi) (ok : BlkOk X.N X.env.scope scope own)
    (hg : ∀ (s : Shared) (H : Hp) (C : Addr) (cl : List (Str × Addr)) (fp : List Addr) (σ0 : L2.St), VG G (X.blk s H scope (compEnvC scope cl C X.env) fp) (pinsBut X.N.length (own.map (·.2))) σ0 tg g)
    (ht : ∀ (s : Shared) (H : Hp) (C : Addr) (cl : List (Str × Addr)) (fp : List Addr), PTs (X.blk s H scope (compEnvC scope cl C X.env) fp) ifs (tT G WF p tt))
    (hk : ∀ (s : Shared) (H : Hp) (C : Addr) (cl : List (Str × Addr)) (fp : List Addr), VE G (X.blk s H scope (compEnvC scope cl C X.env) fp) WF pk sk kx km)
    (he : ∀ (s : Shared) (H : Hp) (C : Addr) (cl : List (Str × Addr)) (fp : List Addr), VE G (X.blk s H scope (compEnvC scope cl C X.env) fp) WF pv true vx vm) (hs : ∀ x, foldedSetIterable iter X.env x = pure x := by intro _; rfl) :
    VE G X E false true (.DictComp kx vx [⟨tg, iter, ifs, 0⟩] scope pos) (mDcT mi g tt km vm (own.map (·.2))) := by
  have hg2 : ∀ (s : Shared) (H : Hp) (C : Addr) (cl : List (Str × Addr)) (fp : List Addr), PG (X.blk s H scope (compEnvC scope cl C X.env) fp) tg (fun x σ H Q => ∃ σ0, tG G (pinsBut X.N.length (own.map (·.2))) σ0 g x σ H Q) := fun s H C cl fp =>
    ⟨fun pins st σ H' v u Q I r ⟨σ0, q⟩ => (hg s H C cl fp σ0).run pins st σ H' v u Q I r q⟩
  have fresh : ∀ (W : Hp) (hp : Heap), sysModules < hp.objs.size → ObjOk X.prog X.w W (hp.push { cls := .type "dict", data := .dict #[] }) hp.objs.size (.dT []) := fun W hp hb => dt_empty hp hb
  exact ⟨fun pins s1 σ H Q I h => (pe_dcP fresh hu hc hN hi ok hg2 ht hk he hs).run pins s1 σ H Q I (dcT_reading (tg := tg) (iter := iter) rfl I.len h)⟩
end
/-! ### len, list of such a dict -/
def semLenT : List Val → Option Val
  | [.dct _ .t ks _] => some (.int ks.length)
  | _ => none
def semListT : List Val → Option Val
  | [.dct _ .t ks _] => some (.lst true ks)
  | _ => none
section
variable {G : Gam} {X : Cx}
theorem rep_dt {W : Addr → Prop} {H : Hp} {x : V} {o : Bool} {ks vs : List Val} {O : List Addr} (r : Rep G W H x (.dct o .t ks vs) O) : ∃ a kvs, x = .ref a ∧ H a = some (.dT kvs) ∧ ks = kvs.map fun q => tkey q.1 := by
  cases r with
  | dtO h hk _ => exact ⟨_, _, rfl, h, hk⟩
  | dtF h hk _ => exact ⟨_, _, rfl, h.1, hk⟩
theorem ok_lenT : OkF G rLenT semLenT := by
  intro W H xs vs Ol v Q w r hs m
  unfold semLenT at hs
  split at hs
  · obtain ⟨x, O, rfl, r1⟩ := r.inv1
    cases hs
    obtain ⟨a, kvs, rfl, e1, rfl⟩ := rep_dt r1
    exact ⟨a, kvs, rfl, e1, by simpa using m.same (.int _)⟩
  · cases hs
end
/-! ### in, over plain data -/
def semInP (neg : Bool) : List Val → Option Val
  | [x, .lst o l] => match toD x, toDs l with
    | some d, some ds => if SeqAt.shaped d = true ∧ SeqAt.shaped (.list ds) = true then some (.bl (xor neg (ds.any fun z => PyData.eqv z d))) else none
    | _, _ => none
  | _ => none
section
variable {G : Gam} {X : Cx}
def rInP (K : PySem.W.Frag) (neg : Bool) : R2 := fun x y H Q => ∃ d ds, Dp K H x d ∧ Dp K H y (.list ds) ∧ SeqAt.shaped d = true ∧ SeqAt.shaped (.list ds) = true ∧ Q (.bl (xor neg (ds.any fun z => PyData.eqv z d))) H
theorem op_inP (hu : X.A.units + 65 < cLine) : OpR X (compareOp .In) (rInP X.K false) := fun pins s σ H x y v u Q I rx ry ⟨d, ds, h1, h2, h3, h4, q⟩ => op_inD hu pins s σ H x y v u Q I rx ry ⟨d, ds, h1, h2, h3, h4, by simpa using q⟩
theorem op_notInP (hu : X.A.units + 65 < cLine) : OpR X (compareOp .NotIn) (rInP X.K true) := fun pins s σ H x y v u Q I rx ry ⟨d, ds, h1, h2, h3, h4, q⟩ => op_notInD hu pins s σ H x y v u Q I rx ry ⟨d, ds, h1, h2, h3, h4, by simpa using q⟩
theorem ok_inP (hK : X.K = G.K) {neg : Bool} : OkF G (r2 (rInP X.K neg)) (semInP neg) := by
  rw [hK]
  intro W H xs vs Ol v Q w r hs m
  unfold semInP at hs
  split at hs
  · obtain ⟨x, y, O, O', rfl, r1, r2⟩ := r.inv2
    split at hs
    · rename_i d ds h1 h2
      split at hs
      · rename_i hc
        cases hs
        exact ⟨d, ds, r1.dp h1, r2.dp (by simp only [toD, h2]), hc.1, hc.2, m.same (.bl _)⟩
      · cases hs
    · cases hs
  · cases hs
end
end VL
/-! VL, part XC: zip of a tuple and a list. -/
namespace L2
open PySem PySem.Spec PyProof.Rows
/-- the tuple at a and the list at b as they stand at each turn -/
def ItzM (K : PySem.W.Frag) (a b : Addr) : It where
  go i H := ∃ (xs ys : List V) (x y : V), SqT K H a xs ∧ SqL K H b ys ∧ xs[i]? = some x ∧ ys[i]? = some y
  yld i H v H' := ∃ T x y, v = .ref T ∧ H T = none ∧ H' = upd H T (.tup [x, y]) ∧ (∀ xs, SqT K H a xs → xs[i]? = some x) ∧ ∀ ys, SqL K H b ys → ys[i]? = some y
  stop i H := ∃ xs ys : List V, SqT K H a xs ∧ SqL K H b ys ∧ xs.length = ys.length ∧ xs.length ≤ i
section
variable {z TI TO i1 i2 a b : Addr}
/-- iterators that are at their end -/
theorem endT {P : Program} {w : World} {A : Around} (hh : A.handled = none) {it t : Addr} (ne : t ≠ it) {us : Array Value} {i : Nat} (no : us[i]? = none) : Draws P w A it [it, t] i (fun _ _ => False) fun k h => k = i ∧ h.IsTupleIter it t i ∧ h.IsTuple t us where
  live := fun _ _ st => let ⟨_, ⟨o, ho, _⟩, _⟩ := st; ⟨o, ho⟩
  frame := fun _ _ _ st hk => ⟨st.1, st.2.1.at fun o e => hk it (by simp) o e, st.2.2.at fun o e => hk t (by simp) o e⟩
  item := fun k s Q E lt st _ => absurd st.1 (Nat.ne_of_lt lt)
  done := fun s Q E st hE => wpAny_nextOf_tuple_end hh st.2.1 st.2.2 no hE
theorem endL {P : Program} {w : World} {A : Around} (hh : A.handled = none) {it t : Addr} (ne : t ≠ it) {us : Array Value} {i : Nat} (no : us[i]? = none) : Draws P w A it [it, t] i (fun _ _ => False) fun k h => k = i ∧ h.IsListIter it t i ∧ h.IsList t us where
  live := fun _ _ st => let ⟨_, ⟨o, ho, _⟩, _⟩ := st; ⟨o, ho⟩
  frame := fun _ _ _ st hk => ⟨st.1, st.2.1.at fun o e => hk it (by simp) o e, st.2.2.at fun o e => hk t (by simp) o e⟩
  item := fun k s Q E lt st _ => absurd st.1 (Nat.ne_of_lt lt)
  done := fun s Q E st hE => wpAny_nextOf_list_end hh st.2.1 st.2.2 no hE
theorem sepM (D : ZipApart z TI TO i1 i2 a b) : ZipSep2 z TI TO i1 i2 [i1, a] [i2, b] := by
  obtain ⟨h1, h2, h3, h4, h5, h6, h7, h8, h9, h10, h11, h12, h13, h14, h15, h16, h17, h18⟩ := D
  constructor <;> simp_all [eq_comm]
theorem turn_zipM {P : Program} {w : World} {K : PySem.W.Frag} {elts : List Expr} {kk : Nat} {tpos : Pos} (D : ZipApart z TI TO i1 i2 a b) :
    Turn P w K (.Tuple elts kk tpos) (ItzM K a b) [z, TI, TO, i1, i2] z (fun i h => IsZip h z TI TO .none ∧ IsPair h TI (.ref i1) (.ref i2) ∧ (∃ x y, IsPair h TO x y) ∧ h.IsTupleIter i1 a i ∧ h.IsListIter i2 b i) where
  mem := List.mem_cons_self
  obj := fun i h ⟨hz, hTI, ⟨x, y, hTO⟩, ⟨o1, e1, _, d1⟩, ⟨o2, e2, _, d2⟩⟩ c hc => by
    have q : c = z ∨ c = TI ∨ c = TO ∨ c = i1 ∨ c = i2 := by simpa using hc
    rcases q with rfl | rfl | rfl | rfl | rfl
    · exact ⟨_, hz, fun v e => nomatch e⟩
    · exact ⟨_, hTI, fun v e => nomatch e⟩
    · exact ⟨_, hTO, fun v e => nomatch e⟩
    · exact ⟨o1, e1, fun v e => by rw [d1] at e; cases e⟩
    · exact ⟨o2, e2, fun v e => by rw [d2] at e; cases e⟩
  keep := fun i h h' ⟨hz, hTI, ⟨x, y, hTO⟩, s1, s2⟩ k =>
    ⟨k z (by simp) _ hz, k TI (by simp) _ hTI, ⟨x, y, k TO (by simp) _ hTO⟩, s1.at fun o e => k i1 (by simp) o e, s2.at fun o e => k i2 (by simp) o e⟩
  item := by
    intro X hP hw hK hc i pins s σ H E I hf ⟨hz, hTI, ⟨x0, y0, hTO⟩, s1, s2⟩ ⟨xs, ys, x, y, qx, qy, hx, hy⟩
    subst hP hw hK
    obtain ⟨us, rv, px, _⟩ := I.tuple qx
    obtain ⟨ws, rw2, py, _⟩ := I.list qy
    obtain ⟨u, hu, ru⟩ := rv.get hx
    obtain ⟨u2, hu2, ru2⟩ := rw2.get hy
    have hh : X.A.in1.handled = none := I.ok.hd hc
    have zl : z < s.heap.objs.size := Heap.lt_size hz
    have l1 : i < us.toArray.size := by rw [List.size_toArray]; exact (List.getElem?_eq_some_iff.mp hu).1
    have l2 : i < ws.toArray.size := by rw [List.size_toArray]; exact (List.getElem?_eq_some_iff.mp hu2).1
    refine wpAny_pyNext_zipD2_item (sepM D) (Draws.tuple hh i1 a D.l1i1 us.toArray) (Draws.list hh i2 b D.l2i2 ws.toArray) hz hTI hTO ⟨s1, px⟩ ⟨s2, py.isList⟩ l1 l2 fun v1 v2 h' tk e1 e2 hz' hTO' t1 t2 hT _ hk => ?_
    obtain rfl : u = v1 := Option.some.inj (hu.symm.trans (by simpa using e1))
    obtain rfl : u2 = v2 := Option.some.inj (hu2.symm.trans (by simpa using e2))
    refine ⟨_, rfl, wpAny_letOwnedTupleGo_zip (s := { s with heap := h', toks := tk }) hz' fun h2 hz2 sb => ?_⟩
    have hT2 : h2.get? s.heap.objs.size = some { cls := .type "tuple", data := .seq #[u, u2] } := (sb.2 _ (Nat.ne_of_gt zl)).trans hT
    have at2 : ∀ c o, c ≠ z → h'.get? c = some o → h2.get? c = some o := fun c o n e => (sb.2 c n).trans e
    have I1 := I.turnedNew (t' := tk) (ch := [z, TI, TO, i1, i2]) (T := s.heap.objs.size) (ob := .tup [x, y]) (h' := h2) (fun c o nc e => by
      simp only [List.mem_cons, List.not_mem_nil, or_false, not_or] at nc
      exact at2 c o nc.1 (hk c o nc.1 nc.2.2.1 nc.2.2.2.1 nc.2.2.2.2 e)) hf (Nat.le_refl _) ⟨by show 2 ≤ sizeLine; decide, [u, u2], .cons ru (.cons ru2 .nil), ⟨_, hT2, rfl, _, rfl⟩⟩
    refine ⟨.ref s.heap.objs.size, _, I1, rfl, ⟨_, x, y, rfl, I.hok.fresh (Nat.le_refl _), rfl, fun l hl => by rw [I.tuple_inj hl qx]; exact hx, fun l hl => by rw [I.list_inj hl qy]; exact hy⟩, ⟨hz2, ?_, ⟨u, u2, at2 _ _ D.TOz hTO'⟩, t1.1.at fun o e => at2 _ o D.i1z e, t2.1.at fun o e => at2 _ o D.i2z e⟩, fun c hcm => ?_⟩
    · exact at2 _ _ D.TIz (hk _ _ D.TIz D.TITO D.TIi1 D.TIi2 hTI)
    · have lt : c < s.heap.objs.size := by
        have q : c = z ∨ c = TI ∨ c = TO ∨ c = i1 ∨ c = i2 := by simpa using hcm
        rcases q with rfl | rfl | rfl | rfl | rfl
        · exact zl
        · exact Heap.lt_size hTI
        · exact Heap.lt_size hTO
        · exact let ⟨_, e, _⟩ := s1; Heap.lt_size e
        · exact let ⟨_, e, _⟩ := s2; Heap.lt_size e
      exact (upd_ne (Nat.ne_of_lt lt)).trans (hf c hcm).1
  done := by
    intro X hP hw hK hc i pins s σ H E I hf ⟨hz, hTI, ⟨x0, y0, hTO⟩, s1, s2⟩ ⟨xs, ys, qx, qy, el, le⟩
    subst hP hw hK
    obtain ⟨us, rv, px, _⟩ := I.tuple qx
    obtain ⟨ws, rw2, py, _⟩ := I.list qy
    have hh : X.A.in1.handled = none := I.ok.hd hc
    have l1 := rv.length
    have l2 := rw2.length
    have n1 : us.toArray[i]? = none := by simp; omega
    have n2 : ws.toArray[i]? = none := by simp; omega
    refine wpAny_pyNext_zipD2_end (sepM D) (endT hh D.l1i1 n1) (endL hh D.l2i2 n2) hz hTI hTO ⟨rfl, s1, px⟩ ⟨rfl, s2, py.isList⟩ (Nat.le_refl _) (Nat.le_refl _) (.inl rfl) fun h' tk hk => ⟨rfl, I.turnedL (t' := tk) (ch := [z, TI, TO, i1, i2]) (fun c o nc e => ?_) hf⟩
    simp only [List.mem_cons, List.not_mem_nil, or_false, not_or] at nc
    exact hk c o nc.1 nc.2.2.1 nc.2.2.2.1 nc.2.2.2.2 e
  self := fun A i s Q E st h => wpAny_pyIter_zip st.1 h
end
def iZipM (K : PySem.W.Frag) (ta : TA) : TI := fun σ H R => ta σ H fun vs H1 => ∃ a b xs ys, vs = [.ref a, .ref b] ∧ SqT K H1 a xs ∧ SqL K H1 b ys ∧ R (ItzM K a b) H1
theorem pi_zipM {X : Cx} {e e2 : Expr} {ta : TA} {p pos tpos : Pos} {elts : List Expr} {kk : Nat} (hg : Gl X "zip") (hm : X.mg "zip" = none) (ha : PA X [e, e2] ta)
    (hs : starEach [e, e2] X.env = (false, eval e X.env) :: starEach [e2] X.env := by rfl) (hpl : (backTo pos (starEach [e2] X.env)).any (·.1) = false := by rfl) :
    PI X (.Tuple elts kk tpos) (.Call (.Name "zip" p) [e, e2] [] pos) (iZipM X.K ta) := by
  refine ⟨fun pins s σ H R I h => Call_ (ld_blt I hg hm PyProof.Rows.boot_zip (PyProof.Rows.callWith_type1 (thn (ha.run pos pins s σ H _ I h) fun us s1 h1 => ?_) hs hpl))⟩
  obtain ⟨_, H1, I1, r1, a, b, xs, ys, rfl, qx, qy, q⟩ := h1
  obtain ⟨u, v, rfl, ra, rb⟩ : ∃ u v, us = [u, v] ∧ RelV (.ref a) u ∧ RelV (.ref b) v := by
    cases r1 with
    | cons r rr => cases rr with
      | cons r' rr => cases rr; exact ⟨_, _, rfl, r, r'⟩
  cases ra
  cases rb
  obtain ⟨us, rv, px, _⟩ := I1.tuple qx
  obtain ⟨ws, rw2, py, _⟩ := I1.list qy
  refine zip_begins2 (begins_tuple a us.toArray) (begins_list b ws.toArray) px py.isList fun h' hz hTI hTO h1 h2 _ hk => wpAny_pyIter_zip hz ?_
  refine ⟨s1.heap.objs.size + 4, [s1.heap.objs.size + 4, s1.heap.objs.size + 2, s1.heap.objs.size + 3, s1.heap.objs.size, s1.heap.objs.size + 1], _, _, H1, rfl, I1.kept (t' := s1.toks) hk, turn_zipM (PySem.W.ktu_apart s1.heap.objs.size a b (let ⟨_, e, _⟩ := (show s1.heap.IsTuple a us.toArray from px); Heap.lt_size e) py.lt), ⟨hz, hTI, ⟨_, _, hTO⟩, ⟨_, h1, rfl, rfl⟩, ⟨_, h2, rfl, rfl⟩⟩, fun c hc => ?_, q⟩
  have le : s1.heap.objs.size ≤ c := by
    simp only [List.mem_cons, List.not_mem_nil, or_false] at hc
    rcases hc with e | e | e | e | e <;> rw [e] <;> first | exact Nat.le_refl _ | exact Nat.le_add_right _ _
  exact I1.fpOk le (I1.hok.fresh le)
end L2
namespace VL
open PySem L2
def mZipM (m1 m2 : ME) : MI := fun ρ => match evalM [m1, m2] ρ with
  | .ok [.tup xs, .lst false ys] ρ' => if fzs xs = true ∧ xs.length = ys.length then .ok (zipV xs ys) ρ' else .bad
  | .ok _ _ => .bad
  | .exc e ρ' => .exc e ρ'
  | .bad => .bad
section
variable {G : Gam} {X : Cx} {E : WX} {e e2 : Expr} {p s p2 s2 : Bool} {m m2 : ME} {pos : Pos}
theorem walk_zipM {W : Addr → Prop} {H : Hp} {a b : Addr} {xs ys : List V} {us ws : List Val} (hl : us.length = ws.length) (h1 : Fz W H a (.tup xs)) (h2 : Fz W H b (.lst ys)) (r1 : Reps G W H xs us []) (r2 : Reps G W H ys ws []) : Walk G W H (ItzM G.K a b) (zipV us ws) := by
  intro W' H' kp i
  have q1 : SqT G.K H' a xs := .inl (.inl (kp _ _ h1.1 h1.2).1)
  have q2 : SqL G.K H' b ys := .inl (.inl (kp _ _ h2.1 h2.2).1)
  have n1 := r1.length
  have n2 := r2.length
  refine ⟨fun h => ⟨xs, ys, q1, q2, by omega, by rw [zipV_len] at h; omega⟩, fun u hu => ?_⟩
  obtain ⟨x, y, e1, e2, rfl⟩ := zipV_get hu
  obtain ⟨x', f1, g1⟩ := r1.one e1
  obtain ⟨y', f2, g2⟩ := r2.one e2
  refine ⟨⟨xs, ys, x', y', q1, q2, f1, f2⟩, fun z H'' ⟨T, x2, y2, e3, hT, e4, e5, e6⟩ => ?_⟩
  subst e3 e4
  obtain rfl : x' = x2 := Option.some.inj (f1.symm.trans (e5 xs q1))
  obtain rfl : y' = y2 := Option.some.inj (f2.symm.trans (e6 ys q2))
  refine ⟨same_upd hT, fun ww => .tup (O := [] ++ ([] ++ [])) ⟨upd_same, fresh_nw ww T hT⟩ (.cons ((g1.mono kp fun _ z => nomatch z).upd hT fun z hz => .inl hz) (.cons ((g2.mono kp fun _ z => nomatch z).upd hT fun z hz => .inl hz) .nil))⟩
theorem vi_zipM {elts : List Expr} {kk : Nat} {tpos zp : Pos} (hK : X.K = G.K) (hg : Gl X "zip") (hm : X.mg "zip" = none) (h1 : VE G X E p s e m) (h2 : VE G X E p2 s2 e2 m2) (wf : (s || p2) = true := by rfl) (hs : starEach [e, e2] X.env = (false, eval e X.env) :: starEach [e2] X.env := by rfl) (hs2 : starEach [e2] X.env = (false, eval e2 X.env) :: starEach [] X.env := by rfl) (hpl : (backTo pos (starEach [e2] X.env)).any (·.1) = false := by rfl) :
    VI G X E (.Tuple elts kk tpos) (.Call (.Name "zip" zp) [e, e2] [] pos) (mZipM m m2) := by
  refine PI.pre (pi_zipM hg hm (pa_cons h1 (pa_cons h2 pa_nil hs2) hs) hs hpl) fun σ H K ⟨R, ρ, Os, rel, post⟩ => ?_
  refine nest_of (G := G) (E := E) (σ := σ) (os := [⟨p, s, m⟩, ⟨p2, s2, m2⟩]) (wf2 wf) rel (K := fun vs H1 => ∃ a b xs ys, vs = [.ref a, .ref b] ∧ SqT X.K H1 a xs ∧ SqL X.K H1 b ys ∧ K (ItzM X.K a b) H1) ?_
  rw [evalA_eq]
  unfold mZipM at post
  simp only [List.map_cons, List.map_nil]
  cases he : evalM [m, m2] ρ with
  | bad => rw [he] at post; exact post
  | exc e ρ' => rw [he] at post; exact post
  | ok vs ρ' =>
    rw [he] at post
    intro xs H' Os' Ol rel' reps nd keep pure
    match vs, reps, post with
    | [.tup us, .lst false ws], reps, post =>
      dsimp only at post
      by_cases hc : fzs us = true ∧ us.length = ws.length
      rotate_left
      · rw [if_neg hc] at post; exact post.elim
      rw [if_pos hc] at post
      obtain ⟨x, y, O, O', rfl, r1, r2⟩ := reps.inv2
      cases r1 with
      | @tup a xs _ _ f1 g1 =>
      cases r2 with
      | @lstF b ys _ f2 g2 =>
      obtain rfl := g1.none_of_fz hc.1
      rw [hK]
      have up : ∀ c, WW R Os' c → WW (fun a => R a ∨ a ∈ stab [⟨p, s, m⟩, ⟨p2, s2, m2⟩] Ol) Os' c := fun c z => z.imp .inl id
      exact ⟨a, b, xs, ys, rfl, .inl (.inl f1.1), .inl (.inl f2.1), post _ H' Os' (rel'.weak fun a z => .inl z) (walk_zipM hc.2 ⟨f1.1, fun z => f1.2 (up _ z)⟩ ⟨f2.1, fun z => f2.2 (up _ z)⟩ (g1.weakW up) (g2.weakW up)) (keep.imp fun _ z => z.elim)⟩
end
end VL
/-! VL, part XD: tuple * n for every n from 1. -/
namespace L2
open PySem PySem.Spec PyProof.Rows
/-- a tuple times one is the tuple -/
theorem mulOne (l : Addr) (its : Array Value) (n : Nat) (dd : Option Addr) (sl : Array (Option Value)) (u : Tok) :
    Meets (Builtin.«tuple.__mul__» ⟨[.ref l, .int 1 u], []⟩) (fun _ R s => s.heap.get? l = some { cls := .type "tuple", dict := dd, data := .seq its n, slots := sl } ∧ R (.ok (.ret (Value.ref l))) s) :=
  .of_wp fun prog w A R s h => by
    obtain ⟨hp, g, d, tk, os⟩ := s
    obtain ⟨hl, h⟩ := h
    have f1 := AutoSeq1.idx_int
    wp_walk using wpAny_loadPart' hl
    exact ⟨_, rfl, h⟩
def rOneT (K : PySem.W.Frag) : R2 := fun x y H Q => ∃ l xs, x = .ref l ∧ y = .int 1 ∧ SqT K H l xs ∧ Q (.ref l) H
theorem op_oneT {X : Cx} : OpR X (binaryOp .Mult) (rOneT X.K) := by
  intro pins s σ H x y v u Q I rx ry h
  obtain ⟨l, xs, rfl, rfl, hT, q⟩ := h
  cases rx
  obtain ⟨t, rfl⟩ := ry
  obtain ⟨its, r, ⟨⟨cls, dd, data, sl⟩, ho, hc, n, hd⟩, hs⟩ := I.tuple hT
  simp only at hc hd
  subst hc hd
  exact wpAny_binaryOp_repeat_ref (T := "tuple") (U := "int") (by decide) ⟨_, ho, rfl⟩ (fun s' => typeIs_int s' 1 t) noFill_tuple_mul F.fills_int_mul F.slot_int_rmul repeat_tuple F.slot_int_index.lookup
    (call_meets F.slot_int_rmul (typeIs_int s 1 t) F.entry_int_rmul (F.args_int_rmul_2 _ _) (int_rmul_tuple 1 t l its.toArray n dd sl)
      ⟨ho, rfl, ⟨_, ho, rfl⟩, call_meets F.slot_tuple_mul ⟨_, ho, rfl⟩ F.entry_tuple_mul (F.args_tuple_mul_2 _ _) (mulOne l its.toArray n dd sl t) ⟨ho, ⟨.ref l, H, I, rfl, q⟩⟩⟩)
theorem op_mulT1 {X : Cx} : OpR X (binaryOp .Mult) (fun x y H Q => rRepT X.K x y H Q ∨ rOneT X.K x y H Q) := fun pins s σ H x y v u Q I rx ry h => h.elim (op_repT pins s σ H x y v u Q I rx ry) (op_oneT pins s σ H x y v u Q I rx ry)
end L2
namespace VL
open PySem L2
/-- a tuple, n times, n from 1 on -/
def semMulT : List Val → Option Val
  | [.tup a, .int k] => if a ≠ [] ∧ 1 ≤ k ∧ k ≤ 1000 ∧ a.length ≤ 1000 ∧ fzs a = true then some (.tup (List.replicate k.toNat a).flatten) else none
  | _ => none
theorem ok_mulT {G : Gam} : OkF G (r2 fun x y H Q => rRepT G.K x y H Q ∨ rOneT G.K x y H Q) semMulT := by
  intro W H xs vs Ol v Q w r hs m
  unfold semMulT at hs
  split at hs
  · obtain ⟨x, y, O, O', rfl, r1, r2⟩ := r.inv2
    cases r2
    split at hs
    · rename_i k h
      cases hs
      obtain ⟨a, xs, rfl, e1, q1⟩ := rep_tupT r1
      by_cases hk : k = 1
      · subst hk
        refine .inr ⟨a, xs, rfl, rfl, e1, ?_⟩
        have e : (List.replicate (1 : Int).toNat ‹List Val›).flatten = ‹List Val› := by simp
        rw [e] at m
        exact m.same (r1.fz' (by simpa [Val.fz] using h.2.2.2.2))
      · refine .inl ⟨a, k, xs, rfl, rfl, e1, fun z => ?_, by omega, h.2.2.1, by rw [q1.length]; exact h.2.2.2.1, m.tup (Reps.rep (q1.fz h.2.2.2.2) _) (fresh_nw w)⟩
        subst z
        cases q1
        exact h.1 rfl
    · cases hs
  · cases hs
end VL
namespace VL
open PySem L2
theorem hu65 {k : Nat} {A : Around} (r : Room k A) : A.units + 65 < cLine := by have := r.un; omega
theorem hu0 {k : Nat} {A : Around} (r : Room k A) : A.units < cLine := by have := r.un; omega
end VL
/-! VL, part XE: isinstance by several built-in types. -/
namespace VL
open PySem L2
def isiAny (t : String) : List Val → Option Bool
  | [] => some false
  | .ty u :: r => match isiB t u, isiAny t r with
    | some b, some c => some (b || c)
    | _, _ => none
  | _ => none
def semIsiT : List Val → Option Val
  | [v, .tup cs] => match tyName v with
    | some t => (isiAny t cs).map Val.bl
    | none => none
  | _ => none
theorem isiAny_ok {G : Gam} {W : Addr → Prop} {H : Hp} {t : String} : ∀ {cs : List Val} {xs : List V} {O : List Addr} {b : Bool}, Reps G W H xs cs O → isiAny t cs = some b → ∃ us : List Value, Paired ClsV xs us ∧ PySem.W.kitAny G.K (.type t) us = some b
  | [], _, _, _, r, h => by cases r; cases h; exact ⟨[], .nil, rfl⟩
  | c :: cs, _, _, b, r, h => by
    cases r with
    | cons r rr =>
      cases c with
      | ty u =>
        cases r
        unfold isiAny at h
        split at h
        · rename_i b1 b2 e1 e2
          cases h
          obtain ⟨us, p, q⟩ := isiAny_ok rr e2
          refine ⟨.type u :: us, .cons (.ty u) p, ?_⟩
          unfold PySem.W.kitAny
          rw [isiB_ok e1]
          cases b1 with
          | true => rfl
          | false => simpa using q
        · cases h
      | _ => cases h
theorem ok_isiT {G : Gam} : OkF G (rIsiT G.K) semIsiT := by
  intro W H xs vs Ol v Q w r hs m
  unfold semIsiT at hs
  split at hs
  · obtain ⟨x, y, O, O', rfl, r1, r2⟩ := r.inv2
    split at hs
    · rename_i t ht
      cases hb : isiAny t ‹List Val› with
      | none => rw [hb] at hs; cases hs
      | some b =>
        rw [hb] at hs
        cases hs
        cases r2 with
        | tup h' rr =>
          obtain ⟨us, p, q⟩ := isiAny_ok rr hb
          exact ⟨_, _, _, _, us, b, rfl, h'.1, p, rep_tyX r1 ht, q, m.same (.bl _)⟩
    · cases hs
  · cases hs
end VL
/-! VL, part XF: a list, of whatever, beside the empty list. -/
namespace L2
open PySem PySem.Spec PyProof.Rows PySem.SeqAt
def rEmp (K : PySem.W.Frag) (neg : Bool) : R2 := fun x y H Q => ∃ a b xs, x = .ref a ∧ y = .ref b ∧ SqL K H a xs ∧ SqL K H b [] ∧ Q (.bl (xor neg xs.isEmpty)) H
theorem op_emp {X : Cx} (hu : X.A.units < cLine) : OpR X (compareOp .Eq) (rEmp X.K false) := by
  intro pins s σ H x y v u Q I rx ry h
  obtain ⟨a, b, xs, rfl, rfl, h1, h2, q⟩ := h
  cases rx
  cases ry
  obtain ⟨us, r1, p1, _⟩ := I.list h1
  obtain ⟨ws, r2, p2, _⟩ := I.list h2
  cases r2
  have fin : ∀ c, c = xs.isEmpty → RcAt X.A s (.ref a) (.ref b) c → wpAny (model X.prog X.w) X.A (compareOp .Eq (.ref a) (.ref b)) (EP X pins σ Q) X.xe s := fun c e rc => rc _ _ _ _ ⟨.bl c, H, I, rfl, by rw [e]; simpa using q⟩
  cases us with
  | nil => cases r1; exact fin true rfl (RcAt.lists (e := fun _ => true) p1.isList p2.isList rfl hu fun j h _ => absurd h (by simp))
  | cons z us => cases r1; exact fin false rfl (RcAt.lists_lengths p1.isList p2.isList (by simp) hu)
theorem op_nemp {X : Cx} (hu : X.A.units < cLine) : OpR X (compareOp .NotEq) (rEmp X.K true) := by
  intro pins s σ H x y v u Q I rx ry h
  obtain ⟨a, b, xs, rfl, rfl, h1, h2, q⟩ := h
  cases rx
  cases ry
  obtain ⟨us, r1, p1, _⟩ := I.list h1
  obtain ⟨ws, r2, p2, _⟩ := I.list h2
  cases r2
  have fin : ∀ c, c = !xs.isEmpty → RcNeAt X.A s (.ref a) (.ref b) c → wpAny (model X.prog X.w) X.A (compareOp .NotEq (.ref a) (.ref b)) (EP X pins σ Q) X.xe s := fun c e rc => rc _ _ _ _ ⟨.bl c, H, I, rfl, by rw [e]; simpa using q⟩
  cases us with
  | nil => cases r1; exact fin false rfl (RcNeAt.lists (e := fun _ => true) p1.isList p2.isList rfl hu fun j h _ => absurd h (by simp))
  | cons z us => cases r1; exact fin true rfl (RcNeAt.lists_lengths p1.isList p2.isList (by simp) hu)
end L2
namespace VL
open PySem L2
def semEmp (neg : Bool) : List Val → Option Val
  | [.lst _ l, .lst _ []] => some (.bl (xor neg l.isEmpty))
  | _ => none
theorem ok_emp {G : Gam} {neg : Bool} : OkF G (r2 (rEmp G.K neg)) (semEmp neg) := by
  intro W H xs vs Ol v Q w r hs m
  unfold semEmp at hs
  split at hs
  · obtain ⟨x, y, O, O', rfl, r1, r2⟩ := r.inv2
    cases hs
    obtain ⟨a, ys, O1, rfl, e1, q1⟩ := rep_lstL r1
    obtain ⟨b, zs, O2, rfl, e2, q2⟩ := rep_lstL r2
    cases q2
    refine ⟨a, b, ys, rfl, rfl, .inl (.inl e1), .inl (.inl e2), ?_⟩
    have e : ys.isEmpty = List.isEmpty ‹List Val› := by
      have := q1.length
      cases ys <;> cases ‹List Val› <;> simp_all
    rw [e]
    exact m.same (.bl _)
  · cases hs
end VL
namespace VL
open PySem L2
theorem ve_eqm {G : Gam} {X : Cx} {E : WX} {e : Expr} {p p' s : Bool} {m m' : ME} (h : VE G X E p s e m) (hp : p = p') (hm : m = m') : VE G X E p' s e m' := by subst hp hm; exact h
end VL
namespace VL
open PySem L2
/-- a default's address does not count -/
def kn : Arg → Arg
  | .k _ u => .k .non u
  | a => a
theorem vals_kn : ∀ as : List Arg, vals (as.map kn) = vals as
  | [] => rfl
  | .v o :: as => by simp [kn, vals, vals_kn as]
  | .r _ :: as => by simp [kn, vals, vals_kn as]
  | .k _ _ :: as => by simp [kn, vals, vals_kn as]
theorem refsOk_kn (ρ : VEnv) : ∀ as : List Arg, refsOk ρ (as.map kn) = refsOk ρ as
  | [] => rfl
  | .v o :: as => by simp [kn, refsOk, refsOk_kn ρ as]
  | .r _ :: as => by simp [kn, refsOk, refsOk_kn ρ as]
  | .k _ _ :: as => by simp [kn, refsOk, refsOk_kn ρ as]
theorem fill_kn : ∀ (as : List Arg) (ρ : VEnv) (vs : List Val), fill (as.map kn) ρ vs = fill as ρ vs
  | [], _, _ => rfl
  | .v o :: as, ρ, [] => by simp [kn, fill]
  | .v o :: as, ρ, v :: vs => by simp [kn, fill, fill_kn as]
  | .r _ :: as, ρ, vs => by simp [kn, fill, fill_kn as]
  | .k _ _ :: as, ρ, vs => by simp [kn, fill, fill_kn as]
theorem back_kn : ∀ (as : List Arg) (fs : VEnv) (ρ : VEnv), back (as.map kn) fs ρ = back as fs ρ
  | [], _, _ => by simp [back]
  | .v o :: as, [], ρ => by simp [kn, back]
  | .v o :: as, f :: fs, ρ => by simp [kn, back, back_kn as]
  | .r _ :: as, [], ρ => by simp [kn, back]
  | .r _ :: as, some f :: fs, ρ => by simp [kn, back, back_kn as]
  | .r _ :: as, none :: fs, ρ => by simp [kn, back, back_kn as]
  | .k _ _ :: as, [], ρ => by simp [kn, back]
  | .k _ _ :: as, f :: fs, ρ => by simp [kn, back, back_kn as]
theorem mCall_kn (mf : MF) (as : List Arg) : mCall mf (as.map kn) = mCall mf as := by
  funext ρ
  unfold mCall
  simp only [vals_kn, refsOk_kn, fill_kn, back_kn]
theorem mCall_eq {mf : MF} {as bs : List Arg} (h : as.map kn = bs.map kn) : mCall mf as = mCall mf bs := by rw [← mCall_kn mf as, h, mCall_kn]
end VL
/-! VL, part Z: the functions run, by simp. -/
namespace VL
open PySem L2
section
variable {ρ : VEnv} {m m1 m2 m3 : ME} {a b : MS} {i j : Nat} {ms : List ME}
@[simp] theorem z_evalM0 : evalM [] ρ = .ok [] ρ := rfl
@[simp] theorem z_evalM1 : evalM (m :: ms) ρ = match m ρ with
    | .ok v ρ1 => (match evalM ms ρ1 with
      | .ok vs ρ2 => .ok (v :: vs) ρ2
      | .exc e ρ2 => .exc e ρ2
      | .bad => .bad)
    | .exc e ρ1 => .exc e ρ1
    | .bad => .bad := rfl
@[simp] theorem z_fun {sem : List Val → Option Val} : mFun sem ms ρ = match evalM ms ρ with
  | .ok vs ρ' => (match sem vs with
    | some v => .ok v ρ'
    | none => .bad)
  | .exc e ρ' => .exc e ρ'
  | .bad => .bad := rfl
@[simp] theorem z_var : mVar i ρ = match ρ[i]? with
  | some (some v) => .ok v ρ
  | _ => .bad := rfl
@[simp] theorem z_c {v : Val} : mC v ρ = .ok v ρ := rfl
@[simp] theorem z_stab : mStab m ρ = match m ρ with
  | .ok v ρ' => if v.fz = true then .ok v ρ' else .bad
  | .exc e ρ' => .exc e ρ'
  | .bad => .bad := rfl
@[simp] theorem z_frz : mFrz i ρ = match ρ[i]? with
  | some (some v) => .ok v.frz (ρ.set i (some v.frz))
  | _ => .bad := rfl
@[simp] theorem z_fz : mFz m ρ = match m ρ with
  | .ok v ρ' => .ok v.frz ρ'
  | .exc e ρ' => .exc e ρ'
  | .bad => .bad := rfl
@[simp] theorem z_not : mNot m ρ = match m ρ with
  | .ok (.bl b) ρ' => .ok (.bl (!b)) ρ'
  | .ok _ _ => .bad
  | .exc e ρ' => .exc e ρ'
  | .bad => .bad := rfl
@[simp] theorem z_and : mAnd m1 m2 ρ = match m1 ρ with
  | .ok (.bl b) ρ' => if b = true then m2 ρ' else .ok (.bl false) ρ'
  | .ok _ _ => .bad
  | .exc e ρ' => .exc e ρ'
  | .bad => .bad := rfl
@[simp] theorem z_or : mOr m1 m2 ρ = match m1 ρ with
  | .ok (.bl b) ρ' => if b = true then .ok (.bl true) ρ' else m2 ρ'
  | .ok _ _ => .bad
  | .exc e ρ' => .exc e ρ'
  | .bad => .bad := rfl
@[simp] theorem z_if : mIf m1 m2 m3 ρ = match m1 ρ with
  | .ok (.bl b) ρ' => if b = true then m2 ρ' else m3 ρ'
  | .ok _ _ => .bad
  | .exc e ρ' => .exc e ρ'
  | .bad => .bad := rfl
@[simp] theorem z_lst : mLst ms ρ = match evalM ms ρ with
  | .ok vs ρ' => .ok (.lst true vs) ρ'
  | .exc e ρ' => .exc e ρ'
  | .bad => .bad := rfl
@[simp] theorem z_tup : mTup ms ρ = match evalM ms ρ with
  | .ok vs ρ' => .ok (.tup vs) ρ'
  | .exc e ρ' => .exc e ρ'
  | .bad => .bad := rfl
@[simp] theorem z_next : mNext ρ = .nx ρ := rfl
@[simp] theorem z_seq : mSeq a b ρ = match a ρ with
  | .nx ρ' => b ρ'
  | r => r := rfl
@[simp] theorem z_drop : mDrop m ρ = match m ρ with
  | .ok _ ρ' => .nx ρ'
  | .exc e ρ' => .exc e ρ'
  | .bad => .bad := rfl
@[simp] theorem z_ret : mRet m ρ = match m ρ with
  | .ok v ρ' => .rt v ρ'
  | .exc e ρ' => .exc e ρ'
  | .bad => .bad := rfl
@[simp] theorem z_ifs : mIfS m a b ρ = match m ρ with
  | .ok (.bl t) ρ' => if t = true then a ρ' else b ρ'
  | .ok _ _ => .bad
  | .exc e ρ' => .exc e ρ'
  | .bad => .bad := rfl
@[simp] theorem z_set : mSet i m ρ = match m ρ with
  | .ok v ρ' => if i < ρ'.length then .nx (ρ'.set i (some v)) else .bad
  | .exc e ρ' => .exc e ρ'
  | .bad => .bad := rfl
@[simp] theorem z_par : mPar i j m1 m2 ρ = match evalM [m1, m2] ρ with
  | .ok [v, w] ρ' => if i < ρ'.length ∧ j < ρ'.length then .nx ((ρ'.set i (some v)).set j (some w)) else .bad
  | .ok _ _ => .bad
  | .exc e ρ' => .exc e ρ'
  | .bad => .bad := rfl
@[simp] theorem z_setF {cs : List Nat} {f : Str} : mSetF cs i f m ρ = match m ρ with
  | .ok v ρ1 => (match ρ1[i]? with
    | some (some (.obj true n fs xs)) => if n ∈ cs ∧ fs.length < 1000 then .nx (ρ1.set i (some (.obj true n (putFn f fs) (putFv f v fs xs)))) else .bad
    | _ => .bad)
  | .exc e ρ' => .exc e ρ'
  | .bad => .bad := rfl
@[simp] theorem z_putL {mi : ME} : mPutL i mi m ρ = match m ρ with
  | .ok v ρ1 => (match mi ρ1 with
    | .ok (.int k) ρ2 => if ρ2 = ρ1 then (match ρ2[i]? with
      | some (some (.lst true xs)) => (match ixN xs.length k with
        | some j => .nx (ρ2.set i (some (.lst true (xs.set j v))))
        | none => .bad)
      | _ => .bad) else .bad
    | _ => .bad)
  | .exc e ρ' => .exc e ρ'
  | .bad => .bad := rfl
@[simp] theorem z_call {mf : MF} {as : List Arg} : mCall mf as ρ = if refsOk ρ as = true then (match evalM ((vals as).map Op.m) ρ with
  | .ok vs ρ1 => (match fill as ρ1 vs with
    | some (us, ρ2) => (match mf us with
      | .ok v fs => .ok v (back as fs ρ2)
      | .exc e fs => .exc e (back as fs ρ2)
      | .bad => .bad)
    | none => .bad)
  | .exc e ρ1 => .exc e ρ1
  | .bad => .bad) else .bad := rfl
end
section
variable {a b : Int} {x y : Str} {o : Bool} {xs ys : List Val} {ns : List Int} {c : Bool} {u v : Val}
@[simp] theorem z_add : semAdd [.int a, .int b] = some (.int (a + b)) := rfl
@[simp] theorem z_addS : semAdd [.str x, .str y] = if x.length + y.length ≤ 16777216 then some (.str (x ++ y)) else none := rfl
@[simp] theorem z_addL {p : Bool} : semAdd [.lst o xs, .lst p ys] = if xs.length + ys.length ≤ 16777216 ∧ fzs xs = true ∧ fzs ys = true then some (.lst true (xs ++ ys)) else none := rfl
@[simp] theorem z_sub : semSub [.int a, .int b] = some (.int (a - b)) := rfl
@[simp] theorem z_mul : semMul [.int a, .int b] = if mulOk a b then some (.int (a * b)) else none := rfl
@[simp] theorem z_div : semDiv [.int a, .int b] = if divOk b then some (.int (a / b)) else none := rfl
@[simp] theorem z_mod : semMod [.int a, .int b] = if 0 < b then some (.int (a % b)) else none := rfl
@[simp] theorem z_pow : semPow [.int a, .int b] = if powOk a b then some (.int (a ^ b.toNat)) else none := rfl
@[simp] theorem z_neg : semNeg [.int a] = some (.int (-a)) := rfl
@[simp] theorem z_cmp {f : Int → Int → Bool} : semCmp f [.int a, .int b] = some (.bl (f a b)) := rfl
@[simp] theorem z_lenL : semLen [.lst o xs] = some (.int xs.length) := rfl
@[simp] theorem z_lenT : semLen [.tup xs] = some (.int xs.length) := rfl
@[simp] theorem z_lenW : semLen [.wtp xs] = some (.int xs.length) := rfl
@[simp] theorem z_lenS : semLen [.scr ns] = some (.int ns.length) := rfl
@[simp] theorem z_int : semInt [.int a] = some (.int a) := rfl
@[simp] theorem z_intB : semInt [.bl c] = some (.int (if c then 1 else 0)) := rfl
@[simp] theorem z_str : semStr [.int a] = if a.natAbs.log2 < 1920 then some (.str (toString a)) else none := rfl
@[simp] theorem z_max : semMax2 [.int a, .int b] = some (.int (if b > a then b else a)) := rfl
@[simp] theorem z_min : semMin2 [.int a, .int b] = some (.int (if b < a then b else a)) := rfl
@[simp] theorem z_ixS : semIx [.scr ns, .int a] = match atI ns a with
    | some n => some (.int n)
    | none => none := rfl
@[simp] theorem z_ixL : semIx [.lst o xs, .int a] = match atI xs a with
    | some v => if v.fz = true then some v else none
    | none => none := rfl
@[simp] theorem z_ixT : semIx [.tup xs, .int a] = match atI xs a with
    | some v => if v.fz = true then some v else none
    | none => none := rfl
@[simp] theorem z_fzI : (Val.int a).fz = true := rfl
@[simp] theorem z_fzB : (Val.bl c).fz = true := rfl
@[simp] theorem z_fzN : Val.non.fz = true := rfl
@[simp] theorem z_fzS : (Val.str x).fz = true := rfl
@[simp] theorem z_fzC : (Val.scr ns).fz = true := rfl
@[simp] theorem z_fzL : (Val.lst o xs).fz = (!o && fzs xs) := by simp only [Val.fz]
@[simp] theorem z_fzT : (Val.tup xs).fz = fzs xs := by simp only [Val.fz]
@[simp] theorem z_fzO {n : Nat} {fs : List Str} : (Val.obj o n fs xs).fz = (!o && fzs xs) := by simp only [Val.fz]
@[simp] theorem z_fzs0 : fzs [] = true := by simp only [fzs]
@[simp] theorem z_fzs1 : fzs (v :: xs) = (v.fz && fzs xs) := by simp only [fzs]
@[simp] theorem z_frI : (Val.int a).frz = .int a := by simp only [Val.frz]
@[simp] theorem z_frB : (Val.bl c).frz = .bl c := by simp only [Val.frz]
@[simp] theorem z_frN : Val.non.frz = .non := by simp only [Val.frz]
@[simp] theorem z_frS : (Val.str x).frz = .str x := by simp only [Val.frz]
@[simp] theorem z_frL : (Val.lst o xs).frz = .lst false (frzs xs) := by simp only [Val.frz]
@[simp] theorem z_frT : (Val.tup xs).frz = .tup (frzs xs) := by simp only [Val.frz]
@[simp] theorem z_frO {n : Nat} {fs : List Str} : (Val.obj o n fs xs).frz = .obj false n fs (frzs xs) := by simp only [Val.frz]
@[simp] theorem z_frzs0 : frzs [] = [] := by simp only [frzs]
@[simp] theorem z_frzs1 : frzs (v :: xs) = v.frz :: frzs xs := by simp only [frzs]
mutual
theorem frz_of_fz : ∀ {v : Val}, v.fz = true → v.frz = v
  | .non, _ => by simp
  | .bl _, _ => by simp
  | .int _, _ => by simp
  | .str _, _ => by simp
  | .ty _, _ => by simp only [Val.frz]
  | .cn _, _ => by simp only [Val.frz]
  | .tup xs, h => by simp only [Val.fz] at h; simp only [Val.frz, frzs_of_fzs h]
  | .lst o xs, h => by
    simp only [Val.fz, Bool.and_eq_true, Bool.not_eq_true'] at h
    simp only [Val.frz, frzs_of_fzs h.2, h.1]
  | .dct o d ks xs, h => by
    simp only [Val.fz, Bool.and_eq_true, Bool.not_eq_true'] at h
    simp only [Val.frz, frzs_of_fzs h.2, h.1]
  | .obj o C fs xs, h => by
    simp only [Val.fz, Bool.and_eq_true, Bool.not_eq_true'] at h
    simp only [Val.frz, frzs_of_fzs h.2, h.1]
  | .exn _ _ _, _ => by simp only [Val.frz]
  | .scr _, _ => by simp only [Val.frz]
  | .wdk _ _, _ => by simp only [Val.frz]
  | .wtp _, _ => by simp only [Val.frz]
  | .fn _, _ => by simp only [Val.frz]
theorem frzs_of_fzs : ∀ {vs : List Val}, fzs vs = true → frzs vs = vs
  | [], _ => by simp
  | v :: vs, h => by
    simp only [fzs, Bool.and_eq_true] at h
    simp only [frzs, frz_of_fz h.1, frzs_of_fzs h.2]
end
end
section
variable {ρ : VEnv} {as : List Arg} {i : Nat} {op : Op} {v : Val} {vs : List Val} {x : V}
@[simp] theorem z_v0 : vals [] = [] := rfl
@[simp] theorem z_v1 : vals (.v op :: as) = op :: vals as := rfl
@[simp] theorem z_v2 : vals (.r i :: as) = vals as := rfl
@[simp] theorem z_v3 : vals (.k x v :: as) = vals as := rfl
@[simp] theorem z_r0 : refsOk ρ [] = true := rfl
@[simp] theorem z_r1 : refsOk ρ (.v op :: as) = refsOk ρ as := rfl
@[simp] theorem z_r2 : refsOk ρ (.r i :: as) = (slotOk ρ i && refsOk ρ as) := rfl
@[simp] theorem z_r3 : refsOk ρ (.k x v :: as) = refsOk ρ as := rfl
@[simp] theorem z_slot : slotOk ρ i = match ρ[i]? with
  | some (some _) => true
  | _ => false := rfl
@[simp] theorem z_f0 : fill [] ρ [] = some ([], ρ) := rfl
@[simp] theorem z_f1 : fill (.v op :: as) ρ (v :: vs) = match fill as ρ vs with
    | some (us, ρ') => some (v :: us, ρ')
    | none => none := rfl
@[simp] theorem z_f2 : fill (.r i :: as) ρ vs = match ρ[i]? with
    | some (some v) => (match fill as (ρ.set i none) vs with
      | some (us, ρ') => some (v :: us, ρ')
      | none => none)
    | _ => none := rfl
@[simp] theorem z_f3 : fill (.k x v :: as) ρ vs = match fill as ρ vs with
    | some (us, ρ') => some (v :: us, ρ')
    | none => none := rfl
@[simp] theorem z_b0 {fs : VEnv} : back [] fs ρ = ρ := rfl
@[simp] theorem z_b1 {f : Option Val} {fs : VEnv} : back (.v op :: as) (f :: fs) ρ = back as fs ρ := by cases f <;> rfl
@[simp] theorem z_b2 {f : Val} {fs : VEnv} : back (.r i :: as) (some f :: fs) ρ = back as fs (ρ.set i (some f)) := rfl
@[simp] theorem z_b3 {f : Option Val} {fs : VEnv} : back (.k x v :: as) (f :: fs) ρ = back as fs ρ := by cases f <;> rfl
@[simp] theorem z_o0 : outs [] ρ = [] := rfl
@[simp] theorem z_o1 {b : Bool} {bs : List Bool} {f : Option Val} : outs (b :: bs) (f :: ρ) = (if b = true then f else none) :: outs bs ρ := rfl
end
section
variable {ρ : VEnv} {m : ME} {ms : List ME} {acc a b : Str}
@[simp] theorem z_j0 : mJoin [] acc ρ = .ok (.str acc) ρ := rfl
@[simp] theorem z_j1 : mJoin (m :: ms) acc ρ = match m ρ with
    | .ok (.str y) ρ1 => if (acc ++ y).length ≤ 16777216 then mJoin ms (acc ++ y) ρ1 else .bad
    | .ok _ _ => .bad
    | .exc e ρ1 => .exc e ρ1
    | .bad => .bad := rfl
theorem char_lt (c : Char) : c.toNat < 0x110000 := by
  have := c.valid
  unfold Char.toNat
  rcases this with h | h
  · have : c.val.toNat < 0xd800 := h
    omega
  · exact h.2
theorem strOk_of (s : String) : PyData.strOk (Str.ofString s) = true := by
  unfold PyData.strOk
  rw [← Array.all_toList, PyProof.Rows.signs_ofString, List.all_map, List.all_eq_true]
  exact fun c _ => decide_eq_true (char_lt c)
theorem strOk_app (h : PyData.strOk a = true) (h' : PyData.strOk b = true) : PyData.strOk (a ++ b) = true := by
  unfold PyData.strOk at *
  show (a.cps ++ b.cps).all _ = true
  simp only [Array.all_append, h, h', Bool.and_self]
theorem str_app_len : (a ++ b).length = a.length + b.length := by
  show (a.cps ++ b.cps).size = _
  simp [Str.length]
end
@[simp] theorem eq_int (a b : Int) : semEq [.int a, .int b] = some (.bl (decide (a = b))) := by
  simp [semEq, eqD, toD, SeqAt.shaped, PyData.eqv, PyData.canLay0, PyData.depth, Bool.beq_eq_decide_eq]
@[simp] theorem ne_int (a b : Int) : semNe [.int a, .int b] = some (.bl (!decide (a = b))) := by
  simp [semNe, eqD, toD, SeqAt.shaped, PyData.eqv, PyData.canLay0, PyData.depth, Bool.beq_eq_decide_eq]
@[simp] theorem eq_bl (a b : Bool) : semEq [.bl a, .bl b] = some (.bl (decide (a = b))) := by
  simp [semEq, eqD, toD, SeqAt.shaped, PyData.eqv, PyData.canLay0, PyData.depth, Bool.beq_eq_decide_eq]
@[simp] theorem ne_bl (a b : Bool) : semNe [.bl a, .bl b] = some (.bl (!decide (a = b))) := by
  simp [semNe, eqD, toD, SeqAt.shaped, PyData.eqv, PyData.canLay0, PyData.depth, Bool.beq_eq_decide_eq]
theorem eq_str {a b : Str} (h1 : PyData.strOk a = true) (h2 : PyData.strOk b = true) : semEq [.str a, .str b] = some (.bl (decide (a = b))) := by
  simp [semEq, eqD, toD, SeqAt.shaped, PyData.eqv, PyData.canLay0, PyData.depth, Bool.beq_eq_decide_eq, h1, h2]
@[simp] theorem z_asg {m : ME} {g : MG} {ρ : VEnv} : mAsg m g ρ = (match m ρ with
  | .ok v ρ' => (match g v ρ' with
    | some ρ2 => .nx ρ2
    | none => .bad)
  | .exc e ρ' => .exc e ρ'
  | .bad => .bad) := rfl
@[simp] theorem z_gV {i : Nat} {v : Val} {ρ : VEnv} : gV i v ρ = if i < ρ.length then some (ρ.set i (some v)) else none := rfl
@[simp] theorem z_gTup {g : MGs} {n : Nat} {vs : List Val} {ρ : VEnv} : gTupV g n (.tup vs) ρ = if vs.length = n then g vs ρ else none := rfl
@[simp] theorem z_gNil {ρ : VEnv} : gNilV [] ρ = some ρ := rfl
@[simp] theorem z_gCons {g : MG} {gs : MGs} {v : Val} {vs : List Val} {ρ : VEnv} : gConsV g gs (v :: vs) ρ = (match g v ρ with
  | some ρ' => gs vs ρ'
  | none => none) := rfl
end VL
/-! VL, part EV: reckoning step by step, nothing unfolded. -/
namespace VL
open PySem L2
section
variable {ρ ρ' ρ1 ρ2 : VEnv} {m m1 m2 m3 c : ME} {a b v w : Val} {p1 s1 p2 s2 p3 s3 : Bool} {i : Nat}
theorem E_var (h : ρ[i]? = some (some v)) : mVar i ρ = .ok v ρ := by simp [h]
theorem E_stab (h : ρ[i]? = some (some v)) (hf : v.fz = true) : mStab (mVar i) ρ = .ok v ρ := by simp [h, hf]
theorem E_c : mC v ρ = .ok v ρ := rfl
theorem E_fz (h : m ρ = .ok v ρ') (e : v.frz = w) : mFz m ρ = .ok w ρ' := by simp [h, e]
theorem E_f1 {sm : List Val → Option Val} (h1 : m1 ρ = .ok a ρ1) (e : sm [a] = some v) : mFun sm [m1] ρ = .ok v ρ1 := by simp [h1, e]
theorem E_f2 {sm : List Val → Option Val} (h1 : m1 ρ = .ok a ρ1) (h2 : m2 ρ1 = .ok b ρ2) (e : sm [a, b] = some v) : mFun sm [m1, m2] ρ = .ok v ρ2 := by simp [h1, h2, e]
theorem E_call1 {f : MF} {x : Option Val} (h1 : m1 ρ = .ok a ρ1) (e : f [a] = .ok v [x]) : mCall f [.v ⟨p1, s1, m1⟩] ρ = .ok v ρ1 := by simp [h1, e]
theorem E_call2 {f : MF} {x y : Option Val} (h1 : m1 ρ = .ok a ρ1) (h2 : m2 ρ1 = .ok b ρ2) (e : f [a, b] = .ok v [x, y]) : mCall f [.v ⟨p1, s1, m1⟩, .v ⟨p2, s2, m2⟩] ρ = .ok v ρ2 := by simp [h1, h2, e]
theorem E_call3 {f : MF} {x y z : Option Val} {d : Val} {ρ3 : VEnv} (h1 : m1 ρ = .ok a ρ1) (h2 : m2 ρ1 = .ok b ρ2) (h3 : m3 ρ2 = .ok d ρ3) (e : f [a, b, d] = .ok v [x, y, z]) : mCall f [.v ⟨p1, s1, m1⟩, .v ⟨p2, s2, m2⟩, .v ⟨p3, s3, m3⟩] ρ = .ok v ρ3 := by simp [h1, h2, h3, e]
theorem E_objC {n : Nat} {mn : Str} (h : m ρ = .ok v ρ') (o : objC n mn v = true) : mObjC n mn m ρ = .ok v ρ' := by simp [mObjC, h, o]
theorem E_orF (h1 : m1 ρ = .ok (.bl false) ρ1) (h2 : m2 ρ1 = .ok v ρ2) : mOr m1 m2 ρ = .ok v ρ2 := by simp [h1, h2]
theorem E_orT (h1 : m1 ρ = .ok (.bl true) ρ1) : mOr m1 m2 ρ = .ok (.bl true) ρ1 := by simp [h1]
theorem E_andT (h1 : m1 ρ = .ok (.bl true) ρ1) (h2 : m2 ρ1 = .ok v ρ2) : mAnd m1 m2 ρ = .ok v ρ2 := by simp [h1, h2]
theorem E_andF (h1 : m1 ρ = .ok (.bl false) ρ1) : mAnd m1 m2 ρ = .ok (.bl false) ρ1 := by simp [h1]
theorem E_not {k : Bool} (h1 : m1 ρ = .ok (.bl k) ρ1) : mNot m1 ρ = .ok (.bl !k) ρ1 := by simp [h1]
theorem E_ifT {A B : MS} (h : c ρ = .ok (.bl true) ρ1) : mIfS c A B ρ = A ρ1 := by simp [h]
theorem E_ifF {A B : MS} (h : c ρ = .ok (.bl false) ρ1) : mIfS c A B ρ = B ρ1 := by simp [h]
theorem E_set (h : m ρ = .ok v ρ') (hi : i < ρ'.length) (e : ρ'.set i (some v) = ρ2) : mSet i m ρ = .nx ρ2 := by simp [h, hi, e]
theorem E_ret (h : m ρ = .ok v ρ') : mRet m ρ = .rt v ρ' := by simp [h]
theorem E_seq {A B : MS} {r : RS} (h : A ρ = .nx ρ') (h2 : B ρ' = r) : mSeq A B ρ = r := by simp [h, h2]
theorem E_next : mNext ρ = .nx ρ := rfl
theorem E_par {j : Nat} (h1 : m1 ρ = .ok a ρ1) (h2 : m2 ρ1 = .ok b ρ2) (hi : i < ρ2.length) (hj : j < ρ2.length) (e : (ρ2.set i (some a)).set j (some b) = ρ') : mPar i j m1 m2 ρ = .nx ρ' := by simp [mPar, h1, h2, hi, hj, e]
theorem E_lst1 (h1 : m1 ρ = .ok a ρ1) : mLst [m1] ρ = .ok (.lst true [a]) ρ1 := by simp [h1]
theorem E_body {bs : List Bool} {N : Nat} {m : MS} {vs : List Val} {ρ0 : VEnv} (h0 : vs.map some ++ List.replicate (N - bs.length) none = ρ0) (h : m ρ0 = .rt w ρ') : mBody bs N m vs = .ok w (outs bs ρ') := by
  unfold mBody
  rw [h0, h]
theorem E_bodyN {bs : List Bool} {N : Nat} {m : MS} {vs : List Val} {ρ0 : VEnv} (h0 : vs.map some ++ List.replicate (N - bs.length) none = ρ0) (h : m ρ0 = .nx ρ') : mBody bs N m vs = .ok .non (outs bs ρ') := by
  unfold mBody
  rw [h0, h]
theorem E_drop (h : m ρ = .ok v ρ') : mDrop m ρ = .nx ρ' := by simp [h]
theorem E_call0 {f : MF} (e : f [] = .ok v []) : mCall f [] ρ = .ok v ρ := by simp [e]
end
end VL
/-! VL, part EW: more reckoning step by step. -/
namespace VL
open PySem L2
section
variable {ρ ρ' ρ1 ρ2 ρ3 : VEnv} {m m1 m2 m3 c : ME} {a b v w : Val} {p1 s1 p2 s2 p3 s3 : Bool} {i : Nat}
theorem E_asgD {g : MG} (h : m ρ = .ok v ρ1) (hf : v.fz = true) (e : g v ρ1 = some ρ2) : mAsgD m g ρ = .nx ρ2 := by
  unfold mAsgD
  simp only [h]
  rw [if_pos hf]
  simp only [e]
theorem E_putD {k : Val} {mk : ME} {ks vs : List Val} (hk : mk ρ = .ok k ρ) (ik : isKey .k k = true) (hρ : ρ[i]? = some (some (.dct true .k ks vs))) (hf : fzs vs = true) (hl : ks.length = vs.length) (h2 : ks.length < 1000) (e : dctOf (putD (ks.zip vs) k v) = w) (e2 : ρ.set i (some w) = ρ') : gPutD i mk v ρ = some ρ' := by
  have h3 : ks.length < 16777216 := by omega
  unfold gPutD
  simp only [hk, hρ]
  rw [if_pos ⟨trivial, ik⟩, if_pos ⟨hf, hl, h3⟩, e, e2]
theorem E_orV1 (h : m1 ρ = .ok v ρ1) (t : truB v = some true) : mOrV m1 m2 ρ = .ok v ρ1 := by
  unfold mOrV
  simp only [h, t]
theorem E_orV2 (h : m1 ρ = .ok v ρ1) (t : truB v = some false) (h2 : m2 ρ1 = .ok w ρ2) : mOrV m1 m2 ρ = .ok w ρ2 := by
  unfold mOrV
  simp only [h, t, h2]
theorem E_forN {g : MG} {body : MS} : forL g body [] ρ = .nx ρ := rfl
theorem E_forC {g : MG} {body : MS} {us : List Val} {r : RS} (h : g v ρ = some ρ1) (hb : body ρ1 = .nx ρ2) (t : forL g body us ρ2 = r) : forL g body (v :: us) ρ = r := by
  unfold forL
  simp only [h, hb, t]
theorem E_for {mi : MI} {g : MG} {body : MS} {us : List Val} {r : RS} (h : mi ρ = .ok us ρ1) (t : forL g body us ρ1 = r) : mFor mi g body ρ = r := by
  unfold mFor
  simp only [h, t]
theorem E_itL {xs : List Val} (h : m ρ = .ok (.lst false xs) ρ1) : mItemsL m ρ = .ok xs ρ1 := by
  unfold mItemsL
  simp only [h]
theorem E_gV (h : i < ρ.length) (e : ρ.set i (some v) = ρ') : gV i v ρ = some ρ' := by rw [z_gV, if_pos h, e]
theorem E_ifeT (h : c ρ = .ok (.bl true) ρ1) : mIf c m1 m2 ρ = m1 ρ1 := by simp [h]
theorem E_ifeF (h : c ρ = .ok (.bl false) ρ1) : mIf c m1 m2 ρ = m2 ρ1 := by simp [h]
theorem E_app {xs : List Val} (h : m ρ = .ok v ρ1) (h0 : ρ[i]? = some (some (.lst true xs))) (hl : xs.length < 1000000) (e : ρ.set i (some (.lst true (xs ++ [v]))) = ρ') : mDrop (mLop i [] fApp m) ρ = .nx ρ' := by
  have h2 : fApp xs v = some (xs ++ [v]) := if_pos (by omega)
  simp only [z_drop, mLop, h0, getP, h, h2, setP, e]
theorem E_par3 {j l : Nat} (h1 : m1 ρ = .ok a ρ1) (h2 : m2 ρ1 = .ok b ρ2) (h3 : m3 ρ2 = .ok v ρ3) (hi : i < ρ3.length) (hj : j < ρ3.length) (hl : l < ρ3.length) (e : ((ρ3.set i (some a)).set j (some b)).set l (some v) = ρ') : mPar3 i j l m1 m2 m3 ρ = .nx ρ' := by simp [mPar3, h1, h2, h3, hi, hj, hl, e]
theorem E_rng1 {n : Nat} (h : m ρ = .ok (.int (n : Int)) ρ1) (hn : n ≤ 1000000) : mRng1 m ρ = .ok ((List.range n).map fun i : Nat => Val.int (i : Int)) ρ1 := by
  unfold mRng1
  rw [h]
  show (if -(2 ^ 62) ≤ (n : Int) ∧ (n : Int) < 2 ^ 62 then _ else _) = _
  rw [if_pos ⟨by omega, by omega⟩]
  simp
theorem E_tup2 (h1 : m1 ρ = .ok a ρ1) (h2 : m2 ρ1 = .ok b ρ2) : mTup [m1, m2] ρ = .ok (.tup [a, b]) ρ2 := by simp [h1, h2]
theorem E_lst2 (h1 : m1 ρ = .ok a ρ1) (h2 : m2 ρ1 = .ok b ρ2) : mLst [m1, m2] ρ = .ok (.lst true [a, b]) ρ2 := by simp [h1, h2]
theorem E_lst3 (h1 : m1 ρ = .ok a ρ1) (h2 : m2 ρ1 = .ok b ρ2) (h3 : m3 ρ2 = .ok v ρ3) : mLst [m1, m2, m3] ρ = .ok (.lst true [a, b, v]) ρ3 := by simp [h1, h2, h3]
/-- a call that changes the name in slot i -/
theorem E_callR1 {f : MF} {a' : Val} (h0 : ρ[i]? = some (some a)) (e : f [a] = .ok v [some a']) (es : ρ.set i (some a') = ρ') : mCall f [.r i] ρ = .ok v ρ' := by simp [h0, e, es]
theorem E_callR2 {f : MF} {a' : Val} {y : Option Val} (h : m ρ = .ok b ρ1) (h0 : ρ1[i]? = some (some a)) (h00 : ∃ z, ρ[i]? = some (some z)) (e : f [a, b] = .ok v [some a', y]) (es : ρ1.set i (some a') = ρ') : mCall f [.r i, .v ⟨p1, s1, m⟩] ρ = .ok v ρ' := by
  obtain ⟨z, hz⟩ := h00
  simp [hz, h, h0, e, es]
end
/-! ### for the tactic -/
section
variable {ρ ρ' ρ1 ρ2 : VEnv} {m c : ME} {ms : List ME} {v w : Val} {vs us : List Val} {i : Nat}
theorem EM_nil : evalM [] ρ = .ok [] ρ := rfl
theorem EM_cons (h : m ρ = .ok v ρ1) (t : evalM ms ρ1 = .ok vs ρ2) : evalM (m :: ms) ρ = .ok (v :: vs) ρ2 := by simp [h, t]
theorem E_fun {sm : List Val → Option Val} (h : evalM ms ρ = .ok us ρ1) (e : sm us = some v) : mFun sm ms ρ = .ok v ρ1 := by simp [h, e]
def argMs : List Arg → List ME
  | [] => []
  | .v ⟨_, _, m⟩ :: as => m :: argMs as
  | .r _ :: as => argMs as
  | .k _ _ :: as => argMs as
theorem argMs_eq : ∀ as : List Arg, (vals as).map Op.m = argMs as
  | [] => rfl
  | .v ⟨_, _, m⟩ :: as => by simp [argMs, vals, argMs_eq as]
  | .r _ :: as => by simp [argMs, vals, argMs_eq as]
  | .k _ _ :: as => by simp [argMs, vals, argMs_eq as]
theorem E_callG {mf : MF} {as : List Arg} {fs : VEnv} (hr : refsOk ρ as = true) (h : evalM (argMs as) ρ = .ok us ρ1) (hf : fill as ρ1 us = some (vs, ρ2)) (e : mf vs = .ok v fs) (hb : back as fs ρ2 = ρ') : mCall mf as ρ = .ok v ρ' := by
  rw [← argMs_eq] at h
  simp only [z_call, hr, if_true, h, hf, e, hb]
theorem E_lstM (h : evalM ms ρ = .ok us ρ1) : mLst ms ρ = .ok (.lst true us) ρ1 := by simp [h]
theorem E_tupM (h : evalM ms ρ = .ok us ρ1) : mTup ms ρ = .ok (.tup us) ρ1 := by simp [h]
theorem E_dctM {ns : List Str} (h : evalM ms ρ = .ok us ρ1) : mDct ns ms ρ = .ok (.dct true .k (ns.map Val.str) us) ρ1 := by unfold mDct; rw [h]
theorem E_frz (h : ρ[i]? = some (some v)) (e : v.frz = w) (e2 : ρ.set i (some w) = ρ') : mFrz i ρ = .ok w ρ' := by simp [h, e, e2]
theorem E_mov (h : ρ[i]? = some (some v)) (e2 : ρ.set i none = ρ') : mMov i ρ = .ok v ρ' := by unfold mMov; rw [h, ← e2]
end
section
variable {ρ ρ' ρ1 ρ2 : VEnv} {m m1 m2 c : ME} {v w : Val} {i : Nat} {k l : Bool}
theorem E_orB (h1 : m1 ρ = .ok (.bl k) ρ1) (h2 : m2 ρ1 = .ok (.bl l) ρ1) : mOr m1 m2 ρ = .ok (.bl (k || l)) ρ1 := by cases k <;> simp [h1, h2]
theorem E_andB (h1 : m1 ρ = .ok (.bl k) ρ1) (h2 : m2 ρ1 = .ok (.bl l) ρ1) : mAnd m1 m2 ρ = .ok (.bl (k && l)) ρ1 := by cases k <;> simp [h1, h2]
theorem E_propR {C : Nat} {f : MF} {o : Bool} {fs : List Str} {xs : List Val} (h0 : ρ[i]? = some (some v)) (hf : f [v] = .ok w [some v]) (hv : v = .obj o C fs xs) : mPropR C f i ρ = .ok w ρ := by
  subst hv
  have hi := (List.getElem?_eq_some_iff.mp h0).1
  have hs : ρ.set i (some (.obj o C fs xs)) = ρ := by
    apply List.ext_getElem?
    intro j
    by_cases hj : i = j
    · subst hj; rw [List.getElem?_set_self hi, h0]
    · rw [List.getElem?_set_ne hj]
  unfold mPropR
  rw [h0]
  show (if C = C then mCall (mfNoX f) [.r i] ρ else .bad) = _
  simp [mfNoX, h0, hf, hs]
theorem E_methR0 {C : Nat} {mn : Str} {f : MF} {o : Bool} {fs : List Str} {xs : List Val} (h0 : ρ[i]? = some (some v)) (hf : f [v] = .ok w [some v]) (ho : objC C mn v = true) : mMethR C mn f i [] ρ = .ok w ρ := by
  have hi := (List.getElem?_eq_some_iff.mp h0).1
  have hs : ρ.set i (some v) = ρ := by
    apply List.ext_getElem?
    intro j
    by_cases hj : i = j
    · subst hj; rw [List.getElem?_set_self hi, h0]
    · rw [List.getElem?_set_ne hj]
  simp [mMethR, h0, ho, hf, hs]
theorem E_asg {g : MG} (h : m ρ = .ok v ρ1) (e : g v ρ1 = some ρ2) : mAsg m g ρ = .nx ρ2 := by simp [h, e]
end
/-! ### a block runs to its end -/
def Runs (m : MS) (ρ : VEnv) (I : VEnv → Prop) : Prop := ∃ ρ', m ρ = .nx ρ' ∧ I ρ'
section
variable {ρ ρ' ρ1 ρ2 : VEnv} {m c : ME} {v : Val} {A B : MS} {I J : VEnv → Prop}
theorem R_seq (h : A ρ = .nx ρ') (t : Runs B ρ' I) : Runs (mSeq A B) ρ I := let ⟨ρ2, e, i⟩ := t; ⟨ρ2, E_seq h e, i⟩
theorem R_seqK (h : Runs A ρ J) (t : ∀ ρ', J ρ' → Runs B ρ' I) : Runs (mSeq A B) ρ I := let ⟨_, e, j⟩ := h; R_seq e (t _ j)
theorem R_end (h : A ρ = .nx ρ') (i : I ρ') : Runs A ρ I := ⟨_, h, i⟩
theorem R_next (i : I ρ) : Runs mNext ρ I := ⟨_, rfl, i⟩
theorem R_ifT (h : c ρ = .ok (.bl true) ρ1) (t : Runs A ρ1 I) : Runs (mIfS c A B) ρ I := let ⟨ρ2, e, i⟩ := t; ⟨ρ2, (E_ifT h).trans e, i⟩
theorem R_ifF (h : c ρ = .ok (.bl false) ρ1) (t : Runs B ρ1 I) : Runs (mIfS c A B) ρ I := let ⟨ρ2, e, i⟩ := t; ⟨ρ2, (E_ifF h).trans e, i⟩
theorem R_mono (h : Runs A ρ J) (f : ∀ ρ', J ρ' → I ρ') : Runs A ρ I := let ⟨_, e, j⟩ := h; ⟨_, e, f _ j⟩
theorem R_set {i : Nat} (h : m ρ = .ok v ρ1) (hi : i < ρ1.length) (e : ρ1.set i (some v) = ρ2) (t : Runs B ρ2 I) : Runs (mSeq (mSet i m) B) ρ I := R_seq (E_set h hi e) t
theorem R_setE {i : Nat} (h : m ρ = .ok v ρ1) (hi : i < ρ1.length) (e : ρ1.set i (some v) = ρ2) (t : I ρ2) : Runs (mSet i m) ρ I := R_end (E_set h hi e) t
theorem R_guardF (h : c ρ = .ok (.bl false) ρ1) (t : Runs B ρ1 I) : Runs (mSeq (mIfS c A mNext) B) ρ I := R_seq ((E_ifF h).trans E_next) t
theorem R_guardFE (h : c ρ = .ok (.bl false) ρ1) (t : I ρ1) : Runs (mIfS c A mNext) ρ I := R_ifF h (R_next t)
theorem R_guardK {k : Bool} (h : c ρ = .ok (.bl k) ρ1) (hk : k = false) (t : Runs B ρ1 I) : Runs (mSeq (mIfS c A mNext) B) ρ I := by subst hk; exact R_guardF h t
theorem R_guardKE {k : Bool} (h : c ρ = .ok (.bl k) ρ1) (hk : k = false) (t : I ρ1) : Runs (mIfS c A mNext) ρ I := by subst hk; exact R_guardFE h t
theorem R_asg {g : MG} (h : m ρ = .ok v ρ1) (e : g v ρ1 = some ρ2) (t : Runs B ρ2 I) : Runs (mSeq (mAsg m g) B) ρ I := R_seq (E_asg h e) t
theorem R_drop (h : m ρ = .ok v ρ1) (t : Runs B ρ1 I) : Runs (mSeq (mDrop m) B) ρ I := R_seq (E_drop h) t
theorem E_notF (h : m ρ = .ok (.bl true) ρ1) : mNot m ρ = .ok (.bl false) ρ1 := E_not h
theorem E_notT (h : m ρ = .ok (.bl false) ρ1) : mNot m ρ = .ok (.bl true) ρ1 := E_not h
/-- for i in ..: the same thing holds ahead of each turn -/
theorem R_for {mi : MI} {g : MG} {body : MS} {us : List Val} (h : mi ρ = .ok us ρ1) (h0 : J ρ1) (hb : ∀ u ∈ us, ∀ ρ, J ρ → ∃ ρ2, g u ρ = some ρ2 ∧ Runs body ρ2 J) : Runs (mFor mi g body) ρ J := by
  have key : ∀ (us : List Val) (ρ : VEnv), (∀ u ∈ us, ∀ ρ, J ρ → ∃ ρ2, g u ρ = some ρ2 ∧ Runs body ρ2 J) → J ρ → ∃ ρ', forL g body us ρ = .nx ρ' ∧ J ρ' := by
    intro us
    induction us with
    | nil => exact fun ρ _ j => ⟨ρ, rfl, j⟩
    | cons u us ih =>
      intro ρ hb j
      obtain ⟨ρ2, e1, ρ3, e2, j3⟩ := hb u List.mem_cons_self ρ j
      obtain ⟨ρ4, e4, j4⟩ := ih ρ3 (fun v hv => hb v (List.mem_cons_of_mem _ hv)) j3
      exact ⟨ρ4, E_forC e1 e2 e4, j4⟩
  obtain ⟨ρ', e, j⟩ := key us ρ1 hb h0
  exact ⟨ρ', E_for h e, j⟩
/-- for i in range(n): what holds ahead of turn k -/
theorem R_forN {mi : MI} {g : MG} {body : MS} {n : Nat} {J : Nat → VEnv → Prop} (h : mi ρ = .ok ((List.range n).map fun i : Nat => Val.int (i : Int)) ρ1) (h0 : J 0 ρ1) (hb : ∀ k ρ, k < n → J k ρ → ∃ ρ2, g (.int (k : Int)) ρ = some ρ2 ∧ Runs body ρ2 (J (k + 1))) : Runs (mFor mi g body) ρ (J n) := by
  have key : ∀ (m : Nat) (ρ : VEnv), m ≤ n → J (n - m) ρ → ∃ ρ', forL g body (((List.range n).map fun i : Nat => Val.int (i : Int)).drop (n - m)) ρ = .nx ρ' ∧ J n ρ' := by
    intro m
    induction m with
    | zero =>
      intro ρ _ j
      refine ⟨ρ, ?_, j⟩
      rw [List.drop_eq_nil_of_le (by simp)]
      rfl
    | succ m ih =>
      intro ρ hm j
      obtain ⟨ρ2, e1, ρ3, e2, j3⟩ := hb (n - (m + 1)) ρ (by omega) j
      have e : n - (m + 1) + 1 = n - m := by omega
      rw [e] at j3
      obtain ⟨ρ4, e4, j4⟩ := ih ρ3 (by omega) j3
      refine ⟨ρ4, ?_, j4⟩
      rw [List.drop_eq_getElem_cons (by simp; omega)]
      rw [e]
      refine E_forC (ρ1 := ρ2) (ρ2 := ρ3) ?_ e2 e4
      simpa using e1
  obtain ⟨ρ', e, j⟩ := key n ρ1 (Nat.le_refl _) (by simpa using h0)
  rw [Nat.sub_self, List.drop_zero] at e
  exact ⟨ρ', E_for h e, j⟩
/-- a law's own loop: for k in range(max(1, min(c, len(script)))), then True -/
theorem law_runs {ns : List Int} {N : Nat} {body : MS} {c : Int} (hc : 1 ≤ c ∧ c ≤ 63) (hN : 2 ≤ N)
    (hb : ∀ (k : Nat) (xs : VEnv), k < c.toNat → xs.length = N - 2 → Runs body (some (.scr ns) :: some (.int (k : Int)) :: xs) fun ρ => ρ[0]? = some (some (.scr ns)) ∧ ρ.length = N) :
    mBody [false] N (mSeq (mFor (mRng1 (mFun semMax2 [(mC (.int 1)), (mFun semMin2 [(mC (.int c)), (mFun semLen [(mVar 0)])])])) (gV 1) body) (mRet (mC (.bl true)))) [.scr ns] = .ok (.bl true) [none] := by
  obtain ⟨n, hn⟩ : ∃ n : Int, (if 1 < if (ns.length : Int) < c then (ns.length : Int) else c then if (ns.length : Int) < c then (ns.length : Int) else c else 1) = n := ⟨_, rfl⟩
  have hb2 : 0 ≤ n ∧ n ≤ c := by
    subst hn
    split <;> (try split) <;> omega
  let ρ0 : VEnv := some (.scr ns) :: List.replicate (N - 1) none
  have e1 : mRng1 (mFun semMax2 [(mC (.int 1)), (mFun semMin2 [(mC (.int c)), (mFun semLen [(mVar 0)])])]) ρ0 = .ok ((List.range n.toNat).map fun i : Nat => Val.int (i : Int)) ρ0 := by
    have e2 : mFun semMax2 [(mC (.int 1)), (mFun semMin2 [(mC (.int c)), (mFun semLen [(mVar 0)])])] ρ0 = .ok (.int n) ρ0 := by
      refine E_f2 E_c (E_f2 E_c (E_f1 (E_var rfl) rfl) rfl) ?_
      rw [← hn]; rfl
    unfold mRng1
    rw [e2]
    show (if -(2 ^ 62) ≤ n ∧ n < 2 ^ 62 then _ else _) = _
    rw [if_pos ⟨by omega, by omega⟩]
  have r := R_for (ρ := ρ0) (J := fun ρ => ρ[0]? = some (some (.scr ns)) ∧ ρ.length = N) (g := gV 1) (body := body) e1 ⟨rfl, by simp [ρ0]; omega⟩ fun u hu ρ ⟨h0, hl⟩ => by
    obtain ⟨k, hk, rfl⟩ := List.mem_map.mp hu
    have hk := List.mem_range.mp hk
    match ρ, h0, hl with
    | x0 :: x1 :: xs, h0, hl =>
      simp at h0
      subst h0
      exact ⟨_, E_gV (by simp) rfl, hb k xs (by omega) (by simp at hl; omega)⟩
    | [x0], _, hl => simp at hl; omega
    | [], _, hl => simp at hl; omega
  obtain ⟨ρ', e, h0, hl⟩ := r
  match ρ', h0, hl with
  | x0 :: xs, h0, hl =>
    refine E_body (ρ0 := ρ0) (ρ' := x0 :: xs) ?_ (E_seq e (E_ret E_c))
    simp [ρ0]
  | [], h0, _ => simp at h0
end
/-! ### == of plain data -/
def scD : Val → Bool
  | .non => true | .bl _ => true | .int _ => true | .str x => PyData.strOk x
  | _ => false
/-- plain data, so deep at most -/
def plD : Nat → Val → Bool
  | 0, v => scD v
  | n + 1, .tup xs => xs.all (plD n)
  | n + 1, .lst _ xs => xs.all (plD n)
  | _ + 1, v => scD v
/-- no True or False in it -/
def nbD : Nat → Val → Bool
  | 0, .bl _ => false
  | 0, _ => true
  | n + 1, .tup xs => xs.all (nbD n)
  | n + 1, .lst _ xs => xs.all (nbD n)
  | _ + 1, .bl _ => false
  | _ + 1, _ => true
theorem toD_sc {v : Val} (h : scD v = true) : ∃ d, toD v = some d ∧ d.canLay0 = true ∧ d.depth = 0 := by
  cases v <;> simp [scD] at h
  · exact ⟨_, rfl, by simp [PyData.canLay0], by simp [PyData.depth]⟩
  · exact ⟨_, rfl, by simp [PyData.canLay0], by simp [PyData.depth]⟩
  · exact ⟨_, rfl, by simp [PyData.canLay0], by simp [PyData.depth]⟩
  · exact ⟨_, rfl, by simpa [PyData.canLay0] using h, by simp [PyData.depth]⟩
theorem toDs_pl {P : Val → Bool} {n : Nat} (h : ∀ v, P v = true → ∃ d, toD v = some d ∧ d.canLay0 = true ∧ d.depth ≤ n) : ∀ {xs : List Val}, xs.all P = true → ∃ ds, toDs xs = some ds ∧ PyData.canLayAll0 ds = true ∧ PyData.depthAll ds ≤ n
  | [], _ => ⟨[], rfl, by simp [PyData.canLayAll0], by simp [PyData.depthAll]⟩
  | x :: xs, hx => by
    simp only [List.all_cons, Bool.and_eq_true] at hx
    obtain ⟨d, e1, e2, e3⟩ := h x hx.1
    obtain ⟨ds, f1, f2, f3⟩ := toDs_pl h hx.2
    exact ⟨d :: ds, by simp [toDs, e1, f1], by simp [PyData.canLayAll0, e2, f2], by simp [PyData.depthAll]; omega⟩
theorem toD_pl : ∀ {n : Nat} {v : Val}, plD n v = true → ∃ d, toD v = some d ∧ d.canLay0 = true ∧ d.depth ≤ n
  | 0, v, h => let ⟨d, a, b, c⟩ := toD_sc (v := v) (by simpa [plD] using h); ⟨d, a, b, by omega⟩
  | n + 1, v, h => by
    cases v with
    | tup xs =>
      obtain ⟨ds, a, b, c⟩ := toDs_pl (P := plD n) (fun v hv => toD_pl hv) (by simpa [plD] using h)
      exact ⟨.tuple ds, by simp [toD, a], by simpa [PyData.canLay0] using b, by simp [PyData.depth]; omega⟩
    | lst o xs =>
      obtain ⟨ds, a, b, c⟩ := toDs_pl (P := plD n) (fun v hv => toD_pl hv) (by simpa [plD] using h)
      exact ⟨.list ds, by simp [toD, a], by simpa [PyData.canLay0] using b, by simp [PyData.depth]; omega⟩
    | _ =>
      obtain ⟨d, a, b, c⟩ := toD_sc (by simpa [plD] using h)
      exact ⟨d, a, b, by omega⟩
mutual
theorem toD_frz : ∀ v : Val, toD v.frz = toD v
  | .tup xs => by simp [Val.frz, toD, toDs_frz xs]
  | .lst o xs => by simp [Val.frz, toD, toDs_frz xs]
  | .non => by simp [Val.frz] | .bl _ => by simp [Val.frz] | .int _ => by simp [Val.frz] | .str _ => by simp [Val.frz] | .ty _ => by simp [Val.frz] | .cn _ => by simp [Val.frz]
  | .dct _ _ _ _ => by simp [Val.frz, toD] | .obj _ _ _ _ => by simp [Val.frz, toD] | .exn _ _ _ => by simp [Val.frz]
  | .scr _ => by simp [Val.frz] | .wdk _ _ => by simp [Val.frz] | .wtp _ => by simp [Val.frz] | .fn _ => by simp [Val.frz]
theorem toDs_frz : ∀ xs : List Val, toDs (frzs xs) = toDs xs
  | [] => by simp [frzs]
  | x :: xs => by simp [frzs, toDs, toD_frz x, toDs_frz xs]
end
theorem shaped_of {d : PyData} {n : Nat} (h : d.canLay0 = true) (h2 : d.depth ≤ n) (hn : n ≤ 64) : SeqAt.shaped d = true := by
  simp [SeqAt.shaped, h]; omega
/-- equal trees are equal -/
theorem eqD_same {n : Nat} (hn : n ≤ 64) {a b : Val} (h : plD n a = true) (e : a.frz = b.frz) : eqD a b = some true := by
  obtain ⟨d, e1, e2, e3⟩ := toD_pl h
  have e4 : toD b = some d := by rw [← toD_frz b, ← e, toD_frz a, e1]
  simp [eqD, e1, e4, shaped_of e2 e3 hn, SeqAt.eqv_refl d e2]
/-! what equal data stands for -/
mutual
theorem eqv_back : ∀ (n : Nat) (v w : Val) (d e : PyData), toD v = some d → toD w = some e → nbD n v = true → nbD n w = true → plD n v = true → PyData.eqv d e = true → v.frz = w.frz
  | n, v, w, d, e, h1, h2, b1, b2, p1, q => by
    cases v with
    | tup xs =>
      cases n with
      | zero => simp [plD, scD] at p1
      | succ n =>
      simp only [toD] at h1
      split at h1 <;> simp at h1
      rename_i ds hds
      subst h1
      cases w <;> simp [toD] at h2 <;> (try (subst h2; simp [PyData.eqv] at q))
      all_goals (split at h2 <;> simp at h2; subst h2)
      · rename_i ys _ es hes
        simp only [PyData.eqv] at q
        have := eqvs_back n xs ys ds es hds hes (by simpa [nbD] using b1) (by simpa [nbD] using b2) (by simpa [plD] using p1) q
        simp [Val.frz, this]
      · simp [PyData.eqv] at q
    | lst o xs =>
      cases n with
      | zero => simp [plD, scD] at p1
      | succ n =>
      simp only [toD] at h1
      split at h1 <;> simp at h1
      rename_i ds hds
      subst h1
      cases w <;> simp [toD] at h2 <;> (try (subst h2; simp [PyData.eqv] at q))
      all_goals (split at h2 <;> simp at h2; subst h2)
      · simp [PyData.eqv] at q
      · rename_i ys _ es hes
        simp only [PyData.eqv] at q
        have := eqvs_back n xs ys ds es hds hes (by simpa [nbD] using b1) (by simpa [nbD] using b2) (by simpa [plD] using p1) q
        simp [Val.frz, this]
    | bl b => cases n <;> simp [nbD] at b1
    | _ =>
      first
      | (simp [toD] at h1; done)
      | (simp [toD] at h1
         try subst h1
         cases w <;> simp [toD] at h2 <;> (try (split at h2 <;> simp at h2)) <;> (try subst h2) <;> simp [PyData.eqv] at q <;> (try (subst q; rfl)) <;> (try rfl) <;> (cases n <;> simp [nbD] at b2))
theorem eqvs_back : ∀ (n : Nat) (xs ys : List Val) (ds es : List PyData), toDs xs = some ds → toDs ys = some es → xs.all (nbD n) = true → ys.all (nbD n) = true → xs.all (plD n) = true → PyData.eqvAll ds es = true → frzs xs = frzs ys
  | n, [], [], _, _, _, _, _, _, _, _ => rfl
  | n, [], y :: ys, ds, es, h1, h2, _, _, _, q => by
    simp [toDs] at h1; subst h1
    simp only [toDs] at h2
    split at h2 <;> simp at h2
    subst h2; simp [PyData.eqvAll] at q
  | n, x :: xs, [], ds, es, h1, h2, _, _, _, q => by
    simp [toDs] at h2; subst h2
    simp only [toDs] at h1
    split at h1 <;> simp at h1
    subst h1; simp [PyData.eqvAll] at q
  | n, x :: xs, y :: ys, ds, es, h1, h2, b1, b2, p1, q => by
    simp only [toDs] at h1 h2
    split at h1 <;> simp at h1
    split at h2 <;> simp at h2
    subst h1; subst h2
    simp only [PyData.eqvAll, Bool.and_eq_true] at q
    simp only [List.all_cons, Bool.and_eq_true] at b1 b2 p1
    have a1 := eqv_back n x y _ _ (by assumption) (by assumption) b1.1 b2.1 p1.1 q.1
    have a2 := eqvs_back n xs ys _ _ (by assumption) (by assumption) b1.2 b2.2 p1.2 q.2
    simp [frzs, a1, a2]
end
/-- == of plain data without True and False: the trees are equal -/
theorem eqD_iff {n : Nat} (hn : n ≤ 64) {a b : Val} (h1 : plD n a = true) (h2 : plD n b = true) (b1 : nbD n a = true) (b2 : nbD n b = true) : ∃ c, eqD a b = some c ∧ (c = true ↔ a.frz = b.frz) := by
  obtain ⟨d, e1, e2, e3⟩ := toD_pl h1
  obtain ⟨e, f1, f2, f3⟩ := toD_pl h2
  refine ⟨PyData.eqv d e, by simp [eqD, e1, f1, shaped_of e2 e3 hn, shaped_of f2 f3 hn], fun q => eqv_back n a b d e e1 f1 b1 b2 h1 q, fun q => ?_⟩
  have e4 : toD b = some d := by rw [← toD_frz b, ← q, toD_frz a, e1]
  rw [e4] at f1
  cases f1
  exact SeqAt.eqv_refl d e2
theorem semEq_same {n : Nat} (hn : n ≤ 64) {a b : Val} (h : plD n a = true) (e : a.frz = b.frz) : semEq [a, b] = some (.bl true) := by simp [semEq, eqD_same hn h e]
theorem semNe_same {n : Nat} (hn : n ≤ 64) {a b : Val} (h : plD n a = true) (e : a.frz = b.frz) : semNe [a, b] = some (.bl false) := by simp [semNe, eqD_same hn h e]
end VL
set_option maxHeartbeats 0
/-! Each def of the program as a function on trees, and the proof that it computes it: printed by gen.py. -/
namespace Gb
open PySem L2 VL
def top (i : Nat) : Stmt := PySem.Challenge.pw_gatheredbells_k80_whole_levels_and_stret.main.body.getD i (.Pass ⟨0, 0, 0, 0⟩)
def clsNames : List Str := ["Bound"]
def fnNames : List Str := []
def gam (K : PySem.W.Frag) (w : World) : Gam := ⟨K, clsAt clsNames K, fun n => (fnNames[n]?).map (He.ga K), [], w⟩
def sub (n m : Nat) : Bool := [(0, 0), (1, 1), (2, 1), (2, 2), (3, 1), (3, 3), (4, 1), (4, 4)].contains (n, m)
def d_allowed_at : VDef := { ad := fun K => He.ga K "allowed_at", name := "allowed_at", qual := "allowed_at", params := defArgs (top 23), body := defBody (top 23), scope := defScope (top 23), dfl := [], kwd := [] }
theorem sc_allowed_at : FnScope ["rules", "levels", "level", "most", "every"] ["rules", "levels"] d_allowed_at.scope := ⟨rfl, rfl, rfl, by decide +kernel, rfl, by decide +kernel, by decide +kernel⟩
def d_levels_behind : VDef := { ad := fun K => He.ga K "levels_behind", name := "levels_behind", qual := "levels_behind", params := defArgs (top 24), body := defBody (top 24), scope := defScope (top 24), dfl := [], kwd := [] }
theorem sc_levels_behind : FnScope ["rules", "levels", "count", "level", "most", "every"] ["rules", "levels", "count"] d_levels_behind.scope := ⟨rfl, rfl, rfl, by decide +kernel, rfl, by decide +kernel, by decide +kernel⟩
def d_is_kept : VDef := { ad := fun K => He.ga K "is_kept", name := "is_kept", qual := "is_kept", params := defArgs (top 25), body := defBody (top 25), scope := defScope (top 25), dfl := [], kwd := [] }
theorem sc_is_kept : FnScope ["rules", "row", "levels", "count"] ["rules", "row"] d_is_kept.scope := ⟨rfl, rfl, rfl, by decide +kernel, rfl, by decide +kernel, by decide +kernel⟩
def d_is_integer : VDef := { ad := fun K => He.ga K "is_integer", name := "is_integer", qual := "is_integer", params := defArgs (top 7), body := defBody (top 7), scope := defScope (top 7), dfl := [], kwd := [] }
theorem sc_is_integer : FnScope ["value"] ["value"] d_is_integer.scope := ⟨rfl, rfl, rfl, by decide +kernel, rfl, by decide +kernel, by decide +kernel⟩
def d_is_between : VDef := { ad := fun K => He.ga K "is_between", name := "is_between", qual := "is_between", params := defArgs (top 8), body := defBody (top 8), scope := defScope (top 8), dfl := [], kwd := [] }
theorem sc_is_between : FnScope ["value", "least", "most"] ["value", "least", "most"] d_is_between.scope := ⟨rfl, rfl, rfl, by decide +kernel, rfl, by decide +kernel, by decide +kernel⟩
def d_is_count : VDef := { ad := fun K => He.ga K "is_count", name := "is_count", qual := "is_count", params := defArgs (top 9), body := defBody (top 9), scope := defScope (top 9), dfl := [], kwd := [] }
theorem sc_is_count : FnScope ["value"] ["value"] d_is_count.scope := ⟨rfl, rfl, rfl, by decide +kernel, rfl, by decide +kernel, by decide +kernel⟩
def d_is_row : VDef := { ad := fun K => He.ga K "is_row", name := "is_row", qual := "is_row", params := defArgs (top 17), body := defBody (top 17), scope := defScope (top 17), dfl := [], kwd := [] }
theorem sc_is_row : FnScope ["value", "count"] ["value"] d_is_row.scope := ⟨rfl, rfl, rfl, by decide +kernel, rfl, by decide +kernel, by decide +kernel⟩
def d_Bound_contains : VDef := { ad := fun K => He.ma K (He.ga K "Bound") "__contains__", name := "__contains__", qual := "Bound.__contains__", params := defArgs (inClass (top 18) 4), body := defBody (inClass (top 18) 4), scope := defScope (inClass (top 18) 4), dfl := [], kwd := [] }
theorem sc_Bound_contains : FnScope ["self", "row"] ["self", "row"] d_Bound_contains.scope := ⟨rfl, rfl, rfl, by decide +kernel, rfl, by decide +kernel, by decide +kernel⟩
def d_is_rule : VDef := { ad := fun K => He.ga K "is_rule", name := "is_rule", qual := "is_rule", params := defArgs (top 15), body := defBody (top 15), scope := defScope (top 15), dfl := [], kwd := [] }
theorem sc_is_rule : FnScope ["value"] ["value"] d_is_rule.scope := ⟨rfl, rfl, rfl, by decide +kernel, rfl, by decide +kernel, by decide +kernel⟩
def d_are_rules : VDef := { ad := fun K => He.ga K "are_rules", name := "are_rules", qual := "are_rules", params := defArgs (top 16), body := defBody (top 16), scope := defScope (top 16), dfl := [], kwd := [] }
theorem sc_are_rules : FnScope ["rules", "rule"] ["rules"] d_are_rules.scope := ⟨rfl, rfl, rfl, by decide +kernel, rfl, by decide +kernel, by decide +kernel⟩
def d_Bound_init : VDef := { ad := fun K => He.ma K (He.ga K "Bound") "__init__", name := "__init__", qual := "Bound.__init__", params := defArgs (inClass (top 18) 0), body := defBody (inClass (top 18) 0), scope := defScope (inClass (top 18) 0), dfl := [], kwd := [("also", .adr (kwAt (fun K => He.ma K (He.ga K "Bound") "__init__") "also"))] }
theorem sc_Bound_init : FnScope ["self", "most", "every", "also"] ["self", "most", "every", "also"] d_Bound_init.scope := ⟨rfl, rfl, rfl, by decide +kernel, rfl, by decide +kernel, by decide +kernel⟩
def d_are_levels : VDef := { ad := fun K => He.ga K "are_levels", name := "are_levels", qual := "are_levels", params := defArgs (top 22), body := defBody (top 22), scope := defScope (top 22), dfl := [], kwd := [] }
theorem sc_are_levels : FnScope ["rules", "value", "level", "most", "every"] ["rules", "value"] d_are_levels.scope := ⟨rfl, rfl, rfl, by decide +kernel, rfl, by decide +kernel, by decide +kernel⟩
def d_check_bound : VDef := { ad := fun K => He.ga K "check_bound", name := "check_bound", qual := "check_bound", params := defArgs (top 21), body := defBody (top 21), scope := defScope (top 21), dfl := [], kwd := [] }
theorem sc_check_bound : FnScope ["bound"] ["bound"] d_check_bound.scope := ⟨rfl, rfl, rfl, by decide +kernel, rfl, by decide +kernel, by decide +kernel⟩
def d_check_levels : VDef := { ad := fun K => He.ga K "check_levels", name := "check_levels", qual := "check_levels", params := defArgs (top 27), body := defBody (top 27), scope := defScope (top 27), dfl := [], kwd := [] }
theorem sc_check_levels : FnScope ["bound", "levels"] ["bound", "levels"] d_check_levels.scope := ⟨rfl, rfl, rfl, by decide +kernel, rfl, by decide +kernel, by decide +kernel⟩
def d_allowed : VDef := { ad := fun K => He.ga K "allowed", name := "allowed", qual := "allowed", params := defArgs (top 28), body := defBody (top 28), scope := defScope (top 28), dfl := [], kwd := [] }
theorem sc_allowed : FnScope ["bound", "levels"] ["bound", "levels"] d_allowed.scope := ⟨rfl, rfl, rfl, by decide +kernel, rfl, by decide +kernel, by decide +kernel⟩
def d_bound_of : VDef := { ad := fun K => He.ga K "bound_of", name := "bound_of", qual := "bound_of", params := defArgs (top 19), body := defBody (top 19), scope := defScope (top 19), dfl := [], kwd := [] }
theorem sc_bound_of : FnScope ["rules"] ["rules"] d_bound_of.scope := ⟨rfl, rfl, rfl, by decide +kernel, rfl, by decide +kernel, by decide +kernel⟩
def d_Bound_of : VDef := { ad := fun K => smF K (He.ga K "Bound") "of", name := "of", qual := "Bound.of", params := defArgs (inClass (top 18) 6), body := defBody (inClass (top 18) 6), scope := defScope (inClass (top 18) 6), dfl := [], kwd := [] }
theorem sc_Bound_of : FnScope ["rules"] ["rules"] d_Bound_of.scope := ⟨rfl, rfl, rfl, by decide +kernel, rfl, by decide +kernel, by decide +kernel⟩
def d_bound : VDef := { ad := fun K => He.ga K "_law_bound", name := "_law_bound", qual := "_law_bound", params := defArgs (top 34), body := defBody (top 34), scope := defScope (top 34), dfl := [], kwd := [] }
theorem sc_bound : FnScope ["_law_rules"] ["_law_rules"] d_bound.scope := ⟨rfl, rfl, rfl, by decide +kernel, rfl, by decide +kernel, by decide +kernel⟩
def d_draw : VDef := { ad := fun K => He.ga K "_law_draw", name := "_law_draw", qual := "_law_draw", params := defArgs (top 32), body := defBody (top 32), scope := defScope (top 32), dfl := [], kwd := [] }
theorem sc_draw : FnScope ["_law_stream_here", "_law_count", "_law_result"] ["_law_stream_here", "_law_count"] d_draw.scope := ⟨rfl, rfl, rfl, by decide +kernel, rfl, by decide +kernel, by decide +kernel⟩
def d_first_levels : VDef := { ad := fun K => He.ga K "first_levels", name := "first_levels", qual := "first_levels", params := defArgs (top 26), body := defBody (top 26), scope := defScope (top 26), dfl := [], kwd := [] }
theorem sc_first_levels : FnScope ["bound"] ["bound"] d_first_levels.scope := ⟨rfl, rfl, rfl, by decide +kernel, rfl, by decide +kernel, by decide +kernel⟩
def d_check_between : VDef := { ad := fun K => He.ga K "check_between", name := "check_between", qual := "check_between", params := defArgs (top 10), body := defBody (top 10), scope := defScope (top 10), dfl := [], kwd := [] }
theorem sc_check_between : FnScope ["value", "least", "most"] ["value", "least", "most"] d_check_between.scope := ⟨rfl, rfl, rfl, by decide +kernel, rfl, by decide +kernel, by decide +kernel⟩
def d_next_levels : VDef := { ad := fun K => He.ga K "next_levels", name := "next_levels", qual := "next_levels", params := defArgs (top 29), body := defBody (top 29), scope := defScope (top 29), dfl := [], kwd := [] }
theorem sc_next_levels : FnScope ["bound", "levels", "count"] ["bound", "levels", "count"] d_next_levels.scope := ⟨rfl, rfl, rfl, by decide +kernel, rfl, by decide +kernel, by decide +kernel⟩
def d_levels : VDef := { ad := fun K => He.ga K "_law_levels", name := "_law_levels", qual := "_law_levels", params := defArgs (top 38), body := defBody (top 38), scope := defScope (top 38), dfl := [], kwd := [] }
theorem sc_levels : FnScope ["_law_bound_here", "_law_counts", "_law_levels_here", "_law_count"] ["_law_bound_here", "_law_counts"] d_levels.scope := ⟨rfl, rfl, rfl, by decide +kernel, rfl, by decide +kernel, by decide +kernel⟩
def d_choose : VDef := { ad := fun K => He.ga K "_law_choose", name := "_law_choose", qual := "_law_choose", params := defArgs (top 33), body := defBody (top 33), scope := defScope (top 33), dfl := [], kwd := [] }
theorem sc_choose : FnScope ["_law_stream_here", "_law_items"] ["_law_stream_here", "_law_items"] d_choose.scope := ⟨rfl, rfl, rfl, by decide +kernel, rfl, by decide +kernel, by decide +kernel⟩
def d_may_come : VDef := { ad := fun K => He.ga K "_law_may_come", name := "_law_may_come", qual := "_law_may_come", params := defArgs (top 35), body := defBody (top 35), scope := defScope (top 35), dfl := [], kwd := [] }
theorem sc_may_come : FnScope ["_law_rules", "_law_counts", "_law_found", "_law_most", "_law_every", "_law_total", "_law_back"] ["_law_rules", "_law_counts"] d_may_come.scope := ⟨rfl, rfl, rfl, by decide +kernel, rfl, by decide +kernel, by decide +kernel⟩
def d_row : VDef := { ad := fun K => He.ga K "_law_row", name := "_law_row", qual := "_law_row", params := defArgs (top 36), body := defBody (top 36), scope := defScope (top 36), dfl := [], kwd := [] }
theorem sc_row : FnScope ["_law_stream_here", "_law_rules", "_law_size", "_law_counts", "_law_turn", "_law_may"] ["_law_stream_here", "_law_rules", "_law_size"] d_row.scope := ⟨rfl, rfl, rfl, by decide +kernel, rfl, by decide +kernel, by decide +kernel⟩
def d_stream : VDef := { ad := fun K => He.ga K "_law_stream", name := "_law_stream", qual := "_law_stream", params := defArgs (top 31), body := defBody (top 31), scope := defScope (top 31), dfl := [], kwd := [] }
theorem sc_stream : FnScope ["_law_script", "_law_k", "_law_cell", "_law_size", "_law_mixed"] ["_law_script", "_law_k"] d_stream.scope := ⟨rfl, rfl, rfl, by decide +kernel, rfl, by decide +kernel, by decide +kernel⟩
def d_three : VDef := { ad := fun K => He.ga K "_law_three", name := "_law_three", qual := "_law_three", params := defArgs (top 37), body := defBody (top 37), scope := defScope (top 37), dfl := [], kwd := [] }
theorem sc_three : FnScope ["_law_stream_here", "_law_most", "_law_every", "_law_found", "_law_turn", "_law_rule"] ["_law_stream_here", "_law_most", "_law_every"] d_three.scope := ⟨rfl, rfl, rfl, by decide +kernel, rfl, by decide +kernel, by decide +kernel⟩
def d_law : VDef := { ad := fun K => He.ga K "law", name := "law", qual := "law", params := defArgs (top 39), body := defBody (top 39), scope := defScope (top 39), dfl := [], kwd := [] }
theorem sc_law : FnScope ["_law_script", "_law_k", "_law_stream_here", "_law_rules", "_law_bound_here", "_law_lone", "_law_most", "_law_every", "_law_counts", "_law_turn", "_law_begin", "_law_end", "_law_more", "_law_fewer", "_law_count", "_law_bent", "_law_told", "_law_one", "_law_may", "_law_near", "_law_far", "_law_at"] ["_law_script"] d_law.scope := ⟨rfl, rfl, rfl, by decide +kernel, rfl, by decide +kernel, by decide +kernel⟩
theorem boot_len : bootBuiltins "len" = some (.builtin "len") := by decide +kernel
theorem boot_min : bootBuiltins "min" = some (.builtin "min") := by decide +kernel
theorem boot_max : bootBuiltins "max" = some (.builtin "max") := by decide +kernel
theorem boot_sorted : bootBuiltins "sorted" = some (.builtin "sorted") := by decide +kernel
theorem boot_isinstance : bootBuiltins "isinstance" = some (.builtin "isinstance") := by decide +kernel
theorem boot_tuple : bootBuiltins "tuple" = some (.type "tuple") := by decide +kernel
theorem boot_all : bootBuiltins "all" = some (.builtin "all") := by decide +kernel
theorem boot_int : bootBuiltins "int" = some (.type "int") := by decide +kernel
theorem boot_bool : bootBuiltins "bool" = some (.type "bool") := by decide +kernel
theorem boot_list : bootBuiltins "list" = some (.type "list") := by decide +kernel
/-- what the walks ask of the text -/
structure Txt (K : PySem.W.Frag) (mg : Str → Option Value) (w : World) : Prop where
  n_len : mg "len" = none
  n_min : mg "min" = none
  n_max : mg "max" = none
  n_range : mg "range" = none
  g_stream : mg "_law_stream" = some (.ref (He.ga K "_law_stream"))
  g_three : mg "_law_three" = some (.ref (He.ga K "_law_three"))
  g_bound : mg "_law_bound" = some (.ref (He.ga K "_law_bound"))
  da_Bound_init_also : ∀ W H, Rep (gam K w) W H (.ref ((kwAt (fun K => He.ma K (He.ga K "Bound") "__init__") "also") K)) (.wtp []) []
  mk_Bound : Mk K (He.ga K "Bound") (He.ma K (He.ga K "Bound") "__init__")
  g_Bound : mg "Bound" = some (.ref (He.ga K "Bound"))
  g_draw : mg "_law_draw" = some (.ref (He.ga K "_law_draw"))
  g_row : mg "_law_row" = some (.ref (He.ga K "_law_row"))
  in_Bound : OwnIn K (He.ga K "Bound") (He.ma K (He.ga K "Bound") "__contains__")
  n_sorted : mg "sorted" = none
  g_levels : mg "_law_levels" = some (.ref (He.ga K "_law_levels"))
  g_allowed : mg "allowed" = some (.ref (He.ga K "allowed"))
  g_first_levels : mg "first_levels" = some (.ref (He.ga K "first_levels"))
  g_check_levels : mg "check_levels" = some (.ref (He.ga K "check_levels"))
  cl_Bound : Cls K (He.ga K "Bound")
  na_Bound_ruled : NoAttr K (He.ga K "Bound") "ruled"
  g_allowed_at : mg "allowed_at" = some (.ref (He.ga K "allowed_at"))
  n_zip : mg "zip" = none
  g_check_bound : mg "check_bound" = some (.ref (He.ga K "check_bound"))
  g_are_levels : mg "are_levels" = some (.ref (He.ga K "are_levels"))
  n_isinstance : mg "isinstance" = none
  n_tuple : mg "tuple" = none
  g_is_between : mg "is_between" = some (.ref (He.ga K "is_between"))
  n_all : mg "all" = none
  g_is_integer : mg "is_integer" = some (.ref (He.ga K "is_integer"))
  n_int : mg "int" = none
  n_bool : mg "bool" = none
  g_may_come : mg "_law_may_come" = some (.ref (He.ga K "_law_may_come"))
  g_choose : mg "_law_choose" = some (.ref (He.ga K "_law_choose"))
  c_MOST_MOST : ∃ t, mg "MOST_MOST" = some (.int 8 t)
  c_MOST_EVERY : ∃ t, mg "MOST_EVERY" = some (.int 12 t)
  n_list : mg "list" = none
  g_are_rules : mg "are_rules" = some (.ref (He.ga K "are_rules"))
  c_MOST_RULES : ∃ t, mg "MOST_RULES" = some (.int 3 t)
  g_is_rule : mg "is_rule" = some (.ref (He.ga K "is_rule"))
  sm_Bound_of : SMet K (He.ga K "Bound") "of" (smP K (He.ga K "Bound") "of") (smF K (He.ga K "Bound") "of")
  g_bound_of : mg "bound_of" = some (.ref (He.ga K "bound_of"))
  g_next_levels : mg "next_levels" = some (.ref (He.ga K "next_levels"))
  g_check_between : mg "check_between" = some (.ref (He.ga K "check_between"))
  g_levels_behind : mg "levels_behind" = some (.ref (He.ga K "levels_behind"))
  g_is_row : mg "is_row" = some (.ref (He.ga K "is_row"))
  g_is_kept : mg "is_kept" = some (.ref (He.ga K "is_kept"))
  g_is_count : mg "is_count" = some (.ref (He.ga K "is_count"))
  c_MOST_COUNT : ∃ t, mg "MOST_COUNT" = some (.int 99 t)
  g_law : mg "law" = some (.ref (He.ga K "law"))
  isi : IsiFacts (gam K w) sub
theorem isi_facts {K : PySem.W.Frag} {mg : Str → Option Value} {w : World} (T : Txt K mg w) : IsiFacts (gam K w) sub := T.isi
theorem fld_ruled {K : PySem.W.Frag} {mg : Str → Option Value} {w : World} (T : Txt K mg w) : FldF (gam K w) K [0] "ruled" := by
  intro n hn C hC
  simp only [List.mem_cons, List.not_mem_nil, or_false] at hn
  subst hn
  · have e : He.ga K "Bound" = C := Option.some.inj hC
    subst e
    exact ⟨T.cl_Bound, T.na_Bound_ruled⟩
theorem dfl_stream_2 {K : PySem.W.Frag} {w : World} : DflL (gam K w) [] := by
  intro q hq; cases hq
theorem bnd_stream_2 {K : PySem.W.Frag} {fd : FuncData} (F : FunV K d_stream fd) : ∃ ds, Vals (([] : List (V × Val)).map (·.1)) ds ∧ Binds K fd ["_law_script", "_law_k"] ds := by
  exact ⟨[], .nil, F.bindsN fun _ _ _ _ _ _ us hl => match us, hl with | [_, _], _ => rfl⟩
theorem dfl_three_3 {K : PySem.W.Frag} {w : World} : DflL (gam K w) [] := by
  intro q hq; cases hq
theorem bnd_three_3 {K : PySem.W.Frag} {fd : FuncData} (F : FunV K d_three fd) : ∃ ds, Vals (([] : List (V × Val)).map (·.1)) ds ∧ Binds K fd ["_law_stream_here", "_law_most", "_law_every"] ds := by
  exact ⟨[], .nil, F.bindsN fun _ _ _ _ _ _ us hl => match us, hl with | [_, _, _], _ => rfl⟩
theorem dfl_bound_1 {K : PySem.W.Frag} {w : World} : DflL (gam K w) [] := by
  intro q hq; cases hq
theorem bnd_bound_1 {K : PySem.W.Frag} {fd : FuncData} (F : FunV K d_bound fd) : ∃ ds, Vals (([] : List (V × Val)).map (·.1)) ds ∧ Binds K fd ["_law_rules"] ds := by
  exact ⟨[], .nil, F.bindsN fun _ _ _ _ _ _ us hl => match us, hl with | [_], _ => rfl⟩
theorem dfl_Bound_init_3 {K : PySem.W.Frag} {w : World} {mg : Str → Option Value} (T : Txt K mg w) : DflL (gam K w) [(.ref ((kwAt (fun K => He.ma K (He.ga K "Bound") "__init__") "also") K), .wtp [])] := by
  intro q hq W H
  simp only [List.mem_cons, List.not_mem_nil, or_false] at hq
  subst hq
  · exact T.da_Bound_init_also W H
theorem bnd_Bound_init_3 {K : PySem.W.Frag} {fd : FuncData} (F : FunV K d_Bound_init fd) : ∃ ds, Vals (([(.ref ((kwAt (fun K => He.ma K (He.ga K "Bound") "__init__") "also") K), .wtp [])] : List (V × Val)).map (·.1)) ds ∧ Binds K fd ["self", "most", "every", "also"] ds := by
  exact F.binds0 (ps := ["self", "most", "every", "also"]) 3 (List.cons_ne_nil _ _) rfl fun _ _ _ _ _ _ us zs h1 h2 => match us, zs, h1, h2 with | [_, _, _], [_], _, _ => ⟨_, _, _, _, _, _, rfl, rfl, rfl⟩
theorem dfl_row_3 {K : PySem.W.Frag} {w : World} : DflL (gam K w) [] := by
  intro q hq; cases hq
theorem bnd_row_3 {K : PySem.W.Frag} {fd : FuncData} (F : FunV K d_row fd) : ∃ ds, Vals (([] : List (V × Val)).map (·.1)) ds ∧ Binds K fd ["_law_stream_here", "_law_rules", "_law_size"] ds := by
  exact ⟨[], .nil, F.bindsN fun _ _ _ _ _ _ us hl => match us, hl with | [_, _, _], _ => rfl⟩
theorem dfl_draw_2 {K : PySem.W.Frag} {w : World} : DflL (gam K w) [] := by
  intro q hq; cases hq
theorem bnd_draw_2 {K : PySem.W.Frag} {fd : FuncData} (F : FunV K d_draw fd) : ∃ ds, Vals (([] : List (V × Val)).map (·.1)) ds ∧ Binds K fd ["_law_stream_here", "_law_count"] ds := by
  exact ⟨[], .nil, F.bindsN fun _ _ _ _ _ _ us hl => match us, hl with | [_, _], _ => rfl⟩
theorem dfl_Bound_contains_2 {K : PySem.W.Frag} {w : World} : DflL (gam K w) [] := by
  intro q hq; cases hq
theorem bnd_Bound_contains_2 {K : PySem.W.Frag} {fd : FuncData} (F : FunV K d_Bound_contains fd) : ∃ ds, Vals (([] : List (V × Val)).map (·.1)) ds ∧ Binds K fd ["self", "row"] ds := by
  exact ⟨[], .nil, F.bindsN fun _ _ _ _ _ _ us hl => match us, hl with | [_, _], _ => rfl⟩
theorem dfl_allowed_2 {K : PySem.W.Frag} {w : World} : DflL (gam K w) [] := by
  intro q hq; cases hq
theorem bnd_allowed_2 {K : PySem.W.Frag} {fd : FuncData} (F : FunV K d_allowed fd) : ∃ ds, Vals (([] : List (V × Val)).map (·.1)) ds ∧ Binds K fd ["bound", "levels"] ds := by
  exact ⟨[], .nil, F.bindsN fun _ _ _ _ _ _ us hl => match us, hl with | [_, _], _ => rfl⟩
theorem dfl_levels_2 {K : PySem.W.Frag} {w : World} : DflL (gam K w) [] := by
  intro q hq; cases hq
theorem bnd_levels_2 {K : PySem.W.Frag} {fd : FuncData} (F : FunV K d_levels fd) : ∃ ds, Vals (([] : List (V × Val)).map (·.1)) ds ∧ Binds K fd ["_law_bound_here", "_law_counts"] ds := by
  exact ⟨[], .nil, F.bindsN fun _ _ _ _ _ _ us hl => match us, hl with | [_, _], _ => rfl⟩
theorem dfl_first_levels_1 {K : PySem.W.Frag} {w : World} : DflL (gam K w) [] := by
  intro q hq; cases hq
theorem bnd_first_levels_1 {K : PySem.W.Frag} {fd : FuncData} (F : FunV K d_first_levels fd) : ∃ ds, Vals (([] : List (V × Val)).map (·.1)) ds ∧ Binds K fd ["bound"] ds := by
  exact ⟨[], .nil, F.bindsN fun _ _ _ _ _ _ us hl => match us, hl with | [_], _ => rfl⟩
theorem dfl_check_levels_2 {K : PySem.W.Frag} {w : World} : DflL (gam K w) [] := by
  intro q hq; cases hq
theorem bnd_check_levels_2 {K : PySem.W.Frag} {fd : FuncData} (F : FunV K d_check_levels fd) : ∃ ds, Vals (([] : List (V × Val)).map (·.1)) ds ∧ Binds K fd ["bound", "levels"] ds := by
  exact ⟨[], .nil, F.bindsN fun _ _ _ _ _ _ us hl => match us, hl with | [_, _], _ => rfl⟩
theorem dfl_allowed_at_2 {K : PySem.W.Frag} {w : World} : DflL (gam K w) [] := by
  intro q hq; cases hq
theorem bnd_allowed_at_2 {K : PySem.W.Frag} {fd : FuncData} (F : FunV K d_allowed_at fd) : ∃ ds, Vals (([] : List (V × Val)).map (·.1)) ds ∧ Binds K fd ["rules", "levels"] ds := by
  exact ⟨[], .nil, F.bindsN fun _ _ _ _ _ _ us hl => match us, hl with | [_, _], _ => rfl⟩
theorem dfl_check_bound_1 {K : PySem.W.Frag} {w : World} : DflL (gam K w) [] := by
  intro q hq; cases hq
theorem bnd_check_bound_1 {K : PySem.W.Frag} {fd : FuncData} (F : FunV K d_check_bound fd) : ∃ ds, Vals (([] : List (V × Val)).map (·.1)) ds ∧ Binds K fd ["bound"] ds := by
  exact ⟨[], .nil, F.bindsN fun _ _ _ _ _ _ us hl => match us, hl with | [_], _ => rfl⟩
theorem dfl_are_levels_2 {K : PySem.W.Frag} {w : World} : DflL (gam K w) [] := by
  intro q hq; cases hq
theorem bnd_are_levels_2 {K : PySem.W.Frag} {fd : FuncData} (F : FunV K d_are_levels fd) : ∃ ds, Vals (([] : List (V × Val)).map (·.1)) ds ∧ Binds K fd ["rules", "value"] ds := by
  exact ⟨[], .nil, F.bindsN fun _ _ _ _ _ _ us hl => match us, hl with | [_, _], _ => rfl⟩
theorem dfl_is_between_3 {K : PySem.W.Frag} {w : World} : DflL (gam K w) [] := by
  intro q hq; cases hq
theorem bnd_is_between_3 {K : PySem.W.Frag} {fd : FuncData} (F : FunV K d_is_between fd) : ∃ ds, Vals (([] : List (V × Val)).map (·.1)) ds ∧ Binds K fd ["value", "least", "most"] ds := by
  exact ⟨[], .nil, F.bindsN fun _ _ _ _ _ _ us hl => match us, hl with | [_, _, _], _ => rfl⟩
theorem dfl_is_integer_1 {K : PySem.W.Frag} {w : World} : DflL (gam K w) [] := by
  intro q hq; cases hq
theorem bnd_is_integer_1 {K : PySem.W.Frag} {fd : FuncData} (F : FunV K d_is_integer fd) : ∃ ds, Vals (([] : List (V × Val)).map (·.1)) ds ∧ Binds K fd ["value"] ds := by
  exact ⟨[], .nil, F.bindsN fun _ _ _ _ _ _ us hl => match us, hl with | [_], _ => rfl⟩
theorem dfl_may_come_2 {K : PySem.W.Frag} {w : World} : DflL (gam K w) [] := by
  intro q hq; cases hq
theorem bnd_may_come_2 {K : PySem.W.Frag} {fd : FuncData} (F : FunV K d_may_come fd) : ∃ ds, Vals (([] : List (V × Val)).map (·.1)) ds ∧ Binds K fd ["_law_rules", "_law_counts"] ds := by
  exact ⟨[], .nil, F.bindsN fun _ _ _ _ _ _ us hl => match us, hl with | [_, _], _ => rfl⟩
theorem dfl_choose_2 {K : PySem.W.Frag} {w : World} : DflL (gam K w) [] := by
  intro q hq; cases hq
theorem bnd_choose_2 {K : PySem.W.Frag} {fd : FuncData} (F : FunV K d_choose fd) : ∃ ds, Vals (([] : List (V × Val)).map (·.1)) ds ∧ Binds K fd ["_law_stream_here", "_law_items"] ds := by
  exact ⟨[], .nil, F.bindsN fun _ _ _ _ _ _ us hl => match us, hl with | [_, _], _ => rfl⟩
theorem dfl_are_rules_1 {K : PySem.W.Frag} {w : World} : DflL (gam K w) [] := by
  intro q hq; cases hq
theorem bnd_are_rules_1 {K : PySem.W.Frag} {fd : FuncData} (F : FunV K d_are_rules fd) : ∃ ds, Vals (([] : List (V × Val)).map (·.1)) ds ∧ Binds K fd ["rules"] ds := by
  exact ⟨[], .nil, F.bindsN fun _ _ _ _ _ _ us hl => match us, hl with | [_], _ => rfl⟩
theorem dfl_is_rule_1 {K : PySem.W.Frag} {w : World} : DflL (gam K w) [] := by
  intro q hq; cases hq
theorem bnd_is_rule_1 {K : PySem.W.Frag} {fd : FuncData} (F : FunV K d_is_rule fd) : ∃ ds, Vals (([] : List (V × Val)).map (·.1)) ds ∧ Binds K fd ["value"] ds := by
  exact ⟨[], .nil, F.bindsN fun _ _ _ _ _ _ us hl => match us, hl with | [_], _ => rfl⟩
theorem dfl_Bound_of_1 {K : PySem.W.Frag} {w : World} : DflL (gam K w) [] := by
  intro q hq; cases hq
theorem bnd_Bound_of_1 {K : PySem.W.Frag} {fd : FuncData} (F : FunV K d_Bound_of fd) : ∃ ds, Vals (([] : List (V × Val)).map (·.1)) ds ∧ Binds K fd ["rules"] ds := by
  exact ⟨[], .nil, F.bindsN fun _ _ _ _ _ _ us hl => match us, hl with | [_], _ => rfl⟩
theorem dfl_bound_of_1 {K : PySem.W.Frag} {w : World} : DflL (gam K w) [] := by
  intro q hq; cases hq
theorem bnd_bound_of_1 {K : PySem.W.Frag} {fd : FuncData} (F : FunV K d_bound_of fd) : ∃ ds, Vals (([] : List (V × Val)).map (·.1)) ds ∧ Binds K fd ["rules"] ds := by
  exact ⟨[], .nil, F.bindsN fun _ _ _ _ _ _ us hl => match us, hl with | [_], _ => rfl⟩
theorem dfl_next_levels_3 {K : PySem.W.Frag} {w : World} : DflL (gam K w) [] := by
  intro q hq; cases hq
theorem bnd_next_levels_3 {K : PySem.W.Frag} {fd : FuncData} (F : FunV K d_next_levels fd) : ∃ ds, Vals (([] : List (V × Val)).map (·.1)) ds ∧ Binds K fd ["bound", "levels", "count"] ds := by
  exact ⟨[], .nil, F.bindsN fun _ _ _ _ _ _ us hl => match us, hl with | [_, _, _], _ => rfl⟩
theorem dfl_check_between_3 {K : PySem.W.Frag} {w : World} : DflL (gam K w) [] := by
  intro q hq; cases hq
theorem bnd_check_between_3 {K : PySem.W.Frag} {fd : FuncData} (F : FunV K d_check_between fd) : ∃ ds, Vals (([] : List (V × Val)).map (·.1)) ds ∧ Binds K fd ["value", "least", "most"] ds := by
  exact ⟨[], .nil, F.bindsN fun _ _ _ _ _ _ us hl => match us, hl with | [_, _, _], _ => rfl⟩
theorem dfl_levels_behind_3 {K : PySem.W.Frag} {w : World} : DflL (gam K w) [] := by
  intro q hq; cases hq
theorem bnd_levels_behind_3 {K : PySem.W.Frag} {fd : FuncData} (F : FunV K d_levels_behind fd) : ∃ ds, Vals (([] : List (V × Val)).map (·.1)) ds ∧ Binds K fd ["rules", "levels", "count"] ds := by
  exact ⟨[], .nil, F.bindsN fun _ _ _ _ _ _ us hl => match us, hl with | [_, _, _], _ => rfl⟩
theorem dfl_is_row_1 {K : PySem.W.Frag} {w : World} : DflL (gam K w) [] := by
  intro q hq; cases hq
theorem bnd_is_row_1 {K : PySem.W.Frag} {fd : FuncData} (F : FunV K d_is_row fd) : ∃ ds, Vals (([] : List (V × Val)).map (·.1)) ds ∧ Binds K fd ["value"] ds := by
  exact ⟨[], .nil, F.bindsN fun _ _ _ _ _ _ us hl => match us, hl with | [_], _ => rfl⟩
theorem dfl_is_kept_2 {K : PySem.W.Frag} {w : World} : DflL (gam K w) [] := by
  intro q hq; cases hq
theorem bnd_is_kept_2 {K : PySem.W.Frag} {fd : FuncData} (F : FunV K d_is_kept fd) : ∃ ds, Vals (([] : List (V × Val)).map (·.1)) ds ∧ Binds K fd ["rules", "row"] ds := by
  exact ⟨[], .nil, F.bindsN fun _ _ _ _ _ _ us hl => match us, hl with | [_, _], _ => rfl⟩
theorem dfl_is_count_1 {K : PySem.W.Frag} {w : World} : DflL (gam K w) [] := by
  intro q hq; cases hq
theorem bnd_is_count_1 {K : PySem.W.Frag} {fd : FuncData} (F : FunV K d_is_count fd) : ∃ ds, Vals (([] : List (V × Val)).map (·.1)) ds ∧ Binds K fd ["value"] ds := by
  exact ⟨[], .nil, F.bindsN fun _ _ _ _ _ _ us hl => match us, hl with | [_], _ => rfl⟩
theorem kb_Bound_init_2_all {K : PySem.W.Frag} {fd : FuncData} (F : FunV K d_Bound_init fd) : KBn K fd ["self", "most", "every", "also"] 3 ["also"] (fun us ws => us ++ ws) (fun vs zs => vs ++ zs) := by
  obtain ⟨mv, b⟩ := F.kbinds0 (ps := ["self", "most", "every", "also"]) 3 ["also"] [] (fun us _ ws => us ++ ws) (List.cons_ne_nil _ _) (fun q hq => nomatch hq) (fun r1 _ r3 => r1.append r3) fun _ _ _ _ _ _ us mv ws h1 h2 h3 => match us, mv, ws, h1, h2, h3 with | [_, _, _], [], [_], _, _, _ => by show _ = _; kernel_rfl
  exact b
def m_allowed_at : MS :=
    (mRet (mFun semMinL [(mLc (mZipM (mVar 1) (mVar 0)) (gTupV (gConsV (gV 2) (gConsV (gTupV (gConsV (gV 3) (gConsV (gV 4) gNilV)) 2) gNilV)) 2) mYes (mFun semDiv [(mFun semSub [(mFun semMul [(mVar 3), (mVar 4)]), (mVar 2)]), (mVar 4)]) [2, 3, 4])]))
def f_allowed_at : MF := mBody [false, false] 5 m_allowed_at
theorem ok_allowed_at {P : Program} {w : World} {K : PySem.W.Frag} {mg : Str → Option Value} {base : Heap} (T : Txt K mg w) (F : ∃ fd, FunV K d_allowed_at fd)  : Ok P w K mg base (gam K w) d_allowed_at 1 ["rules", "levels"] f_allowed_at := by
  refine ok_of F sc_allowed_at rfl fun cdv A outer s H E hr tk hp σ0 => ?_
  exact (vss_one (vs_ret (ve_callB (cr_min (by rfl)) (ok_minL (by rfl)) (by rfl) T.n_min boot_min (va_cons (ve_lc (p := true) (sb := true) (own := [("level", 2), ("most", 3), ("every", 4)]) (by rfl) sc_allowed_at.nd (vi_zipM (by rfl) (by rfl) T.n_zip (ve_var (pv 1)) (ve_var (pv 0))) (blkOk_by (own := [("level", 2), ("most", 3), ("every", 4)]) (N := ["rules", "levels", "level", "most", "every"]) (sc := d_allowed_at.scope) (by decide +kernel)) (fun _ _ _ _ _ _ => (vg_tup (n := 2) (by rfl) (by rfl) (vgs_cons (vg_name (i := 2) sc_allowed_at.nd (by rfl) (by first | exact Or.inl rfl | exact Or.inr rfl) (by exact fun z => absurd (show some false = some true from z) (by decide))) (vgs_cons (vg_tup (n := 2) (by rfl) (by rfl) (vgs_cons (vg_name (i := 3) sc_allowed_at.nd (by rfl) (by first | exact Or.inl rfl | exact Or.inr rfl) (by exact fun z => absurd (show some false = some true from z) (by decide))) (vgs_cons (vg_name (i := 4) sc_allowed_at.nd (by rfl) (by first | exact Or.inl rfl | exact Or.inr rfl) (by exact fun z => absurd (show some false = some true from z) (by decide))) vgs_nil))) vgs_nil)))) (fun _ _ _ _ _ => vts0) (fun _ _ _ _ _ => (ve_bin op_fdivW ok_div (ve_bin op_sub ok_sub (ve_bin (op_mulV (by rfl)) ok_mul (ve_var (pv 3)) (ve_var (pv 4))) (ve_var (pv 2))) (ve_var (pv 4))))) va_nil))))
def m_levels_behind : MS :=
    (mRet (mFun semTuple [(mLc (mZipM (mVar 1) (mVar 0)) (gTupV (gConsV (gV 3) (gConsV (gTupV (gConsV (gV 4) (gConsV (gV 5) gNilV)) 2) gNilV)) 2) mYes (mFun semMax2 [(mC (.int 0)), (mFun semSub [(mFun semAdd [(mVar 3), (mFun semMul [(mVar 2), (mVar 5)])]), (mC (.int 1))])]) [3, 4, 5])]))
def f_levels_behind : MF := mBody [false, false, false] 6 m_levels_behind
theorem ok_levels_behind {P : Program} {w : World} {K : PySem.W.Frag} {mg : Str → Option Value} {base : Heap} (T : Txt K mg w) (F : ∃ fd, FunV K d_levels_behind fd)  : Ok P w K mg base (gam K w) d_levels_behind 1 ["rules", "levels", "count"] f_levels_behind := by
  refine ok_of F sc_levels_behind rfl fun cdv A outer s H E hr tk hp σ0 => ?_
  exact (vss_one (vs_ret (ve_callTy call_tuple_of (ok_tuple (by rfl)) (by rfl) T.n_tuple boot_tuple (va_cons (ve_lc (p := true) (sb := true) (own := [("level", 3), ("most", 4), ("every", 5)]) (by rfl) sc_levels_behind.nd (vi_zipM (by rfl) (by rfl) T.n_zip (ve_var (pv 1)) (ve_var (pv 0))) (blkOk_by (own := [("level", 3), ("most", 4), ("every", 5)]) (N := ["rules", "levels", "count", "level", "most", "every"]) (sc := d_levels_behind.scope) (by decide +kernel)) (fun _ _ _ _ _ _ => (vg_tup (n := 2) (by rfl) (by rfl) (vgs_cons (vg_name (i := 3) sc_levels_behind.nd (by rfl) (by first | exact Or.inl rfl | exact Or.inr rfl) (by exact fun z => absurd (show some false = some true from z) (by decide))) (vgs_cons (vg_tup (n := 2) (by rfl) (by rfl) (vgs_cons (vg_name (i := 4) sc_levels_behind.nd (by rfl) (by first | exact Or.inl rfl | exact Or.inr rfl) (by exact fun z => absurd (show some false = some true from z) (by decide))) (vgs_cons (vg_name (i := 5) sc_levels_behind.nd (by rfl) (by first | exact Or.inl rfl | exact Or.inr rfl) (by exact fun z => absurd (show some false = some true from z) (by decide))) vgs_nil))) vgs_nil)))) (fun _ _ _ _ _ => vts0) (fun _ _ _ _ _ => (ve_callB (call_max2 (by rfl)) ok_max2 (by rfl) T.n_max boot_max (va_cons (ve_c pe_int (fun _ _ => .int _)) (va_cons (ve_bin op_sub ok_sub (ve_bin (op_addV (by rfl)) ok_add (ve_var (pv 3)) (ve_bin (op_mulV (by rfl)) ok_mul (ve_var (pv 2)) (ve_var (pv 5)))) (ve_c pe_int (fun _ _ => .int _))) va_nil))))) va_nil))))
def m_is_kept_b1 : MS :=
    (mSeq (mIfS (mFun (semCmp fun i j => decide (j < i)) [(mVar 3), (mCall f_allowed_at [.v ⟨true, true, (mStab (mVar 0))⟩, .v ⟨true, true, (mStab (mVar 2))⟩])]) (mRet (mC (.bl false))) mNext)
    (mSet 2 (mCall f_levels_behind [.v ⟨true, true, (mStab (mVar 0))⟩, .v ⟨true, true, (mStab (mVar 2))⟩, .v ⟨true, true, (mStab (mVar 3))⟩])))
def m_is_kept : MS :=
    (mSeq (mSet 2 (mFun semMulT [(mTup [(mC (.int 0))]), (mFun semLen [(mVar 0)])]))
    (mSeq (mFor (mItemsL (mVar 1)) (gV 3) m_is_kept_b1)
    (mRet (mC (.bl true)))))
def f_is_kept : MF := mBody [false, false] 4 m_is_kept
theorem ok_is_kept {P : Program} {w : World} {K : PySem.W.Frag} {mg : Str → Option Value} {base : Heap} (T : Txt K mg w) (F : ∃ fd, FunV K d_is_kept fd) (h_allowed_at : Ok P w K mg base (gam K w) d_allowed_at 1 ["rules", "levels"] f_allowed_at) (h_levels_behind : Ok P w K mg base (gam K w) d_levels_behind 1 ["rules", "levels", "count"] f_levels_behind) : Ok P w K mg base (gam K w) d_is_kept 2 ["rules", "row"] f_is_kept := by
  obtain ⟨fd_allowed_at, F_allowed_at, G_allowed_at⟩ := h_allowed_at
  obtain ⟨fd_levels_behind, F_levels_behind, G_levels_behind⟩ := h_levels_behind
  obtain ⟨ds_allowed_at_2, v_allowed_at_2, b_allowed_at_2⟩ := bnd_allowed_at_2 F_allowed_at
  obtain ⟨ds_levels_behind_3, v_levels_behind_3, b_levels_behind_3⟩ := bnd_levels_behind_3 F_levels_behind
  cases v_allowed_at_2
  have v_allowed_at_2 : Vals (([] : List (V × Val)).map (·.1)) [] := .nil
  cases v_levels_behind_3
  have v_levels_behind_3 : Vals (([] : List (V × Val)).map (·.1)) [] := .nil
  refine ok_of F sc_is_kept rfl fun cdv A outer s H E hr tk hp σ0 => ?_
  exact (vss_cons (vs_set (i := 2) sc_is_kept.nd (by rfl) (by first | exact Or.inl rfl | exact Or.inr rfl) (ve_bin op_mulT1 ok_mulT (ve_tup (va_cons (ve_c pe_int (fun _ _ => .int _)) va_nil)) (ve_callB (call_lenV (by rfl)) ok_len (by rfl) T.n_len boot_len (va_cons (ve_var (pv 0)) va_nil))))
      (vss_cons (vs_for hp (by rfl) (vi_list (by rfl) (ve_var (pv 1))) (vg_name (i := 3) sc_is_kept.nd (by rfl) (by first | exact Or.inl rfl | exact Or.inr rfl)) (vss_cons (vs_if (vt_cmp op_gt ok_cmp (ve_var (pv 3)) (ve_call (cal_fn G_allowed_at (hr.mono (by first | decide | omega)) b_allowed_at_2 v_allowed_at_2 tk) (by rfl) T.g_allowed_at F_allowed_at.kp (vg_v (ve_stab (ve_var (pv 0))) (vg_v (ve_stab (ve_var (pv 2))) vg_nil)) dfl_allowed_at_2) (nomark _)) (vss_one (vs_ret (ve_c pe_bl (fun _ _ => .bl _)))) vss_nil)
      (vss_one (vs_set (i := 2) sc_is_kept.nd (by rfl) (by first | exact Or.inl rfl | exact Or.inr rfl) (ve_call (cal_fn G_levels_behind (hr.mono (by first | decide | omega)) b_levels_behind_3 v_levels_behind_3 tk) (by rfl) T.g_levels_behind F_levels_behind.kp (vg_v (ve_stab (ve_var (pv 0))) (vg_v (ve_stab (ve_var (pv 2))) (vg_v (ve_stab (ve_var (pv 3))) vg_nil))) dfl_levels_behind_3)))))
      (vss_one (vs_ret (ve_c pe_bl (fun _ _ => .bl _))))))
def m_is_integer : MS :=
    (mRet (mAnd (mFun (semIsi sub) [(mVar 0), (mC (.ty "int"))]) (mNot (mFun (semIsi sub) [(mVar 0), (mC (.ty "bool"))]))))
def f_is_integer : MF := mBody [false] 1 m_is_integer
theorem ok_is_integer {P : Program} {w : World} {K : PySem.W.Frag} {mg : Str → Option Value} {base : Heap} (T : Txt K mg w) (F : ∃ fd, FunV K d_is_integer fd)  : Ok P w K mg base (gam K w) d_is_integer 1 ["value"] f_is_integer := by
  refine ok_of F sc_is_integer rfl fun cdv A outer s H E hr tk hp σ0 => ?_
  exact (vss_one (vs_ret (ve_and (ve_callB call_isi (ok_isi (isi_facts T)) (by rfl) T.n_isinstance boot_isinstance (va_cons (ve_var (pv 0)) (va_cons (ve_c (pe_bltn (by rfl) T.n_int boot_int (by rfl)) (fun _ _ => .ty _)) va_nil))) (ve_one (ve_not (ve_callB call_isi (ok_isi (isi_facts T)) (by rfl) T.n_isinstance boot_isinstance (va_cons (ve_var (pv 0)) (va_cons (ve_c (pe_bltn (by rfl) T.n_bool boot_bool (by rfl)) (fun _ _ => .ty _)) va_nil))))))))
def m_is_between : MS :=
    (mRet (mAnd (mCall f_is_integer [.v ⟨true, true, (mStab (mVar 0))⟩]) (mChain (fun i j => decide (i ≤ j)) (fun i j => decide (i ≤ j)) (mVar 1) (mVar 0) (mVar 2))))
def f_is_between : MF := mBody [false, false, false] 3 m_is_between
theorem ok_is_between {P : Program} {w : World} {K : PySem.W.Frag} {mg : Str → Option Value} {base : Heap} (T : Txt K mg w) (F : ∃ fd, FunV K d_is_between fd) (h_is_integer : Ok P w K mg base (gam K w) d_is_integer 1 ["value"] f_is_integer) : Ok P w K mg base (gam K w) d_is_between 2 ["value", "least", "most"] f_is_between := by
  obtain ⟨fd_is_integer, F_is_integer, G_is_integer⟩ := h_is_integer
  obtain ⟨ds_is_integer_1, v_is_integer_1, b_is_integer_1⟩ := bnd_is_integer_1 F_is_integer
  cases v_is_integer_1
  have v_is_integer_1 : Vals (([] : List (V × Val)).map (·.1)) [] := .nil
  refine ok_of F sc_is_between rfl fun cdv A outer s H E hr tk hp σ0 => ?_
  exact (vss_one (vs_ret (ve_and (ve_call (cal_fn G_is_integer (hr.mono (by first | decide | omega)) b_is_integer_1 v_is_integer_1 tk) (by rfl) T.g_is_integer F_is_integer.kp (vg_v (ve_stab (ve_var (pv 0))) vg_nil) dfl_is_integer_1) (ve_one (ve_chain op_le op_le (ve_var (pv 1)) (ve_var (pv 0)) (ve_var (pv 2)))))))
def m_is_count : MS :=
    (mRet (mCall f_is_between [.v ⟨true, true, (mStab (mVar 0))⟩, .v ⟨true, true, (mC (.int 0))⟩, .v ⟨true, true, (mC (.int 99))⟩]))
def f_is_count : MF := mBody [false] 1 m_is_count
theorem ok_is_count {P : Program} {w : World} {K : PySem.W.Frag} {mg : Str → Option Value} {base : Heap} (T : Txt K mg w) (F : ∃ fd, FunV K d_is_count fd) (h_is_between : Ok P w K mg base (gam K w) d_is_between 2 ["value", "least", "most"] f_is_between) : Ok P w K mg base (gam K w) d_is_count 3 ["value"] f_is_count := by
  obtain ⟨fd_is_between, F_is_between, G_is_between⟩ := h_is_between
  obtain ⟨ds_is_between_3, v_is_between_3, b_is_between_3⟩ := bnd_is_between_3 F_is_between
  cases v_is_between_3
  have v_is_between_3 : Vals (([] : List (V × Val)).map (·.1)) [] := .nil
  refine ok_of F sc_is_count rfl fun cdv A outer s H E hr tk hp σ0 => ?_
  exact (vss_one (vs_ret (ve_call (cal_fn G_is_between (hr.mono (by first | decide | omega)) b_is_between_3 v_is_between_3 tk) (by rfl) T.g_is_between F_is_between.kp (vg_v (ve_stab (ve_var (pv 0))) (vg_v (ve_c pe_int (fun _ _ => .int _)) (vg_v (ve_c (pe_glob (v := .int 99) (by rfl) T.c_MOST_COUNT.choose_spec ⟨_, rfl⟩) (fun _ _ => .int _)) vg_nil))) dfl_is_between_3)))
def m_is_row : MS :=
    (mRet (mAnd (mFun (semIsi sub) [(mVar 0), (mC (.ty "list"))]) (mFun semAll [(mLc (mItemsL (mVar 0)) (gV 1) mYes (mCall f_is_count [.v ⟨true, true, (mStab (mVar 1))⟩]) [1])])))
def f_is_row : MF := mBody [false] 2 m_is_row
theorem ok_is_row {P : Program} {w : World} {K : PySem.W.Frag} {mg : Str → Option Value} {base : Heap} (T : Txt K mg w) (F : ∃ fd, FunV K d_is_row fd) (h_is_count : Ok P w K mg base (gam K w) d_is_count 3 ["value"] f_is_count) : Ok P w K mg base (gam K w) d_is_row 4 ["value"] f_is_row := by
  obtain ⟨fd_is_count, F_is_count, G_is_count⟩ := h_is_count
  obtain ⟨ds_is_count_1, v_is_count_1, b_is_count_1⟩ := bnd_is_count_1 F_is_count
  cases v_is_count_1
  have v_is_count_1 : Vals (([] : List (V × Val)).map (·.1)) [] := .nil
  refine ok_of F sc_is_row rfl fun cdv A outer s H E hr tk hp σ0 => ?_
  exact (vss_one (vs_ret (ve_and (ve_callB call_isi (ok_isi (isi_facts T)) (by rfl) T.n_isinstance boot_isinstance (va_cons (ve_var (pv 0)) (va_cons (ve_c (pe_bltn (by rfl) T.n_list boot_list (by rfl)) (fun _ _ => .ty _)) va_nil))) (ve_one (ve_callB (cr_all (by rfl)) (ok_all (by rfl)) (by rfl) T.n_all boot_all (va_cons (ve_lc (p := true) (sb := true) (own := [("count", 1)]) (by rfl) sc_is_row.nd (vi_list (by rfl) (ve_var (pv 0))) (blkOk_by (own := [("count", 1)]) (N := ["value", "count"]) (sc := d_is_row.scope) (by decide +kernel)) (fun _ _ _ _ _ _ => (vg_name (i := 1) sc_is_row.nd (by rfl) (by first | exact Or.inl rfl | exact Or.inr rfl) (by exact fun z => absurd (show some false = some true from z) (by decide)))) (fun _ _ _ _ _ => vts0) (fun _ _ _ _ _ => (ve_call (cal_fn G_is_count (hr.mono (by first | decide | omega)) b_is_count_1 v_is_count_1 takesF) (by rfl) T.g_is_count F_is_count.kp (vg_v (ve_stab (ve_var (pv 1))) vg_nil) dfl_is_count_1))) va_nil))))))
def m_Bound_contains : MS :=
    (mRet (mAnd (mCall f_is_row [.v ⟨true, true, (mStab (mVar 1))⟩]) (mCall f_is_kept [.v ⟨true, true, (mFun (semFld [0] "ruled") [(mVar 0)])⟩, .v ⟨true, true, (mStab (mVar 1))⟩])))
def f_Bound_contains : MF := mBody [true, false] 2 m_Bound_contains
theorem ok_Bound_contains {P : Program} {w : World} {K : PySem.W.Frag} {mg : Str → Option Value} {base : Heap} (T : Txt K mg w) (F : ∃ fd, FunV K d_Bound_contains fd) (h_is_kept : Ok P w K mg base (gam K w) d_is_kept 2 ["rules", "row"] f_is_kept) (h_is_row : Ok P w K mg base (gam K w) d_is_row 4 ["value"] f_is_row) : Ok P w K mg base (gam K w) d_Bound_contains 5 ["self", "row"] f_Bound_contains := by
  obtain ⟨fd_is_kept, F_is_kept, G_is_kept⟩ := h_is_kept
  obtain ⟨fd_is_row, F_is_row, G_is_row⟩ := h_is_row
  obtain ⟨ds_is_kept_2, v_is_kept_2, b_is_kept_2⟩ := bnd_is_kept_2 F_is_kept
  obtain ⟨ds_is_row_1, v_is_row_1, b_is_row_1⟩ := bnd_is_row_1 F_is_row
  cases v_is_kept_2
  have v_is_kept_2 : Vals (([] : List (V × Val)).map (·.1)) [] := .nil
  cases v_is_row_1
  have v_is_row_1 : Vals (([] : List (V × Val)).map (·.1)) [] := .nil
  refine ok_of F sc_Bound_contains rfl fun cdv A outer s H E hr tk hp σ0 => ?_
  exact (vss_one (vs_ret (ve_and (ve_call (cal_fn G_is_row (hr.mono (by first | decide | omega)) b_is_row_1 v_is_row_1 tk) (by rfl) T.g_is_row F_is_row.kp (vg_v (ve_stab (ve_var (pv 1))) vg_nil) dfl_is_row_1) (ve_one (ve_call (cal_fn G_is_kept (hr.mono (by first | decide | omega)) b_is_kept_2 v_is_kept_2 tk) (by rfl) T.g_is_kept F_is_kept.kp (vg_v (ve_fld (cs := [0]) (fld_ruled T) (ve_var (pv 0))) (vg_v (ve_stab (ve_var (pv 1))) vg_nil)) dfl_is_kept_2)))))
def m_is_rule : MS :=
    (mSeq (mIfS (mOr (mNot (mFun (semIsi sub) [(mVar 0), (mC (.ty "tuple"))])) (mFun semNe [(mFun semLen [(mVar 0)]), (mC (.int 2))])) (mRet (mC (.bl false))) mNext)
    (mRet (mAnd (mCall f_is_between [.v ⟨true, true, (mFun semIx [(mVar 0), (mC (.int 0))])⟩, .v ⟨true, true, (mC (.int 1))⟩, .v ⟨true, true, (mC (.int 8))⟩]) (mCall f_is_between [.v ⟨true, true, (mFun semIx [(mVar 0), (mC (.int 1))])⟩, .v ⟨true, true, (mC (.int 1))⟩, .v ⟨true, true, (mC (.int 12))⟩]))))
def f_is_rule : MF := mBody [false] 1 m_is_rule
theorem ok_is_rule {P : Program} {w : World} {K : PySem.W.Frag} {mg : Str → Option Value} {base : Heap} (T : Txt K mg w) (F : ∃ fd, FunV K d_is_rule fd) (h_is_between : Ok P w K mg base (gam K w) d_is_between 2 ["value", "least", "most"] f_is_between) : Ok P w K mg base (gam K w) d_is_rule 3 ["value"] f_is_rule := by
  obtain ⟨fd_is_between, F_is_between, G_is_between⟩ := h_is_between
  obtain ⟨ds_is_between_3, v_is_between_3, b_is_between_3⟩ := bnd_is_between_3 F_is_between
  cases v_is_between_3
  have v_is_between_3 : Vals (([] : List (V × Val)).map (·.1)) [] := .nil
  refine ok_of F sc_is_rule rfl fun cdv A outer s H E hr tk hp σ0 => ?_
  exact (vss_cons (vs_if (vt_of (vw_or (vt_not (vt_val (ve_callB call_isi (ok_isi (isi_facts T)) (by rfl) T.n_isinstance boot_isinstance (va_cons (ve_var (pv 0)) (va_cons (ve_c (pe_bltn (by rfl) T.n_tuple boot_tuple (by rfl)) (fun _ _ => .ty _)) va_nil))))) (vw_or1 (vt_cmp (op_neD hr.units) ok_ne (ve_callB (call_lenV (by rfl)) ok_len (by rfl) T.n_len boot_len (va_cons (ve_var (pv 0)) va_nil)) (ve_c pe_int (fun _ _ => .int _)) (nomark _))))) (vss_one (vs_ret (ve_c pe_bl (fun _ _ => .bl _)))) vss_nil)
      (vss_one (vs_ret (ve_and (ve_call (cal_fn G_is_between (hr.mono (by first | decide | omega)) b_is_between_3 v_is_between_3 tk) (by rfl) T.g_is_between F_is_between.kp (vg_v (ve_ix (ix_any (by rfl) (by rfl) (hu_of hr)) ok_ix (ve_var (pv 0)) (ve_c pe_int (fun _ _ => .int _)) (fun _ _ => (by rfl))) (vg_v (ve_c pe_int (fun _ _ => .int _)) (vg_v (ve_c (pe_glob (v := .int 8) (by rfl) T.c_MOST_MOST.choose_spec ⟨_, rfl⟩) (fun _ _ => .int _)) vg_nil))) dfl_is_between_3) (ve_one (ve_call (cal_fn G_is_between (hr.mono (by first | decide | omega)) b_is_between_3 v_is_between_3 tk) (by rfl) T.g_is_between F_is_between.kp (vg_v (ve_ix (ix_any (by rfl) (by rfl) (hu_of hr)) ok_ix (ve_var (pv 0)) (ve_c pe_int (fun _ _ => .int _)) (fun _ _ => (by rfl))) (vg_v (ve_c pe_int (fun _ _ => .int _)) (vg_v (ve_c (pe_glob (v := .int 12) (by rfl) T.c_MOST_EVERY.choose_spec ⟨_, rfl⟩) (fun _ _ => .int _)) vg_nil))) dfl_is_between_3))))))
def m_are_rules : MS :=
    (mSeq (mIfS (mOr (mNot (mChain (fun i j => decide (i ≤ j)) (fun i j => decide (i ≤ j)) (mC (.int 1)) (mFun semLen [(mVar 0)]) (mC (.int 3)))) (mNot (mFun semAll [(mLc (mItemsL (mVar 0)) (gV 1) mYes (mCall f_is_rule [.v ⟨true, true, (mStab (mVar 1))⟩]) [1])]))) (mRet (mC (.bl false))) mNext)
    (mRet (mFun semEq [(mFun semLenT [(mFz (mDcT (mItemsL (mVar 0)) (gV 1) mYes (mVar 1) (mC (.bl true)) [1]))]), (mFun semLen [(mVar 0)])])))
def f_are_rules : MF := mBody [false] 2 m_are_rules
theorem ok_are_rules {P : Program} {w : World} {K : PySem.W.Frag} {mg : Str → Option Value} {base : Heap} (T : Txt K mg w) (F : ∃ fd, FunV K d_are_rules fd) (h_is_rule : Ok P w K mg base (gam K w) d_is_rule 3 ["value"] f_is_rule) : Ok P w K mg base (gam K w) d_are_rules 4 ["rules"] f_are_rules := by
  obtain ⟨fd_is_rule, F_is_rule, G_is_rule⟩ := h_is_rule
  obtain ⟨ds_is_rule_1, v_is_rule_1, b_is_rule_1⟩ := bnd_is_rule_1 F_is_rule
  cases v_is_rule_1
  have v_is_rule_1 : Vals (([] : List (V × Val)).map (·.1)) [] := .nil
  refine ok_of F sc_are_rules rfl fun cdv A outer s H E hr tk hp σ0 => ?_
  exact (vss_cons (vs_if (vt_of (vw_or (vt_not (vt_chain op_le op_le (ve_c pe_int (fun _ _ => .int _)) (ve_callB (call_lenV (by rfl)) ok_len (by rfl) T.n_len boot_len (va_cons (ve_var (pv 0)) va_nil)) (ve_c (pe_glob (v := .int 3) (by rfl) T.c_MOST_RULES.choose_spec ⟨_, rfl⟩) (fun _ _ => .int _)))) (vw_or1 (vt_not (vt_val (ve_callB (cr_all (by rfl)) (ok_all (by rfl)) (by rfl) T.n_all boot_all (va_cons (ve_lc (p := true) (sb := true) (own := [("rule", 1)]) (by rfl) sc_are_rules.nd (vi_list (by rfl) (ve_var (pv 0))) (blkOk_by (own := [("rule", 1)]) (N := ["rules", "rule"]) (sc := d_are_rules.scope) (by decide +kernel)) (fun _ _ _ _ _ _ => (vg_name (i := 1) sc_are_rules.nd (by rfl) (by first | exact Or.inl rfl | exact Or.inr rfl) (by exact fun z => absurd (show some false = some true from z) (by decide)))) (fun _ _ _ _ _ => vts0) (fun _ _ _ _ _ => (ve_call (cal_fn G_is_rule (hr.mono (by first | decide | omega)) b_is_rule_1 v_is_rule_1 takesF) (by rfl) T.g_is_rule F_is_rule.kp (vg_v (ve_stab (ve_var (pv 1))) vg_nil) dfl_is_rule_1))) va_nil))))))) (vss_one (vs_ret (ve_c pe_bl (fun _ _ => .bl _)))) vss_nil)
      (vss_one (vs_ret (ve_cmp (op_eqD hr.units) ok_eq (ve_callB call_len_dT ok_lenT (by rfl) T.n_len boot_len (va_cons (ve_fz (ve_dcT (p := true) (pk := true) (sk := false) (pv := true) (own := [("rule", 1)]) (hu0 hr) (by rfl) sc_are_rules.nd (vi_list (by rfl) (ve_var (pv 0))) (blkOk_by (own := [("rule", 1)]) (N := ["rules", "rule"]) (sc := d_are_rules.scope) (by decide +kernel)) (fun _ _ _ _ _ _ => (vg_name (i := 1) sc_are_rules.nd (by rfl) (by first | exact Or.inl rfl | exact Or.inr rfl) (by exact fun z => absurd (show some false = some true from z) (by decide)))) (fun _ _ _ _ _ => vts0) (fun _ _ _ _ _ => (ve_var (pv 1))) (fun _ _ _ _ _ => (ve_c pe_bl (fun _ _ => .bl _))))) va_nil)) (ve_callB (call_lenV (by rfl)) ok_len (by rfl) T.n_len boot_len (va_cons (ve_var (pv 0)) va_nil)) (nomark _)))))
def m_Bound_init : MS :=
    (mSeq (mIfS (mNot (mCall f_is_between [.v ⟨true, true, (mStab (mVar 1))⟩, .v ⟨true, true, (mC (.int 1))⟩, .v ⟨true, true, (mC (.int 8))⟩])) mNever mNext)
    (mSeq (mIfS (mNot (mCall f_is_between [.v ⟨true, true, (mStab (mVar 2))⟩, .v ⟨true, true, (mC (.int 1))⟩, .v ⟨true, true, (mC (.int 12))⟩])) mNever mNext)
    (mSeq (mIfS (mOr (mNot (mFun semIsiT [(mVar 3), (mTup [(mC (.ty "list")), (mC (.ty "tuple"))])])) (mNot (mCall f_are_rules [.v ⟨true, true, (mFz (mFun semAdd [(mLst [(mTup [(mStab (mVar 1)), (mStab (mVar 2))])]), (mFun semList [(mVar 3)])]))⟩]))) mNever mNext)
    (mSetF [0] 0 "ruled" (mFun semAdd [(mLst [(mTup [(mStab (mVar 1)), (mStab (mVar 2))])]), (mFun semList [(mVar 3)])])))))
def f_Bound_init : MF := mBody [true, false, false, false] 4 m_Bound_init
theorem ok_Bound_init {P : Program} {w : World} {K : PySem.W.Frag} {mg : Str → Option Value} {base : Heap} (T : Txt K mg w) (F : ∃ fd, FunV K d_Bound_init fd) (h_is_between : Ok P w K mg base (gam K w) d_is_between 2 ["value", "least", "most"] f_is_between) (h_are_rules : Ok P w K mg base (gam K w) d_are_rules 4 ["rules"] f_are_rules) : Ok P w K mg base (gam K w) d_Bound_init 5 ["self", "most", "every", "also"] f_Bound_init := by
  obtain ⟨fd_is_between, F_is_between, G_is_between⟩ := h_is_between
  obtain ⟨fd_are_rules, F_are_rules, G_are_rules⟩ := h_are_rules
  obtain ⟨ds_are_rules_1, v_are_rules_1, b_are_rules_1⟩ := bnd_are_rules_1 F_are_rules
  obtain ⟨ds_is_between_3, v_is_between_3, b_is_between_3⟩ := bnd_is_between_3 F_is_between
  cases v_are_rules_1
  have v_are_rules_1 : Vals (([] : List (V × Val)).map (·.1)) [] := .nil
  cases v_is_between_3
  have v_is_between_3 : Vals (([] : List (V × Val)).map (·.1)) [] := .nil
  refine ok_of F sc_Bound_init rfl fun cdv A outer s H E hr tk hp σ0 => ?_
  exact (vss_cons (vs_if (vt_not (vt_val (ve_call (cal_fn G_is_between (hr.mono (by first | decide | omega)) b_is_between_3 v_is_between_3 tk) (by rfl) T.g_is_between F_is_between.kp (vg_v (ve_stab (ve_var (pv 1))) (vg_v (ve_c pe_int (fun _ _ => .int _)) (vg_v (ve_c (pe_glob (v := .int 8) (by rfl) T.c_MOST_MOST.choose_spec ⟨_, rfl⟩) (fun _ _ => .int _)) vg_nil))) dfl_is_between_3))) vss_never vss_nil)
      (vss_cons (vs_if (vt_not (vt_val (ve_call (cal_fn G_is_between (hr.mono (by first | decide | omega)) b_is_between_3 v_is_between_3 tk) (by rfl) T.g_is_between F_is_between.kp (vg_v (ve_stab (ve_var (pv 2))) (vg_v (ve_c pe_int (fun _ _ => .int _)) (vg_v (ve_c (pe_glob (v := .int 12) (by rfl) T.c_MOST_EVERY.choose_spec ⟨_, rfl⟩) (fun _ _ => .int _)) vg_nil))) dfl_is_between_3))) vss_never vss_nil)
      (vss_cons (vs_if (vt_of (vw_or (vt_not (vt_val (ve_callB call_isiT ok_isiT (by rfl) T.n_isinstance boot_isinstance (va_cons (ve_var (pv 3)) (va_cons (ve_tup (va_cons (ve_c (pe_bltn (by rfl) T.n_list boot_list (by rfl)) (fun _ _ => .ty _)) (va_cons (ve_c (pe_bltn (by rfl) T.n_tuple boot_tuple (by rfl)) (fun _ _ => .ty _)) va_nil))) va_nil))))) (vw_or1 (vt_not (vt_val (ve_call (cal_fn G_are_rules (hr.mono (by first | decide | omega)) b_are_rules_1 v_are_rules_1 tk) (by rfl) T.g_are_rules F_are_rules.kp (vg_v (ve_fz (ve_bin (op_addV (by rfl)) ok_add (ve_lst (va_cons (ve_tup (va_cons (ve_stab (ve_var (pv 1))) (va_cons (ve_stab (ve_var (pv 2))) va_nil))) va_nil)) (ve_callTy call_list_of (ok_list (by rfl)) (by rfl) T.n_list boot_list (va_cons (ve_var (pv 3)) va_nil)))) vg_nil) dfl_are_rules_1)))))) vss_never vss_nil)
      (vss_one (vs_setF (cs := [0]) (i := 0) (fld_ruled T) (pv 0) (ve_bin (op_addV (by rfl)) ok_add (ve_lst (va_cons (ve_tup (va_cons (ve_stab (ve_var (pv 1))) (va_cons (ve_stab (ve_var (pv 2))) va_nil))) va_nil)) (ve_callTy call_list_of (ok_list (by rfl)) (by rfl) T.n_list boot_list (va_cons (ve_var (pv 3)) va_nil))))))))
def m_are_levels : MS :=
    (mSeq (mIfS (mOr (mNot (mFun (semIsi sub) [(mVar 1), (mC (.ty "tuple"))])) (mFun semNe [(mFun semLen [(mVar 1)]), (mFun semLen [(mVar 0)])])) (mRet (mC (.bl false))) mNext)
    (mRet (mFun semAll [(mLc (mZipM (mVar 1) (mVar 0)) (gTupV (gConsV (gV 2) (gConsV (gTupV (gConsV (gV 3) (gConsV (gV 4) gNilV)) 2) gNilV)) 2) mYes (mCall f_is_between [.v ⟨true, true, (mStab (mVar 2))⟩, .v ⟨true, true, (mC (.int 0))⟩, .v ⟨true, true, (mFun semMul [(mVar 3), (mVar 4)])⟩]) [2, 3, 4])])))
def f_are_levels : MF := mBody [false, false] 5 m_are_levels
theorem ok_are_levels {P : Program} {w : World} {K : PySem.W.Frag} {mg : Str → Option Value} {base : Heap} (T : Txt K mg w) (F : ∃ fd, FunV K d_are_levels fd) (h_is_between : Ok P w K mg base (gam K w) d_is_between 2 ["value", "least", "most"] f_is_between) : Ok P w K mg base (gam K w) d_are_levels 3 ["rules", "value"] f_are_levels := by
  obtain ⟨fd_is_between, F_is_between, G_is_between⟩ := h_is_between
  obtain ⟨ds_is_between_3, v_is_between_3, b_is_between_3⟩ := bnd_is_between_3 F_is_between
  cases v_is_between_3
  have v_is_between_3 : Vals (([] : List (V × Val)).map (·.1)) [] := .nil
  refine ok_of F sc_are_levels rfl fun cdv A outer s H E hr tk hp σ0 => ?_
  exact (vss_cons (vs_if (vt_of (vw_or (vt_not (vt_val (ve_callB call_isi (ok_isi (isi_facts T)) (by rfl) T.n_isinstance boot_isinstance (va_cons (ve_var (pv 1)) (va_cons (ve_c (pe_bltn (by rfl) T.n_tuple boot_tuple (by rfl)) (fun _ _ => .ty _)) va_nil))))) (vw_or1 (vt_cmp (op_neD hr.units) ok_ne (ve_callB (call_lenV (by rfl)) ok_len (by rfl) T.n_len boot_len (va_cons (ve_var (pv 1)) va_nil)) (ve_callB (call_lenV (by rfl)) ok_len (by rfl) T.n_len boot_len (va_cons (ve_var (pv 0)) va_nil)) (nomark _))))) (vss_one (vs_ret (ve_c pe_bl (fun _ _ => .bl _)))) vss_nil)
      (vss_one (vs_ret (ve_callB (cr_all (by rfl)) (ok_all (by rfl)) (by rfl) T.n_all boot_all (va_cons (ve_lc (p := true) (sb := true) (own := [("level", 2), ("most", 3), ("every", 4)]) (by rfl) sc_are_levels.nd (vi_zipM (by rfl) (by rfl) T.n_zip (ve_var (pv 1)) (ve_var (pv 0))) (blkOk_by (own := [("level", 2), ("most", 3), ("every", 4)]) (N := ["rules", "value", "level", "most", "every"]) (sc := d_are_levels.scope) (by decide +kernel)) (fun _ _ _ _ _ _ => (vg_tup (n := 2) (by rfl) (by rfl) (vgs_cons (vg_name (i := 2) sc_are_levels.nd (by rfl) (by first | exact Or.inl rfl | exact Or.inr rfl) (by exact fun z => absurd (show some false = some true from z) (by decide))) (vgs_cons (vg_tup (n := 2) (by rfl) (by rfl) (vgs_cons (vg_name (i := 3) sc_are_levels.nd (by rfl) (by first | exact Or.inl rfl | exact Or.inr rfl) (by exact fun z => absurd (show some false = some true from z) (by decide))) (vgs_cons (vg_name (i := 4) sc_are_levels.nd (by rfl) (by first | exact Or.inl rfl | exact Or.inr rfl) (by exact fun z => absurd (show some false = some true from z) (by decide))) vgs_nil))) vgs_nil)))) (fun _ _ _ _ _ => vts0) (fun _ _ _ _ _ => (ve_call (cal_fn G_is_between (hr.mono (by first | decide | omega)) b_is_between_3 v_is_between_3 takesF) (by rfl) T.g_is_between F_is_between.kp (vg_v (ve_stab (ve_var (pv 2))) (vg_v (ve_c pe_int (fun _ _ => .int _)) (vg_v (ve_bin (op_mulV (by rfl)) ok_mul (ve_var (pv 3)) (ve_var (pv 4))) vg_nil))) dfl_is_between_3))) va_nil)))))
def m_check_bound : MS :=
    (mIfS (mNot (mFun (semIsi sub) [(mVar 0), (mC (.cn 0))])) mNever mNext)
def f_check_bound : MF := mBody [false] 1 m_check_bound
theorem ok_check_bound {P : Program} {w : World} {K : PySem.W.Frag} {mg : Str → Option Value} {base : Heap} (T : Txt K mg w) (F : ∃ fd, FunV K d_check_bound fd)  : Ok P w K mg base (gam K w) d_check_bound 1 ["bound"] f_check_bound := by
  refine ok_of F sc_check_bound rfl fun cdv A outer s H E hr tk hp σ0 => ?_
  exact (vss_one (vs_if (vt_not (vt_val (ve_callB call_isi (ok_isi (isi_facts T)) (by rfl) T.n_isinstance boot_isinstance (va_cons (ve_var (pv 0)) (va_cons (ve_c (pe_glob (by rfl) T.g_Bound (by rfl)) (fun _ _ => .cn (by rfl))) va_nil))))) vss_never vss_nil))
def m_check_levels : MS :=
    (mSeq (mDrop (mCall f_check_bound [.v ⟨true, true, (mStab (mVar 0))⟩]))
    (mIfS (mNot (mCall f_are_levels [.v ⟨true, true, (mFun (semFld [0] "ruled") [(mVar 0)])⟩, .v ⟨true, true, (mStab (mVar 1))⟩])) mNever mNext))
def f_check_levels : MF := mBody [false, false] 2 m_check_levels
theorem ok_check_levels {P : Program} {w : World} {K : PySem.W.Frag} {mg : Str → Option Value} {base : Heap} (T : Txt K mg w) (F : ∃ fd, FunV K d_check_levels fd) (h_are_levels : Ok P w K mg base (gam K w) d_are_levels 3 ["rules", "value"] f_are_levels) (h_check_bound : Ok P w K mg base (gam K w) d_check_bound 1 ["bound"] f_check_bound) : Ok P w K mg base (gam K w) d_check_levels 4 ["bound", "levels"] f_check_levels := by
  obtain ⟨fd_are_levels, F_are_levels, G_are_levels⟩ := h_are_levels
  obtain ⟨fd_check_bound, F_check_bound, G_check_bound⟩ := h_check_bound
  obtain ⟨ds_are_levels_2, v_are_levels_2, b_are_levels_2⟩ := bnd_are_levels_2 F_are_levels
  obtain ⟨ds_check_bound_1, v_check_bound_1, b_check_bound_1⟩ := bnd_check_bound_1 F_check_bound
  cases v_are_levels_2
  have v_are_levels_2 : Vals (([] : List (V × Val)).map (·.1)) [] := .nil
  cases v_check_bound_1
  have v_check_bound_1 : Vals (([] : List (V × Val)).map (·.1)) [] := .nil
  refine ok_of F sc_check_levels rfl fun cdv A outer s H E hr tk hp σ0 => ?_
  exact (vss_cons (vs_expr (ve_call (cal_fn G_check_bound (hr.mono (by first | decide | omega)) b_check_bound_1 v_check_bound_1 tk) (by rfl) T.g_check_bound F_check_bound.kp (vg_v (ve_stab (ve_var (pv 0))) vg_nil) dfl_check_bound_1))
      (vss_one (vs_if (vt_not (vt_val (ve_call (cal_fn G_are_levels (hr.mono (by first | decide | omega)) b_are_levels_2 v_are_levels_2 tk) (by rfl) T.g_are_levels F_are_levels.kp (vg_v (ve_fld (cs := [0]) (fld_ruled T) (ve_var (pv 0))) (vg_v (ve_stab (ve_var (pv 1))) vg_nil)) dfl_are_levels_2))) vss_never vss_nil)))
def m_allowed : MS :=
    (mSeq (mDrop (mCall f_check_levels [.v ⟨true, true, (mStab (mVar 0))⟩, .v ⟨true, true, (mStab (mVar 1))⟩]))
    (mRet (mCall f_allowed_at [.v ⟨true, true, (mFun (semFld [0] "ruled") [(mVar 0)])⟩, .v ⟨true, true, (mStab (mVar 1))⟩])))
def f_allowed : MF := mBody [false, false] 2 m_allowed
theorem ok_allowed {P : Program} {w : World} {K : PySem.W.Frag} {mg : Str → Option Value} {base : Heap} (T : Txt K mg w) (F : ∃ fd, FunV K d_allowed fd) (h_allowed_at : Ok P w K mg base (gam K w) d_allowed_at 1 ["rules", "levels"] f_allowed_at) (h_check_levels : Ok P w K mg base (gam K w) d_check_levels 4 ["bound", "levels"] f_check_levels) : Ok P w K mg base (gam K w) d_allowed 5 ["bound", "levels"] f_allowed := by
  obtain ⟨fd_allowed_at, F_allowed_at, G_allowed_at⟩ := h_allowed_at
  obtain ⟨fd_check_levels, F_check_levels, G_check_levels⟩ := h_check_levels
  obtain ⟨ds_allowed_at_2, v_allowed_at_2, b_allowed_at_2⟩ := bnd_allowed_at_2 F_allowed_at
  obtain ⟨ds_check_levels_2, v_check_levels_2, b_check_levels_2⟩ := bnd_check_levels_2 F_check_levels
  cases v_allowed_at_2
  have v_allowed_at_2 : Vals (([] : List (V × Val)).map (·.1)) [] := .nil
  cases v_check_levels_2
  have v_check_levels_2 : Vals (([] : List (V × Val)).map (·.1)) [] := .nil
  refine ok_of F sc_allowed rfl fun cdv A outer s H E hr tk hp σ0 => ?_
  exact (vss_cons (vs_expr (ve_call (cal_fn G_check_levels (hr.mono (by first | decide | omega)) b_check_levels_2 v_check_levels_2 tk) (by rfl) T.g_check_levels F_check_levels.kp (vg_v (ve_stab (ve_var (pv 0))) (vg_v (ve_stab (ve_var (pv 1))) vg_nil)) dfl_check_levels_2))
      (vss_one (vs_ret (ve_call (cal_fn G_allowed_at (hr.mono (by first | decide | omega)) b_allowed_at_2 v_allowed_at_2 tk) (by rfl) T.g_allowed_at F_allowed_at.kp (vg_v (ve_fld (cs := [0]) (fld_ruled T) (ve_var (pv 0))) (vg_v (ve_stab (ve_var (pv 1))) vg_nil)) dfl_allowed_at_2))))
def m_bound_of : MS :=
    (mRet (mCall (mMake 0 f_Bound_init) [.v ⟨true, true, (mFun semIx [(mFun semIx [(mVar 0), (mC (.int 0))]), (mC (.int 0))])⟩, .v ⟨true, true, (mFun semIx [(mFun semIx [(mVar 0), (mC (.int 0))]), (mC (.int 1))])⟩, .v ⟨true, true, (mFz (mFun semSlL [(mVar 0), (mC (.int 1))]))⟩]))
def f_bound_of : MF := mBody [false] 1 m_bound_of
theorem ok_bound_of {P : Program} {w : World} {K : PySem.W.Frag} {mg : Str → Option Value} {base : Heap} (T : Txt K mg w) (F : ∃ fd, FunV K d_bound_of fd) (h_Bound_init : Ok P w K mg base (gam K w) d_Bound_init 5 ["self", "most", "every", "also"] f_Bound_init) : Ok P w K mg base (gam K w) d_bound_of 7 ["rules"] f_bound_of := by
  obtain ⟨fd_Bound_init, F_Bound_init, G_Bound_init⟩ := h_Bound_init
  have kb_Bound_init_2_all_b := kb_Bound_init_2_all F_Bound_init
  refine ok_of F sc_bound_of rfl fun cdv A outer s H E hr tk hp σ0 => ?_
  exact (vss_one (vs_ret (ve_makeK1 (c := 0) (os1 := [⟨true, true, (mFun semIx [(mFun semIx [(mVar 0), (mC (.int 0))]), (mC (.int 0))])⟩, ⟨true, true, (mFun semIx [(mFun semIx [(mVar 0), (mC (.int 0))]), (mC (.int 1))])⟩]) (as := [.v ⟨true, true, (mFun semIx [(mFun semIx [(mVar 0), (mC (.int 0))]), (mC (.int 0))])⟩, .v ⟨true, true, (mFun semIx [(mFun semIx [(mVar 0), (mC (.int 0))]), (mC (.int 1))])⟩, .v ⟨true, true, (mFz (mFun semSlL [(mVar 0), (mC (.int 1))]))⟩]) (by rfl) T.mk_Bound G_Bound_init (hr.mono (by first | decide | omega)) kb_Bound_init_2_all_b tk (by rfl) T.g_Bound (va_cons (ve_ix (ix_any (by rfl) (by rfl) (hu_of hr)) ok_ix (ve_ix (ix_any (by rfl) (by rfl) (hu_of hr)) ok_ix (ve_var (pv 0)) (ve_c pe_int (fun _ _ => .int _)) (fun _ _ => (by rfl))) (ve_c pe_int (fun _ _ => .int _)) (fun _ _ => (by rfl))) (va_cons (ve_ix (ix_any (by rfl) (by rfl) (hu_of hr)) ok_ix (ve_ix (ix_any (by rfl) (by rfl) (hu_of hr)) ok_ix (ve_var (pv 0)) (ve_c pe_int (fun _ _ => .int _)) (fun _ _ => (by rfl))) (ve_c pe_int (fun _ _ => .int _)) (fun _ _ => (by rfl))) va_nil)) (vk_cons (ve_fz (ve_slL (by rfl) (ve_var (pv 0)) (ve_c pe_int (fun _ _ => .int _)))) vk_nil) trivial (by rfl) (fun y xs zs hx hz => match xs, zs, hx, hz with | [_, _], [_], _, _ => by rfl))))
def m_Bound_of : MS :=
    (mSeq (mIfS (mOr (mNot (mFun (semIsi sub) [(mVar 0), (mC (.ty "list"))])) (mNot (mCall f_are_rules [.v ⟨true, true, (mStab (mVar 0))⟩]))) mNever mNext)
    (mRet (mCall f_bound_of [.v ⟨true, true, (mStab (mVar 0))⟩])))
def f_Bound_of : MF := mBody [false] 1 m_Bound_of
theorem ok_Bound_of {P : Program} {w : World} {K : PySem.W.Frag} {mg : Str → Option Value} {base : Heap} (T : Txt K mg w) (F : ∃ fd, FunV K d_Bound_of fd) (h_are_rules : Ok P w K mg base (gam K w) d_are_rules 4 ["rules"] f_are_rules) (h_bound_of : Ok P w K mg base (gam K w) d_bound_of 7 ["rules"] f_bound_of) : Ok P w K mg base (gam K w) d_Bound_of 8 ["rules"] f_Bound_of := by
  obtain ⟨fd_are_rules, F_are_rules, G_are_rules⟩ := h_are_rules
  obtain ⟨fd_bound_of, F_bound_of, G_bound_of⟩ := h_bound_of
  obtain ⟨ds_are_rules_1, v_are_rules_1, b_are_rules_1⟩ := bnd_are_rules_1 F_are_rules
  obtain ⟨ds_bound_of_1, v_bound_of_1, b_bound_of_1⟩ := bnd_bound_of_1 F_bound_of
  cases v_are_rules_1
  have v_are_rules_1 : Vals (([] : List (V × Val)).map (·.1)) [] := .nil
  cases v_bound_of_1
  have v_bound_of_1 : Vals (([] : List (V × Val)).map (·.1)) [] := .nil
  refine ok_of F sc_Bound_of rfl fun cdv A outer s H E hr tk hp σ0 => ?_
  exact (vss_cons (vs_if (vt_of (vw_or (vt_not (vt_val (ve_callB call_isi (ok_isi (isi_facts T)) (by rfl) T.n_isinstance boot_isinstance (va_cons (ve_var (pv 0)) (va_cons (ve_c (pe_bltn (by rfl) T.n_list boot_list (by rfl)) (fun _ _ => .ty _)) va_nil))))) (vw_or1 (vt_not (vt_val (ve_call (cal_fn G_are_rules (hr.mono (by first | decide | omega)) b_are_rules_1 v_are_rules_1 tk) (by rfl) T.g_are_rules F_are_rules.kp (vg_v (ve_stab (ve_var (pv 0))) vg_nil) dfl_are_rules_1)))))) vss_never vss_nil)
      (vss_one (vs_ret (ve_call (cal_fn G_bound_of (hr.mono (by first | decide | omega)) b_bound_of_1 v_bound_of_1 tk) (by rfl) T.g_bound_of F_bound_of.kp (vg_v (ve_stab (ve_var (pv 0))) vg_nil) dfl_bound_of_1))))
def m_bound : MS :=
    (mRet (mCall f_Bound_of [.v ⟨true, true, (mFz (mFun semList [(mVar 0)]))⟩]))
def f_bound : MF := mBody [false] 1 m_bound
theorem ok_bound {P : Program} {w : World} {K : PySem.W.Frag} {mg : Str → Option Value} {base : Heap} (T : Txt K mg w) (F : ∃ fd, FunV K d_bound fd) (h_Bound_of : Ok P w K mg base (gam K w) d_Bound_of 8 ["rules"] f_Bound_of) : Ok P w K mg base (gam K w) d_bound 9 ["_law_rules"] f_bound := by
  obtain ⟨fd_Bound_of, F_Bound_of, G_Bound_of⟩ := h_Bound_of
  obtain ⟨ds_Bound_of_1, v_Bound_of_1, b_Bound_of_1⟩ := bnd_Bound_of_1 F_Bound_of
  cases v_Bound_of_1
  have v_Bound_of_1 : Vals (([] : List (V × Val)).map (·.1)) [] := .nil
  refine ok_of F sc_bound rfl fun cdv A outer s H E hr tk hp σ0 => ?_
  exact (vss_one (vs_ret (ve_static T.sm_Bound_of (pe_glob (by rfl) T.g_Bound (by rfl)) (cal_fn G_Bound_of (hr.mono (by first | decide | omega)) b_Bound_of_1 v_Bound_of_1 tk) (vg_v (ve_fz (ve_callTy call_list_of (ok_list (by rfl)) (by rfl) T.n_list boot_list (va_cons (ve_var (pv 0)) va_nil))) vg_nil) dfl_Bound_of_1)))
def m_draw : MS :=
    (mSeq (mIfS (mFun (semCmp fun i j => decide (j < i)) [(mFun semIx [(mVar 0), (mC (.int 0))]), (mC (.int 0))]) (mSeq (mSet 2 (mFun semMod [(mFun semInt [(mFun semIx [(mVar 0), (mC (.int 0))])]), (mVar 1)]))
    (mSeq (mPutL 0 (mC (.int 0)) (mFun semDiv [(mFun semIx [(mVar 0), (mC (.int 0))]), (mVar 1)]))
    (mRet (mStab (mVar 2))))) mNext)
    (mSeq (mPutL 0 (mC (.int 1)) (mFun semMod [(mFun semInt [(mFun semAdd [(mFun semMul [(mFun semIx [(mVar 0), (mC (.int 1))]), (mC (.int 39373))]), (mC (.int 7))])]), (mC (.int 2147483647))]))
    (mRet (mFun semMod [(mFun semInt [(mFun semDiv [(mFun semMod [(mFun semInt [(mFun semMul [(mFun semIx [(mVar 0), (mC (.int 1))]), (mFun semIx [(mVar 0), (mC (.int 1))])])]), (mC (.int 2147483629))]), (mC (.int 32))])]), (mVar 1)]))))
def f_draw : MF := mBody [true, false] 3 m_draw
theorem ok_draw {P : Program} {w : World} {K : PySem.W.Frag} {mg : Str → Option Value} {base : Heap} (T : Txt K mg w) (F : ∃ fd, FunV K d_draw fd)  : Ok P w K mg base (gam K w) d_draw 1 ["_law_stream_here", "_law_count"] f_draw := by
  refine ok_of F sc_draw rfl fun cdv A outer s H E hr tk hp σ0 => ?_
  exact (vss_cons (vs_if (vt_cmp op_gt ok_cmp (ve_ix (ix_any (by rfl) (by rfl) (hu_of hr)) ok_ix (ve_var (pv 0)) (ve_c pe_int (fun _ _ => .int _)) (fun _ _ => (by rfl))) (ve_c pe_int (fun _ _ => .int _)) (nomark _)) (vss_cons (vs_set (i := 2) sc_draw.nd (by rfl) (by first | exact Or.inl rfl | exact Or.inr rfl) (ve_bin op_mod ok_mod (ve_callTy call_int1 ok_int (by rfl) T.n_int boot_int (va_cons (ve_ix (ix_any (by rfl) (by rfl) (hu_of hr)) ok_ix (ve_var (pv 0)) (ve_c pe_int (fun _ _ => .int _)) (fun _ _ => (by rfl))) va_nil)) (ve_var (pv 1))))
      (vss_cons (vs_putL (i := 0) (pv 0) (ve_c pe_int (fun _ _ => .int _)) (ve_bin op_fdivW ok_div (ve_ix (ix_any (by rfl) (by rfl) (hu_of hr)) ok_ix (ve_var (pv 0)) (ve_c pe_int (fun _ _ => .int _)) (fun _ _ => (by rfl))) (ve_var (pv 1))))
      (vss_one (vs_ret (ve_stab (ve_var (pv 2))))))) vss_nil)
      (vss_cons (vs_putL (i := 0) (pv 0) (ve_c pe_int (fun _ _ => .int _)) (ve_bin op_mod ok_mod (ve_callTy call_int1 ok_int (by rfl) T.n_int boot_int (va_cons (ve_bin (op_addV (by rfl)) ok_add (ve_bin (op_mulV (by rfl)) ok_mul (ve_ix (ix_any (by rfl) (by rfl) (hu_of hr)) ok_ix (ve_var (pv 0)) (ve_c pe_int (fun _ _ => .int _)) (fun _ _ => (by rfl))) (ve_c pe_int (fun _ _ => .int _))) (ve_c pe_int (fun _ _ => .int _))) va_nil)) (ve_c pe_int (fun _ _ => .int _))))
      (vss_one (vs_ret (ve_bin op_mod ok_mod (ve_callTy call_int1 ok_int (by rfl) T.n_int boot_int (va_cons (ve_bin op_fdivW ok_div (ve_bin op_mod ok_mod (ve_callTy call_int1 ok_int (by rfl) T.n_int boot_int (va_cons (ve_bin (op_mulV (by rfl)) ok_mul (ve_ix (ix_any (by rfl) (by rfl) (hu_of hr)) ok_ix (ve_var (pv 0)) (ve_c pe_int (fun _ _ => .int _)) (fun _ _ => (by rfl))) (ve_ix (ix_any (by rfl) (by rfl) (hu_of hr)) ok_ix (ve_var (pv 0)) (ve_c pe_int (fun _ _ => .int _)) (fun _ _ => (by rfl)))) va_nil)) (ve_c pe_int (fun _ _ => .int _))) (ve_c pe_int (fun _ _ => .int _))) va_nil)) (ve_var (pv 1)))))))
def m_first_levels : MS :=
    (mSeq (mDrop (mCall f_check_bound [.v ⟨true, true, (mStab (mVar 0))⟩]))
    (mRet (mFun semMulT [(mTup [(mC (.int 0))]), (mFun semLen [(mFun (semFld [0] "ruled") [(mVar 0)])])])))
def f_first_levels : MF := mBody [false] 1 m_first_levels
theorem ok_first_levels {P : Program} {w : World} {K : PySem.W.Frag} {mg : Str → Option Value} {base : Heap} (T : Txt K mg w) (F : ∃ fd, FunV K d_first_levels fd) (h_check_bound : Ok P w K mg base (gam K w) d_check_bound 1 ["bound"] f_check_bound) : Ok P w K mg base (gam K w) d_first_levels 2 ["bound"] f_first_levels := by
  obtain ⟨fd_check_bound, F_check_bound, G_check_bound⟩ := h_check_bound
  obtain ⟨ds_check_bound_1, v_check_bound_1, b_check_bound_1⟩ := bnd_check_bound_1 F_check_bound
  cases v_check_bound_1
  have v_check_bound_1 : Vals (([] : List (V × Val)).map (·.1)) [] := .nil
  refine ok_of F sc_first_levels rfl fun cdv A outer s H E hr tk hp σ0 => ?_
  exact (vss_cons (vs_expr (ve_call (cal_fn G_check_bound (hr.mono (by first | decide | omega)) b_check_bound_1 v_check_bound_1 tk) (by rfl) T.g_check_bound F_check_bound.kp (vg_v (ve_stab (ve_var (pv 0))) vg_nil) dfl_check_bound_1))
      (vss_one (vs_ret (ve_bin op_mulT1 ok_mulT (ve_tup (va_cons (ve_c pe_int (fun _ _ => .int _)) va_nil)) (ve_callB (call_lenV (by rfl)) ok_len (by rfl) T.n_len boot_len (va_cons (ve_fld (cs := [0]) (fld_ruled T) (ve_var (pv 0))) va_nil))))))
def m_check_between : MS :=
    (mIfS (mNot (mCall f_is_between [.v ⟨true, true, (mStab (mVar 0))⟩, .v ⟨true, true, (mStab (mVar 1))⟩, .v ⟨true, true, (mStab (mVar 2))⟩])) mNever mNext)
def f_check_between : MF := mBody [false, false, false] 3 m_check_between
theorem ok_check_between {P : Program} {w : World} {K : PySem.W.Frag} {mg : Str → Option Value} {base : Heap} (T : Txt K mg w) (F : ∃ fd, FunV K d_check_between fd) (h_is_between : Ok P w K mg base (gam K w) d_is_between 2 ["value", "least", "most"] f_is_between) : Ok P w K mg base (gam K w) d_check_between 3 ["value", "least", "most"] f_check_between := by
  obtain ⟨fd_is_between, F_is_between, G_is_between⟩ := h_is_between
  obtain ⟨ds_is_between_3, v_is_between_3, b_is_between_3⟩ := bnd_is_between_3 F_is_between
  cases v_is_between_3
  have v_is_between_3 : Vals (([] : List (V × Val)).map (·.1)) [] := .nil
  refine ok_of F sc_check_between rfl fun cdv A outer s H E hr tk hp σ0 => ?_
  exact (vss_one (vs_if (vt_not (vt_val (ve_call (cal_fn G_is_between (hr.mono (by first | decide | omega)) b_is_between_3 v_is_between_3 tk) (by rfl) T.g_is_between F_is_between.kp (vg_v (ve_stab (ve_var (pv 0))) (vg_v (ve_stab (ve_var (pv 1))) (vg_v (ve_stab (ve_var (pv 2))) vg_nil))) dfl_is_between_3))) vss_never vss_nil))
def m_next_levels : MS :=
    (mSeq (mDrop (mCall f_check_levels [.v ⟨true, true, (mStab (mVar 0))⟩, .v ⟨true, true, (mStab (mVar 1))⟩]))
    (mSeq (mDrop (mCall f_check_between [.v ⟨true, true, (mStab (mVar 2))⟩, .v ⟨true, true, (mC (.int 0))⟩, .v ⟨true, true, (mCall f_allowed_at [.v ⟨true, true, (mFun (semFld [0] "ruled") [(mVar 0)])⟩, .v ⟨true, true, (mStab (mVar 1))⟩])⟩]))
    (mRet (mCall f_levels_behind [.v ⟨true, true, (mFun (semFld [0] "ruled") [(mVar 0)])⟩, .v ⟨true, true, (mStab (mVar 1))⟩, .v ⟨true, true, (mStab (mVar 2))⟩]))))
def f_next_levels : MF := mBody [false, false, false] 3 m_next_levels
theorem ok_next_levels {P : Program} {w : World} {K : PySem.W.Frag} {mg : Str → Option Value} {base : Heap} (T : Txt K mg w) (F : ∃ fd, FunV K d_next_levels fd) (h_allowed_at : Ok P w K mg base (gam K w) d_allowed_at 1 ["rules", "levels"] f_allowed_at) (h_levels_behind : Ok P w K mg base (gam K w) d_levels_behind 1 ["rules", "levels", "count"] f_levels_behind) (h_check_levels : Ok P w K mg base (gam K w) d_check_levels 4 ["bound", "levels"] f_check_levels) (h_check_between : Ok P w K mg base (gam K w) d_check_between 3 ["value", "least", "most"] f_check_between) : Ok P w K mg base (gam K w) d_next_levels 5 ["bound", "levels", "count"] f_next_levels := by
  obtain ⟨fd_allowed_at, F_allowed_at, G_allowed_at⟩ := h_allowed_at
  obtain ⟨fd_levels_behind, F_levels_behind, G_levels_behind⟩ := h_levels_behind
  obtain ⟨fd_check_levels, F_check_levels, G_check_levels⟩ := h_check_levels
  obtain ⟨fd_check_between, F_check_between, G_check_between⟩ := h_check_between
  obtain ⟨ds_allowed_at_2, v_allowed_at_2, b_allowed_at_2⟩ := bnd_allowed_at_2 F_allowed_at
  obtain ⟨ds_check_between_3, v_check_between_3, b_check_between_3⟩ := bnd_check_between_3 F_check_between
  obtain ⟨ds_check_levels_2, v_check_levels_2, b_check_levels_2⟩ := bnd_check_levels_2 F_check_levels
  obtain ⟨ds_levels_behind_3, v_levels_behind_3, b_levels_behind_3⟩ := bnd_levels_behind_3 F_levels_behind
  cases v_allowed_at_2
  have v_allowed_at_2 : Vals (([] : List (V × Val)).map (·.1)) [] := .nil
  cases v_check_between_3
  have v_check_between_3 : Vals (([] : List (V × Val)).map (·.1)) [] := .nil
  cases v_check_levels_2
  have v_check_levels_2 : Vals (([] : List (V × Val)).map (·.1)) [] := .nil
  cases v_levels_behind_3
  have v_levels_behind_3 : Vals (([] : List (V × Val)).map (·.1)) [] := .nil
  refine ok_of F sc_next_levels rfl fun cdv A outer s H E hr tk hp σ0 => ?_
  exact (vss_cons (vs_expr (ve_call (cal_fn G_check_levels (hr.mono (by first | decide | omega)) b_check_levels_2 v_check_levels_2 tk) (by rfl) T.g_check_levels F_check_levels.kp (vg_v (ve_stab (ve_var (pv 0))) (vg_v (ve_stab (ve_var (pv 1))) vg_nil)) dfl_check_levels_2))
      (vss_cons (vs_expr (ve_call (cal_fn G_check_between (hr.mono (by first | decide | omega)) b_check_between_3 v_check_between_3 tk) (by rfl) T.g_check_between F_check_between.kp (vg_v (ve_stab (ve_var (pv 2))) (vg_v (ve_c pe_int (fun _ _ => .int _)) (vg_v (ve_call (cal_fn G_allowed_at (hr.mono (by first | decide | omega)) b_allowed_at_2 v_allowed_at_2 tk) (by rfl) T.g_allowed_at F_allowed_at.kp (vg_v (ve_fld (cs := [0]) (fld_ruled T) (ve_var (pv 0))) (vg_v (ve_stab (ve_var (pv 1))) vg_nil)) dfl_allowed_at_2) vg_nil))) dfl_check_between_3))
      (vss_one (vs_ret (ve_call (cal_fn G_levels_behind (hr.mono (by first | decide | omega)) b_levels_behind_3 v_levels_behind_3 tk) (by rfl) T.g_levels_behind F_levels_behind.kp (vg_v (ve_fld (cs := [0]) (fld_ruled T) (ve_var (pv 0))) (vg_v (ve_stab (ve_var (pv 1))) (vg_v (ve_stab (ve_var (pv 2))) vg_nil))) dfl_levels_behind_3)))))
def m_levels_b1 : MS :=
    (mSet 2 (mCall f_next_levels [.v ⟨true, true, (mStab (mVar 0))⟩, .v ⟨true, true, (mStab (mVar 2))⟩, .v ⟨true, true, (mStab (mVar 3))⟩]))
def m_levels : MS :=
    (mSeq (mSet 2 (mCall f_first_levels [.v ⟨true, true, (mStab (mVar 0))⟩]))
    (mSeq (mFor (mItemsL (mVar 1)) (gV 3) m_levels_b1)
    (mRet (mStab (mVar 2)))))
def f_levels : MF := mBody [false, false] 4 m_levels
theorem ok_levels {P : Program} {w : World} {K : PySem.W.Frag} {mg : Str → Option Value} {base : Heap} (T : Txt K mg w) (F : ∃ fd, FunV K d_levels fd) (h_first_levels : Ok P w K mg base (gam K w) d_first_levels 2 ["bound"] f_first_levels) (h_next_levels : Ok P w K mg base (gam K w) d_next_levels 5 ["bound", "levels", "count"] f_next_levels) : Ok P w K mg base (gam K w) d_levels 6 ["_law_bound_here", "_law_counts"] f_levels := by
  obtain ⟨fd_first_levels, F_first_levels, G_first_levels⟩ := h_first_levels
  obtain ⟨fd_next_levels, F_next_levels, G_next_levels⟩ := h_next_levels
  obtain ⟨ds_first_levels_1, v_first_levels_1, b_first_levels_1⟩ := bnd_first_levels_1 F_first_levels
  obtain ⟨ds_next_levels_3, v_next_levels_3, b_next_levels_3⟩ := bnd_next_levels_3 F_next_levels
  cases v_first_levels_1
  have v_first_levels_1 : Vals (([] : List (V × Val)).map (·.1)) [] := .nil
  cases v_next_levels_3
  have v_next_levels_3 : Vals (([] : List (V × Val)).map (·.1)) [] := .nil
  refine ok_of F sc_levels rfl fun cdv A outer s H E hr tk hp σ0 => ?_
  exact (vss_cons (vs_set (i := 2) sc_levels.nd (by rfl) (by first | exact Or.inl rfl | exact Or.inr rfl) (ve_call (cal_fn G_first_levels (hr.mono (by first | decide | omega)) b_first_levels_1 v_first_levels_1 tk) (by rfl) T.g_first_levels F_first_levels.kp (vg_v (ve_stab (ve_var (pv 0))) vg_nil) dfl_first_levels_1))
      (vss_cons (vs_for hp (by rfl) (vi_list (by rfl) (ve_var (pv 1))) (vg_name (i := 3) sc_levels.nd (by rfl) (by first | exact Or.inl rfl | exact Or.inr rfl)) (vss_one (vs_set (i := 2) sc_levels.nd (by rfl) (by first | exact Or.inl rfl | exact Or.inr rfl) (ve_call (cal_fn G_next_levels (hr.mono (by first | decide | omega)) b_next_levels_3 v_next_levels_3 tk) (by rfl) T.g_next_levels F_next_levels.kp (vg_v (ve_stab (ve_var (pv 0))) (vg_v (ve_stab (ve_var (pv 2))) (vg_v (ve_stab (ve_var (pv 3))) vg_nil))) dfl_next_levels_3))))
      (vss_one (vs_ret (ve_stab (ve_var (pv 2)))))))
def m_choose : MS :=
    (mRet (mFun semIx [(mStab (mVar 1)), (mCall f_draw [.r 0, .v ⟨true, true, (mFun semLen [(mVar 1)])⟩])]))
def f_choose : MF := mBody [true, false] 2 m_choose
theorem ok_choose {P : Program} {w : World} {K : PySem.W.Frag} {mg : Str → Option Value} {base : Heap} (T : Txt K mg w) (F : ∃ fd, FunV K d_choose fd) (h_draw : Ok P w K mg base (gam K w) d_draw 1 ["_law_stream_here", "_law_count"] f_draw) : Ok P w K mg base (gam K w) d_choose 2 ["_law_stream_here", "_law_items"] f_choose := by
  obtain ⟨fd_draw, F_draw, G_draw⟩ := h_draw
  obtain ⟨ds_draw_2, v_draw_2, b_draw_2⟩ := bnd_draw_2 F_draw
  cases v_draw_2
  have v_draw_2 : Vals (([] : List (V × Val)).map (·.1)) [] := .nil
  refine ok_of F sc_choose rfl fun cdv A outer s H E hr tk hp σ0 => ?_
  exact (vss_one (vs_ret (ve_ix (ix_any (by rfl) (by rfl) (hu_of hr)) ok_ix (ve_stab (ve_var (pv 1))) (ve_call (cal_fn G_draw (hr.mono (by first | decide | omega)) b_draw_2 v_draw_2 tk) (by rfl) T.g_draw F_draw.kp (vg_r (pv 0) (vg_v (ve_callB (call_lenV (by rfl)) ok_len (by rfl) T.n_len boot_len (va_cons (ve_var (pv 1)) va_nil)) vg_nil)) dfl_draw_2) (fun _ _ => (by rfl)))))
def m_may_come_b1 : MS :=
    (mSeq (mIfS (mFun (semCmp fun i j => decide (j < i)) [(mVar 6), (mC (.int 0))]) (mSet 5 (mFun semAdd [(mVar 5), (mFun semIx [(mVar 1), (mFun semSub [(mFun semLen [(mVar 1)]), (mVar 6)])])])) mNext)
    (mSet 2 (mFun semMin2 [(mFun semInt [(mVar 2)]), (mFun semInt [(mFun semSub [(mFun semAdd [(mVar 3), (mFun semDiv [(mVar 6), (mVar 4)])]), (mVar 5)])])])))
def m_may_come_b2 : MS :=
    (mSeq (mSet 5 (mC (.int 0)))
    (mFor (mRng1 (mFun semAdd [(mFun semLen [(mVar 1)]), (mC (.int 1))])) (gV 6) m_may_come_b1))
def m_may_come : MS :=
    (mSeq (mSet 2 (mC (.int 99)))
    (mSeq (mFor (mItemsL (mVar 0)) (gTupV (gConsV (gV 3) (gConsV (gV 4) gNilV)) 2) m_may_come_b2)
    (mRet (mStab (mVar 2)))))
def f_may_come : MF := mBody [false, true] 7 m_may_come
theorem ok_may_come {P : Program} {w : World} {K : PySem.W.Frag} {mg : Str → Option Value} {base : Heap} (T : Txt K mg w) (F : ∃ fd, FunV K d_may_come fd)  : Ok P w K mg base (gam K w) d_may_come 1 ["_law_rules", "_law_counts"] f_may_come := by
  refine ok_of F sc_may_come rfl fun cdv A outer s H E hr tk hp σ0 => ?_
  exact (vss_cons (vs_set (i := 2) sc_may_come.nd (by rfl) (by first | exact Or.inl rfl | exact Or.inr rfl) (ve_c pe_int (fun _ _ => .int _)))
      (vss_cons (vs_for hp (by rfl) (vi_list (by rfl) (ve_var (pv 0))) (vg_tup (n := 2) (by rfl) (by rfl) (vgs_cons (vg_name (i := 3) sc_may_come.nd (by rfl) (by first | exact Or.inl rfl | exact Or.inr rfl)) (vgs_cons (vg_name (i := 4) sc_may_come.nd (by rfl) (by first | exact Or.inl rfl | exact Or.inr rfl)) vgs_nil))) (vss_cons (vs_set (i := 5) sc_may_come.nd (by rfl) (by first | exact Or.inl rfl | exact Or.inr rfl) (ve_c pe_int (fun _ _ => .int _)))
      (vss_one (vs_for hp (by rfl) (vi_rng1 (by rfl) T.n_range (ve_bin (op_addV (by rfl)) ok_add (ve_callB (call_lenV (by rfl)) ok_len (by rfl) T.n_len boot_len (va_cons (ve_var (pv 1)) va_nil)) (ve_c pe_int (fun _ _ => .int _)))) (vg_name (i := 6) sc_may_come.nd (by rfl) (by first | exact Or.inl rfl | exact Or.inr rfl)) (vss_cons (vs_if (vt_cmp op_gt ok_cmp (ve_var (pv 6)) (ve_c pe_int (fun _ _ => .int _)) (nomark _)) (vss_one (vs_set (i := 5) sc_may_come.nd (by rfl) (by first | exact Or.inl rfl | exact Or.inr rfl) (ve_bin (op_addV (by rfl)) ok_add (ve_var (pv 5)) (ve_ix (ix_any (by rfl) (by rfl) (hu_of hr)) ok_ix (ve_var (pv 1)) (ve_bin op_sub ok_sub (ve_callB (call_lenV (by rfl)) ok_len (by rfl) T.n_len boot_len (va_cons (ve_var (pv 1)) va_nil)) (ve_var (pv 6))) (fun _ _ => (by rfl)))))) vss_nil)
      (vss_one (vs_set (i := 2) sc_may_come.nd (by rfl) (by first | exact Or.inl rfl | exact Or.inr rfl) (ve_callB (call_min2 (by rfl)) ok_min2 (by rfl) T.n_min boot_min (va_cons (ve_callTy call_int1 ok_int (by rfl) T.n_int boot_int (va_cons (ve_var (pv 2)) va_nil)) (va_cons (ve_callTy call_int1 ok_int (by rfl) T.n_int boot_int (va_cons (ve_bin op_sub ok_sub (ve_bin (op_addV (by rfl)) ok_add (ve_var (pv 3)) (ve_bin op_fdivW ok_div (ve_var (pv 6)) (ve_var (pv 4)))) (ve_var (pv 5))) va_nil)) va_nil))))))))))
      (vss_one (vs_ret (ve_stab (ve_var (pv 2)))))))
def m_row_b1 : MS :=
    (mSeq (mSet 5 (mCall f_may_come [.v ⟨true, true, (mStab (mVar 1))⟩, .r 3]))
    (mDrop (mLopN 3 fApp (mCall f_choose [.r 0, .v ⟨false, true, (mFz (mLst [(mC (.int 0)), (mStab (mVar 5)), (mCall f_draw [.r 0, .v ⟨true, true, (mFun semAdd [(mVar 5), (mC (.int 1))])⟩])]))⟩]))))
def m_row : MS :=
    (mSeq (mSet 3 (mLst []))
    (mSeq (mFor (mRng1 (mVar 2)) (gV 4) m_row_b1)
    (mRet (mFrz 3))))
def f_row : MF := mBody [true, false, false] 6 m_row
theorem ok_row {P : Program} {w : World} {K : PySem.W.Frag} {mg : Str → Option Value} {base : Heap} (T : Txt K mg w) (F : ∃ fd, FunV K d_row fd) (h_draw : Ok P w K mg base (gam K w) d_draw 1 ["_law_stream_here", "_law_count"] f_draw) (h_choose : Ok P w K mg base (gam K w) d_choose 2 ["_law_stream_here", "_law_items"] f_choose) (h_may_come : Ok P w K mg base (gam K w) d_may_come 1 ["_law_rules", "_law_counts"] f_may_come) : Ok P w K mg base (gam K w) d_row 3 ["_law_stream_here", "_law_rules", "_law_size"] f_row := by
  obtain ⟨fd_draw, F_draw, G_draw⟩ := h_draw
  obtain ⟨fd_choose, F_choose, G_choose⟩ := h_choose
  obtain ⟨fd_may_come, F_may_come, G_may_come⟩ := h_may_come
  obtain ⟨ds_choose_2, v_choose_2, b_choose_2⟩ := bnd_choose_2 F_choose
  obtain ⟨ds_draw_2, v_draw_2, b_draw_2⟩ := bnd_draw_2 F_draw
  obtain ⟨ds_may_come_2, v_may_come_2, b_may_come_2⟩ := bnd_may_come_2 F_may_come
  cases v_choose_2
  have v_choose_2 : Vals (([] : List (V × Val)).map (·.1)) [] := .nil
  cases v_draw_2
  have v_draw_2 : Vals (([] : List (V × Val)).map (·.1)) [] := .nil
  cases v_may_come_2
  have v_may_come_2 : Vals (([] : List (V × Val)).map (·.1)) [] := .nil
  refine ok_of F sc_row rfl fun cdv A outer s H E hr tk hp σ0 => ?_
  exact (vss_cons (vs_set (i := 3) sc_row.nd (by rfl) (by first | exact Or.inl rfl | exact Or.inr rfl) (ve_lst va_nil))
      (vss_cons (vs_for hp (by rfl) (vi_rng1 (by rfl) T.n_range (ve_var (pv 2))) (vg_name (i := 4) sc_row.nd (by rfl) (by first | exact Or.inl rfl | exact Or.inr rfl)) (vss_cons (vs_set (i := 5) sc_row.nd (by rfl) (by first | exact Or.inl rfl | exact Or.inr rfl) (ve_call (cal_fn G_may_come (hr.mono (by first | decide | omega)) b_may_come_2 v_may_come_2 tk) (by rfl) T.g_may_come F_may_come.kp (vg_v (ve_stab (ve_var (pv 1))) (vg_r (pv 3) vg_nil)) dfl_may_come_2))
      (vss_one (vs_expr (ve_appN (i := 3) (tn_root (pv 3)) (ve_call (cal_fn G_choose (hr.mono (by first | decide | omega)) b_choose_2 v_choose_2 tk) (by rfl) T.g_choose F_choose.kp (vg_r (pv 0) (vg_v (ve_fz (ve_lst (va_cons (ve_c pe_int (fun _ _ => .int _)) (va_cons (ve_stab (ve_var (pv 5))) (va_cons (ve_call (cal_fn G_draw (hr.mono (by first | decide | omega)) b_draw_2 v_draw_2 tk) (by rfl) T.g_draw F_draw.kp (vg_r (pv 0) (vg_v (ve_bin (op_addV (by rfl)) ok_add (ve_var (pv 5)) (ve_c pe_int (fun _ _ => .int _))) vg_nil)) dfl_draw_2) va_nil))))) vg_nil)) dfl_choose_2))))))
      (vss_one (vs_ret (ve_frz (pv 3))))))
def m_stream : MS :=
    (mSeq (mSet 2 (mC (.int 0)))
    (mSeq (mIfS (mFun (semCmp fun i j => decide (i < j)) [(mVar 1), (mFun semLen [(mVar 0)])]) (mSet 2 (mFun semIx [(mVar 0), (mVar 1)])) mNext)
    (mSeq (mSet 3 (mFun semMax2 [(mFun semInt [(mVar 2)]), (mFun semInt [(mFun semSub [(mFun semNeg [(mC (.int 1))]), (mVar 2)])])]))
    (mSeq (mSet 4 (mFun semMod [(mFun semInt [(mFun semMul [(mFun semAdd [(mFun semAdd [(mFun semAdd [(mFun semMod [(mFun semInt [(mVar 3)]), (mC (.int 2147483629))]), (mFun semMul [(mFun semMul [(mC (.int 7919)), (mVar 1)]), (mVar 1)])]), (mFun semMul [(mC (.int 31)), (mVar 1)])]), (mC (.int 17))]), (mC (.int 48271))])]), (mC (.int 2147483647))]))
    (mRet (mLst [(mFun semMul [(mVar 3), (mFun semInt [(mFun (semCmp fun i j => decide (j ≤ i)) [(mVar 3), (mFun semPow [(mC (.int 10)), (mC (.int 18))])])])]), (mStab (mVar 4))]))))))
def f_stream : MF := mBody [false, false] 5 m_stream
theorem ok_stream {P : Program} {w : World} {K : PySem.W.Frag} {mg : Str → Option Value} {base : Heap} (T : Txt K mg w) (F : ∃ fd, FunV K d_stream fd)  : Ok P w K mg base (gam K w) d_stream 1 ["_law_script", "_law_k"] f_stream := by
  refine ok_of F sc_stream rfl fun cdv A outer s H E hr tk hp σ0 => ?_
  exact (vss_cons (vs_set (i := 2) sc_stream.nd (by rfl) (by first | exact Or.inl rfl | exact Or.inr rfl) (ve_c pe_int (fun _ _ => .int _)))
      (vss_cons (vs_if (vt_cmp op_lt ok_cmp (ve_var (pv 1)) (ve_callB (call_lenV (by rfl)) ok_len (by rfl) T.n_len boot_len (va_cons (ve_var (pv 0)) va_nil)) (nomark _)) (vss_one (vs_set (i := 2) sc_stream.nd (by rfl) (by first | exact Or.inl rfl | exact Or.inr rfl) (ve_ix (ix_any (by rfl) (by rfl) (hu_of hr)) ok_ix (ve_var (pv 0)) (ve_var (pv 1)) (fun _ _ => (by rfl))))) vss_nil)
      (vss_cons (vs_set (i := 3) sc_stream.nd (by rfl) (by first | exact Or.inl rfl | exact Or.inr rfl) (ve_callB (call_max2 (by rfl)) ok_max2 (by rfl) T.n_max boot_max (va_cons (ve_callTy call_int1 ok_int (by rfl) T.n_int boot_int (va_cons (ve_var (pv 2)) va_nil)) (va_cons (ve_callTy call_int1 ok_int (by rfl) T.n_int boot_int (va_cons (ve_bin op_sub ok_sub (ve_un un_neg ok_neg (ve_c pe_int (fun _ _ => .int _))) (ve_var (pv 2))) va_nil)) va_nil))))
      (vss_cons (vs_set (i := 4) sc_stream.nd (by rfl) (by first | exact Or.inl rfl | exact Or.inr rfl) (ve_bin op_mod ok_mod (ve_callTy call_int1 ok_int (by rfl) T.n_int boot_int (va_cons (ve_bin (op_mulV (by rfl)) ok_mul (ve_bin (op_addV (by rfl)) ok_add (ve_bin (op_addV (by rfl)) ok_add (ve_bin (op_addV (by rfl)) ok_add (ve_bin op_mod ok_mod (ve_callTy call_int1 ok_int (by rfl) T.n_int boot_int (va_cons (ve_var (pv 3)) va_nil)) (ve_c pe_int (fun _ _ => .int _))) (ve_bin (op_mulV (by rfl)) ok_mul (ve_bin (op_mulV (by rfl)) ok_mul (ve_c pe_int (fun _ _ => .int _)) (ve_var (pv 1))) (ve_var (pv 1)))) (ve_bin (op_mulV (by rfl)) ok_mul (ve_c pe_int (fun _ _ => .int _)) (ve_var (pv 1)))) (ve_c pe_int (fun _ _ => .int _))) (ve_c pe_int (fun _ _ => .int _))) va_nil)) (ve_c pe_int (fun _ _ => .int _))))
      (vss_one (vs_ret (ve_lst (va_cons (ve_bin (op_mulV (by rfl)) ok_mul (ve_var (pv 3)) (ve_callTy call_int1 ok_int (by rfl) T.n_int boot_int (va_cons (ve_cmp op_ge ok_cmp (ve_var (pv 3)) (ve_bin op_pow ok_pow (ve_c pe_int (fun _ _ => .int _)) (ve_c pe_int (fun _ _ => .int _))) (nomark _)) va_nil))) (va_cons (ve_stab (ve_var (pv 4))) va_nil)))))))))
def m_three_b1 : MS :=
    (mSeq (mSet 5 (mTup [(mFun semAdd [(mC (.int 1)), (mCall f_draw [.r 0, .v ⟨true, true, (mStab (mVar 1))⟩])]), (mFun semAdd [(mC (.int 1)), (mCall f_draw [.r 0, .v ⟨true, true, (mStab (mVar 2))⟩])])]))
    (mIfS (mFun (semInP true) [(mVar 5), (mVar 3)]) (mDrop (mLop 3 [] fApp (mStab (mVar 5)))) mNext))
def m_three : MS :=
    (mSeq (mSet 3 (mLst []))
    (mSeq (mFor (mRng1 (mFun semAdd [(mC (.int 1)), (mCall f_draw [.r 0, .v ⟨true, true, (mC (.int 3))⟩])])) (gV 4) m_three_b1)
    (mRet (mFrz 3))))
def f_three : MF := mBody [true, false, false] 6 m_three
theorem ok_three {P : Program} {w : World} {K : PySem.W.Frag} {mg : Str → Option Value} {base : Heap} (T : Txt K mg w) (F : ∃ fd, FunV K d_three fd) (h_draw : Ok P w K mg base (gam K w) d_draw 1 ["_law_stream_here", "_law_count"] f_draw) : Ok P w K mg base (gam K w) d_three 2 ["_law_stream_here", "_law_most", "_law_every"] f_three := by
  obtain ⟨fd_draw, F_draw, G_draw⟩ := h_draw
  obtain ⟨ds_draw_2, v_draw_2, b_draw_2⟩ := bnd_draw_2 F_draw
  cases v_draw_2
  have v_draw_2 : Vals (([] : List (V × Val)).map (·.1)) [] := .nil
  refine ok_of F sc_three rfl fun cdv A outer s H E hr tk hp σ0 => ?_
  exact (vss_cons (vs_set (i := 3) sc_three.nd (by rfl) (by first | exact Or.inl rfl | exact Or.inr rfl) (ve_lst va_nil))
      (vss_cons (vs_for hp (by rfl) (vi_rng1 (by rfl) T.n_range (ve_bin (op_addV (by rfl)) ok_add (ve_c pe_int (fun _ _ => .int _)) (ve_call (cal_fn G_draw (hr.mono (by first | decide | omega)) b_draw_2 v_draw_2 tk) (by rfl) T.g_draw F_draw.kp (vg_r (pv 0) (vg_v (ve_c pe_int (fun _ _ => .int _)) vg_nil)) dfl_draw_2))) (vg_name (i := 4) sc_three.nd (by rfl) (by first | exact Or.inl rfl | exact Or.inr rfl)) (vss_cons (vs_set (i := 5) sc_three.nd (by rfl) (by first | exact Or.inl rfl | exact Or.inr rfl) (ve_tup (va_cons (ve_bin (op_addV (by rfl)) ok_add (ve_c pe_int (fun _ _ => .int _)) (ve_call (cal_fn G_draw (hr.mono (by first | decide | omega)) b_draw_2 v_draw_2 tk) (by rfl) T.g_draw F_draw.kp (vg_r (pv 0) (vg_v (ve_stab (ve_var (pv 1))) vg_nil)) dfl_draw_2)) (va_cons (ve_bin (op_addV (by rfl)) ok_add (ve_c pe_int (fun _ _ => .int _)) (ve_call (cal_fn G_draw (hr.mono (by first | decide | omega)) b_draw_2 v_draw_2 tk) (by rfl) T.g_draw F_draw.kp (vg_r (pv 0) (vg_v (ve_stab (ve_var (pv 2))) vg_nil)) dfl_draw_2)) va_nil))))
      (vss_one (vs_if (vt_cmp (op_notInP (hu65 hr)) (ok_inP (by rfl)) (ve_var (pv 5)) (ve_var (pv 3)) (by rfl)) (vss_one (vs_expr (ve_app (i := 3) (r := []) stpF_nil (tn_root (pv 3)) (ve_stab (ve_var (pv 5)))))) vss_nil))))
      (vss_one (vs_ret (ve_frz (pv 3))))))
def m_law_b1 : MS :=
    (mIfS (mFun semNe [(mCall (mfIn id 0 f_Bound_contains) [.v ⟨true, true, (mStab (mVar 16))⟩, .v ⟨true, true, (mStab (mVar 4))⟩]), (mFun (semEmp false) [(mLc (mItemsL (mVar 5)) (gV 17) (mCall (mfIn not 0 f_Bound_contains) [.v ⟨true, true, (mStab (mVar 16))⟩, .v ⟨true, true, (mStab (mVar 17))⟩]) (mStab (mVar 17)) [17]), (mLst [])])]) (mRet (mC (.bl false))) mNext)
def m_law_b2 : MS :=
    (mSeq (mAsg (mFz (mFun semSorted [(mLc (mRng1 (mC (.int 2))) (gV 12) mYes (mCall f_draw [.r 2, .v ⟨true, true, (mFun semAdd [(mFun semLen [(mVar 8)]), (mC (.int 1))])⟩]) [12])])) (gUnV (gConsV (gV 10) (gConsV (gV 11) gNilV)) 2))
    (mSeq (mSet 13 (mFz (mLc (mItemsL (mVar 8)) (gV 14) mYes (mCall f_draw [.r 2, .v ⟨true, true, (mFun semAdd [(mVar 14), (mC (.int 1))])⟩]) [14])))
    (mSeq (mSet 15 (mFz (mFun semAdd [(mFun semAdd [(mFun semSlU [(mVar 8), (mVar 10)]), (mLc (mItemsL (mFz (mFun semSlU [(mFun semSlB [(mVar 8), mInt (mVar 10), (mVar 11)]), (mC (.int 1))]))) (gV 14) mYes (mFun semAdd [(mVar 14), (mC (.int 1))]) [14])]), (mFun semSlL [(mVar 8), (mFun semAdd [(mVar 10), (mC (.int 1))])])])))
    (mSeq (mFor (mItemsL (mFz (mLst [(mFz (mFun semSlB [(mVar 8), mInt (mVar 10), (mVar 11)])), (mStab (mVar 13)), (mStab (mVar 15)), (mFz (mFun semAdd [(mFun semSlL [(mVar 8), (mVar 11)]), (mFun semSlU [(mVar 8), (mVar 10)])]))]))) (gV 16) m_law_b1)
    (mSeq (mIfS (mOr (mCall (mfIn not 0 f_Bound_contains) [.v ⟨true, true, (mFz (mFun semSlB [(mVar 8), mInt (mVar 10), (mVar 11)]))⟩, .v ⟨true, true, (mStab (mVar 4))⟩]) (mCall (mfIn not 0 f_Bound_contains) [.v ⟨true, true, (mStab (mVar 13))⟩, .v ⟨true, true, (mStab (mVar 4))⟩])) (mRet (mC (.bl false))) mNext)
    (mSeq (mIfS (mFun (semCmp fun i j => decide (i < j)) [(mVar 10), (mVar 11)]) (mSeq (mSet 18 (mCall f_allowed [.v ⟨true, true, (mStab (mVar 4))⟩, .v ⟨true, true, (mCall f_levels [.v ⟨true, true, (mStab (mVar 4))⟩, .v ⟨true, true, (mFz (mFun semSlU [(mVar 8), (mVar 10)]))⟩])⟩]))
    (mIfS (mAnd (mFun semEq [(mVar 18), (mFun semIx [(mVar 8), (mVar 10)])]) (mCall (mfIn id 0 f_Bound_contains) [.v ⟨true, true, (mStab (mVar 15))⟩, .v ⟨true, true, (mStab (mVar 4))⟩])) (mRet (mC (.bl false))) mNext)) mNext)
    (mSeq (mAsg (mTup [(mCall f_levels [.v ⟨true, true, (mStab (mVar 4))⟩, .v ⟨true, true, (mFz (mFun semSlU [(mVar 13), (mVar 11)]))⟩]), (mCall f_levels [.v ⟨true, true, (mStab (mVar 4))⟩, .v ⟨true, true, (mFz (mFun semSlU [(mVar 8), (mVar 11)]))⟩])]) (gTupV (gConsV (gV 19) (gConsV (gV 20) gNilV)) 2))
    (mIfS (mFun semNe [(mLc (mRng1 (mFun semLen [(mVar 19)])) (gV 21) (mFun (semCmp fun i j => decide (j < i)) [(mFun semIx [(mVar 19), (mVar 21)]), (mFun semIx [(mVar 20), (mVar 21)])]) (mStab (mVar 21)) [21]), (mLst [])]) (mRet (mC (.bl false))) mNext))))))))
def m_law_b3 : MS :=
    (mSeq (mSet 2 (mCall f_stream [.v ⟨true, true, (mStab (mVar 0))⟩, .v ⟨true, true, (mStab (mVar 1))⟩]))
    (mSeq (mSet 3 (mFz (mCall f_three [.r 2, .v ⟨true, true, (mC (.int 8))⟩, .v ⟨true, true, (mC (.int 12))⟩])))
    (mSeq (mPar 4 5 (mFz (mCall f_bound [.v ⟨true, true, (mStab (mVar 3))⟩])) (mFz (mLc (mItemsL (mVar 3)) (gTupV (gConsV (gV 6) (gConsV (gV 7) gNilV)) 2) mYes (mFz (mCall (mMake 0 f_Bound_init) [.v ⟨true, true, (mStab (mVar 6))⟩, .v ⟨true, true, (mStab (mVar 7))⟩, .k (.non) (.wtp [])])) [6, 7])))
    (mSeq (mSet 8 (mFz (mCall f_row [.r 2, .v ⟨true, true, (mStab (mVar 3))⟩, .v ⟨false, true, (mCall f_draw [.r 2, .v ⟨true, true, (mC (.int 41))⟩])⟩])))
    (mSeq (mIfS (mOr (mCall (mfIn not 0 f_Bound_contains) [.v ⟨true, true, (mStab (mVar 8))⟩, .v ⟨true, true, (mStab (mVar 4))⟩]) (mAnd (mFun (semCmp fun i j => decide (j < i)) [(mFun semLen [(mVar 8)]), (mC (.int 0))]) (mCall (mfIn not 0 f_Bound_contains) [.v ⟨true, true, (mFz (mFun semSlL [(mVar 8), (mC (.int 1))]))⟩, .v ⟨true, true, (mStab (mVar 4))⟩]))) (mRet (mC (.bl false))) mNext)
    (mSeq (mFor (mRng1 (mC (.int 6))) (gV 9) m_law_b2)
    (mIfS (mFun semNe [(mCall f_levels [.v ⟨true, true, (mStab (mVar 4))⟩, .v ⟨true, true, (mFz (mFun semMul [(mLst [(mC (.int 0))]), (mFun semLen [(mVar 8)])]))⟩]), (mCall f_first_levels [.v ⟨true, true, (mStab (mVar 4))⟩])]) (mRet (mC (.bl false))) mNext)))))))
def m_law : MS :=
    (mSeq (mFor (mRng1 (mFun semMax2 [(mC (.int 1)), (mFun semMin2 [(mC (.int 8)), (mFun semLen [(mVar 0)])])])) (gV 1) m_law_b3)
    (mRet (mC (.bl true))))
def f_law : MF := mBody [false] 22 m_law
theorem ok_law {P : Program} {w : World} {K : PySem.W.Frag} {mg : Str → Option Value} {base : Heap} (T : Txt K mg w) (F : ∃ fd, FunV K d_law fd) (h_Bound_contains : Ok P w K mg base (gam K w) d_Bound_contains 5 ["self", "row"] f_Bound_contains) (h_Bound_init : Ok P w K mg base (gam K w) d_Bound_init 5 ["self", "most", "every", "also"] f_Bound_init) (h_allowed : Ok P w K mg base (gam K w) d_allowed 5 ["bound", "levels"] f_allowed) (h_bound : Ok P w K mg base (gam K w) d_bound 9 ["_law_rules"] f_bound) (h_draw : Ok P w K mg base (gam K w) d_draw 1 ["_law_stream_here", "_law_count"] f_draw) (h_first_levels : Ok P w K mg base (gam K w) d_first_levels 2 ["bound"] f_first_levels) (h_levels : Ok P w K mg base (gam K w) d_levels 6 ["_law_bound_here", "_law_counts"] f_levels) (h_row : Ok P w K mg base (gam K w) d_row 3 ["_law_stream_here", "_law_rules", "_law_size"] f_row) (h_stream : Ok P w K mg base (gam K w) d_stream 1 ["_law_script", "_law_k"] f_stream) (h_three : Ok P w K mg base (gam K w) d_three 2 ["_law_stream_here", "_law_most", "_law_every"] f_three) : Ok P w K mg base (gam K w) d_law 10 ["_law_script"] f_law := by
  obtain ⟨fd_Bound_contains, F_Bound_contains, G_Bound_contains⟩ := h_Bound_contains
  obtain ⟨fd_Bound_init, F_Bound_init, G_Bound_init⟩ := h_Bound_init
  obtain ⟨fd_allowed, F_allowed, G_allowed⟩ := h_allowed
  obtain ⟨fd_bound, F_bound, G_bound⟩ := h_bound
  obtain ⟨fd_draw, F_draw, G_draw⟩ := h_draw
  obtain ⟨fd_first_levels, F_first_levels, G_first_levels⟩ := h_first_levels
  obtain ⟨fd_levels, F_levels, G_levels⟩ := h_levels
  obtain ⟨fd_row, F_row, G_row⟩ := h_row
  obtain ⟨fd_stream, F_stream, G_stream⟩ := h_stream
  obtain ⟨fd_three, F_three, G_three⟩ := h_three
  obtain ⟨ds_Bound_contains_2, v_Bound_contains_2, b_Bound_contains_2⟩ := bnd_Bound_contains_2 F_Bound_contains
  obtain ⟨ds_Bound_init_3, v_Bound_init_3, b_Bound_init_3⟩ := bnd_Bound_init_3 F_Bound_init
  obtain ⟨ds_allowed_2, v_allowed_2, b_allowed_2⟩ := bnd_allowed_2 F_allowed
  obtain ⟨ds_bound_1, v_bound_1, b_bound_1⟩ := bnd_bound_1 F_bound
  obtain ⟨ds_draw_2, v_draw_2, b_draw_2⟩ := bnd_draw_2 F_draw
  obtain ⟨ds_first_levels_1, v_first_levels_1, b_first_levels_1⟩ := bnd_first_levels_1 F_first_levels
  obtain ⟨ds_levels_2, v_levels_2, b_levels_2⟩ := bnd_levels_2 F_levels
  obtain ⟨ds_row_3, v_row_3, b_row_3⟩ := bnd_row_3 F_row
  obtain ⟨ds_stream_2, v_stream_2, b_stream_2⟩ := bnd_stream_2 F_stream
  obtain ⟨ds_three_3, v_three_3, b_three_3⟩ := bnd_three_3 F_three
  cases v_Bound_contains_2
  have v_Bound_contains_2 : Vals (([] : List (V × Val)).map (·.1)) [] := .nil
  cases v_allowed_2
  have v_allowed_2 : Vals (([] : List (V × Val)).map (·.1)) [] := .nil
  cases v_bound_1
  have v_bound_1 : Vals (([] : List (V × Val)).map (·.1)) [] := .nil
  cases v_draw_2
  have v_draw_2 : Vals (([] : List (V × Val)).map (·.1)) [] := .nil
  cases v_first_levels_1
  have v_first_levels_1 : Vals (([] : List (V × Val)).map (·.1)) [] := .nil
  cases v_levels_2
  have v_levels_2 : Vals (([] : List (V × Val)).map (·.1)) [] := .nil
  cases v_row_3
  have v_row_3 : Vals (([] : List (V × Val)).map (·.1)) [] := .nil
  cases v_stream_2
  have v_stream_2 : Vals (([] : List (V × Val)).map (·.1)) [] := .nil
  cases v_three_3
  have v_three_3 : Vals (([] : List (V × Val)).map (·.1)) [] := .nil
  refine ok_of F sc_law rfl fun cdv A outer s H E hr tk hp σ0 => ?_
  exact (vss_cons (vs_for hp (by rfl) (vi_rng1 (by rfl) T.n_range (ve_callB (call_max2 (by rfl)) ok_max2 (by rfl) T.n_max boot_max (va_cons (ve_c pe_int (fun _ _ => .int _)) (va_cons (ve_callB (call_min2 (by rfl)) ok_min2 (by rfl) T.n_min boot_min (va_cons (ve_c pe_int (fun _ _ => .int _)) (va_cons (ve_callB (call_lenV (by rfl)) ok_len (by rfl) T.n_len boot_len (va_cons (ve_var (pv 0)) va_nil)) va_nil))) va_nil)))) (vg_name (i := 1) sc_law.nd (by rfl) (by first | exact Or.inl rfl | exact Or.inr rfl)) (vss_cons (vs_set (i := 2) sc_law.nd (by rfl) (by first | exact Or.inl rfl | exact Or.inr rfl) (ve_call (cal_fn G_stream (hr.mono (by first | decide | omega)) b_stream_2 v_stream_2 tk) (by rfl) T.g_stream F_stream.kp (vg_v (ve_stab (ve_var (pv 0))) (vg_v (ve_stab (ve_var (pv 1))) vg_nil)) dfl_stream_2))
      (vss_cons (vs_set (i := 3) sc_law.nd (by rfl) (by first | exact Or.inl rfl | exact Or.inr rfl) (ve_fz (ve_call (cal_fn G_three (hr.mono (by first | decide | omega)) b_three_3 v_three_3 tk) (by rfl) T.g_three F_three.kp (vg_r (pv 2) (vg_v (ve_c pe_int (fun _ _ => .int _)) (vg_v (ve_c pe_int (fun _ _ => .int _)) vg_nil))) dfl_three_3)))
      (vss_cons (vs_par (i := 4) (j := 5) (by rfl) sc_law.nd (by rfl) (by rfl) (by decide) (by rfl) (by rfl) (ve_fz (ve_call (cal_fn G_bound (hr.mono (by first | decide | omega)) b_bound_1 v_bound_1 tk) (by rfl) T.g_bound F_bound.kp (vg_v (ve_stab (ve_var (pv 3))) vg_nil) dfl_bound_1)) (ve_fz (ve_lc (p := true) (sb := true) (own := [("_law_most", 6), ("_law_every", 7)]) (by rfl) sc_law.nd (vi_list (by rfl) (ve_var (pv 3))) (blkOk_by (own := [("_law_most", 6), ("_law_every", 7)]) (N := ["_law_script", "_law_k", "_law_stream_here", "_law_rules", "_law_bound_here", "_law_lone", "_law_most", "_law_every", "_law_counts", "_law_turn", "_law_begin", "_law_end", "_law_more", "_law_fewer", "_law_count", "_law_bent", "_law_told", "_law_one", "_law_may", "_law_near", "_law_far", "_law_at"]) (sc := d_law.scope) (by decide +kernel)) (fun _ _ _ _ _ _ => (vg_tup (n := 2) (by rfl) (by rfl) (vgs_cons (vg_name (i := 6) sc_law.nd (by rfl) (by first | exact Or.inl rfl | exact Or.inr rfl) (by exact fun z => absurd (show some false = some true from z) (by decide))) (vgs_cons (vg_name (i := 7) sc_law.nd (by rfl) (by first | exact Or.inl rfl | exact Or.inr rfl) (by exact fun z => absurd (show some false = some true from z) (by decide))) vgs_nil)))) (fun _ _ _ _ _ => vts0) (fun _ _ _ _ _ => (ve_fz (ve_eqm (ve_call (cal_make (c := 0) (by rfl) T.mk_Bound G_Bound_init (hr.mono (by first | decide | omega)) b_Bound_init_3 v_Bound_init_3 takesF) (by rfl) T.g_Bound T.mk_Bound.kp (vg_v (ve_stab (ve_var (pv 6))) (vg_v (ve_stab (ve_var (pv 7))) vg_nil)) (dfl_Bound_init_3 T)) (by rfl) (mCall_eq (by rfl))))))) (by rfl))
      (vss_cons (vs_set (i := 8) sc_law.nd (by rfl) (by first | exact Or.inl rfl | exact Or.inr rfl) (ve_fz (ve_call (cal_fn G_row (hr.mono (by first | decide | omega)) b_row_3 v_row_3 tk) (by rfl) T.g_row F_row.kp (vg_r (pv 2) (vg_v (ve_stab (ve_var (pv 3))) (vg_v (ve_call (cal_fn G_draw (hr.mono (by first | decide | omega)) b_draw_2 v_draw_2 tk) (by rfl) T.g_draw F_draw.kp (vg_r (pv 2) (vg_v (ve_c pe_int (fun _ _ => .int _)) vg_nil)) dfl_draw_2) vg_nil))) dfl_row_3)))
      (vss_cons (vs_if (vt_of (vw_or (vt_cmpo (pc_ino (.inr ⟨rfl, rfl⟩) T.in_Bound (by rfl) (cal_fn G_Bound_contains (hr.mono (by first | decide | omega)) b_Bound_contains_2 v_Bound_contains_2 tk) (ve_stab (ve_var (pv 8))) (ve_stab (ve_var (pv 4)))) (by rfl)) (vw_or1 (vt_of (vw_and (vt_cmp op_gt ok_cmp (ve_callB (call_lenV (by rfl)) ok_len (by rfl) T.n_len boot_len (va_cons (ve_var (pv 8)) va_nil)) (ve_c pe_int (fun _ _ => .int _)) (nomark _)) (vw_and1 (vt_cmpo (pc_ino (.inr ⟨rfl, rfl⟩) T.in_Bound (by rfl) (cal_fn G_Bound_contains (hr.mono (by first | decide | omega)) b_Bound_contains_2 v_Bound_contains_2 tk) (ve_fz (ve_slL (by rfl) (ve_var (pv 8)) (ve_c pe_int (fun _ _ => .int _)))) (ve_stab (ve_var (pv 4)))) (by rfl)))))))) (vss_one (vs_ret (ve_c pe_bl (fun _ _ => .bl _)))) vss_nil)
      (vss_cons (vs_for hp (by rfl) (vi_rng1 (by rfl) T.n_range (ve_c pe_int (fun _ _ => .int _))) (vg_name (i := 9) sc_law.nd (by rfl) (by first | exact Or.inl rfl | exact Or.inr rfl)) (vss_cons (vs_asg (ve_fz (ve_callB cr_sortedI (ok_sorted (by rfl)) (by rfl) T.n_sorted boot_sorted (va_cons (ve_lc (p := true) (sb := false) (own := [("_law_more", 12)]) (by rfl) sc_law.nd (vi_rng1 (by rfl) T.n_range (ve_c pe_int (fun _ _ => .int _))) (blkOk_by (own := [("_law_more", 12)]) (N := ["_law_script", "_law_k", "_law_stream_here", "_law_rules", "_law_bound_here", "_law_lone", "_law_most", "_law_every", "_law_counts", "_law_turn", "_law_begin", "_law_end", "_law_more", "_law_fewer", "_law_count", "_law_bent", "_law_told", "_law_one", "_law_may", "_law_near", "_law_far", "_law_at"]) (sc := d_law.scope) (by decide +kernel)) (fun _ _ _ _ _ _ => (vg_name (i := 12) sc_law.nd (by rfl) (by first | exact Or.inl rfl | exact Or.inr rfl) (by exact fun z => absurd (show some false = some true from z) (by decide)))) (fun _ _ _ _ _ => vts0) (fun _ _ _ _ _ => (ve_call (cal_fn G_draw (hr.mono (by first | decide | omega)) b_draw_2 v_draw_2 takesF) (by rfl) T.g_draw F_draw.kp (vg_r (pv 2) (vg_v (ve_bin (op_addV (by rfl)) ok_add (ve_callB (call_lenV (by rfl)) ok_len (by rfl) T.n_len boot_len (va_cons (ve_var (pv 8)) va_nil)) (ve_c pe_int (fun _ _ => .int _))) vg_nil)) dfl_draw_2))) va_nil))) (vg_unl (n := 2) (by rfl) (by rfl) (vgs_cons (vg_name (i := 10) sc_law.nd (by rfl) (by first | exact Or.inl rfl | exact Or.inr rfl)) (vgs_cons (vg_name (i := 11) sc_law.nd (by rfl) (by first | exact Or.inl rfl | exact Or.inr rfl)) vgs_nil))))
      (vss_cons (vs_setLc (i := 13) (p := true) (sb := false) (own := [("_law_count", 14)]) rd_fz (by rfl) sc_law.nd (by rfl) (by rfl) (sw_true (by rfl) (by rfl) (by rfl) (by decide +kernel)) (vi_list (by rfl) (ve_var (pv 8))) (blkOk_by (own := [("_law_count", 14)]) (N := ["_law_script", "_law_k", "_law_stream_here", "_law_rules", "_law_bound_here", "_law_lone", "_law_most", "_law_every", "_law_counts", "_law_turn", "_law_begin", "_law_end", "_law_more", "_law_fewer", "_law_count", "_law_bent", "_law_told", "_law_one", "_law_may", "_law_near", "_law_far", "_law_at"]) (sc := d_law.scope) (by decide +kernel)) (fun _ _ _ _ _ _ => (vg_name (i := 14) sc_law.nd (by rfl) (by first | exact Or.inl rfl | exact Or.inr rfl) (by exact fun z => absurd (show some false = some true from z) (by decide)))) (fun _ _ _ _ _ => vts0) (fun _ _ _ _ _ => (ve_call (cal_fn G_draw (hr.mono (by first | decide | omega)) b_draw_2 v_draw_2 takesF) (by rfl) T.g_draw F_draw.kp (vg_r (pv 2) (vg_v (ve_bin (op_addV (by rfl)) ok_add (ve_var (pv 14)) (ve_c pe_int (fun _ _ => .int _))) vg_nil)) dfl_draw_2)))
      (vss_cons (vs_set (i := 15) sc_law.nd (by rfl) (by first | exact Or.inl rfl | exact Or.inr rfl) (ve_fz (ve_bin (op_addV (by rfl)) ok_add (ve_bin (op_addV (by rfl)) ok_add (ve_slU (by rfl) (ve_var (pv 8)) (ve_var (pv 10))) (ve_lc (p := true) (sb := true) (own := [("_law_count", 14)]) (by rfl) sc_law.nd (vi_list (by rfl) (ve_fz (ve_slU (by rfl) (ve_slB (by rfl) (ve_var (pv 8)) (ve_var (pv 10)) (ve_var (pv 11))) (ve_c pe_int (fun _ _ => .int _))))) (blkOk_by (own := [("_law_count", 14)]) (N := ["_law_script", "_law_k", "_law_stream_here", "_law_rules", "_law_bound_here", "_law_lone", "_law_most", "_law_every", "_law_counts", "_law_turn", "_law_begin", "_law_end", "_law_more", "_law_fewer", "_law_count", "_law_bent", "_law_told", "_law_one", "_law_may", "_law_near", "_law_far", "_law_at"]) (sc := d_law.scope) (by decide +kernel)) (fun _ _ _ _ _ _ => (vg_name (i := 14) sc_law.nd (by rfl) (by first | exact Or.inl rfl | exact Or.inr rfl) (by exact fun z => absurd (show some false = some true from z) (by decide)))) (fun _ _ _ _ _ => vts0) (fun _ _ _ _ _ => (ve_bin (op_addV (by rfl)) ok_add (ve_var (pv 14)) (ve_c pe_int (fun _ _ => .int _)))))) (ve_slL (by rfl) (ve_var (pv 8)) (ve_bin (op_addV (by rfl)) ok_add (ve_var (pv 10)) (ve_c pe_int (fun _ _ => .int _)))))))
      (vss_cons (vs_for hp (by rfl) (vi_list (by rfl) (ve_fz (ve_lst (va_cons (ve_fz (ve_slB (by rfl) (ve_var (pv 8)) (ve_var (pv 10)) (ve_var (pv 11)))) (va_cons (ve_stab (ve_var (pv 13))) (va_cons (ve_stab (ve_var (pv 15))) (va_cons (ve_fz (ve_bin (op_addV (by rfl)) ok_add (ve_slL (by rfl) (ve_var (pv 8)) (ve_var (pv 11))) (ve_slU (by rfl) (ve_var (pv 8)) (ve_var (pv 10))))) va_nil))))))) (vg_name (i := 16) sc_law.nd (by rfl) (by first | exact Or.inl rfl | exact Or.inr rfl)) (vss_one (vs_if (vt_cmp (op_neD hr.units) ok_ne (ve_cmpo (pc_ino (.inl ⟨rfl, rfl⟩) T.in_Bound (by rfl) (cal_fn G_Bound_contains (hr.mono (by first | decide | omega)) b_Bound_contains_2 v_Bound_contains_2 tk) (ve_stab (ve_var (pv 16))) (ve_stab (ve_var (pv 4)))) (by rfl)) (ve_cmp (op_emp (hu0 hr)) ok_emp (ve_lc (p := true) (sb := true) (own := [("_law_one", 17)]) (by rfl) sc_law.nd (vi_list (by rfl) (ve_var (pv 5))) (blkOk_by (own := [("_law_one", 17)]) (N := ["_law_script", "_law_k", "_law_stream_here", "_law_rules", "_law_bound_here", "_law_lone", "_law_most", "_law_every", "_law_counts", "_law_turn", "_law_begin", "_law_end", "_law_more", "_law_fewer", "_law_count", "_law_bent", "_law_told", "_law_one", "_law_may", "_law_near", "_law_far", "_law_at"]) (sc := d_law.scope) (by decide +kernel)) (fun _ _ _ _ _ _ => (vg_name (i := 17) sc_law.nd (by rfl) (by first | exact Or.inl rfl | exact Or.inr rfl) (by exact fun z => absurd (show some false = some true from z) (by decide)))) (fun _ _ _ _ _ => (pts_one (vt_cmpo (pc_ino (.inr ⟨rfl, rfl⟩) T.in_Bound (by rfl) (cal_fn G_Bound_contains (hr.mono (by first | decide | omega)) b_Bound_contains_2 v_Bound_contains_2 takesF) (ve_stab (ve_var (pv 16))) (ve_stab (ve_var (pv 17)))) (by rfl)))) (fun _ _ _ _ _ => (ve_stab (ve_var (pv 17))))) (ve_lst va_nil) (nomark _)) (nomark _)) (vss_one (vs_ret (ve_c pe_bl (fun _ _ => .bl _)))) vss_nil)))
      (vss_cons (vs_if (vt_of (vw_or (vt_cmpo (pc_ino (.inr ⟨rfl, rfl⟩) T.in_Bound (by rfl) (cal_fn G_Bound_contains (hr.mono (by first | decide | omega)) b_Bound_contains_2 v_Bound_contains_2 tk) (ve_fz (ve_slB (by rfl) (ve_var (pv 8)) (ve_var (pv 10)) (ve_var (pv 11)))) (ve_stab (ve_var (pv 4)))) (by rfl)) (vw_or1 (vt_cmpo (pc_ino (.inr ⟨rfl, rfl⟩) T.in_Bound (by rfl) (cal_fn G_Bound_contains (hr.mono (by first | decide | omega)) b_Bound_contains_2 v_Bound_contains_2 tk) (ve_stab (ve_var (pv 13))) (ve_stab (ve_var (pv 4)))) (by rfl))))) (vss_one (vs_ret (ve_c pe_bl (fun _ _ => .bl _)))) vss_nil)
      (vss_cons (vs_if (vt_cmp op_lt ok_cmp (ve_var (pv 10)) (ve_var (pv 11)) (nomark _)) (vss_cons (vs_set (i := 18) sc_law.nd (by rfl) (by first | exact Or.inl rfl | exact Or.inr rfl) (ve_call (cal_fn G_allowed (hr.mono (by first | decide | omega)) b_allowed_2 v_allowed_2 tk) (by rfl) T.g_allowed F_allowed.kp (vg_v (ve_stab (ve_var (pv 4))) (vg_v (ve_call (cal_fn G_levels (hr.mono (by first | decide | omega)) b_levels_2 v_levels_2 tk) (by rfl) T.g_levels F_levels.kp (vg_v (ve_stab (ve_var (pv 4))) (vg_v (ve_fz (ve_slU (by rfl) (ve_var (pv 8)) (ve_var (pv 10)))) vg_nil)) dfl_levels_2) vg_nil)) dfl_allowed_2))
      (vss_one (vs_if (vt_of (vw_and (vt_cmp (op_eqD hr.units) ok_eq (ve_var (pv 18)) (ve_ix (ix_any (by rfl) (by rfl) (hu_of hr)) ok_ix (ve_var (pv 8)) (ve_var (pv 10)) (fun _ _ => (by rfl))) (nomark _)) (vw_and1 (vt_cmpo (pc_ino (.inl ⟨rfl, rfl⟩) T.in_Bound (by rfl) (cal_fn G_Bound_contains (hr.mono (by first | decide | omega)) b_Bound_contains_2 v_Bound_contains_2 tk) (ve_stab (ve_var (pv 15))) (ve_stab (ve_var (pv 4)))) (by rfl))))) (vss_one (vs_ret (ve_c pe_bl (fun _ _ => .bl _)))) vss_nil))) vss_nil)
      (vss_cons (vs_asg (ve_tup (va_cons (ve_call (cal_fn G_levels (hr.mono (by first | decide | omega)) b_levels_2 v_levels_2 tk) (by rfl) T.g_levels F_levels.kp (vg_v (ve_stab (ve_var (pv 4))) (vg_v (ve_fz (ve_slU (by rfl) (ve_var (pv 13)) (ve_var (pv 11)))) vg_nil)) dfl_levels_2) (va_cons (ve_call (cal_fn G_levels (hr.mono (by first | decide | omega)) b_levels_2 v_levels_2 tk) (by rfl) T.g_levels F_levels.kp (vg_v (ve_stab (ve_var (pv 4))) (vg_v (ve_fz (ve_slU (by rfl) (ve_var (pv 8)) (ve_var (pv 11)))) vg_nil)) dfl_levels_2) va_nil))) (vg_tup (n := 2) (by rfl) (by rfl) (vgs_cons (vg_name (i := 19) sc_law.nd (by rfl) (by first | exact Or.inl rfl | exact Or.inr rfl)) (vgs_cons (vg_name (i := 20) sc_law.nd (by rfl) (by first | exact Or.inl rfl | exact Or.inr rfl)) vgs_nil))))
      (vss_one (vs_if (vt_cmp (op_neD hr.units) ok_ne (ve_lc (p := true) (sb := true) (own := [("_law_at", 21)]) (by rfl) sc_law.nd (vi_rng1 (by rfl) T.n_range (ve_callB (call_lenV (by rfl)) ok_len (by rfl) T.n_len boot_len (va_cons (ve_var (pv 19)) va_nil))) (blkOk_by (own := [("_law_at", 21)]) (N := ["_law_script", "_law_k", "_law_stream_here", "_law_rules", "_law_bound_here", "_law_lone", "_law_most", "_law_every", "_law_counts", "_law_turn", "_law_begin", "_law_end", "_law_more", "_law_fewer", "_law_count", "_law_bent", "_law_told", "_law_one", "_law_may", "_law_near", "_law_far", "_law_at"]) (sc := d_law.scope) (by decide +kernel)) (fun _ _ _ _ _ _ => (vg_name (i := 21) sc_law.nd (by rfl) (by first | exact Or.inl rfl | exact Or.inr rfl) (by exact fun z => absurd (show some false = some true from z) (by decide)))) (fun _ _ _ _ _ => (pts_one (vt_cmp op_gt ok_cmp (ve_ix (ix_any (by rfl) (by rfl) (hu_of hr)) ok_ix (ve_var (pv 19)) (ve_var (pv 21)) (fun _ _ => (by rfl))) (ve_ix (ix_any (by rfl) (by rfl) (hu_of hr)) ok_ix (ve_var (pv 20)) (ve_var (pv 21)) (fun _ _ => (by rfl))) (nomark _)))) (fun _ _ _ _ _ => (ve_stab (ve_var (pv 21))))) (ve_lst va_nil) (nomark _)) (vss_one (vs_ret (ve_c pe_bl (fun _ _ => .bl _)))) vss_nil))))))))))
      (vss_one (vs_if (vt_cmp (op_neD hr.units) ok_ne (ve_call (cal_fn G_levels (hr.mono (by first | decide | omega)) b_levels_2 v_levels_2 tk) (by rfl) T.g_levels F_levels.kp (vg_v (ve_stab (ve_var (pv 4))) (vg_v (ve_fz (ve_bin (op_mulV (by rfl)) ok_mul (ve_lst (va_cons (ve_c pe_int (fun _ _ => .int _)) va_nil)) (ve_callB (call_lenV (by rfl)) ok_len (by rfl) T.n_len boot_len (va_cons (ve_var (pv 8)) va_nil)))) vg_nil)) dfl_levels_2) (ve_call (cal_fn G_first_levels (hr.mono (by first | decide | omega)) b_first_levels_1 v_first_levels_1 tk) (by rfl) T.g_first_levels F_first_levels.kp (vg_v (ve_stab (ve_var (pv 4))) vg_nil) dfl_first_levels_1) (nomark _)) (vss_one (vs_ret (ve_c pe_bl (fun _ _ => .bl _)))) vss_nil)))))))))
      (vss_one (vs_ret (ve_c pe_bl (fun _ _ => .bl _)))))
def fa : List Ftest := [
  (fun K => (He.Fa.free "len").ok K),
  (fun K => (He.Fa.free "min").ok K),
  (fun K => (He.Fa.free "max").ok K),
  (fun K => (He.Fa.free "range").ok K),
  (fun K => (He.Fa.glo "_law_stream").ok K),
  (fun K => (He.Fa.glo "_law_three").ok K),
  (fun K => (He.Fa.glo "_law_bound").ok K),
  (tAt (kwAt (fun K => He.ma K (He.ga K "Bound") "__init__") "also") (.wtp [])),
  (fun K => (He.Fa.mkr "Bound").ok K),
  (fun K => (He.Fa.glo "Bound").ok K),
  (fun K => (He.Fa.glo "_law_draw").ok K),
  (fun K => (He.Fa.glo "_law_row").ok K),
  (tOwnIn "Bound"),
  (fun K => (He.Fa.free "sorted").ok K),
  (fun K => (He.Fa.glo "_law_levels").ok K),
  (fun K => (He.Fa.glo "allowed").ok K),
  (fun K => (He.Fa.glo "first_levels").ok K),
  (fun K => (He.Fa.glo "check_levels").ok K),
  (fun K => (He.Fa.cls "Bound").ok K),
  (fun K => (He.Fa.noat "Bound" "ruled").ok K),
  (fun K => (He.Fa.glo "allowed_at").ok K),
  (fun K => (He.Fa.free "zip").ok K),
  (fun K => (He.Fa.glo "check_bound").ok K),
  (fun K => (He.Fa.glo "are_levels").ok K),
  (fun K => (He.Fa.free "isinstance").ok K),
  (fun K => (He.Fa.free "tuple").ok K),
  (fun K => (He.Fa.glo "is_between").ok K),
  (fun K => (He.Fa.free "all").ok K),
  (fun K => (He.Fa.glo "is_integer").ok K),
  (fun K => (He.Fa.free "int").ok K),
  (fun K => (He.Fa.free "bool").ok K),
  (fun K => (He.Fa.glo "_law_may_come").ok K),
  (fun K => (He.Fa.glo "_law_choose").ok K),
  (fun K => (He.Fa.int "MOST_MOST" (8)).ok K),
  (fun K => (He.Fa.int "MOST_EVERY" (12)).ok K),
  (fun K => (He.Fa.free "list").ok K),
  (fun K => (He.Fa.glo "are_rules").ok K),
  (fun K => (He.Fa.int "MOST_RULES" (3)).ok K),
  (fun K => (He.Fa.glo "is_rule").ok K),
  (tSMet "Bound" "of"),
  (fun K => (He.Fa.glo "bound_of").ok K),
  (fun K => (He.Fa.glo "next_levels").ok K),
  (fun K => (He.Fa.glo "check_between").ok K),
  (fun K => (He.Fa.glo "levels_behind").ok K),
  (fun K => (He.Fa.glo "is_row").ok K),
  (fun K => (He.Fa.glo "is_kept").ok K),
  (fun K => (He.Fa.glo "is_count").ok K),
  (fun K => (He.Fa.int "MOST_COUNT" (99)).ok K),
  (fun K => (He.Fa.glo "law").ok K),
  (tIsi clsNames sub)]
def fn : List VDef := [d_allowed_at, d_levels_behind, d_is_kept, d_is_integer, d_is_between, d_is_count, d_is_row, d_Bound_contains, d_is_rule, d_are_rules, d_Bound_init, d_are_levels, d_check_bound, d_check_levels, d_allowed, d_bound_of, d_Bound_of, d_bound, d_draw, d_first_levels, d_check_between, d_next_levels, d_levels, d_choose, d_may_come, d_row, d_stream, d_three, d_law]
def ts : List He.Tab := []
theorem txt_of {K : PySem.W.Frag} {h : Heap} {mg : Str → Option Value} {w : World} (X : K.In h) (G : h.Ns mainGlobals mg) (cw : SaysW fa fn ts w K) : Txt K mg w :=
  have c := cw.v
  {
    n_len := He.free_ok X G (c.fact 0 (f := fun K => (He.Fa.free "len").ok K) rfl),
    n_min := He.free_ok X G (c.fact 1 (f := fun K => (He.Fa.free "min").ok K) rfl),
    n_max := He.free_ok X G (c.fact 2 (f := fun K => (He.Fa.free "max").ok K) rfl),
    n_range := He.free_ok X G (c.fact 3 (f := fun K => (He.Fa.free "range").ok K) rfl),
    g_stream := He.glo_ok X G (c.fact 4 (f := fun K => (He.Fa.glo "_law_stream").ok K) rfl),
    g_three := He.glo_ok X G (c.fact 5 (f := fun K => (He.Fa.glo "_law_three").ok K) rfl),
    g_bound := He.glo_ok X G (c.fact 6 (f := fun K => (He.Fa.glo "_law_bound").ok K) rfl),
    da_Bound_init_also := fun W H => at_ok (c.fact 7 (f := tAt (kwAt (fun K => He.ma K (He.ga K "Bound") "__init__") "also") (.wtp [])) rfl) _ W H rfl,
    mk_Bound := He.mkr_ok (c.fact 8 (f := fun K => (He.Fa.mkr "Bound").ok K) rfl),
    g_Bound := He.glo_ok X G (c.fact 9 (f := fun K => (He.Fa.glo "Bound").ok K) rfl),
    g_draw := He.glo_ok X G (c.fact 10 (f := fun K => (He.Fa.glo "_law_draw").ok K) rfl),
    g_row := He.glo_ok X G (c.fact 11 (f := fun K => (He.Fa.glo "_law_row").ok K) rfl),
    in_Bound := ownin_ok (c.fact 12 (f := tOwnIn "Bound") rfl),
    n_sorted := He.free_ok X G (c.fact 13 (f := fun K => (He.Fa.free "sorted").ok K) rfl),
    g_levels := He.glo_ok X G (c.fact 14 (f := fun K => (He.Fa.glo "_law_levels").ok K) rfl),
    g_allowed := He.glo_ok X G (c.fact 15 (f := fun K => (He.Fa.glo "allowed").ok K) rfl),
    g_first_levels := He.glo_ok X G (c.fact 16 (f := fun K => (He.Fa.glo "first_levels").ok K) rfl),
    g_check_levels := He.glo_ok X G (c.fact 17 (f := fun K => (He.Fa.glo "check_levels").ok K) rfl),
    cl_Bound := He.cls_ok (c.fact 18 (f := fun K => (He.Fa.cls "Bound").ok K) rfl),
    na_Bound_ruled := He.noat_ok (c.fact 19 (f := fun K => (He.Fa.noat "Bound" "ruled").ok K) rfl),
    g_allowed_at := He.glo_ok X G (c.fact 20 (f := fun K => (He.Fa.glo "allowed_at").ok K) rfl),
    n_zip := He.free_ok X G (c.fact 21 (f := fun K => (He.Fa.free "zip").ok K) rfl),
    g_check_bound := He.glo_ok X G (c.fact 22 (f := fun K => (He.Fa.glo "check_bound").ok K) rfl),
    g_are_levels := He.glo_ok X G (c.fact 23 (f := fun K => (He.Fa.glo "are_levels").ok K) rfl),
    n_isinstance := He.free_ok X G (c.fact 24 (f := fun K => (He.Fa.free "isinstance").ok K) rfl),
    n_tuple := He.free_ok X G (c.fact 25 (f := fun K => (He.Fa.free "tuple").ok K) rfl),
    g_is_between := He.glo_ok X G (c.fact 26 (f := fun K => (He.Fa.glo "is_between").ok K) rfl),
    n_all := He.free_ok X G (c.fact 27 (f := fun K => (He.Fa.free "all").ok K) rfl),
    g_is_integer := He.glo_ok X G (c.fact 28 (f := fun K => (He.Fa.glo "is_integer").ok K) rfl),
    n_int := He.free_ok X G (c.fact 29 (f := fun K => (He.Fa.free "int").ok K) rfl),
    n_bool := He.free_ok X G (c.fact 30 (f := fun K => (He.Fa.free "bool").ok K) rfl),
    g_may_come := He.glo_ok X G (c.fact 31 (f := fun K => (He.Fa.glo "_law_may_come").ok K) rfl),
    g_choose := He.glo_ok X G (c.fact 32 (f := fun K => (He.Fa.glo "_law_choose").ok K) rfl),
    c_MOST_MOST := He.int_ok X G (c.fact 33 (f := fun K => (He.Fa.int "MOST_MOST" (8)).ok K) rfl),
    c_MOST_EVERY := He.int_ok X G (c.fact 34 (f := fun K => (He.Fa.int "MOST_EVERY" (12)).ok K) rfl),
    n_list := He.free_ok X G (c.fact 35 (f := fun K => (He.Fa.free "list").ok K) rfl),
    g_are_rules := He.glo_ok X G (c.fact 36 (f := fun K => (He.Fa.glo "are_rules").ok K) rfl),
    c_MOST_RULES := He.int_ok X G (c.fact 37 (f := fun K => (He.Fa.int "MOST_RULES" (3)).ok K) rfl),
    g_is_rule := He.glo_ok X G (c.fact 38 (f := fun K => (He.Fa.glo "is_rule").ok K) rfl),
    sm_Bound_of := smet_ok (c.fact 39 (f := tSMet "Bound" "of") rfl),
    g_bound_of := He.glo_ok X G (c.fact 40 (f := fun K => (He.Fa.glo "bound_of").ok K) rfl),
    g_next_levels := He.glo_ok X G (c.fact 41 (f := fun K => (He.Fa.glo "next_levels").ok K) rfl),
    g_check_between := He.glo_ok X G (c.fact 42 (f := fun K => (He.Fa.glo "check_between").ok K) rfl),
    g_levels_behind := He.glo_ok X G (c.fact 43 (f := fun K => (He.Fa.glo "levels_behind").ok K) rfl),
    g_is_row := He.glo_ok X G (c.fact 44 (f := fun K => (He.Fa.glo "is_row").ok K) rfl),
    g_is_kept := He.glo_ok X G (c.fact 45 (f := fun K => (He.Fa.glo "is_kept").ok K) rfl),
    g_is_count := He.glo_ok X G (c.fact 46 (f := fun K => (He.Fa.glo "is_count").ok K) rfl),
    c_MOST_COUNT := He.int_ok X G (c.fact 47 (f := fun K => (He.Fa.int "MOST_COUNT" (99)).ok K) rfl),
    g_law := He.glo_ok X G (c.fact 48 (f := fun K => (He.Fa.glo "law").ok K) rfl),
    isi := isi_ok (L := clsNames) (fun _ _ h => h) (c.fact 49 (f := tIsi clsNames sub) rfl) }
theorem all_ok {P : Program} {w : World} {K : PySem.W.Frag} {mg : Str → Option Value} {base : Heap} (T : Txt K mg w) (c : SaysV fa fn K) : Ok P w K mg base (gam K w) d_law 10 ["_law_script"] f_law := by
  have k_allowed_at := ok_allowed_at (P := P) (w := w) (base := base) T (c.def_ 0) 
  have k_levels_behind := ok_levels_behind (P := P) (w := w) (base := base) T (c.def_ 1) 
  have k_is_kept := ok_is_kept (P := P) (w := w) (base := base) T (c.def_ 2) k_allowed_at k_levels_behind
  have k_is_integer := ok_is_integer (P := P) (w := w) (base := base) T (c.def_ 3) 
  have k_is_between := ok_is_between (P := P) (w := w) (base := base) T (c.def_ 4) k_is_integer
  have k_is_count := ok_is_count (P := P) (w := w) (base := base) T (c.def_ 5) k_is_between
  have k_is_row := ok_is_row (P := P) (w := w) (base := base) T (c.def_ 6) k_is_count
  have k_Bound_contains := ok_Bound_contains (P := P) (w := w) (base := base) T (c.def_ 7) k_is_kept k_is_row
  have k_is_rule := ok_is_rule (P := P) (w := w) (base := base) T (c.def_ 8) k_is_between
  have k_are_rules := ok_are_rules (P := P) (w := w) (base := base) T (c.def_ 9) k_is_rule
  have k_Bound_init := ok_Bound_init (P := P) (w := w) (base := base) T (c.def_ 10) k_is_between k_are_rules
  have k_are_levels := ok_are_levels (P := P) (w := w) (base := base) T (c.def_ 11) k_is_between
  have k_check_bound := ok_check_bound (P := P) (w := w) (base := base) T (c.def_ 12) 
  have k_check_levels := ok_check_levels (P := P) (w := w) (base := base) T (c.def_ 13) k_are_levels k_check_bound
  have k_allowed := ok_allowed (P := P) (w := w) (base := base) T (c.def_ 14) k_allowed_at k_check_levels
  have k_bound_of := ok_bound_of (P := P) (w := w) (base := base) T (c.def_ 15) k_Bound_init
  have k_Bound_of := ok_Bound_of (P := P) (w := w) (base := base) T (c.def_ 16) k_are_rules k_bound_of
  have k_bound := ok_bound (P := P) (w := w) (base := base) T (c.def_ 17) k_Bound_of
  have k_draw := ok_draw (P := P) (w := w) (base := base) T (c.def_ 18) 
  have k_first_levels := ok_first_levels (P := P) (w := w) (base := base) T (c.def_ 19) k_check_bound
  have k_check_between := ok_check_between (P := P) (w := w) (base := base) T (c.def_ 20) k_is_between
  have k_next_levels := ok_next_levels (P := P) (w := w) (base := base) T (c.def_ 21) k_allowed_at k_levels_behind k_check_levels k_check_between
  have k_levels := ok_levels (P := P) (w := w) (base := base) T (c.def_ 22) k_first_levels k_next_levels
  have k_choose := ok_choose (P := P) (w := w) (base := base) T (c.def_ 23) k_draw
  have k_may_come := ok_may_come (P := P) (w := w) (base := base) T (c.def_ 24) 
  have k_row := ok_row (P := P) (w := w) (base := base) T (c.def_ 25) k_draw k_choose k_may_come
  have k_stream := ok_stream (P := P) (w := w) (base := base) T (c.def_ 26) 
  have k_three := ok_three (P := P) (w := w) (base := base) T (c.def_ 27) k_draw
  have k_law := ok_law (P := P) (w := w) (base := base) T (c.def_ 28) k_Bound_contains k_Bound_init k_allowed k_bound k_draw k_first_levels k_levels k_row k_stream k_three
  exact k_law
def loose0 : List PySem.Str := ["BellError", "InvalidBound", "InvalidState", "InvalidNumber", "is_integer", "is_between", "is_count", "check_between", "is_rule", "are_rules", "is_row", "Bound", "bound_of", "joined", "check_bound", "are_levels", "allowed_at", "levels_behind", "is_kept", "first_levels"]
def loose1 : List PySem.Str := ["check_levels", "allowed", "next_levels", "_law_stream", "_law_draw", "_law_choose", "_law_bound", "_law_may_come", "_law_row", "_law_three", "_law_levels", "MOST_COUNT", "MOST_MOST", "MOST_EVERY", "MOST_RULES"]
def loose : List PySem.Str := loose0 ++ loose1
abbrev R : PySem.W.OpenRow := PySem.W.OpenLaw.row PySem.Challenge.rw_gatheredbells_k80_whole_levels_and_stret
abbrev hk : PySem.W.Hook := hookW 8 fa fn ts
def ob (s : PySem.W.SharedT) : AlW := obsWG 8 fa fn ts (HandSHeadRun.getT s)
theorem ob_eq (s : PySem.W.SharedT) : ob s = hk.obs s.abs := obsWG_eq (HandSHeadRun.getT_eq s)
-- RUN
theorem run_f (w : World) : HandSHeadRun.RunEq R (PySem.W.view R.prog [39]) hk ob 40000 loose (w.withFollow "special-get-raises" false) := fun os => by kernel_rfl
theorem run_t (w : World) : HandSHeadRun.RunEq R (PySem.W.view R.prog [39]) hk ob 40000 loose (w.withFollow "special-get-raises" true) := fun os => by kernel_rfl
theorem run (w : World) : HandSHeadRun.RunEq R (PySem.W.view R.prog [39]) hk ob 40000 loose w := PySem.W.byRow2 "special-get-raises" (P := fun w => HandSHeadRun.RunEq R (PySem.W.view R.prog [39]) hk ob 40000 loose w) run_f run_t w
end Gb
set_option maxHeartbeats 4000000
namespace Gb
open PySem L2 VL
/-- the factor on one side is small -/
theorem mul_l {i j : Int} (h1 : -(2 ^ 64) < i) (h2 : i < 2 ^ 64) : mulOk i j := .inr (.inl ⟨h1, h2⟩)
theorem mul_r {i j : Int} (h1 : -(2 ^ 64) < j) (h2 : j < 2 ^ 64) : mulOk i j := .inr (.inr ⟨h1, h2⟩)
theorem ite01 (c : Prop) [Decidable c] : (0 : Int) ≤ if c then 1 else 0 := by split <;> decide
theorem a_stream (ns : List Int) (k : Nat) (hk : k ≤ 63) : ∃ a b : Int, 0 ≤ a ∧ 0 ≤ b ∧ b < 2147483647 ∧ f_stream [.scr ns, .int k] = .ok (.lst true [.int a, .int b]) [none, none] := by
  have hm1 : mulOk 7919 (k : Int) := mul_l (by decide) (by decide)
  have hm2 : mulOk (7919 * (k : Int)) (k : Int) := mul_r (by omega) (by omega)
  have hm3 : mulOk 31 (k : Int) := mul_l (by decide) (by decide)
  have hm4 : ∀ x : Int, mulOk x 48271 := fun x => mul_r (by decide) (by decide)
  have hm5 : ∀ (x : Int) (c : Prop) [Decidable c], mulOk x (if c then 1 else 0) := fun x c _ => by split <;> exact mul_r (by decide) (by decide)
  have hm6 : ∀ x : Int, mulOk x 0 := fun x => mul_r (by decide) (by decide)
  have pos : ∀ z : Int, 0 ≤ (if z < -1 - z then -1 - z else z) := fun z => by split <;> omega
  have mod : ∀ z : Int, 0 ≤ z % 2147483647 ∧ z % 2147483647 < 2147483647 := fun z => ⟨Int.emod_nonneg _ (by decide), Int.emod_lt_of_pos _ (by decide)⟩
  have hp : powOk 10 18 := by decide
  by_cases h : (k : Int) < ns.length
  · have hlt : k < ns.length := by omega
    have hat : atI ns (k : Int) = some ns[k] := atI_nat (by simp [hlt])
    have e : f_stream [.scr ns, .int k] = .ok (.lst true [.int ((if ns[k] < -1 - ns[k] then -1 - ns[k] else ns[k]) * (if 10 ^ 18 ≤ (if ns[k] < -1 - ns[k] then -1 - ns[k] else ns[k]) then 1 else 0)), .int (((if ns[k] < -1 - ns[k] then -1 - ns[k] else ns[k]) % 2147483629 + 7919 * (k : Int) * k + 31 * k + 17) * 48271 % 2147483647)]) [none, none] := by
      simp [f_stream, mBody, m_stream, h, hat, hm1, hm2, hm3, hm4, hm5, hp]
    exact ⟨_, _, Int.mul_nonneg (pos _) (ite01 _), (mod _).1, (mod _).2, e⟩
  · have e : f_stream [.scr ns, .int k] = .ok (.lst true [.int 0, .int ((7919 * (k : Int) * k + 31 * k + 17) * 48271 % 2147483647)]) [none, none] := by
      simp [f_stream, mBody, m_stream, h, hm1, hm2, hm3, hm4, hm5, hm6, hp]
    exact ⟨_, _, by decide, (mod _).1, (mod _).2, e⟩
/-- the stream: two numbers -/
def Stm (v : Val) : Prop := ∃ a b : Int, v = .lst true [.int a, .int b] ∧ 0 ≤ a ∧ 0 ≤ b ∧ b < 2147483647
theorem a_draw {s : Val} (hs : Stm s) {c : Int} (h0 : 0 < c) (hc : c < 2 ^ 64) : ∃ (r : Int) (s' : Val), 0 ≤ r ∧ r < c ∧ Stm s' ∧ f_draw [s, .int c] = .ok (.int r) [some s', none] := by
  obtain ⟨a, b, rfl, ha, hb, hb2⟩ := hs
  have i0 : ixN 2 0 = some 0 := by decide
  have i1 : ixN 2 1 = some 1 := by decide
  have a0 : ∀ x y : Val, atI [x, y] 0 = some x := fun x y => by simp [atI, i0]
  have a1 : ∀ x y : Val, atI [x, y] 1 = some y := fun x y => by simp [atI, i1]
  have hd : divOk c := ⟨h0, by
    have : c.natAbs < 2 ^ 64 := by omega
    have := (Nat.log2_lt (by omega)).mpr this
    omega⟩
  have hd2 : divOk 32 := by decide
  by_cases h : 0 < a
  · refine ⟨_, _, Int.emod_nonneg a (by omega), Int.emod_lt_of_pos a h0, ⟨a / c, b, rfl, Int.ediv_nonneg ha (by omega), hb, hb2⟩, ?_⟩
    simp [f_draw, mBody, m_draw, a0, a1, i0, i1, h, h0, hd]
  · have m1 : mulOk b 39373 := mul_r (by decide) (by decide)
    have m2 : mulOk ((b * 39373 + 7) % 2147483647) ((b * 39373 + 7) % 2147483647) := mul_r (by have := Int.emod_nonneg (b * 39373 + 7) (show (2147483647 : Int) ≠ 0 by decide); omega) (by have := Int.emod_lt_of_pos (b * 39373 + 7) (show (0 : Int) < 2147483647 by decide); omega)
    have e : f_draw [.lst true [.int a, .int b], .int c] = .ok (.int ((b * 39373 + 7) % 2147483647 * ((b * 39373 + 7) % 2147483647) % 2147483629 / 32 % c)) [some (.lst true [.int a, .int ((b * 39373 + 7) % 2147483647)]), none] := by
      simp [f_draw, mBody, m_draw, a0, a1, i0, i1, h, h0, hd, m1, m2, hd2]
    exact ⟨_, _, Int.emod_nonneg _ (by omega), Int.emod_lt_of_pos _ h0, ⟨a, (b * 39373 + 7) % 2147483647, rfl, ha, Int.emod_nonneg _ (by decide), Int.emod_lt_of_pos _ (by decide)⟩, e⟩
theorem forL_inv {g : MG} {body : MS} {P : VEnv → Prop} : ∀ {us : List Val}, (∀ u ∈ us, ∀ ρ, P ρ → ∃ ρ1 ρ2, g u ρ = some ρ1 ∧ body ρ1 = .nx ρ2 ∧ P ρ2) → ∀ ρ, P ρ → ∃ ρ', forL g body us ρ = .nx ρ' ∧ P ρ'
  | [], _, ρ, h => ⟨ρ, rfl, h⟩
  | u :: us, hs, ρ, h => by
    obtain ⟨ρ1, ρ2, e1, e2, h2⟩ := hs u List.mem_cons_self ρ h
    obtain ⟨ρ', e3, h3⟩ := forL_inv (us := us) (fun v hv => hs v (List.mem_cons_of_mem _ hv)) ρ2 h2
    exact ⟨ρ', by unfold forL; rw [e1]; simp only [e2, e3], h3⟩
theorem a_choose {s : Val} (hs : Stm s) {xs : List Val} (h0 : xs ≠ []) (hl : xs.length < 2 ^ 60) (hf : fzs xs = true) : ∃ (v s' : Val), v ∈ xs ∧ Stm s' ∧ f_choose [s, .lst false xs] = .ok v [some s', none] := by
  have hp : 0 < xs.length := List.length_pos_iff.mpr h0
  obtain ⟨r, s', r0, r1, hs', e⟩ := a_draw hs (c := xs.length) (by omega) (by omega)
  obtain ⟨n, rfl⟩ := Int.eq_ofNat_of_zero_le r0
  have hn : n < xs.length := by omega
  have hat : atI xs (n : Int) = some xs[n] := atI_nat (List.getElem?_eq_getElem hn)
  have hv : xs[n].fz = true := by
    rw [fzs_all, List.all_eq_true] at hf
    exact hf _ (List.getElem_mem _)
  refine ⟨_, s', List.getElem_mem hn, hs', ?_⟩
  simp [f_choose, mBody, m_choose, hf, e, hat, hv]
theorem lcL_draw {g : MG} {me : ME} {own : List Nat} {P : VEnv → Prop} {Q : Val → Prop} : ∀ {us acc : List Val} {ρ : VEnv}, (∀ u ∈ us, ∀ ρ, P ρ → ∃ ρ1 v ρ2, g u ρ = some ρ1 ∧ me ρ1 = .ok v ρ2 ∧ Q v ∧ P (wipeV ρ2 own)) → P ρ → acc.length + us.length ≤ 16777216 →
    ∃ vs ρ', lcL g mYes me own us acc ρ = .ok (.lst true (acc ++ vs)) ρ' ∧ P ρ' ∧ vs.length = us.length ∧ ∀ v ∈ vs, Q v
  | [], acc, ρ, _, hp, _ => ⟨[], ρ, by simp [lcL], hp, rfl, fun v h => nomatch h⟩
  | u :: us, acc, ρ, h, hp, hl => by
    rw [List.length_cons] at hl
    obtain ⟨ρ1, v, ρ2, e1, e2, q, p2⟩ := h u List.mem_cons_self ρ hp
    obtain ⟨vs, ρ', e3, p3, l3, q3⟩ := lcL_draw (us := us) (acc := acc ++ [v]) (ρ := wipeV ρ2 own) (fun z hz => h z (List.mem_cons_of_mem _ hz)) p2 (by simp; omega)
    refine ⟨v :: vs, ρ', ?_, p3, by simp [l3], fun z hz => ?_⟩
    · unfold lcL
      simp only [e1, mYes, if_true]
      simp only [e2]
      rw [if_pos (by omega), e3]
      simp [List.append_assoc]
    · rcases List.mem_cons.mp hz with rfl | hz
      · exact q
      · exact q3 z hz
theorem ints_of {vs : List Val} {P : Int → Prop} (h : ∀ v ∈ vs, ∃ i, v = .int i ∧ P i) : ∃ xs : List Int, vs = xs.map Val.int ∧ ∀ i ∈ xs, P i := by
  induction vs with
  | nil => exact ⟨[], rfl, fun i h => nomatch h⟩
  | cons v vs ih =>
    obtain ⟨i, rfl, p⟩ := h v List.mem_cons_self
    obtain ⟨xs, rfl, hx⟩ := ih fun u hu => h u (List.mem_cons_of_mem _ hu)
    exact ⟨i :: xs, rfl, fun j hj => (List.mem_cons.mp hj).elim (fun e => e ▸ p) (hx j)⟩
def iL (o : Bool) (xs : List Int) : Val := .lst o (xs.map Val.int)
theorem fzs_ints (xs : List Int) : fzs (xs.map Val.int) = true := by induction xs <;> simp_all [fzs, Val.fz]
theorem frzs_ints (xs : List Int) : frzs (xs.map Val.int) = xs.map Val.int := by induction xs <;> simp_all [frzs, Val.frz]
@[simp] theorem iL_fz (xs : List Int) : (iL false xs).fz = true := by simp [iL, Val.fz, fzs_ints]
@[simp] theorem iL_frz (o : Bool) (xs : List Int) : (iL o xs).frz = iL false xs := by simp [iL, Val.frz, frzs_ints]
theorem seq_nx {m1 m2 : MS} {ρ ρ' : VEnv} (h : m1 ρ = .nx ρ') : mSeq m1 m2 ρ = m2 ρ' := by simp only [mSeq, h]
theorem lcL_gen {g : MG} {tt me : ME} {own : List Nat} {ρ0 : VEnv} {p : Val → Bool} {F : Val → Val} : ∀ {us acc : List Val}, (∀ u ∈ us, ∃ ρ1 ρ2, g u ρ0 = some ρ1 ∧ tt ρ1 = .ok (.bl (p u)) ρ2 ∧ (p u = true → ∃ ρ3, me ρ2 = .ok (F u) ρ3 ∧ wipeV ρ3 own = ρ0) ∧ (p u = false → wipeV ρ2 own = ρ0)) → acc.length + us.length ≤ 16777216 →
    lcL g tt me own us acc ρ0 = .ok (.lst true (acc ++ (us.filter p).map F)) ρ0
  | [], acc, _, _ => by simp [lcL]
  | u :: us, acc, h, hl => by
    obtain ⟨ρ1, ρ2, e1, e2, e3, e4⟩ := h u List.mem_cons_self
    rw [List.length_cons] at hl
    unfold lcL
    rw [e1]
    simp only [e2]
    cases hp : p u with
    | true =>
      obtain ⟨ρ3, e5, e6⟩ := e3 hp
      rw [if_pos rfl]
      simp only [e5]
      rw [if_pos (by omega), e6, lcL_gen (us := us) (acc := acc ++ [F u]) (fun v hv => h v (List.mem_cons_of_mem _ hv)) (by simp; omega)]
      simp [hp]
    | false =>
      rw [if_neg (by decide), e4 hp, lcL_gen (us := us) (acc := acc) (fun v hv => h v (List.mem_cons_of_mem _ hv)) (by omega)]
      simp [hp]
theorem lcL_map {g : MG} {me : ME} {own : List Nat} {ρ0 : VEnv} {F : Val → Val} {us : List Val} (h : ∀ u ∈ us, ∃ ρ1 ρ2, g u ρ0 = some ρ1 ∧ me ρ1 = .ok (F u) ρ2 ∧ wipeV ρ2 own = ρ0) (hl : us.length ≤ 16777216) : lcL g mYes me own us [] ρ0 = .ok (.lst true (us.map F)) ρ0 := by
  have := lcL_gen (g := g) (tt := mYes) (me := me) (own := own) (ρ0 := ρ0) (p := fun _ => true) (F := F) (us := us) (acc := []) (fun u hu => let ⟨ρ1, ρ2, e1, e2, e3⟩ := h u hu; ⟨ρ1, ρ1, e1, rfl, fun _ => ⟨ρ2, e2, e3⟩, fun z => nomatch z⟩) (by simpa using hl)
  rw [List.filter_eq_self.mpr (fun _ _ => rfl)] at this
  simpa using this
theorem a_is_integer (i : Int) : f_is_integer [.int i] = .ok (.bl true) [none] := by kernel_rfl
theorem a_is_between (v l m : Int) : f_is_between [.int v, .int l, .int m] = .ok (.bl (decide (l ≤ v) && decide (v ≤ m))) [none, none, none] := by
  have e := a_is_integer v
  by_cases h1 : l ≤ v <;> by_cases h2 : v ≤ m <;> simp [f_is_between, mBody, m_is_between, mChain, e, h1, h2]
theorem a_is_count (v : Int) : f_is_count [.int v] = .ok (.bl (decide (0 ≤ v) && decide (v ≤ 99))) [none] := by
  have e := a_is_between v 0 99
  simp [f_is_count, mBody, m_is_count, e]
/-- a row as it must be -/
def RowOk (row : List Int) : Prop := ∀ c ∈ row, 0 ≤ c ∧ c ≤ 99
theorem bools_true : ∀ {xs : List Val}, (∀ x ∈ xs, x = .bl true) → bools xs = some (xs.map fun _ => true)
  | [], _ => rfl
  | x :: xs, h => by
    have e := bools_true (xs := xs) fun y hy => h y (List.mem_cons_of_mem _ hy)
    rw [h x List.mem_cons_self]
    simp [bools, e]
theorem all_true {xs : List Val} (h : ∀ x ∈ xs, x = .bl true) : semAll [.lst true xs] = some (.bl true) := by
  simp [semAll, bools_true h]
theorem a_is_row {row : List Int} (h : RowOk row) (hl : row.length ≤ 16000000) : f_is_row [iL false row] = .ok (.bl true) [none] := by
  have e : lcL (gV 1) mYes (mCall f_is_count [.v ⟨true, true, (mStab (mVar 1))⟩]) [1] (row.map Val.int) [] [some (iL false row), none] = .ok (.lst true ((row.map Val.int).map fun _ => .bl true)) [some (iL false row), none] := by
    refine lcL_map (F := fun _ => .bl true) (fun u hu => ?_) (by simp; omega)
    obtain ⟨c, hc, rfl⟩ := List.mem_map.mp hu
    obtain ⟨h1, h2⟩ := h c hc
    have e := a_is_count c
    simp [h1, h2] at e
    refine ⟨_, [some (iL false row), some (.int c)], rfl, ?_, rfl⟩
    simp [e]
  have e2 := all_true (xs := row.map ((fun _ => Val.bl true) ∘ Val.int)) (fun x hx => by simp at hx; exact hx.2.symm)
  have e3 : semIsi sub [iL false row, .ty "list"] = some (.bl true) := by kernel_rfl
  rw [List.map_map] at e
  simp only [iL] at e e2 e3 ⊢
  simp [f_is_row, mBody, m_is_row, mLc, mItemsL, wipeV, e, e2, e3]
theorem len_ints {o : Bool} (xs : List Int) : semLen [iL o xs] = some (.int xs.length) := by simp [semLen, iL]
def rep (k n : Int) : List Int := List.replicate k.toNat n
theorem flat_rep (k n : Int) : (List.replicate k.toNat [Val.int n]).flatten = (rep k n).map Val.int := by
  rw [rep, List.map_replicate]
  induction k.toNat with
  | zero => rfl
  | succ m ih => rw [List.replicate_succ, List.flatten_cons, ih, List.replicate_succ]; rfl
theorem mul_rep {o : Bool} {k n : Int} (h1 : -1000 ≤ k) (h2 : k ≤ 1000) : semMul [.lst o [.int n], .int k] = some (iL true (rep k n)) := by
  have a1 : -(2 ^ 63) ≤ k := by omega
  have a2 : k < 2 ^ 63 := by omega
  have a3 : k.toNat ≤ 16777216 := by omega
  show (if -(2 ^ 63) ≤ k ∧ k < 2 ^ 63 ∧ [Val.int n].length * k.toNat ≤ 16777216 ∧ fzs [Val.int n] = true then some (Val.lst true (List.replicate k.toNat [Val.int n]).flatten) else none) = _
  rw [if_pos ⟨a1, a2, by simpa using a3, rfl⟩, flat_rep]
  rfl
theorem cut_ints (xs : List Int) (lo hi : Option Int) : cutL (xs.map Val.int) lo hi = (cutL xs lo hi).map Val.int := by simp [cutL, List.map_drop, List.map_take]
theorem slU_ints {o : Bool} (xs : List Int) (n : Nat) : semSlU [iL o xs, .int (n : Int)] = some (iL true (xs.take n)) := by
  show (if fzs (xs.map Val.int) = true then _ else _) = _
  rw [if_pos (fzs_ints xs), cut_ints]
  have : cutL xs none (some (n : Int)) = xs.take n := by
    unfold cutL
    rw [HT.sIx_none, HT.sIx_nat, List.drop_zero, Nat.sub_zero]
    rcases Nat.le_total n xs.length with h | h
    · rw [Nat.min_eq_left h]
    · rw [Nat.min_eq_right h, List.take_of_length_le h, List.take_of_length_le (Nat.le_refl _)]
  rw [this]; rfl
theorem slL_ints {o : Bool} (xs : List Int) (n : Nat) : semSlL [iL o xs, .int (n : Int)] = some (iL true (xs.drop n)) := by
  show (if fzs (xs.map Val.int) = true then _ else _) = _
  rw [if_pos (fzs_ints xs), cut_ints]
  have : cutL xs (some (n : Int)) none = xs.drop n := by
    unfold cutL
    rw [HT.sIx_none, HT.sIx_nat]
    rcases Nat.le_total n xs.length with h | h
    · rw [Nat.min_eq_left h, List.take_of_length_le (by simp)]
    · rw [Nat.min_eq_right h, Nat.sub_self, List.take_zero, List.drop_of_length_le h]
  rw [this]; rfl
/-! ### bounds: rules, levels -/

abbrev Rl := Int × Int
def RlOk (r : Rl) : Prop := 1 ≤ r.1 ∧ r.1 ≤ 8 ∧ 1 ≤ r.2 ∧ r.2 ≤ 12
def alw1 (r : Rl) (l : Int) : Int := (r.1 * r.2 - l) / r.2
def lev1 (r : Rl) (l c : Int) : Int := if l + c * r.2 - 1 > 0 then l + c * r.2 - 1 else 0
def lv (r : Rl) (row : List Int) : Int := row.foldl (lev1 r) 0
def kept1 (r : Rl) : Int → List Int → Prop
  | _, [] => True
  | l, c :: cs => c ≤ alw1 r l ∧ kept1 r (lev1 r l c) cs
theorem alw1_le {r : Rl} (h : RlOk r) (l x : Int) : x ≤ alw1 r l ↔ l + x * r.2 ≤ r.1 * r.2 := by
  unfold alw1
  have := h.2.2.1
  rw [Int.le_ediv_iff_mul_le (by omega)]
  omega
theorem lev1_ge (r : Rl) (l c : Int) : 0 ≤ lev1 r l c := by unfold lev1; split <;> omega
theorem lev1_mono {r : Rl} (h : RlOk r) {l l' c c' : Int} (hl : l' ≤ l) (hc : c' ≤ c) : lev1 r l' c' ≤ lev1 r l c := by
  have h1 : c' * r.2 ≤ c * r.2 := Int.mul_le_mul_of_nonneg_right hc (by have := h.2.2.1; omega)
  unfold lev1
  split <;> split <;> omega
theorem lev1_le (r : Rl) {l c : Int} (hb : l + c * r.2 ≤ r.1 * r.2) (h0 : 0 ≤ r.1 * r.2) : lev1 r l c ≤ r.1 * r.2 := by unfold lev1; split <;> omega
theorem lv_snoc (r : Rl) (a : List Int) (c : Int) : lv r (a ++ [c]) = lev1 r (lv r a) c := by simp [lv]
theorem fold_ge (r : Rl) : ∀ (row : List Int) {l : Int}, 0 ≤ l → 0 ≤ row.foldl (lev1 r) l
  | [], l, h => h
  | c :: cs, l, h => fold_ge r cs (lev1_ge r l c)
theorem lv_ge (r : Rl) (row : List Int) : 0 ≤ lv r row := fold_ge r row (Int.le_refl _)
theorem kept1_app {r : Rl} : ∀ {a b : List Int} {l : Int}, kept1 r l (a ++ b) ↔ kept1 r l a ∧ kept1 r (a.foldl (lev1 r) l) b
  | [], b, l => by simp [kept1]
  | c :: a, b, l => by simp [kept1, kept1_app (a := a), and_assoc]
theorem prod_ge {r : Rl} (h : RlOk r) : 0 ≤ r.1 * r.2 := Int.mul_nonneg (by have := h.1; omega) (by have := h.2.2.1; omega)
theorem kept1_lv {r : Rl} (h : RlOk r) : ∀ {a : List Int} {l : Int}, l ≤ r.1 * r.2 → kept1 r l a → a.foldl (lev1 r) l ≤ r.1 * r.2
  | [], l, hl, _ => hl
  | c :: a, l, hl, k => kept1_lv h (a := a) (l := lev1 r l c) (lev1_le r ((alw1_le h l c).mp k.1) (prod_ge h)) k.2
/-- less of each, from a lower level -/
inductive Lss : List Int → List Int → Prop
  | nil : Lss [] []
  | cons {x y : Int} {xs ys : List Int} : x ≤ y → Lss xs ys → Lss (x :: xs) (y :: ys)
theorem Lss.refl : ∀ a : List Int, Lss a a
  | [] => .nil
  | x :: a => .cons (Int.le_refl _) (Lss.refl a)
theorem Lss.take {a b : List Int} (h : Lss a b) : ∀ n, Lss (a.take n) (b.take n) := by
  induction h with
  | nil => intro n; simp; exact .nil
  | cons h t ih => intro n; cases n with
    | zero => simp; exact .nil
    | succ n => simpa using Lss.cons h (ih n)
theorem fold_mono {r : Rl} (h : RlOk r) {a b : List Int} (s : Lss a b) : ∀ {l l' : Int}, l ≤ l' → a.foldl (lev1 r) l ≤ b.foldl (lev1 r) l' := by
  induction s with
  | nil => intro l l' q; exact q
  | cons hx t ih => intro l l' q; exact ih (lev1_mono h q hx)
theorem kept1_mono {r : Rl} (h : RlOk r) {a b : List Int} (s : Lss a b) : ∀ {l l' : Int}, l ≤ l' → kept1 r l' b → kept1 r l a := by
  induction s with
  | nil => intro l l' _ _; trivial
  | @cons x y xs ys hx t ih =>
    intro l l' q k
    refine ⟨(alw1_le h _ _).mpr ?_, ih (lev1_mono h q hx) k.2⟩
    have := (alw1_le h _ _).mp k.1
    have h1 : x * r.2 ≤ y * r.2 := Int.mul_le_mul_of_nonneg_right hx (by have := h.2.2.1; omega)
    omega
/-- a part of a row that keeps it -/
theorem kept1_mid {r : Rl} (h : RlOk r) {a b c : List Int} (k : kept1 r 0 (a ++ (b ++ c))) : kept1 r 0 b :=
  kept1_mono h (Lss.refl b) (lv_ge r a) (kept1_app.mp (kept1_app.mp k).2).1
/-- how many may come, by stretches: rc is the row turned about -/
def lvM (e : Int) : List Int → Int
  | [] => 0
  | c :: cs => if lvM e cs + c * e - 1 > 0 then lvM e cs + c * e - 1 else 0
theorem lvM_lv (r : Rl) : ∀ row : List Int, lvM r.2 row = lv r row.reverse
  | [] => rfl
  | c :: cs => by
    rw [List.reverse_cons, lv_snoc, ← lvM_lv r cs]
    rfl
theorem lvM_le (e y : Int) : ∀ rc : List Int, lvM e rc ≤ y ↔ ∀ b : Nat, b ≤ rc.length → e * (rc.take b).sum - b ≤ y
  | [] => by
    constructor
    · intro h b hb
      simp at hb
      subst hb
      simpa [lvM] using h
    · intro h; simpa [lvM] using h 0 (Nat.le_refl _)
  | c :: cs => by
    have ih := lvM_le e (y - c * e + 1) cs
    have e1 : lvM e (c :: cs) ≤ y ↔ 0 ≤ y ∧ lvM e cs ≤ y - c * e + 1 := by
      have e0 : lvM e (c :: cs) = if lvM e cs + c * e - 1 > 0 then lvM e cs + c * e - 1 else 0 := rfl
      rw [e0]
      split <;> omega
    rw [e1, ih]
    have mc : e * c = c * e := Int.mul_comm _ _
    constructor
    · rintro ⟨h0, h⟩ b hb
      cases b with
      | zero => simpa using h0
      | succ b =>
        have := h b (by simpa using hb)
        rw [List.take_succ_cons, List.sum_cons, Int.mul_add, mc]
        omega
    · intro h
      refine ⟨by simpa using h 0 (Nat.zero_le _), fun b hb => ?_⟩
      have := h (b + 1) (by simpa using hb)
      rw [List.take_succ_cons, List.sum_cons, Int.mul_add, mc] at this
      omega
/-- what the last b ticks allow -/
def bk1 (r : Rl) (rc : List Int) (b : Nat) : Int := r.1 + (b : Int) / r.2 - (rc.take b).sum
theorem may_iff {r : Rl} (h : RlOk r) (row : List Int) (x : Int) : x ≤ alw1 r (lv r row) ↔ ∀ b : Nat, b ≤ row.length → x ≤ bk1 r row.reverse b := by
  have he := h.2.2.1
  rw [alw1_le h]
  have l1 : lv r row = lvM r.2 row.reverse := by rw [lvM_lv, List.reverse_reverse]
  have l2 := lvM_le r.2 (r.1 * r.2 - x * r.2) row.reverse
  rw [List.length_reverse, ← l1] at l2
  have e1 : lv r row + x * r.2 ≤ r.1 * r.2 ↔ lv r row ≤ r.1 * r.2 - x * r.2 := by omega
  rw [e1, l2]
  have key : ∀ b : Nat, r.2 * (row.reverse.take b).sum - b ≤ r.1 * r.2 - x * r.2 ↔ x ≤ bk1 r row.reverse b := fun b => by
    unfold bk1
    generalize (row.reverse.take b).sum = S
    have q : x ≤ r.1 + (b : Int) / r.2 - S ↔ x - r.1 + S ≤ (b : Int) / r.2 := by omega
    rw [q, Int.le_ediv_iff_mul_le (by omega), Int.add_mul, Int.sub_mul, Int.mul_comm S r.2]
    omega
  exact ⟨fun z b hb => (key b).mp (z b hb), fun z b hb => (key b).mpr (z b hb)⟩
def mn2 (a b : Int) : Int := if b < a then b else a
theorem le_mn2 (x a b : Int) : x ≤ mn2 a b ↔ x ≤ a ∧ x ≤ b := by unfold mn2; split <;> omega
def fnd (r : Rl) (rc : List Int) (f : Int) : Nat → Int
  | 0 => f
  | k + 1 => mn2 (fnd r rc f k) (bk1 r rc k)
theorem le_fnd (r : Rl) (rc : List Int) (f x : Int) : ∀ k, x ≤ fnd r rc f k ↔ x ≤ f ∧ ∀ b, b < k → x ≤ bk1 r rc b
  | 0 => by simp [fnd]
  | k + 1 => by
    unfold fnd
    rw [le_mn2, le_fnd r rc f x k]
    constructor
    · rintro ⟨⟨h1, h2⟩, h3⟩
      refine ⟨h1, fun b hb => ?_⟩
      by_cases e : b = k
      · subst e; exact h3
      · exact h2 b (by omega)
    · rintro ⟨h1, h2⟩
      exact ⟨⟨h1, fun b hb => h2 b (by omega)⟩, h2 k (by omega)⟩
def mayC (row : List Int) : List Rl → Int → Int
  | [], f => f
  | r :: rs, f => mayC row rs (fnd r row.reverse f (row.length + 1))
theorem le_mayC (row : List Int) (x : Int) : ∀ (rs : List Rl) (f : Int), (∀ r ∈ rs, RlOk r) → (x ≤ mayC row rs f ↔ x ≤ f ∧ ∀ r ∈ rs, x ≤ alw1 r (lv r row))
  | [], f, _ => by simp [mayC]
  | r :: rs, f, h => by
    unfold mayC
    rw [le_mayC row x rs _ fun q hq => h q (List.mem_cons_of_mem _ hq), le_fnd]
    have m := may_iff (h r List.mem_cons_self) row x
    simp only [List.mem_cons, forall_eq_or_imp]
    rw [m]
    constructor
    · rintro ⟨⟨a, b⟩, c⟩; exact ⟨a, fun k hk => b k (by omega), c⟩
    · rintro ⟨a, b, c⟩; exact ⟨⟨a, fun k hk => b k (by omega)⟩, c⟩
/-- several rules -/
def Kept (rs : List Rl) (row : List Int) : Prop := ∀ r ∈ rs, kept1 r 0 row
theorem kept_snoc {rs : List Rl} {row : List Int} {c : Int} (k : Kept rs row) (hc : ∀ r ∈ rs, c ≤ alw1 r (lv r row)) : Kept rs (row ++ [c]) := fun r hr => kept1_app.mpr ⟨k r hr, hc r hr, trivial⟩
theorem kept_zero {rs : List Rl} (ok : ∀ r ∈ rs, RlOk r) {row : List Int} (k : Kept rs row) : ∀ r ∈ rs, 0 ≤ alw1 r (lv r row) := fun r hr => by
  rw [alw1_le (ok r hr)]
  have := kept1_lv (ok r hr) (prod_ge (ok r hr)) (k r hr)
  have e : (row.foldl (lev1 r) 0) = lv r row := rfl
  rw [e] at this
  omega
theorem alw1_most {r : Rl} (h : RlOk r) (row : List Int) : alw1 r (lv r row) ≤ 8 := by
  refine Int.not_lt.mp fun z => ?_
  have := (alw1_le h (lv r row) 9).mp z
  have h0 := lv_ge r row
  have h1 : r.1 * r.2 ≤ 8 * r.2 := Int.mul_le_mul_of_nonneg_right h.2.1 (by have := h.2.2.1; omega)
  have := h.2.2.1
  omega
def rV (r : Rl) : Val := .tup [.int r.1, .int r.2]
def rsV (o : Bool) (rs : List Rl) : Val := .lst o (rs.map rV)
def bdV (o : Bool) (rs : List Rl) : Val := .obj o 0 ["ruled"] [rsV o rs]
def tI (xs : List Int) : Val := .tup (xs.map Val.int)
def lvs (rs : List Rl) (row : List Int) : Val := tI (rs.map fun r => lv r row)
theorem rV_fz (r : Rl) : (rV r).fz = true := rfl
theorem rsV_fzs (rs : List Rl) : fzs (rs.map rV) = true := by rw [fzs_all]; simp [rV_fz]
theorem rsV_fz (rs : List Rl) : (rsV false rs).fz = true := by simp [rsV, Val.fz, rsV_fzs]
theorem bdV_fz (rs : List Rl) : (bdV false rs).fz = true := by simp [bdV, Val.fz, fzs, rsV_fz]
theorem tI_fz (xs : List Int) : (tI xs).fz = true := by simp [tI, Val.fz, fzs_ints]
theorem lvs_fz (rs : List Rl) (row : List Int) : (lvs rs row).fz = true := tI_fz _
theorem mul_ok8 {a b : Int} (h : -(2 ^ 64) < b) (h2 : b < 2 ^ 64) : mulOk a b := .inr (.inr ⟨h, h2⟩)
theorem div_ok12 {b : Int} (h : 1 ≤ b) (h2 : b ≤ 12) : divOk b := by
  have : b = 1 ∨ b = 2 ∨ b = 3 ∨ b = 4 ∨ b = 5 ∨ b = 6 ∨ b = 7 ∨ b = 8 ∨ b = 9 ∨ b = 10 ∨ b = 11 ∨ b = 12 := by omega
  rcases this with h | h | h | h | h | h | h | h | h | h | h | h <;> subst h <;> decide
/-- a comprehension without a test, over a list, its names gone behind each turn -/
theorem lcL_mapR {α : Type} {g : MG} {me : ME} {own : List Nat} {F K : α → Val} {ρ : VEnv} : ∀ {rs : List α} {acc : List Val}, (∀ r ∈ rs, ∃ ρ1 ρ2, g (F r) ρ = some ρ1 ∧ me ρ1 = .ok (K r) ρ2 ∧ wipeV ρ2 own = ρ) → acc.length + rs.length ≤ 16777216 → lcL g mYes me own (rs.map F) acc ρ = .ok (.lst true (acc ++ rs.map K)) ρ
  | [], acc, _, _ => by simp [lcL]
  | r :: rs, acc, h, hl => by
    rw [List.length_cons] at hl
    obtain ⟨ρ1, ρ2, e1, e2, e3⟩ := h r List.mem_cons_self
    have ih := lcL_mapR (rs := rs) (acc := acc ++ [K r]) (fun q hq => h q (List.mem_cons_of_mem _ hq)) (by simp; omega)
    rw [List.map_cons]
    unfold lcL
    simp only [e1, mYes, if_true]
    simp only [e2]
    rw [if_pos (by omega), e3, ih]
    simp
theorem E_lcM {α : Type} {mi : MI} {g : MG} {me : ME} {own : List Nat} {F K : α → Val} {ρ : VEnv} {rs : List α} (hi : mi ρ = .ok (rs.map F) ρ) (hw : wipeV ρ own = ρ) (h : ∀ r ∈ rs, ∃ ρ1 ρ2, g (F r) ρ = some ρ1 ∧ me ρ1 = .ok (K r) ρ2 ∧ wipeV ρ2 own = ρ) (hl : rs.length ≤ 16777216) : mLc mi g mYes me own ρ = .ok (.lst true (rs.map K)) ρ := by
  unfold mLc
  rw [hi]
  show lcL g mYes me own (rs.map F) [] (wipeV ρ own) = _
  rw [hw, lcL_mapR h (by simpa using hl)]
  rfl
theorem E_lcM1 {α : Type} {mi : MI} {g : MG} {me : ME} {own : List Nat} {F K : α → Val} {ρ : VEnv} {rs : List α} (hi : mi ρ = .ok (rs.map F) ρ) (hw : wipeV ρ own = ρ) (h : ∀ r ∈ rs, ∃ ρ1, g (F r) ρ = some ρ1 ∧ me ρ1 = .ok (K r) ρ1 ∧ wipeV ρ1 own = ρ) (hl : rs.length ≤ 16777216) : mLc mi g mYes me own ρ = .ok (.lst true (rs.map K)) ρ :=
  E_lcM hi hw (fun r hr => let ⟨ρ1, a, b, c⟩ := h r hr; ⟨ρ1, ρ1, a, b, c⟩) hl
theorem zip_lvs (f : Rl → Int) : ∀ rs : List Rl, zipV ((rs.map f).map Val.int) (rs.map rV) = rs.map fun r => .tup [.int (f r), rV r]
  | [] => rfl
  | r :: rs => by
    show Val.tup [.int (f r), rV r] :: zipV ((rs.map f).map Val.int) (rs.map rV) = _
    rw [zip_lvs f rs]; rfl
theorem E_zipM {m1 m2 : ME} {ρ : VEnv} {f : Rl → Int} {rs : List Rl} (h1 : m1 ρ = .ok (tI (rs.map f)) ρ) (h2 : m2 ρ = .ok (rsV false rs) ρ) : mZipM m1 m2 ρ = .ok (rs.map fun r => .tup [.int (f r), rV r]) ρ := by
  unfold mZipM
  have e : evalM [m1, m2] ρ = .ok [tI (rs.map f), rsV false rs] ρ := by simp [evalM, h1, h2]
  rw [e]
  show (if fzs ((rs.map f).map Val.int) = true ∧ ((rs.map f).map Val.int).length = (rs.map rV).length then _ else _) = _
  rw [if_pos ⟨fzs_ints _, by simp⟩, zip_lvs]
def mn : List Int → Int
  | [] => 0
  | x :: xs => minL x xs
theorem le_mn {x : Int} : ∀ {xs : List Int}, xs ≠ [] → (x ≤ mn xs ↔ ∀ y ∈ xs, x ≤ y)
  | [], h => absurd rfl h
  | a :: as, _ => by
    constructor
    · intro h y hy
      exact Int.le_trans h (minL_le a as y hy)
    · intro h
      exact h _ (minL_mem a as)
def alwP (rs : List Rl) (row : List Int) : Int := mn (rs.map fun r => alw1 r (lv r row))
theorem le_alwP {rs : List Rl} (h0 : rs ≠ []) (row : List Int) (x : Int) : x ≤ alwP rs row ↔ ∀ r ∈ rs, x ≤ alw1 r (lv r row) := by
  unfold alwP
  rw [le_mn (by simpa using h0)]
  constructor
  · exact fun h r hr => h _ (List.mem_map.mpr ⟨r, hr, rfl⟩)
  · intro h y hy
    obtain ⟨r, hr, rfl⟩ := List.mem_map.mp hy
    exact h r hr
structure RsOk (rs : List Rl) : Prop where
  ne : rs ≠ []
  len : rs.length ≤ 3
  ok : ∀ r ∈ rs, RlOk r
theorem a_allowed_at {rs : List Rl} (ok : RsOk rs) (row : List Int) : f_allowed_at [rsV false rs, lvs rs row] = .ok (.int (alwP rs row)) [none, none] := by
  have e1 : mLc (mZipM (mVar 1) (mVar 0)) (gTupV (gConsV (gV 2) (gConsV (gTupV (gConsV (gV 3) (gConsV (gV 4) gNilV)) 2) gNilV)) 2) mYes (mFun semDiv [(mFun semSub [(mFun semMul [(mVar 3), (mVar 4)]), (mVar 2)]), (mVar 4)]) [2, 3, 4] [some (rsV false rs), some (lvs rs row), none, none, none] =
      .ok (.lst true (rs.map fun r => .int (alw1 r (lv r row)))) [some (rsV false rs), some (lvs rs row), none, none, none] := by
    refine E_lcM1 (E_zipM (E_var rfl) (E_var rfl)) rfl (fun r hr => ⟨[some (rsV false rs), some (lvs rs row), some (.int (lv r row)), some (.int r.1), some (.int r.2)], rfl, ?_, rfl⟩) (by have := ok.len; omega)
    have k := ok.ok r hr
    have h1 : semMul [.int r.1, .int r.2] = some (.int (r.1 * r.2)) := if_pos (mul_ok8 (by have := k.2.2.1; omega) (by have := k.2.2.2; omega))
    have h2 : semSub [.int (r.1 * r.2), .int (lv r row)] = some (.int (r.1 * r.2 - lv r row)) := rfl
    have h3 : semDiv [.int (r.1 * r.2 - lv r row), .int r.2] = some (.int (alw1 r (lv r row))) := if_pos (div_ok12 k.2.2.1 k.2.2.2)
    exact E_f2 (E_f2 (E_f2 (E_var rfl) (E_var rfl) h1) (E_var rfl) h2) (E_var rfl) h3
  refine E_body (ρ0 := [some (rsV false rs), some (lvs rs row), none, none, none]) rfl (E_ret (E_f1 e1 ?_))
  have e2 : (rs.map fun r => Val.int (alw1 r (lv r row))) = (rs.map fun r => alw1 r (lv r row)).map Val.int := by simp
  rw [e2]
  show (match intsL ((rs.map fun r => alw1 r (lv r row)).map Val.int) with | some (n :: ns) => some (Val.int (minL n ns)) | _ => none) = _
  rw [intsL_map]
  unfold alwP
  cases rs with
  | nil => exact absurd rfl ok.ne
  | cons r rs => rfl
theorem a_levels_behind {rs : List Rl} (ok : RsOk rs) (row : List Int) (c : Int) : f_levels_behind [rsV false rs, lvs rs row, .int c] = .ok (lvs rs (row ++ [c])) [none, none, none] := by
  have e1 : mLc (mZipM (mVar 1) (mVar 0)) (gTupV (gConsV (gV 3) (gConsV (gTupV (gConsV (gV 4) (gConsV (gV 5) gNilV)) 2) gNilV)) 2) mYes (mFun semMax2 [(mC (.int 0)), (mFun semSub [(mFun semAdd [(mVar 3), (mFun semMul [(mVar 2), (mVar 5)])]), (mC (.int 1))])]) [3, 4, 5] [some (rsV false rs), some (lvs rs row), some (.int c), none, none, none] =
      .ok (.lst true (rs.map fun r => .int (lv r (row ++ [c])))) [some (rsV false rs), some (lvs rs row), some (.int c), none, none, none] := by
    refine E_lcM1 (E_zipM (E_var rfl) (E_var rfl)) rfl (fun r hr => ⟨[some (rsV false rs), some (lvs rs row), some (.int c), some (.int (lv r row)), some (.int r.1), some (.int r.2)], rfl, ?_, rfl⟩) (by have := ok.len; omega)
    have k := ok.ok r hr
    rw [lv_snoc]
    have h1 : semMul [.int c, .int r.2] = some (.int (c * r.2)) := if_pos (mul_ok8 (by have := k.2.2.1; omega) (by have := k.2.2.2; omega))
    have h2 : semAdd [.int (lv r row), .int (c * r.2)] = some (.int (lv r row + c * r.2)) := rfl
    have h3 : semSub [.int (lv r row + c * r.2), .int 1] = some (.int (lv r row + c * r.2 - 1)) := rfl
    have h4 : semMax2 [.int 0, .int (lv r row + c * r.2 - 1)] = some (.int (lev1 r (lv r row) c)) := rfl
    exact E_f2 E_c (E_f2 (E_f2 (E_var rfl) (E_f2 (E_var rfl) (E_var rfl) h1) h2) E_c h3) h4
  refine E_body (ρ0 := [some (rsV false rs), some (lvs rs row), some (.int c), none, none, none]) rfl (E_ret (E_f1 e1 ?_))
  have e2 : (rs.map fun r => Val.int (lv r (row ++ [c]))) = (rs.map fun r => lv r (row ++ [c])).map Val.int := by simp
  rw [e2]
  show (if fzs ((rs.map fun r => lv r (row ++ [c])).map Val.int) = true then _ else _) = _
  rw [if_pos (fzs_ints _)]
  rfl

/-! the levels ahead of tick 0 -/
theorem z_first {rs : List Rl} (ok : RsOk rs) : semMulT [.tup [.int 0], .int (rs.length : Int)] = some (lvs rs []) := by
  have h0 : 0 < rs.length := List.length_pos_iff.mpr ok.ne
  have h3 := ok.len
  show (if [Val.int 0] ≠ [] ∧ 1 ≤ (rs.length : Int) ∧ (rs.length : Int) ≤ 1000 ∧ [Val.int 0].length ≤ 1000 ∧ fzs [Val.int 0] = true then some (Val.tup (List.replicate (rs.length : Int).toNat [Val.int 0]).flatten) else none) = _
  rw [if_pos ⟨by simp, by omega, by omega, by decide, rfl⟩]
  have e : ∀ l : List Rl, (List.replicate l.length [Val.int 0]).flatten = (l.map fun r => lv r []).map Val.int := by
    intro l
    induction l with
    | nil => rfl
    | cons r l ih => simp only [List.length_cons, List.replicate_succ, List.flatten_cons, ih]; rfl
  rw [Int.toNat_natCast, e]
  rfl
/-- is it kept from here on -/
def keptB (rs : List Rl) : List Int → List Int → Bool
  | _, [] => true
  | pre, c :: cs => decide (c ≤ alwP rs pre) && keptB rs (pre ++ [c]) cs
theorem kept_loop {rs : List Rl} (ok : RsOk rs) {row : List Int} : ∀ (cs pre : List Int) (x : Option Val), (keptB rs pre cs = true → ∃ y, forL (gV 3) m_is_kept_b1 (cs.map Val.int) [some (rsV false rs), some (iL false row), some (lvs rs pre), x] = .nx [some (rsV false rs), some (iL false row), some (lvs rs (pre ++ cs)), y]) ∧
    (keptB rs pre cs = false → ∃ y z, forL (gV 3) m_is_kept_b1 (cs.map Val.int) [some (rsV false rs), some (iL false row), some (lvs rs pre), x] = .rt (.bl false) [some (rsV false rs), some (iL false row), y, z])
  | [], pre, x => by simp [keptB, forL]
  | c :: cs, pre, x => by
    have ih := kept_loop ok (row := row) cs (pre ++ [c]) (some (.int c))
    have eg : gV 3 (.int c) [some (rsV false rs), some (iL false row), some (lvs rs pre), x] = some [some (rsV false rs), some (iL false row), some (lvs rs pre), some (.int c)] := rfl
    have ea : mCall f_allowed_at [.v ⟨true, true, (mStab (mVar 0))⟩, .v ⟨true, true, (mStab (mVar 2))⟩] [some (rsV false rs), some (iL false row), some (lvs rs pre), some (.int c)] = .ok (.int (alwP rs pre)) [some (rsV false rs), some (iL false row), some (lvs rs pre), some (.int c)] :=
      E_call2 (E_stab rfl (rsV_fz rs)) (E_stab rfl (lvs_fz rs pre)) (a_allowed_at ok pre)
    have et : mFun (semCmp fun i j => decide (j < i)) [(mVar 3), (mCall f_allowed_at [.v ⟨true, true, (mStab (mVar 0))⟩, .v ⟨true, true, (mStab (mVar 2))⟩])] [some (rsV false rs), some (iL false row), some (lvs rs pre), some (.int c)] = .ok (.bl (decide (alwP rs pre < c))) [some (rsV false rs), some (iL false row), some (lvs rs pre), some (.int c)] := E_f2 (E_var rfl) ea rfl
    by_cases hc : c ≤ alwP rs pre
    · have hd : decide (alwP rs pre < c) = false := by simp; omega
      rw [hd] at et
      have eb : m_is_kept_b1 [some (rsV false rs), some (iL false row), some (lvs rs pre), some (.int c)] = .nx [some (rsV false rs), some (iL false row), some (lvs rs (pre ++ [c])), some (.int c)] :=
        E_seq ((E_ifF et).trans E_next) (E_set (E_call3 (E_stab rfl (rsV_fz rs)) (E_stab rfl (lvs_fz rs pre)) (E_stab rfl rfl) (a_levels_behind ok pre c)) (by simp) rfl)
      have ek : keptB rs pre (c :: cs) = keptB rs (pre ++ [c]) cs := by simp [keptB, hc]
      have el : forL (gV 3) m_is_kept_b1 ((c :: cs).map Val.int) [some (rsV false rs), some (iL false row), some (lvs rs pre), x] = forL (gV 3) m_is_kept_b1 (cs.map Val.int) [some (rsV false rs), some (iL false row), some (lvs rs (pre ++ [c])), some (.int c)] := by
        rw [List.map_cons]
        conv => lhs; unfold forL
        rw [eg]
        show (match m_is_kept_b1 [some (rsV false rs), some (iL false row), some (lvs rs pre), some (.int c)] with | .nx ρ2 => forL (gV 3) m_is_kept_b1 (cs.map Val.int) ρ2 | .ct ρ2 => forL (gV 3) m_is_kept_b1 (cs.map Val.int) ρ2 | .bk ρ2 => .nx ρ2 | .rt v ρ2 => .rt v ρ2 | .exc e ρ2 => .exc e ρ2 | .bad => .bad) = _
        rw [eb]
      rw [ek, el]
      rw [List.append_assoc] at ih
      exact ih
    · have hd : decide (alwP rs pre < c) = true := by simp; omega
      rw [hd] at et
      have eb : m_is_kept_b1 [some (rsV false rs), some (iL false row), some (lvs rs pre), some (.int c)] = .rt (.bl false) [some (rsV false rs), some (iL false row), some (lvs rs pre), some (.int c)] := by
        have : mIfS (mFun (semCmp fun i j => decide (j < i)) [(mVar 3), (mCall f_allowed_at [.v ⟨true, true, (mStab (mVar 0))⟩, .v ⟨true, true, (mStab (mVar 2))⟩])]) (mRet (mC (.bl false))) mNext [some (rsV false rs), some (iL false row), some (lvs rs pre), some (.int c)] = .rt (.bl false) [some (rsV false rs), some (iL false row), some (lvs rs pre), some (.int c)] := (E_ifT et).trans (E_ret E_c)
        unfold m_is_kept_b1
        simp only [mSeq, this]
      have ek : keptB rs pre (c :: cs) = false := by simp [keptB, hc]
      refine ⟨fun h => (by rw [ek] at h; cases h), fun _ => ⟨some (lvs rs pre), some (.int c), ?_⟩⟩
      rw [List.map_cons]
      unfold forL
      rw [eg]
      show (match m_is_kept_b1 [some (rsV false rs), some (iL false row), some (lvs rs pre), some (.int c)] with | .nx ρ2 => forL (gV 3) m_is_kept_b1 (cs.map Val.int) ρ2 | .ct ρ2 => forL (gV 3) m_is_kept_b1 (cs.map Val.int) ρ2 | .bk ρ2 => .nx ρ2 | .rt v ρ2 => .rt v ρ2 | .exc e ρ2 => .exc e ρ2 | .bad => .bad) = _
      rw [eb]
theorem a_is_kept {rs : List Rl} (ok : RsOk rs) (row : List Int) : f_is_kept [rsV false rs, iL false row] = .ok (.bl (keptB rs [] row)) [none, none] := by
  have t1 : mSet 2 (mFun semMulT [(mTup [(mC (.int 0))]), (mFun semLen [(mVar 0)])]) [some (rsV false rs), some (iL false row), none, none] = .nx [some (rsV false rs), some (iL false row), some (lvs rs []), none] := by
    have e1 : mFun semLen [(mVar 0)] [some (rsV false rs), some (iL false row), none, none] = .ok (.int (rs.length : Int)) [some (rsV false rs), some (iL false row), none, none] := E_f1 (E_var rfl) (by rw [rsV, z_lenL, List.length_map])
    exact E_set (E_f2 (v := lvs rs []) (a := .tup [.int 0]) rfl e1 (z_first ok)) (by simp) rfl
  have it : mItemsL (mVar 1) [some (rsV false rs), some (iL false row), some (lvs rs []), none] = .ok (row.map Val.int) [some (rsV false rs), some (iL false row), some (lvs rs []), none] := E_itL (E_var rfl)
  have lp := kept_loop ok (row := row) row [] none
  cases hk : keptB rs [] row with
  | true =>
    obtain ⟨y, e⟩ := lp.1 hk
    refine E_body (ρ0 := [some (rsV false rs), some (iL false row), none, none]) (ρ' := [some (rsV false rs), some (iL false row), some (lvs rs ([] ++ row)), y]) rfl ?_
    unfold m_is_kept
    rw [seq_nx t1, seq_nx (E_for it e)]
    exact E_ret E_c
  | false =>
    obtain ⟨y, z, e⟩ := lp.2 hk
    refine E_body (ρ0 := [some (rsV false rs), some (iL false row), none, none]) (ρ' := [some (rsV false rs), some (iL false row), y, z]) rfl ?_
    unfold m_is_kept
    rw [seq_nx t1]
    have e2 := E_for it e
    simp only [mSeq, e2]
theorem keptB_iff {rs : List Rl} (ok : RsOk rs) : ∀ (row pre : List Int), keptB rs pre row = true ↔ ∀ r ∈ rs, kept1 r (lv r pre) row
  | [], pre => by simp [keptB, kept1]
  | c :: row, pre => by
    have ih := keptB_iff ok row (pre ++ [c])
    have e : keptB rs pre (c :: row) = (decide (c ≤ alwP rs pre) && keptB rs (pre ++ [c]) row) := rfl
    rw [e, Bool.and_eq_true, decide_eq_true_iff, ih, le_alwP ok.ne]
    constructor
    · rintro ⟨h1, h2⟩ r hr
      have := h2 r hr
      rw [lv_snoc] at this
      exact ⟨h1 r hr, this⟩
    · intro h
      refine ⟨fun r hr => (h r hr).1, fun r hr => ?_⟩
      rw [lv_snoc]
      exact (h r hr).2
theorem keptB_kept {rs : List Rl} (ok : RsOk rs) (row : List Int) : keptB rs [] row = true ↔ Kept rs row := keptB_iff ok row []
/-- is a row in a bound -/
theorem a_contains {rs : List Rl} (ok : RsOk rs) {row : List Int} (h : RowOk row) (hl : row.length ≤ 16000000) : f_Bound_contains [bdV false rs, iL false row] = .ok (.bl (keptB rs [] row)) [some (bdV false rs), none] := by
  have e0 := a_is_row h hl
  have e1 := a_is_kept ok row
  have e2 : semFld [0] "ruled" [bdV false rs] = some (rsV false rs) := by
    have : semFld [0] "ruled" [bdV false rs] = if (rsV false rs).fz = true then some (rsV false rs) else none := by kernel_rfl
    rw [this, if_pos (rsV_fz rs)]
  refine E_body (ρ0 := [some (bdV false rs), some (iL false row)]) (ρ' := [some (bdV false rs), some (iL false row)]) rfl (E_ret ?_)
  exact E_andB (E_call1 (E_stab rfl (iL_fz row)) e0) (E_call2 (E_f1 (E_var rfl) e2) (E_stab rfl (iL_fz row)) e1)
theorem in_bound {rs : List Rl} (ok : RsOk rs) {row : List Int} (h : RowOk row) (hl : row.length ≤ 16000000) (g : Bool → Bool) : mfIn g 0 f_Bound_contains [iL false row, bdV false rs] = .ok (.bl (g (keptB rs [] row))) [none, none] := by
  have e := a_contains ok h hl
  show (if 0 = 0 then boolR g (f_Bound_contains [bdV false rs, iL false row]) else .bad) = _
  rw [if_pos rfl, e]
  rfl
theorem fl_ruled (rs : List Rl) : semFld [0] "ruled" [bdV false rs] = some (rsV false rs) := by
  have : semFld [0] "ruled" [bdV false rs] = if (rsV false rs).fz = true then some (rsV false rs) else none := by kernel_rfl
  rw [this, if_pos (rsV_fz rs)]
/-! ### levels along a row -/
/-- the levels behind a kept row are levels -/
theorem lv_in {rs : List Rl} (ok : RsOk rs) {row : List Int} (k : Kept rs row) {r : Rl} (hr : r ∈ rs) : 0 ≤ lv r row ∧ lv r row ≤ r.1 * r.2 :=
  ⟨lv_ge r row, kept1_lv (ok.ok r hr) (prod_ge (ok.ok r hr)) (k r hr)⟩
theorem a_are_levels {rs : List Rl} (ok : RsOk rs) {row : List Int} (k : Kept rs row) : f_are_levels [rsV false rs, lvs rs row] = .ok (.bl true) [none, none] := by
  have c1 : mOr (mNot (mFun (semIsi sub) [(mVar 1), (mC (.ty "tuple"))])) (mFun semNe [(mFun semLen [(mVar 1)]), (mFun semLen [(mVar 0)])]) [some (rsV false rs), some (lvs rs row), none, none, none] = .ok (.bl false) [some (rsV false rs), some (lvs rs row), none, none, none] := by
    have e1 : semLen [lvs rs row] = some (.int (rs.length : Int)) := by
      show some (Val.int (((rs.map fun r => lv r row).map Val.int).length : Int)) = _
      simp
    have e2 : semLen [rsV false rs] = some (.int (rs.length : Int)) := by rw [rsV, z_lenL, List.length_map]
    have e3 : semNe [.int (rs.length : Int), .int (rs.length : Int)] = some (.bl false) := by simp
    exact E_orF (E_notF (E_f2 (E_var rfl) E_c (by kernel_rfl))) (E_f2 (E_f1 (E_var rfl) e1) (E_f1 (E_var rfl) e2) e3)
  have c2 : mLc (mZipM (mVar 1) (mVar 0)) (gTupV (gConsV (gV 2) (gConsV (gTupV (gConsV (gV 3) (gConsV (gV 4) gNilV)) 2) gNilV)) 2) mYes (mCall f_is_between [.v ⟨true, true, (mStab (mVar 2))⟩, .v ⟨true, true, (mC (.int 0))⟩, .v ⟨true, true, (mFun semMul [(mVar 3), (mVar 4)])⟩]) [2, 3, 4] [some (rsV false rs), some (lvs rs row), none, none, none] =
      .ok (.lst true (rs.map fun _ => .bl true)) [some (rsV false rs), some (lvs rs row), none, none, none] := by
    refine E_lcM1 (E_zipM (E_var rfl) (E_var rfl)) rfl (fun r hr => ⟨[some (rsV false rs), some (lvs rs row), some (.int (lv r row)), some (.int r.1), some (.int r.2)], rfl, ?_, rfl⟩) (by have := ok.len; omega)
    have k1 := ok.ok r hr
    obtain ⟨h1, h2⟩ := lv_in ok k hr
    have e1 : semMul [.int r.1, .int r.2] = some (.int (r.1 * r.2)) := if_pos (mul_ok8 (by have := k1.2.2.1; omega) (by have := k1.2.2.2; omega))
    have e2 := a_is_between (lv r row) 0 (r.1 * r.2)
    rw [show (decide (0 ≤ lv r row) && decide (lv r row ≤ r.1 * r.2)) = true by simp [h1, h2]] at e2
    exact E_call3 (E_stab rfl rfl) E_c (E_f2 (E_var rfl) (E_var rfl) e1) e2
  have c3 : semAll [.lst true (rs.map fun _ => Val.bl true)] = some (.bl true) := all_true fun x hx => by
    obtain ⟨_, _, rfl⟩ := List.mem_map.mp hx; rfl
  refine E_body (ρ0 := [some (rsV false rs), some (lvs rs row), none, none, none]) (ρ' := [some (rsV false rs), some (lvs rs row), none, none, none]) rfl ?_
  unfold m_are_levels
  rw [seq_nx ((E_ifF c1).trans E_next)]
  exact E_ret (E_f1 c2 c3)
theorem a_check_bound (rs : List Rl) : f_check_bound [bdV false rs] = .ok .non [none] := by
  have c1 : mNot (mFun (semIsi sub) [(mVar 0), (mC (.cn 0))]) [some (bdV false rs)] = .ok (.bl false) [some (bdV false rs)] := E_notF (E_f2 (E_var rfl) E_c (by kernel_rfl))
  exact E_bodyN (ρ0 := [some (bdV false rs)]) (ρ' := [some (bdV false rs)]) rfl ((E_ifF c1).trans E_next)
theorem a_check_levels {rs : List Rl} (ok : RsOk rs) {row : List Int} (k : Kept rs row) : f_check_levels [bdV false rs, lvs rs row] = .ok .non [none, none] := by
  refine E_bodyN (ρ0 := [some (bdV false rs), some (lvs rs row)]) (ρ' := [some (bdV false rs), some (lvs rs row)]) rfl ?_
  unfold m_check_levels
  rw [seq_nx (E_drop (E_call1 (E_stab rfl (bdV_fz rs)) (a_check_bound rs)))]
  exact (E_ifF (E_notF (E_call2 (E_f1 (E_var rfl) (fl_ruled rs)) (E_stab rfl (lvs_fz rs row)) (a_are_levels ok k)))).trans E_next
theorem a_allowed {rs : List Rl} (ok : RsOk rs) {row : List Int} (k : Kept rs row) : f_allowed [bdV false rs, lvs rs row] = .ok (.int (alwP rs row)) [none, none] := by
  refine E_body (ρ0 := [some (bdV false rs), some (lvs rs row)]) (ρ' := [some (bdV false rs), some (lvs rs row)]) rfl ?_
  unfold m_allowed
  rw [seq_nx (E_drop (E_call2 (E_stab rfl (bdV_fz rs)) (E_stab rfl (lvs_fz rs row)) (a_check_levels ok k)))]
  exact E_ret (E_call2 (E_f1 (E_var rfl) (fl_ruled rs)) (E_stab rfl (lvs_fz rs row)) (a_allowed_at ok row))
theorem a_first_levels {rs : List Rl} (ok : RsOk rs) : f_first_levels [bdV false rs] = .ok (lvs rs []) [none] := by
  refine E_body (ρ0 := [some (bdV false rs)]) (ρ' := [some (bdV false rs)]) rfl ?_
  unfold m_first_levels
  rw [seq_nx (E_drop (E_call1 (E_stab rfl (bdV_fz rs)) (a_check_bound rs)))]
  exact E_ret (E_f2 (a := .tup [.int 0]) rfl (E_f1 (E_f1 (E_var rfl) (fl_ruled rs)) (show semLen [rsV false rs] = some (.int (rs.length : Int)) by rw [rsV, z_lenL, List.length_map])) (z_first ok))
theorem a_next_levels {rs : List Rl} (ok : RsOk rs) {row : List Int} {c : Int} (h0 : 0 ≤ c) (k : Kept rs (row ++ [c])) : f_next_levels [bdV false rs, lvs rs row, .int c] = .ok (lvs rs (row ++ [c])) [none, none, none] := by
  have k0 : Kept rs row := fun r hr => (kept1_app.mp (k r hr)).1
  have hc : c ≤ alwP rs row := (le_alwP ok.ne row c).mpr fun r hr => (kept1_app.mp (k r hr)).2.1
  have e1 := a_is_between c 0 (alwP rs row)
  rw [show (decide (0 ≤ c) && decide (c ≤ alwP rs row)) = true by simp [h0, hc]] at e1
  have e2 : f_check_between [.int c, .int 0, .int (alwP rs row)] = .ok .non [none, none, none] :=
    E_bodyN (ρ0 := [some (.int c), some (.int 0), some (.int (alwP rs row))]) (ρ' := [some (.int c), some (.int 0), some (.int (alwP rs row))]) rfl ((E_ifF (E_notF (E_call3 (E_stab rfl rfl) (E_stab rfl rfl) (E_stab rfl rfl) e1))).trans E_next)
  refine E_body (ρ0 := [some (bdV false rs), some (lvs rs row), some (.int c)]) (ρ' := [some (bdV false rs), some (lvs rs row), some (.int c)]) rfl ?_
  unfold m_next_levels
  rw [seq_nx (E_drop (E_call2 (E_stab rfl (bdV_fz rs)) (E_stab rfl (lvs_fz rs row)) (a_check_levels ok k0)))]
  rw [seq_nx (E_drop (E_call3 (E_stab rfl rfl) E_c (E_call2 (E_f1 (E_var rfl) (fl_ruled rs)) (E_stab rfl (lvs_fz rs row)) (a_allowed_at ok row)) e2))]
  exact E_ret (E_call3 (E_f1 (E_var rfl) (fl_ruled rs)) (E_stab rfl (lvs_fz rs row)) (E_stab rfl rfl) (a_levels_behind ok row c))
theorem levels_loop {rs : List Rl} (ok : RsOk rs) {all : List Int} (h0 : ∀ c ∈ all, 0 ≤ c) : ∀ (cs pre : List Int) (x : Option Val), Kept rs (pre ++ cs) → (∀ c ∈ cs, 0 ≤ c) → ∃ y, forL (gV 3) m_levels_b1 (cs.map Val.int) [some (bdV false rs), some (iL false all), some (lvs rs pre), x] = .nx [some (bdV false rs), some (iL false all), some (lvs rs (pre ++ cs)), y]
  | [], pre, x, _, _ => ⟨x, by simp [forL]⟩
  | c :: cs, pre, x, k, hc => by
    have e : pre ++ c :: cs = (pre ++ [c]) ++ cs := by simp
    rw [e] at k ⊢
    obtain ⟨y, ih⟩ := levels_loop ok (all := all) h0 cs (pre ++ [c]) (some (.int c)) k fun d hd => hc d (List.mem_cons_of_mem _ hd)
    have k1 : Kept rs (pre ++ [c]) := fun r hr => (kept1_app.mp (k r hr)).1
    refine ⟨y, E_forC (ρ1 := [some (bdV false rs), some (iL false all), some (lvs rs pre), some (.int c)]) rfl ?_ ih⟩
    exact E_set (E_call3 (E_stab rfl (bdV_fz rs)) (E_stab rfl (lvs_fz rs pre)) (E_stab rfl rfl) (a_next_levels ok (hc c List.mem_cons_self) k1)) (by simp) rfl
theorem a_levels {rs : List Rl} (ok : RsOk rs) {row : List Int} (k : Kept rs row) (h0 : ∀ c ∈ row, 0 ≤ c) : f_levels [bdV false rs, iL false row] = .ok (lvs rs row) [none, none] := by
  obtain ⟨y, e⟩ := levels_loop ok h0 row [] none k h0
  refine E_body (ρ0 := [some (bdV false rs), some (iL false row), none, none]) (ρ' := [some (bdV false rs), some (iL false row), some (lvs rs row), y]) rfl ?_
  unfold m_levels
  rw [seq_nx (E_set (ρ2 := [some (bdV false rs), some (iL false row), some (lvs rs []), none]) (E_call1 (E_stab rfl (bdV_fz rs)) (a_first_levels ok)) (by simp) rfl), seq_nx (E_for (E_itL (E_var rfl)) e)]
  exact E_ret (E_stab rfl (lvs_fz rs row))
/-! ### how many things may come -/
theorem take_sum {row : List Int} {k : Nat} (h : k < row.length) : (row.reverse.take (k + 1)).sum = (row.reverse.take k).sum + row[row.length - 1 - k] := by
  have hk : k < row.reverse.length := by simpa using h
  rw [List.take_succ_eq_append_getElem hk, List.sum_append, List.getElem_reverse]
  simp
theorem may_inner {row : List Int} (hl : row.length ≤ 1000) (R : Val) (r : Rl) (ok : RlOk r) (f : Int) (x6 : Option Val) : ∃ y5 y6, mFor (mRng1 (mFun semAdd [(mFun semLen [(mVar 1)]), (mC (.int 1))])) (gV 6) m_may_come_b1 [some R, some (iL true row), some (.int f), some (.int r.1), some (.int r.2), some (.int 0), x6] =
    .nx [some R, some (iL true row), some (.int (fnd r row.reverse f (row.length + 1))), some (.int r.1), some (.int r.2), y5, y6] := by
  have z := R_forN (n := row.length + 1) (g := gV 6) (body := m_may_come_b1) (ρ := [some R, some (iL true row), some (.int f), some (.int r.1), some (.int r.2), some (.int 0), x6]) (ρ1 := [some R, some (iL true row), some (.int f), some (.int r.1), some (.int r.2), some (.int 0), x6])
    (mi := mRng1 (mFun semAdd [(mFun semLen [(mVar 1)]), (mC (.int 1))])) (J := fun k ρ => ∃ x, ρ = [some R, some (iL true row), some (.int (fnd r row.reverse f k)), some (.int r.1), some (.int r.2), some (.int ((row.reverse.take (k - 1)).sum)), x])
    (E_rng1 (n := row.length + 1) (E_f2 (E_f1 (E_var rfl) (len_ints row)) E_c rfl) (by omega)) ⟨x6, by simp [fnd]⟩ fun k ρ hk ⟨x, hρ⟩ => by
      subst hρ
      refine ⟨[some R, some (iL true row), some (.int (fnd r row.reverse f k)), some (.int r.1), some (.int r.2), some (.int ((row.reverse.take (k - 1)).sum)), some (.int (k : Int))], rfl, ?_⟩
      have t1 : mIfS (mFun (semCmp fun i j => decide (j < i)) [(mVar 6), (mC (.int 0))]) (mSet 5 (mFun semAdd [(mVar 5), (mFun semIx [(mVar 1), (mFun semSub [(mFun semLen [(mVar 1)]), (mVar 6)])])])) mNext [some R, some (iL true row), some (.int (fnd r row.reverse f k)), some (.int r.1), some (.int r.2), some (.int ((row.reverse.take (k - 1)).sum)), some (.int (k : Int))] =
          .nx [some R, some (iL true row), some (.int (fnd r row.reverse f k)), some (.int r.1), some (.int r.2), some (.int ((row.reverse.take k).sum)), some (.int (k : Int))] := by
        have ec : mFun (semCmp fun i j => decide (j < i)) [(mVar 6), (mC (.int 0))] [some R, some (iL true row), some (.int (fnd r row.reverse f k)), some (.int r.1), some (.int r.2), some (.int ((row.reverse.take (k - 1)).sum)), some (.int (k : Int))] = .ok (.bl (decide ((0 : Int) < (k : Int)))) [some R, some (iL true row), some (.int (fnd r row.reverse f k)), some (.int r.1), some (.int r.2), some (.int ((row.reverse.take (k - 1)).sum)), some (.int (k : Int))] := E_f2 (E_var rfl) E_c rfl
        cases k with
        | zero => exact (E_ifF ec).trans rfl
        | succ k =>
          rw [show decide ((0 : Int) < ((k + 1 : Nat) : Int)) = true by simp <;> omega] at ec
          have hk' : k < row.length := by omega
          have hi : row.length - 1 - k < row.length := by omega
          have ix : semIx [iL true row, .int ((row.length : Int) - ((k + 1 : Nat) : Int))] = some (.int (row[row.length - 1 - k])) := by
            have e1 : atI (row.map Val.int) ((row.length : Int) - ((k + 1 : Nat) : Int)) = some (.int (row[row.length - 1 - k])) := by
              have e2 : ((row.length : Int) - ((k + 1 : Nat) : Int)) = ((row.length - 1 - k : Nat) : Int) := by omega
              rw [e2]
              exact atI_nat (by rw [List.getElem?_map, List.getElem?_eq_getElem hi]; rfl)
            show (match atI (row.map Val.int) ((row.length : Int) - ((k + 1 : Nat) : Int)) with | some v => if v.fz = true then some v else none | none => none) = _
            rw [e1]; rfl
          refine (E_ifT ec).trans (E_set (E_f2 (E_var rfl) (E_f2 (E_var rfl) (E_f2 (E_f1 (E_var rfl) (len_ints row)) (E_var rfl) rfl) ix) rfl) (by simp) ?_)
          rw [take_sum hk', Nat.add_sub_cancel]
          rfl
      have hd : semDiv [.int (k : Int), .int r.2] = some (.int ((k : Int) / r.2)) := if_pos (div_ok12 ok.2.2.1 ok.2.2.2)
      have ha : semAdd [.int r.1, .int ((k : Int) / r.2)] = some (.int (r.1 + (k : Int) / r.2)) := rfl
      have hs : semSub [.int (r.1 + (k : Int) / r.2), .int ((row.reverse.take k).sum)] = some (.int (bk1 r row.reverse k)) := rfl
      have hm : semMin2 [.int (fnd r row.reverse f k), .int (bk1 r row.reverse k)] = some (.int (fnd r row.reverse f (k + 1))) := rfl
      have e3 : mFun semMin2 [(mFun semInt [(mVar 2)]), (mFun semInt [(mFun semSub [(mFun semAdd [(mVar 3), (mFun semDiv [(mVar 6), (mVar 4)])]), (mVar 5)])])] [some R, some (iL true row), some (.int (fnd r row.reverse f k)), some (.int r.1), some (.int r.2), some (.int ((row.reverse.take k).sum)), some (.int (k : Int))] = .ok (.int (fnd r row.reverse f (k + 1))) [some R, some (iL true row), some (.int (fnd r row.reverse f k)), some (.int r.1), some (.int r.2), some (.int ((row.reverse.take k).sum)), some (.int (k : Int))] :=
        E_f2 (E_f1 (E_var rfl) rfl) (E_f1 (E_f2 (E_f2 (E_var rfl) (E_f2 (E_var rfl) (E_var rfl) hd) ha) (E_var rfl) hs) rfl) hm
      exact R_seq t1 (R_setE e3 (by simp) rfl ⟨some (.int (k : Int)), by rw [Nat.add_sub_cancel]; rfl⟩)
  obtain ⟨_, e, x, rfl⟩ := z
  exact ⟨_, _, e⟩
theorem may_outer {row : List Int} (hl : row.length ≤ 1000) (R : Val) : ∀ (rs : List Rl) (f : Int) (x3 x4 x5 x6 : Option Val), (∀ r ∈ rs, RlOk r) → ∃ y3 y4 y5 y6, forL (gTupV (gConsV (gV 3) (gConsV (gV 4) gNilV)) 2) m_may_come_b2 (rs.map rV) [some R, some (iL true row), some (.int f), x3, x4, x5, x6] = .nx [some R, some (iL true row), some (.int (mayC row rs f)), y3, y4, y5, y6]
  | [], f, x3, x4, x5, x6, _ => ⟨x3, x4, x5, x6, rfl⟩
  | r :: rs, f, x3, x4, x5, x6, h => by
    obtain ⟨y5, y6, e⟩ := may_inner hl R r (h r List.mem_cons_self) f x6
    obtain ⟨z3, z4, z5, z6, e2⟩ := may_outer hl R rs (fnd r row.reverse f (row.length + 1)) (some (.int r.1)) (some (.int r.2)) y5 y6 fun q hq => h q (List.mem_cons_of_mem _ hq)
    refine ⟨z3, z4, z5, z6, E_forC (ρ1 := [some R, some (iL true row), some (.int f), some (.int r.1), some (.int r.2), x5, x6]) rfl ?_ e2⟩
    exact E_seq (E_set (ρ2 := [some R, some (iL true row), some (.int f), some (.int r.1), some (.int r.2), some (.int 0), x6]) E_c (by simp) rfl) e
theorem a_may_come {rs : List Rl} (ok : RsOk rs) {row : List Int} (hl : row.length ≤ 1000) : f_may_come [rsV false rs, iL true row] = .ok (.int (mayC row rs 99)) [none, some (iL true row)] := by
  obtain ⟨y3, y4, y5, y6, e⟩ := may_outer hl (rsV false rs) rs 99 none none none none ok.ok
  refine E_body (ρ0 := [some (rsV false rs), some (iL true row), none, none, none, none, none]) (ρ' := [some (rsV false rs), some (iL true row), some (.int (mayC row rs 99)), y3, y4, y5, y6]) rfl ?_
  unfold m_may_come
  rw [seq_nx (E_set (ρ2 := [some (rsV false rs), some (iL true row), some (.int 99), none, none, none, none]) E_c (by simp) rfl), seq_nx (E_for (E_itL (E_var rfl)) e)]
  exact E_ret (E_stab rfl rfl)
/-! ### a drawn row that keeps the rules -/
structure KRow (rs : List Rl) (row : List Int) : Prop where
  kept : Kept rs row
  pos : ∀ c ∈ row, 0 ≤ c ∧ c ≤ 8
theorem KRow.rowOk {rs : List Rl} {row : List Int} (k : KRow rs row) : RowOk row := fun c hc => ⟨(k.pos c hc).1, by have := (k.pos c hc).2; omega⟩
theorem E_appN {i : Nat} {ρ ρ1 ρ' : VEnv} {m : ME} {v : Val} {xs ys : List Val} (h00 : ρ[i]? = some (some (.lst true ys))) (h : m ρ = .ok v ρ1) (h0 : ρ1[i]? = some (some (.lst true xs))) (hl : xs.length < 1000000) (e : ρ1.set i (some (.lst true (xs ++ [v]))) = ρ') : mDrop (mLopN i fApp m) ρ = .nx ρ' := by
  have h2 : fApp xs v = some (xs ++ [v]) := if_pos (by omega)
  simp only [mDrop, mLopN, h00, h, h0, h2, e]
theorem a_row {rs : List Rl} (ok : RsOk rs) {s : Val} (hs : Stm s) {n : Nat} (hn : n ≤ 900) : ∃ (row : List Int) (s' : Val), KRow rs row ∧ row.length = n ∧ Stm s' ∧ f_row [s, rsV false rs, .int (n : Int)] = .ok (iL false row) [some s', none, none] := by
  have z := R_forN (n := n) (g := gV 4) (body := m_row_b1) (mi := mRng1 (mVar 2)) (ρ := [some s, some (rsV false rs), some (.int (n : Int)), some (iL true []), none, none]) (ρ1 := [some s, some (rsV false rs), some (.int (n : Int)), some (iL true []), none, none])
    (J := fun k ρ => ∃ (s : Val) (row : List Int) (x4 x5 : Option Val), Stm s ∧ KRow rs row ∧ row.length = k ∧ ρ = [some s, some (rsV false rs), some (.int (n : Int)), some (iL true row), x4, x5])
    (E_rng1 (n := n) (E_var rfl) (by omega)) ⟨s, [], none, none, hs, ⟨fun r hr => trivial, fun c h => nomatch h⟩, rfl, rfl⟩ fun k ρ hk ⟨s, row, x4, x5, hs, kr, hl, hρ⟩ => by
      subst hρ
      refine ⟨[some s, some (rsV false rs), some (.int (n : Int)), some (iL true row), some (.int (k : Int)), x5], rfl, ?_⟩
      have e1 := a_may_come ok (row := row) (by omega)
      generalize hm : mayC row rs 99 = may at e1
      have le : ∀ x, x ≤ may ↔ x ≤ 99 ∧ ∀ r ∈ rs, x ≤ alw1 r (lv r row) := fun x => hm ▸ le_mayC row x rs 99 ok.ok
      have m0 : 0 ≤ may := (le 0).mpr ⟨by decide, kept_zero ok.ok kr.kept⟩
      have m8 : may ≤ 8 := by
        obtain ⟨r, rs', rfl⟩ := List.exists_cons_of_ne_nil ok.ne
        exact Int.le_trans (((le may).mp (Int.le_refl _)).2 r List.mem_cons_self) (alw1_most (ok.ok r List.mem_cons_self) row)
      have t1 : mCall f_may_come [.v ⟨true, true, (mStab (mVar 1))⟩, .r 3] [some s, some (rsV false rs), some (.int (n : Int)), some (iL true row), some (.int (k : Int)), x5] = .ok (.int may) [some s, some (rsV false rs), some (.int (n : Int)), some (iL true row), some (.int (k : Int)), x5] :=
        E_callG rfl (EM_cons (E_stab rfl (rsV_fz rs)) EM_nil) rfl e1 rfl
      refine R_seq (E_set (ρ2 := [some s, some (rsV false rs), some (.int (n : Int)), some (iL true row), some (.int (k : Int)), some (.int may)]) t1 (by simp) rfl) ?_
      obtain ⟨d, s1, d0, d1, hs1, ed⟩ := a_draw hs (c := may + 1) (by omega) (by omega)
      obtain ⟨v, s2, mv, hs2, ec⟩ := a_choose hs1 (xs := [.int 0, .int may, .int d]) (by simp) (by simp) rfl
      have t2 : mCall f_draw [.r 0, .v ⟨true, true, (mFun semAdd [(mVar 5), (mC (.int 1))])⟩] [some s, some (rsV false rs), some (.int (n : Int)), some (iL true row), some (.int (k : Int)), some (.int may)] = .ok (.int d) [some s1, some (rsV false rs), some (.int (n : Int)), some (iL true row), some (.int (k : Int)), some (.int may)] :=
        E_callR2 (E_f2 (E_var rfl) E_c rfl) rfl ⟨_, rfl⟩ ed rfl
      have t3 : mFz (mLst [(mC (.int 0)), (mStab (mVar 5)), (mCall f_draw [.r 0, .v ⟨true, true, (mFun semAdd [(mVar 5), (mC (.int 1))])⟩])]) [some s, some (rsV false rs), some (.int (n : Int)), some (iL true row), some (.int (k : Int)), some (.int may)] = .ok (.lst false [.int 0, .int may, .int d]) [some s1, some (rsV false rs), some (.int (n : Int)), some (iL true row), some (.int (k : Int)), some (.int may)] :=
        E_fz (E_lst3 E_c (E_stab rfl rfl) t2) (by simp)
      have t4 : mCall f_choose [.r 0, .v ⟨false, true, (mFz (mLst [(mC (.int 0)), (mStab (mVar 5)), (mCall f_draw [.r 0, .v ⟨true, true, (mFun semAdd [(mVar 5), (mC (.int 1))])⟩])]))⟩] [some s, some (rsV false rs), some (.int (n : Int)), some (iL true row), some (.int (k : Int)), some (.int may)] = .ok v [some s2, some (rsV false rs), some (.int (n : Int)), some (iL true row), some (.int (k : Int)), some (.int may)] :=
        E_callR2 t3 rfl ⟨_, rfl⟩ ec rfl
      obtain ⟨c, rfl, c0, c1⟩ : ∃ c, v = .int c ∧ 0 ≤ c ∧ c ≤ may := by
        simp at mv
        rcases mv with rfl | rfl | rfl
        · exact ⟨0, rfl, by omega, by omega⟩
        · exact ⟨may, rfl, by omega, by omega⟩
        · exact ⟨d, rfl, by omega, by omega⟩
      refine R_end (E_appN (xs := row.map Val.int) (ys := row.map Val.int) rfl t4 rfl (by simp; omega) rfl) ⟨s2, row ++ [c], _, _, hs2, ⟨kept_snoc kr.kept ((le c).mp c1).2, fun q hq => ?_⟩, by simp [hl], by simp [iL]; exact ⟨rfl, rfl⟩⟩
      rcases List.mem_append.mp hq with h | h
      · exact kr.pos q h
      · rw [List.mem_singleton.mp h]; exact ⟨c0, by omega⟩
  obtain ⟨_, e, s', row, x4, x5, hs', kr, hl, rfl⟩ := z
  refine ⟨row, s', kr, hl, hs', E_body (ρ0 := [some s, some (rsV false rs), some (.int (n : Int)), none, none, none]) (ρ' := [some s', some (rsV false rs), some (.int (n : Int)), some (iL false row), x4, x5]) rfl ?_⟩
  unfold m_row
  rw [seq_nx (E_set (ρ2 := [some s, some (rsV false rs), some (.int (n : Int)), some (iL true []), none, none]) (m := mLst []) (ρ' := [some s, some (rsV false rs), some (.int (n : Int)), none, none, none]) (v := .lst true []) rfl (by simp) rfl), seq_nx e]
  exact E_ret (E_frz rfl (iL_frz true row) rfl)
/-! ### drawn rules -/
theorem rV_inj {p q : Rl} (h : rV p = rV q) : p = q := by
  obtain ⟨a, b⟩ := p
  obtain ⟨c, d⟩ := q
  simp [rV] at h
  rw [h.1, h.2]
def rD (r : Rl) : PyData := .tuple [.int r.1, .int r.2]
theorem toD_rV (r : Rl) : toD (rV r) = some (rD r) := by simp [rV, toD, toDs, rD]
theorem toDs_rV : ∀ L : List Rl, toDs (L.map rV) = some (L.map rD)
  | [] => rfl
  | r :: L => by simp [toDs, toD_rV, toDs_rV L]
theorem eqv_rD (p q : Rl) : PyData.eqv (rD p) (rD q) = decide (p = q) := by
  obtain ⟨a, b⟩ := p
  obtain ⟨c, d⟩ := q
  rw [Bool.eq_iff_iff]
  simp [rD, PyData.eqv, PyData.eqvAll, Prod.ext_iff]
theorem shaped_rD (r : Rl) : SeqAt.shaped (rD r) = true := by
  obtain ⟨a, b⟩ := r
  rfl
theorem shaped_rDs {L : List Rl} (h : L.length ≤ 3) : SeqAt.shaped (.list (L.map rD)) = true := by
  match L, h with
  | [], _ => rfl
  | [a], _ => rfl
  | [a, b], _ => rfl
  | [a, b, c], _ => rfl
  | _ :: _ :: _ :: _ :: _, h => simp at h
theorem sem_inP {o : Bool} {L : List Rl} (h : L.length ≤ 3) (r : Rl) : semInP true [rV r, .lst o (L.map rV)] = some (.bl (!(decide (r ∈ L)))) := by
  show (match toD (rV r), toDs (L.map rV) with | some d, some ds => (if SeqAt.shaped d = true ∧ SeqAt.shaped (.list ds) = true then some (Val.bl (xor true (ds.any fun z => PyData.eqv z d))) else none) | _, _ => none) = _
  rw [toD_rV, toDs_rV]
  show (if SeqAt.shaped (rD r) = true ∧ SeqAt.shaped (.list (L.map rD)) = true then some (Val.bl (xor true ((L.map rD).any fun z => PyData.eqv z (rD r)))) else none) = _
  rw [if_pos ⟨shaped_rD r, shaped_rDs h⟩]
  have e : ((L.map rD).any fun z => PyData.eqv z (rD r)) = decide (r ∈ L) := by
    induction L with
    | nil => rfl
    | cons q L ih =>
      have ih := ih (by simp at h; omega)
      rw [List.map_cons, List.any_cons, ih, eqv_rD]
      by_cases e : q = r
      · subst e; simp
      · have e' : ¬ r = q := fun z => e z.symm
        simp [e, e']
  rw [e]
  simp
structure Rules (rs : List Rl) : Prop extends RsOk rs where
  nd : rs.Nodup
theorem a_three {s : Val} (hs : Stm s) {M E : Int} (hM : 1 ≤ M ∧ M ≤ 8) (hE : 1 ≤ E ∧ E ≤ 12) : ∃ (rs : List Rl) (s' : Val), Rules rs ∧ (∀ r ∈ rs, r.1 ≤ M ∧ r.2 ≤ E) ∧ Stm s' ∧ f_three [s, .int M, .int E] = .ok (rsV false rs) [some s', none, none] := by
  obtain ⟨d, s1, d0, d1, hs1, ed⟩ := a_draw hs (c := 3) (by omega) (by omega)
  obtain ⟨n, rfl⟩ := Int.eq_ofNat_of_zero_le d0
  have z := R_forN (n := n + 1) (g := gV 4) (body := m_three_b1) (mi := mRng1 (mFun semAdd [(mC (.int 1)), (mCall f_draw [.r 0, .v ⟨true, true, (mC (.int 3))⟩])])) (ρ := [some s, some (.int M), some (.int E), some (.lst true []), none, none]) (ρ1 := [some s1, some (.int M), some (.int E), some (.lst true []), none, none])
    (J := fun k ρ => ∃ (s : Val) (L : List Rl) (x4 x5 : Option Val), Stm s ∧ L.Nodup ∧ (∀ r ∈ L, 1 ≤ r.1 ∧ r.1 ≤ M ∧ 1 ≤ r.2 ∧ r.2 ≤ E) ∧ L.length ≤ k ∧ (1 ≤ k → L ≠ []) ∧ ρ = [some s, some (.int M), some (.int E), some (.lst true (L.map rV)), x4, x5])
    (E_rng1 (n := n + 1) (by
      have e := E_f2 (sm := semAdd) (m1 := mC (.int 1)) (ρ := [some s, some (.int M), some (.int E), some (.lst true []), none, none]) E_c (E_callR2 (p1 := true) (s1 := true) (m := mC (.int 3)) (f := f_draw) (i := 0) (a := s) (b := .int 3) (ρ1 := [some s, some (.int M), some (.int E), some (.lst true []), none, none]) E_c rfl ⟨_, rfl⟩ ed rfl) (v := .int (1 + (n : Int))) rfl
      rw [show ((n + 1 : Nat) : Int) = 1 + (n : Int) by omega]
      exact e) (by omega)) ⟨s1, [], none, none, hs1, List.nodup_nil, fun r h => (nomatch h), Nat.le_refl _, fun h => absurd h (by decide), rfl⟩ fun k ρ hk ⟨s, L, x4, x5, hs, nd, hr, hl, hne, hρ⟩ => by
      subst hρ
      refine ⟨[some s, some (.int M), some (.int E), some (.lst true (L.map rV)), some (.int (k : Int)), x5], rfl, ?_⟩
      obtain ⟨a, t1, a0, a1, ht1, ea⟩ := a_draw hs (c := M) (by omega) (by omega)
      obtain ⟨b, t2, b0, b1, ht2, eb⟩ := a_draw ht1 (c := E) (by omega) (by omega)
      have u1 : mFun semAdd [(mC (.int 1)), (mCall f_draw [.r 0, .v ⟨true, true, (mStab (mVar 1))⟩])] [some s, some (.int M), some (.int E), some (.lst true (L.map rV)), some (.int (k : Int)), x5] = .ok (.int (1 + a)) [some t1, some (.int M), some (.int E), some (.lst true (L.map rV)), some (.int (k : Int)), x5] :=
        E_f2 E_c (E_callR2 (E_stab rfl rfl) rfl ⟨_, rfl⟩ ea rfl) rfl
      have u2 : mFun semAdd [(mC (.int 1)), (mCall f_draw [.r 0, .v ⟨true, true, (mStab (mVar 2))⟩])] [some t1, some (.int M), some (.int E), some (.lst true (L.map rV)), some (.int (k : Int)), x5] = .ok (.int (1 + b)) [some t2, some (.int M), some (.int E), some (.lst true (L.map rV)), some (.int (k : Int)), x5] :=
        E_f2 E_c (E_callR2 (E_stab rfl rfl) rfl ⟨_, rfl⟩ eb rfl) rfl
      have u3 : mTup [(mFun semAdd [(mC (.int 1)), (mCall f_draw [.r 0, .v ⟨true, true, (mStab (mVar 1))⟩])]), (mFun semAdd [(mC (.int 1)), (mCall f_draw [.r 0, .v ⟨true, true, (mStab (mVar 2))⟩])])] [some s, some (.int M), some (.int E), some (.lst true (L.map rV)), some (.int (k : Int)), x5] = .ok (rV (1 + a, 1 + b)) [some t2, some (.int M), some (.int E), some (.lst true (L.map rV)), some (.int (k : Int)), x5] :=
        E_tupM (EM_cons u1 (EM_cons u2 EM_nil))
      refine R_seq (E_set (ρ2 := [some t2, some (.int M), some (.int E), some (.lst true (L.map rV)), some (.int (k : Int)), some (rV (1 + a, 1 + b))]) u3 (by simp) rfl) ?_
      have e1 := sem_inP (o := true) (L := L) (by omega) (1 + a, 1 + b)
      have c1 : mFun (semInP true) [(mVar 5), (mVar 3)] [some t2, some (.int M), some (.int E), some (.lst true (L.map rV)), some (.int (k : Int)), some (rV (1 + a, 1 + b))] = .ok (.bl (!(decide ((1 + a, 1 + b) ∈ L)))) [some t2, some (.int M), some (.int E), some (.lst true (L.map rV)), some (.int (k : Int)), some (rV (1 + a, 1 + b))] := E_f2 (E_var rfl) (E_var rfl) e1
      by_cases hm : (1 + a, 1 + b) ∈ L
      · rw [show (!(decide ((1 + a, 1 + b) ∈ L))) = false by simp [hm]] at c1
        exact R_end ((E_ifF c1).trans E_next) ⟨t2, L, _, _, ht2, nd, hr, by omega, fun _ z => (by rw [z] at hm; cases hm), rfl⟩
      · rw [show (!(decide ((1 + a, 1 + b) ∈ L))) = true by simp [hm]] at c1
        refine R_end ((E_ifT c1).trans (E_app (xs := L.map rV) (E_stab rfl rfl) rfl (by simp; omega) rfl)) ⟨t2, L ++ [(1 + a, 1 + b)], _, _, ht2, ?_, fun r hr' => ?_, by simp; omega, fun _ => by simp, by simp; exact ⟨rfl, rfl⟩⟩
        · rw [List.nodup_append]
          exact ⟨nd, by simp, fun x hx y hy => by rw [List.mem_singleton.mp hy]; exact fun z => hm (z ▸ hx)⟩
        · rcases List.mem_append.mp hr' with h | h
          · exact hr r h
          · rw [List.mem_singleton.mp h]; exact ⟨by show 1 ≤ 1 + a; omega, by show 1 + a ≤ M; omega, by show 1 ≤ 1 + b; omega, by show 1 + b ≤ E; omega⟩
  obtain ⟨_, e, s', L, x4, x5, hs', nd, hr, hl, hne, rfl⟩ := z
  refine ⟨L, s', ⟨⟨hne (by omega), by omega, fun r h => let ⟨p1, p2, p3, p4⟩ := hr r h; ⟨p1, by omega, p3, by omega⟩⟩, nd⟩, fun r h => ⟨(hr r h).2.1, (hr r h).2.2.2⟩, hs', E_body (ρ0 := [some s, some (.int M), some (.int E), none, none, none]) (ρ' := [some s', some (.int M), some (.int E), some (rsV false L), x4, x5]) rfl ?_⟩
  unfold m_three
  rw [seq_nx (E_set (ρ2 := [some s, some (.int M), some (.int E), some (.lst true []), none, none]) (m := mLst []) (ρ' := [some s, some (.int M), some (.int E), none, none, none]) (v := .lst true []) rfl (by simp) rfl), seq_nx e]
  refine E_ret (E_frz rfl (?_ : (Val.lst true (L.map rV)).frz = rsV false L) rfl)
  simp only [Val.frz, rsV]
  congr 1
  rw [frzs_map, List.map_map]
  apply List.map_congr_left
  intro r _
  rfl
/-! ### bounds made -/
theorem a_is_rule {r : Rl} (ok : RlOk r) : f_is_rule [rV r] = .ok (.bl true) [none] := by
  obtain ⟨m, e⟩ := r
  obtain ⟨h1, h2, h3, h4⟩ := ok
  have c1 : mOr (mNot (mFun (semIsi sub) [(mVar 0), (mC (.ty "tuple"))])) (mFun semNe [(mFun semLen [(mVar 0)]), (mC (.int 2))]) [some (rV (m, e))] = .ok (.bl false) [some (rV (m, e))] :=
    E_orF (E_notF (E_f2 (E_var rfl) E_c (by kernel_rfl))) (E_f2 (E_f1 (E_var rfl) rfl) E_c (ne_int _ _))
  have b1 := a_is_between m 1 8
  have b2 := a_is_between e 1 12
  rw [show (decide (1 ≤ m) && decide (m ≤ 8)) = true by simp; exact ⟨h1, h2⟩] at b1
  rw [show (decide (1 ≤ e) && decide (e ≤ 12)) = true by simp; exact ⟨h3, h4⟩] at b2
  refine E_body (ρ0 := [some (rV (m, e))]) (ρ' := [some (rV (m, e))]) rfl ?_
  unfold m_is_rule
  rw [seq_nx ((E_ifF c1).trans E_next)]
  exact E_ret (E_andB (E_call3 (E_f2 (E_var rfl) E_c rfl) E_c E_c b1) (E_call3 (E_f2 (E_var rfl) E_c rfl) E_c E_c b2))
theorem dcT_rules {ρ : VEnv} {g : MG} {km vm : ME} {own : List Nat} (h : ∀ r : Rl, ∃ ρ1, g (rV r) ρ = some ρ1 ∧ km ρ1 = .ok (rV r) ρ1 ∧ vm ρ1 = .ok (.bl true) ρ1 ∧ wipeV ρ1 own = ρ) : ∀ (rs done : List Rl), (done ++ rs).Nodup → (done ++ rs).length ≤ 1000 → dcT g mYes km vm own (rs.map rV) (done.map fun r => (rV r, Val.bl true)) ρ = .ok (dctT ((done ++ rs).map fun r => (rV r, Val.bl true))) ρ
  | [], done, _, _ => by simp [dcT]
  | r :: rs, done, nd, hl => by
    obtain ⟨ρ1, e1, e2, e3, e4⟩ := h r
    have hr : r ∉ done := fun z => by
      rw [List.nodup_append] at nd
      exact nd.2.2 r z r List.mem_cons_self rfl
    have eq : done ++ r :: rs = (done ++ [r]) ++ rs := by simp
    rw [eq] at nd hl ⊢
    have ih := dcT_rules h rs (done ++ [r]) nd hl
    have ep : putD (done.map fun r => (rV r, Val.bl true)) (rV r) (.bl true) = (done ++ [r]).map fun r => (rV r, Val.bl true) := by
      have no : ((done.map fun r => (rV r, Val.bl true)).any fun q => decide (q.1 = rV r)) = false := by
        rw [List.any_eq_false]
        intro q hq
        obtain ⟨p, hp, rfl⟩ := List.mem_map.mp hq
        simp only [decide_eq_true_eq]
        exact fun z => hr (rV_inj z ▸ hp)
      unfold putD
      rw [no, if_neg (by decide)]
      simp
    rw [List.map_cons]
    unfold dcT
    simp only [e1, mYes, if_true]
    simp only [e2, e3]
    rw [if_pos ⟨rfl, rfl, by simp at hl ⊢; omega⟩, e4, ep, ih]
theorem a_are_rules {rs : List Rl} (ok : Rules rs) : f_are_rules [rsV false rs] = .ok (.bl true) [none] := by
  have hl : semLen [rsV false rs] = some (.int (rs.length : Int)) := by rw [rsV, z_lenL, List.length_map]
  have h0 : 0 < rs.length := List.length_pos_iff.mpr ok.ne
  have h3 := ok.len
  have c0 : mChain (fun i j => decide (i ≤ j)) (fun i j => decide (i ≤ j)) (mC (.int 1)) (mFun semLen [(mVar 0)]) (mC (.int 3)) [some (rsV false rs), none] = .ok (.bl true) [some (rsV false rs), none] := by
    have ev : evalM [mC (.int 1), mFun semLen [(mVar 0)]] [some (rsV false rs), none] = .ok [.int 1, .int (rs.length : Int)] [some (rsV false rs), none] := EM_cons E_c (EM_cons (E_f1 (E_var rfl) hl) EM_nil)
    have d1 : decide ((1 : Int) ≤ (rs.length : Int)) = true := by simp; omega
    have d2 : decide ((rs.length : Int) ≤ 3) = true := by simp; omega
    unfold mChain
    rw [ev]
    simp only [d1, if_true, mC, d2]
  have c1 : mLc (mItemsL (mVar 0)) (gV 1) mYes (mCall f_is_rule [.v ⟨true, true, (mStab (mVar 1))⟩]) [1] [some (rsV false rs), none] = .ok (.lst true (rs.map fun _ => .bl true)) [some (rsV false rs), none] :=
    E_lcM1 (E_itL (E_var rfl)) rfl (fun r hr => ⟨[some (rsV false rs), some (rV r)], rfl, E_call1 (E_stab rfl rfl) (a_is_rule (ok.ok r hr)), rfl⟩) (by omega)
  have c2 : semAll [.lst true (rs.map fun _ => Val.bl true)] = some (.bl true) := all_true fun x hx => by
    obtain ⟨_, _, rfl⟩ := List.mem_map.mp hx; rfl
  have c3 : mFz (mDcT (mItemsL (mVar 0)) (gV 1) mYes (mVar 1) (mC (.bl true)) [1]) [some (rsV false rs), none] = .ok (.dct false .t (rs.map rV) (rs.map fun _ => .bl true)) [some (rsV false rs), none] := by
    have e := dcT_rules (ρ := [some (rsV false rs), none]) (g := gV 1) (km := mVar 1) (vm := mC (.bl true)) (own := [1]) (fun r => ⟨[some (rsV false rs), some (rV r)], rfl, E_var rfl, E_c, rfl⟩) rs [] (by simpa using ok.nd) (by simp; omega)
    have e2 : mDcT (mItemsL (mVar 0)) (gV 1) mYes (mVar 1) (mC (.bl true)) [1] [some (rsV false rs), none] = .ok (dctT (rs.map fun r => (rV r, Val.bl true))) [some (rsV false rs), none] := by
      unfold mDcT
      have ei : mItemsL (mVar 0) [some (rsV false rs), none] = .ok (rs.map rV) [some (rsV false rs), none] := E_itL (E_var rfl)
      rw [ei]
      exact e
    refine E_fz e2 ?_
    simp only [dctT, Val.frz, List.map_map]
    congr 1
    rw [frzs_map, List.map_map]
    exact List.map_congr_left fun r _ => rfl
  have c4 : semLenT [.dct false .t (rs.map rV) (rs.map fun _ => .bl true)] = some (.int (rs.length : Int)) := by
    show some (Val.int ((rs.map rV).length : Int)) = _
    rw [List.length_map]
  have c5 : semEq [.int (rs.length : Int), .int (rs.length : Int)] = some (.bl true) := by simp
  refine E_body (ρ0 := [some (rsV false rs), none]) (ρ' := [some (rsV false rs), none]) rfl ?_
  unfold m_are_rules
  rw [seq_nx ((E_ifF (E_orF (E_notF c0) (E_notF (E_f1 c1 c2)))).trans E_next)]
  exact E_ret (E_f2 (E_f1 c3 c4) (E_f1 (E_var rfl) hl) c5)
theorem init_with {m e : Int} {rest : List Rl} {also : Val} (ok : Rules ((m, e) :: rest)) (ha : semIsiT [also, .tup [.ty "list", .ty "tuple"]] = some (.bl true)) (hl : semList [also] = some (rsV true rest)) : f_Bound_init [.obj true 0 [] [], .int m, .int e, also] = .ok .non [some (bdV true ((m, e) :: rest)), none, none, none] := by
  obtain ⟨h1, h2, h3, h4⟩ := ok.ok _ List.mem_cons_self
  have b1 := a_is_between m 1 8
  have b2 := a_is_between e 1 12
  rw [show (decide (1 ≤ m) && decide (m ≤ 8)) = true by simp; exact ⟨h1, h2⟩] at b1
  rw [show (decide (1 ≤ e) && decide (e ≤ 12)) = true by simp; exact ⟨h3, h4⟩] at b2
  have hr : (rest.length : Int) ≤ 2 := by have := ok.len; simp at this; omega
  have sa : semAdd [.lst true [rV (m, e)], rsV true rest] = some (rsV true ((m, e) :: rest)) := by
    rw [rsV, z_addL, if_pos ⟨by simp; omega, rfl, rsV_fzs rest⟩]
    rfl
  have lst : mFun semAdd [(mLst [(mTup [(mStab (mVar 1)), (mStab (mVar 2))])]), (mFun semList [(mVar 3)])] [some (.obj true 0 [] []), some (.int m), some (.int e), some also] = .ok (rsV true ((m, e) :: rest)) [some (.obj true 0 [] []), some (.int m), some (.int e), some also] :=
    E_f2 (E_lstM (EM_cons (E_tupM (EM_cons (E_stab rfl rfl) (EM_cons (E_stab rfl rfl) EM_nil))) EM_nil)) (E_f1 (E_var rfl) hl) sa
  have fz : (rsV true ((m, e) :: rest)).frz = rsV false ((m, e) :: rest) := by
    simp only [Val.frz, rsV]
    congr 1
    rw [frzs_map, List.map_map]
    exact List.map_congr_left fun r _ => rfl
  refine E_bodyN (ρ0 := [some (.obj true 0 [] []), some (.int m), some (.int e), some also]) (ρ' := [some (bdV true ((m, e) :: rest)), some (.int m), some (.int e), some also]) rfl ?_
  unfold m_Bound_init
  rw [seq_nx ((E_ifF (E_notF (E_call3 (E_stab rfl rfl) E_c E_c b1))).trans E_next), seq_nx ((E_ifF (E_notF (E_call3 (E_stab rfl rfl) E_c E_c b2))).trans E_next)]
  rw [seq_nx ((E_ifF (E_orF (E_notF (E_f2 (E_var rfl) (E_tupM (EM_cons E_c (EM_cons E_c EM_nil))) ha)) (E_notF (E_call1 (E_fz lst fz) (a_are_rules ok))))).trans E_next)]
  unfold mSetF
  rw [lst]
  rfl
theorem make_with {m e : Int} {rest : List Rl} {also : Val} (ok : Rules ((m, e) :: rest)) (ha : semIsiT [also, .tup [.ty "list", .ty "tuple"]] = some (.bl true)) (hl : semList [also] = some (rsV true rest)) : mMake 0 f_Bound_init [.int m, .int e, also] = .ok (bdV true ((m, e) :: rest)) [none, none, none] := by
  unfold mMake
  rw [init_with ok ha hl]
theorem a_bound_of {rs : List Rl} (ok : Rules rs) : f_bound_of [rsV false rs] = .ok (bdV true rs) [none] := by
  obtain ⟨⟨m, e⟩, rest, rfl⟩ := List.exists_cons_of_ne_nil ok.ne
  have i0 : semIx [rsV false ((m, e) :: rest), .int 0] = some (rV (m, e)) := by
    have e1 : atI (((m, e) :: rest).map rV) 0 = some (rV (m, e)) := atI_nat (j := 0) rfl
    show (match atI (((m, e) :: rest).map rV) 0 with | some v => if v.fz = true then some v else none | none => none) = _
    rw [e1]; rfl
  have sl : semSlL [rsV false ((m, e) :: rest), .int 1] = some (rsV true rest) := by
    have h1 : cutL (((m, e) :: rest).map rV) (some 1) none = rest.map rV := by
      have h2 : ((1 : Int)) = ((1 : Nat) : Int) := rfl
      unfold cutL
      rw [h2, HT.sIx_none, HT.sIx_nat, Nat.min_eq_left (by simp), List.take_of_length_le (by simp)]
      rfl
    show (if fzs (((m, e) :: rest).map rV) = true then some (Val.lst true (cutL (((m, e) :: rest).map rV) (some 1) none)) else none) = _
    rw [if_pos (rsV_fzs _), h1]
    rfl
  have hl : semList [rsV false rest] = some (rsV true rest) := if_pos (rsV_fzs rest)
  have fz : (rsV true rest).frz = rsV false rest := by
    simp only [Val.frz, rsV]
    congr 1
    rw [frzs_map, List.map_map]
    exact List.map_congr_left fun r _ => rfl
  exact E_body (ρ0 := [some (rsV false ((m, e) :: rest))]) (ρ' := [some (rsV false ((m, e) :: rest))]) rfl (E_ret (E_call3 (E_f2 (E_f2 (E_var rfl) E_c i0) E_c rfl) (E_f2 (E_f2 (E_var rfl) E_c i0) E_c rfl) (E_fz (E_f2 (E_var rfl) E_c sl) fz) (make_with ok (by kernel_rfl) hl)))
theorem a_Bound_of {rs : List Rl} (ok : Rules rs) : f_Bound_of [rsV false rs] = .ok (bdV true rs) [none] := by
  refine E_body (ρ0 := [some (rsV false rs)]) (ρ' := [some (rsV false rs)]) rfl ?_
  unfold m_Bound_of
  rw [seq_nx ((E_ifF (E_orF (E_notF (E_f2 (E_var rfl) E_c (by kernel_rfl))) (E_notF (E_call1 (E_stab rfl (rsV_fz rs)) (a_are_rules ok))))).trans E_next)]
  exact E_ret (E_call1 (E_stab rfl (rsV_fz rs)) (a_bound_of ok))
theorem bdV_frz (rs : List Rl) : (bdV true rs).frz = bdV false rs := by
  simp only [Val.frz, bdV, frzs, rsV]
  congr 3
  rw [frzs_map, List.map_map]
  exact List.map_congr_left fun r _ => rfl
theorem rsV_frz (rs : List Rl) (o : Bool) : (rsV o rs).frz = rsV false rs := by
  simp only [Val.frz, rsV]
  congr 1
  rw [frzs_map, List.map_map]
  exact List.map_congr_left fun r _ => rfl
theorem a_bound {rs : List Rl} (ok : Rules rs) : f_bound [rsV false rs] = .ok (bdV true rs) [none] :=
  E_body (ρ0 := [some (rsV false rs)]) (ρ' := [some (rsV false rs)]) rfl (E_ret (E_call1 (E_fz (E_f1 (E_var rfl) (if_pos (rsV_fzs rs) : semList [rsV false rs] = some (rsV true rs))) (rsV_frz rs true)) (a_Bound_of ok)))
theorem rules_one {rs : List Rl} (ok : RsOk rs) {r : Rl} (hr : r ∈ rs) : Rules [r] := ⟨⟨by simp, by simp, fun q hq => by rw [List.mem_singleton.mp hq]; exact ok.ok r hr⟩, by simp⟩
theorem a_lone {r : Rl} (ok : Rules [r]) : mMake 0 f_Bound_init [.int r.1, .int r.2, .wtp []] = .ok (bdV true [r]) [none, none, none] := make_with (m := r.1) (e := r.2) (rest := []) ok (by kernel_rfl) rfl
end Gb
namespace Gb
open PySem L2 VL
/-! ### the law -/
theorem kept_part {rs : List Rl} (ok : RsOk rs) {row : List Int} (k : Kept rs row) (p n : Nat) : Kept rs ((row.drop p).take n) := fun r hr => by
  have e : row = row.take p ++ ((row.drop p).take n ++ (row.drop p).drop n) := by rw [List.take_append_drop, List.take_append_drop]
  have h := k r hr
  rw [e] at h
  exact kept1_mid (ok.ok r hr) h
theorem kept_take {rs : List Rl} (ok : RsOk rs) {row : List Int} (k : Kept rs row) (n : Nat) : Kept rs (row.take n) := by simpa using kept_part ok k 0 n
theorem kept_drop {rs : List Rl} (ok : RsOk rs) {row : List Int} (k : Kept rs row) (p : Nat) : Kept rs (row.drop p) := by
  have := kept_part ok k p (row.drop p).length
  rwa [List.take_of_length_le (Nat.le_refl _)] at this
theorem kept_less {rs : List Rl} (ok : RsOk rs) {a b : List Int} (s : Lss a b) (k : Kept rs b) : Kept rs a := fun r hr => kept1_mono (ok.ok r hr) s (Int.le_refl _) (k r hr)
theorem slB_ints {o : Bool} (xs : List Int) (p q : Nat) (hq : q ≤ xs.length) (hp : p ≤ q) : semSlB [iL o xs, .int (p : Int), .int (q : Int)] = some (iL true ((xs.drop p).take (q - p))) := by
  show (if fzs (xs.map Val.int) = true then some (Val.lst true (cutL (xs.map Val.int) (some (p : Int)) (some (q : Int)))) else none) = _
  rw [if_pos (fzs_ints xs), cut_ints]
  have : cutL xs (some (p : Int)) (some (q : Int)) = (xs.drop p).take (q - p) := by
    unfold cutL
    rw [HT.sIx_nat, HT.sIx_nat, Nat.min_eq_left hq, Nat.min_eq_left (Nat.le_trans hp hq)]
  rw [this]; rfl
theorem lcL_genR {α : Type} {g : MG} {tt me : ME} {own : List Nat} {F K : α → Val} {p : α → Bool} {ρ : VEnv} : ∀ {rs : List α} {acc : List Val}, (∀ r ∈ rs, ∃ ρ1, g (F r) ρ = some ρ1 ∧ tt ρ1 = .ok (.bl (p r)) ρ1 ∧ me ρ1 = .ok (K r) ρ1 ∧ wipeV ρ1 own = ρ) → acc.length + rs.length ≤ 16777216 → lcL g tt me own (rs.map F) acc ρ = .ok (.lst true (acc ++ (rs.filter p).map K)) ρ
  | [], acc, _, _ => by simp [lcL]
  | r :: rs, acc, h, hl => by
    rw [List.length_cons] at hl
    obtain ⟨ρ1, e1, e2, e3, e4⟩ := h r List.mem_cons_self
    rw [List.map_cons]
    unfold lcL
    simp only [e1, e2]
    cases hp : p r with
    | true =>
      rw [if_pos rfl]
      simp only [e3]
      rw [if_pos (by omega), e4, lcL_genR (rs := rs) (acc := acc ++ [K r]) (fun q hq => h q (List.mem_cons_of_mem _ hq)) (by simp; omega)]
      simp [hp]
    | false =>
      rw [if_neg (by decide), e4, lcL_genR (rs := rs) (acc := acc) (fun q hq => h q (List.mem_cons_of_mem _ hq)) (by omega)]
      simp [hp]
theorem E_lcG {α : Type} {mi : MI} {g : MG} {tt me : ME} {own : List Nat} {F K : α → Val} {p : α → Bool} {ρ ρ0 : VEnv} {rs : List α} (hi : mi ρ0 = .ok (rs.map F) ρ0) (hw : wipeV ρ0 own = ρ) (h : ∀ r ∈ rs, ∃ ρ1, g (F r) ρ = some ρ1 ∧ tt ρ1 = .ok (.bl (p r)) ρ1 ∧ me ρ1 = .ok (K r) ρ1 ∧ wipeV ρ1 own = ρ) (hl : rs.length ≤ 16777216) : mLc mi g tt me own ρ0 = .ok (.lst true ((rs.filter p).map K)) ρ := by
  unfold mLc
  rw [hi]
  show lcL g tt me own (rs.map F) [] (wipeV ρ0 own) = _
  rw [hw, lcL_genR h (by simpa using hl)]
  rfl
theorem E_lcA {α : Type} {mi : MI} {g : MG} {me : ME} {own : List Nat} {F K : α → Val} {ρ ρ0 : VEnv} {rs : List α} (hi : mi ρ0 = .ok (rs.map F) ρ0) (hw : wipeV ρ0 own = ρ) (h : ∀ r ∈ rs, ∃ ρ1, g (F r) ρ = some ρ1 ∧ me ρ1 = .ok (K r) ρ1 ∧ wipeV ρ1 own = ρ) (hl : rs.length ≤ 16777216) : mLc mi g mYes me own ρ0 = .ok (.lst true (rs.map K)) ρ := by
  have e := E_lcG (p := fun _ => true) (tt := mYes) hi hw (fun r hr => let ⟨ρ1, a, b, c⟩ := h r hr; ⟨ρ1, a, rfl, b, c⟩) hl
  rwa [List.filter_eq_self.mpr (fun _ _ => rfl)] at e
def loneV (rs : List Rl) : Val := .lst false (rs.map fun r => bdV false [r])
theorem loneV_fz (rs : List Rl) : (loneV rs).fz = true := by simp [loneV, Val.fz, fzs_all, bdV_fz]
abbrev E8 (ns : List Int) (k : Nat) (s : Val) (rs : List Rl) (row : List Int) (x6 x7 x9 x10 x11 x12 x13 x14 x15 x16 x17 x18 x19 x20 x21 : Option Val) : VEnv :=
  [some (.scr ns), some (.int (k : Int)), some s, some (rsV false rs), some (bdV false rs), some (loneV rs), x6, x7, some (iL false row), x9, x10, x11, x12, x13, x14, x15, x16, x17, x18, x19, x20, x21]
/-- one row beside the bound and each rule alone -/
theorem told_same {rs : List Rl} (ok : RsOk rs) (told : List Int) : (rs.filter fun r => !keptB [r] [] told).isEmpty = keptB rs [] told := by
  rw [Bool.eq_iff_iff, keptB_kept ok, List.isEmpty_iff, List.filter_eq_nil_iff]
  constructor
  · intro h r hr
    have := h r hr
    simp only [Bool.not_eq_true', Bool.not_eq_false] at this
    exact (keptB_kept (rules_one ok hr).toRsOk told).mp (by simpa using this) r List.mem_cons_self
  · intro h r hr
    have : keptB [r] [] told = true := (keptB_kept (rules_one ok hr).toRsOk told).mpr fun q hq => by rw [List.mem_singleton.mp hq]; exact h r hr
    simp [this]
theorem r_told {rs : List Rl} (ok : RsOk rs) {told : List Int} (ht : RowOk told) (hl : told.length ≤ 1000) {ns : List Int} {k : Nat} {s : Val} {row : List Int} {x6 x7 x9 x10 x11 x12 x13 x14 x15 x17 x18 x19 x20 x21 : Option Val} {I : VEnv → Prop} (hI : I (E8 ns k s rs row x6 x7 x9 x10 x11 x12 x13 x14 x15 (some (iL false told)) none x18 x19 x20 x21)) :
    Runs m_law_b1 (E8 ns k s rs row x6 x7 x9 x10 x11 x12 x13 x14 x15 (some (iL false told)) x17 x18 x19 x20 x21) I := by
  have c1 : mCall (mfIn id 0 f_Bound_contains) [.v ⟨true, true, (mStab (mVar 16))⟩, .v ⟨true, true, (mStab (mVar 4))⟩] (E8 ns k s rs row x6 x7 x9 x10 x11 x12 x13 x14 x15 (some (iL false told)) x17 x18 x19 x20 x21) = .ok (.bl (keptB rs [] told)) (E8 ns k s rs row x6 x7 x9 x10 x11 x12 x13 x14 x15 (some (iL false told)) x17 x18 x19 x20 x21) :=
    E_call2 (E_stab rfl (iL_fz told)) (E_stab rfl (bdV_fz rs)) (in_bound ok ht (by omega) id)
  have c2 : mLc (mItemsL (mVar 5)) (gV 17) (mCall (mfIn not 0 f_Bound_contains) [.v ⟨true, true, (mStab (mVar 16))⟩, .v ⟨true, true, (mStab (mVar 17))⟩]) (mStab (mVar 17)) [17] (E8 ns k s rs row x6 x7 x9 x10 x11 x12 x13 x14 x15 (some (iL false told)) x17 x18 x19 x20 x21) =
      .ok (.lst true ((rs.filter fun r => !keptB [r] [] told).map fun r => bdV false [r])) (E8 ns k s rs row x6 x7 x9 x10 x11 x12 x13 x14 x15 (some (iL false told)) none x18 x19 x20 x21) :=
    E_lcG (E_itL (E_var rfl)) rfl (fun r hr => ⟨E8 ns k s rs row x6 x7 x9 x10 x11 x12 x13 x14 x15 (some (iL false told)) (some (bdV false [r])) x18 x19 x20 x21, rfl, E_call2 (E_stab rfl (iL_fz told)) (E_stab rfl (bdV_fz [r])) (in_bound (rules_one ok hr).toRsOk ht (by omega) not), E_stab rfl (bdV_fz [r]), rfl⟩) (by have := ok.len; omega)
  have c3 : semEmp false [.lst true ((rs.filter fun r => !keptB [r] [] told).map fun r => bdV false [r]), .lst true []] = some (.bl (keptB rs [] told)) := by
    show some (Val.bl (xor false ((rs.filter fun r => !keptB [r] [] told).map fun r => bdV false [r]).isEmpty)) = _
    rw [← told_same ok told]
    cases rs.filter fun r => !keptB [r] [] told <;> rfl
  have c4 : semNe [.bl (keptB rs [] told), .bl (keptB rs [] told)] = some (.bl false) := by simp
  exact R_guardFE (E_f2 c1 (E_f2 c2 (E_lstM EM_nil) c3) c4) hI
theorem r_fewer {ns : List Int} {k : Nat} {rs : List Rl} {row : List Int} {x6 x7 x9 x10 x11 x12 x13 x15 x16 x17 x18 x19 x20 x21 : Option Val} : ∀ (cs : List Int) (acc : List Val) (s : Val), Stm s → (∀ c ∈ cs, 0 ≤ c ∧ c ≤ 8) → acc.length + cs.length ≤ 1000 → ∃ (fw : List Int) (s' : Val), Stm s' ∧ Lss fw cs ∧ (∀ c ∈ fw, 0 ≤ c ∧ c ≤ 8) ∧
    lcL (gV 14) mYes (mCall f_draw [.r 2, .v ⟨true, true, (mFun semAdd [(mVar 14), (mC (.int 1))])⟩]) [14] (cs.map Val.int) acc (E8 ns k s rs row x6 x7 x9 x10 x11 x12 x13 none x15 x16 x17 x18 x19 x20 x21) = .ok (.lst true (acc ++ fw.map Val.int)) (E8 ns k s' rs row x6 x7 x9 x10 x11 x12 x13 none x15 x16 x17 x18 x19 x20 x21)
  | [], acc, s, hs, _, _ => ⟨[], s, hs, .nil, fun c h => (nomatch h), by simp [lcL]⟩
  | c :: cs, acc, s, hs, h, hl => by
    rw [List.length_cons] at hl
    have hc := h c List.mem_cons_self
    obtain ⟨d, s1, d0, d1, hs1, ed⟩ := a_draw hs (c := c + 1) (by omega) (by omega)
    obtain ⟨fw, s2, hs2, l2, b2, e2⟩ := r_fewer cs (acc ++ [.int d]) s1 hs1 (fun q hq => h q (List.mem_cons_of_mem _ hq)) (by simp; omega)
    refine ⟨d :: fw, s2, hs2, .cons (by omega) l2, fun q hq => ?_, ?_⟩
    · rcases List.mem_cons.mp hq with rfl | hq
      · exact ⟨d0, by omega⟩
      · exact b2 q hq
    · have e1 : mCall f_draw [.r 2, .v ⟨true, true, (mFun semAdd [(mVar 14), (mC (.int 1))])⟩] (E8 ns k s rs row x6 x7 x9 x10 x11 x12 x13 (some (.int c)) x15 x16 x17 x18 x19 x20 x21) = .ok (.int d) (E8 ns k s1 rs row x6 x7 x9 x10 x11 x12 x13 (some (.int c)) x15 x16 x17 x18 x19 x20 x21) :=
        E_callR2 (E_f2 (E_var rfl) E_c rfl) rfl ⟨_, rfl⟩ ed rfl
      have eg : gV 14 (.int c) (E8 ns k s rs row x6 x7 x9 x10 x11 x12 x13 none x15 x16 x17 x18 x19 x20 x21) = some (E8 ns k s rs row x6 x7 x9 x10 x11 x12 x13 (some (.int c)) x15 x16 x17 x18 x19 x20 x21) := rfl
      rw [List.map_cons]
      unfold lcL
      rw [eg]
      simp only [mYes, if_true]
      simp only [e1]
      rw [if_pos (by omega)]
      have ew : wipeV (E8 ns k s1 rs row x6 x7 x9 x10 x11 x12 x13 (some (.int c)) x15 x16 x17 x18 x19 x20 x21) [14] = E8 ns k s1 rs row x6 x7 x9 x10 x11 x12 x13 none x15 x16 x17 x18 x19 x20 x21 := rfl
      rw [ew, e2]
      simp
/-- two drawn places, sorted -/
theorem r_begin {ns : List Int} {k : Nat} {rs : List Rl} {row : List Int} (hl : row.length ≤ 1000) {s : Val} (hs : Stm s) (x6 x7 x9 x10 x11 x12 x13 x14 x15 x16 x17 x18 x19 x20 x21 : Option Val) : ∃ (p q : Nat) (s' : Val), Stm s' ∧ p ≤ q ∧ q ≤ row.length ∧
    mFz (mFun semSorted [(mLc (mRng1 (mC (.int 2))) (gV 12) mYes (mCall f_draw [.r 2, .v ⟨true, true, (mFun semAdd [(mFun semLen [(mVar 8)]), (mC (.int 1))])⟩]) [12])]) (E8 ns k s rs row x6 x7 x9 x10 x11 x12 x13 x14 x15 x16 x17 x18 x19 x20 x21) =
      .ok (.lst false [.int (p : Int), .int (q : Int)]) (E8 ns k s' rs row x6 x7 x9 x10 x11 none x13 x14 x15 x16 x17 x18 x19 x20 x21) := by
  obtain ⟨us, ρr, er, ⟨s3, hs3, rfl⟩, ul, uq⟩ := lcL_draw (g := gV 12) (me := mCall f_draw [.r 2, .v ⟨true, true, (mFun semAdd [(mFun semLen [(mVar 8)]), (mC (.int 1))])⟩]) (own := [12]) (P := fun ρ2 => ∃ s, Stm s ∧ ρ2 = E8 ns k s rs row x6 x7 x9 x10 x11 none x13 x14 x15 x16 x17 x18 x19 x20 x21) (Q := fun v => ∃ i : Int, v = .int i ∧ (0 ≤ i ∧ i ≤ (row.length : Int)))
    (us := [.int 0, .int 1]) (acc := []) (ρ := E8 ns k s rs row x6 x7 x9 x10 x11 none x13 x14 x15 x16 x17 x18 x19 x20 x21) (fun u hu ρ2 ⟨s, hs, hρ⟩ => by
      subst hρ
      obtain ⟨r, t, r0, r1, ht, d⟩ := a_draw hs (c := (row.length : Int) + 1) (by omega) (by omega)
      refine ⟨E8 ns k s rs row x6 x7 x9 x10 x11 (some u) x13 x14 x15 x16 x17 x18 x19 x20 x21, .int r, E8 ns k t rs row x6 x7 x9 x10 x11 (some u) x13 x14 x15 x16 x17 x18 x19 x20 x21, rfl, ?_, ⟨r, rfl, r0, by omega⟩, ⟨t, ht, rfl⟩⟩
      exact E_callR2 (a := s) (b := .int ((row.length : Int) + 1)) (E_f2 (E_f1 (E_var rfl) (len_ints row)) E_c rfl) rfl ⟨_, rfl⟩ d rfl) ⟨s, hs, rfl⟩ (by simp)
  obtain ⟨xs, rfl, hx⟩ := ints_of uq
  match xs, ul, hx, er with
  | [a, b], _, hx, er =>
    obtain ⟨a0, a1⟩ := hx a (by simp)
    obtain ⟨b0, b1⟩ := hx b (by simp)
    have e2 : mLc (mRng1 (mC (.int 2))) (gV 12) mYes (mCall f_draw [.r 2, .v ⟨true, true, (mFun semAdd [(mFun semLen [(mVar 8)]), (mC (.int 1))])⟩]) [12] (E8 ns k s rs row x6 x7 x9 x10 x11 x12 x13 x14 x15 x16 x17 x18 x19 x20 x21) = .ok (.lst true [.int a, .int b]) (E8 ns k s3 rs row x6 x7 x9 x10 x11 none x13 x14 x15 x16 x17 x18 x19 x20 x21) := by
      unfold mLc
      have : mRng1 (mC (.int 2)) (E8 ns k s rs row x6 x7 x9 x10 x11 x12 x13 x14 x15 x16 x17 x18 x19 x20 x21) = .ok [.int 0, .int 1] (E8 ns k s rs row x6 x7 x9 x10 x11 x12 x13 x14 x15 x16 x17 x18 x19 x20 x21) := E_rng1 (n := 2) E_c (by decide)
      rw [this]
      simp only [List.nil_append] at er
      exact er
    by_cases h : a ≤ b
    · refine ⟨a.toNat, b.toNat, s3, hs3, by omega, by omega, E_fz (E_f1 e2 (v := .lst true [.int a, .int b]) ?_) ?_⟩
      · show some (Val.lst true ((insI a [b]).map Val.int)) = _
        simp [insI, h]
      · rw [Int.toNat_of_nonneg a0, Int.toNat_of_nonneg b0]; rfl
    · refine ⟨b.toNat, a.toNat, s3, hs3, by omega, by omega, E_fz (E_f1 e2 (v := .lst true [.int b, .int a]) ?_) ?_⟩
      · show some (Val.lst true ((insI a [b]).map Val.int)) = _
        simp [insI, h]
      · rw [Int.toNat_of_nonneg a0, Int.toNat_of_nonneg b0]; rfl
def bentL (row : List Int) (p q : Nat) : List Int := row.take p ++ (((row.drop p).take (q - p)).take 1).map (· + 1) ++ row.drop (p + 1)
theorem mul_add_ints (a b : List Int) {o o' : Bool} (h : a.length + b.length ≤ 16777216) : semAdd [iL o a, iL o' b] = some (iL true (a ++ b)) := by
  unfold iL
  rw [z_addL, if_pos ⟨by simpa using h, fzs_ints a, fzs_ints b⟩]
  simp
theorem r_bent {ns : List Int} {k : Nat} {rs : List Rl} {row : List Int} (hl : row.length ≤ 1000) {p q : Nat} (hp : p ≤ q) (hq : q ≤ row.length) (s : Val) (x6 x7 x9 x12 x13 x14 x15 x16 x17 x18 x19 x20 x21 : Option Val) :
    mFz (mFun semAdd [(mFun semAdd [(mFun semSlU [(mVar 8), (mVar 10)]), (mLc (mItemsL (mFz (mFun semSlU [(mFun semSlB [(mVar 8), mInt (mVar 10), (mVar 11)]), (mC (.int 1))]))) (gV 14) mYes (mFun semAdd [(mVar 14), (mC (.int 1))]) [14])]), (mFun semSlL [(mVar 8), (mFun semAdd [(mVar 10), (mC (.int 1))])])]) (E8 ns k s rs row x6 x7 x9 (some (.int (p : Int))) (some (.int (q : Int))) x12 x13 x14 x15 x16 x17 x18 x19 x20 x21) =
      .ok (iL false (bentL row p q)) (E8 ns k s rs row x6 x7 x9 (some (.int (p : Int))) (some (.int (q : Int))) x12 x13 none x15 x16 x17 x18 x19 x20 x21) := by
  have i1 : mInt (mVar 10) (E8 ns k s rs row x6 x7 x9 (some (.int (p : Int))) (some (.int (q : Int))) x12 x13 x14 x15 x16 x17 x18 x19 x20 x21) = .ok (.int (p : Int)) (E8 ns k s rs row x6 x7 x9 (some (.int (p : Int))) (some (.int (q : Int))) x12 x13 x14 x15 x16 x17 x18 x19 x20 x21) := rfl
  have e1 : mFz (mFun semSlU [(mFun semSlB [(mVar 8), mInt (mVar 10), (mVar 11)]), (mC (.int 1))]) (E8 ns k s rs row x6 x7 x9 (some (.int (p : Int))) (some (.int (q : Int))) x12 x13 x14 x15 x16 x17 x18 x19 x20 x21) = .ok (iL false (((row.drop p).take (q - p)).take 1)) (E8 ns k s rs row x6 x7 x9 (some (.int (p : Int))) (some (.int (q : Int))) x12 x13 x14 x15 x16 x17 x18 x19 x20 x21) :=
    E_fz (E_f2 (E_fun (EM_cons (E_var rfl) (EM_cons i1 (EM_cons (E_var rfl) EM_nil))) (slB_ints row p q hq hp)) E_c (slU_ints _ 1)) (iL_frz true _)
  have e2 := E_lcA (F := Val.int) (K := fun c : Int => Val.int (c + 1)) (rs := ((row.drop p).take (q - p)).take 1) (mi := mItemsL (mFz (mFun semSlU [(mFun semSlB [(mVar 8), mInt (mVar 10), (mVar 11)]), (mC (.int 1))]))) (g := gV 14) (me := mFun semAdd [(mVar 14), (mC (.int 1))]) (own := [14]) (ρ0 := E8 ns k s rs row x6 x7 x9 (some (.int (p : Int))) (some (.int (q : Int))) x12 x13 x14 x15 x16 x17 x18 x19 x20 x21) (ρ := E8 ns k s rs row x6 x7 x9 (some (.int (p : Int))) (some (.int (q : Int))) x12 x13 none x15 x16 x17 x18 x19 x20 x21)
    (E_itL e1) rfl (fun c hc => ⟨E8 ns k s rs row x6 x7 x9 (some (.int (p : Int))) (some (.int (q : Int))) x12 x13 (some (.int c)) x15 x16 x17 x18 x19 x20 x21, rfl, E_f2 (E_var rfl) E_c rfl, rfl⟩) (by simp; omega)
  have e3 : (((row.drop p).take (q - p)).take 1).map (fun c : Int => Val.int (c + 1)) = ((((row.drop p).take (q - p)).take 1).map (· + 1)).map Val.int := by rw [List.map_map]; rfl
  rw [e3] at e2
  have l1 : ((((row.drop p).take (q - p)).take 1).map (· + 1)).length ≤ 1 := by simp; omega
  have l2 : (row.take p).length ≤ 1000 := by simp; omega
  have l3 : (row.drop (p + 1)).length ≤ 1000 := by simp; omega
  have a1 : semAdd [iL true (row.take p), iL true ((((row.drop p).take (q - p)).take 1).map (· + 1))] = some (iL true (row.take p ++ (((row.drop p).take (q - p)).take 1).map (· + 1))) := mul_add_ints _ _ (by omega)
  have a2 : semAdd [iL true (row.take p ++ (((row.drop p).take (q - p)).take 1).map (· + 1)), iL true (row.drop (p + 1))] = some (iL true (bentL row p q)) := mul_add_ints _ _ (by rw [List.length_append]; omega)
  have p1 : semAdd [.int (p : Int), .int 1] = some (.int ((p + 1 : Nat) : Int)) := rfl
  exact E_fz (E_f2 (E_f2 (E_f2 (E_var rfl) (E_var rfl) (slU_ints row p)) e2 a1) (E_f2 (E_var rfl) (E_f2 (E_var rfl) E_c p1) (slL_ints row (p + 1))) a2) (iL_frz true _)
theorem bent_ok {row : List Int} (h : ∀ c ∈ row, 0 ≤ c ∧ c ≤ 8) (p q : Nat) : RowOk (bentL row p q) := by
  intro c hc
  unfold bentL at hc
  rcases List.mem_append.mp hc with hc | hc
  · rcases List.mem_append.mp hc with hc | hc
    · have := h c (List.mem_of_mem_take hc); omega
    · obtain ⟨d, hd, rfl⟩ := List.mem_map.mp hc
      have := h d (List.mem_of_mem_drop (List.mem_of_mem_take (List.mem_of_mem_take hd))); omega
  · have := h c (List.mem_of_mem_drop hc); omega
theorem bent_len (row : List Int) (p q : Nat) : (bentL row p q).length ≤ 2 * row.length + 1 := by
  unfold bentL
  simp; omega
theorem bent_not {rs : List Rl} (ok : RsOk rs) {row : List Int} {p q : Nat} (hp : p < q) (hq : q ≤ row.length) (e : alwP rs (row.take p) = row[p]'(by omega)) : keptB rs [] (bentL row p q) = false := by
  rw [Bool.eq_false_iff]
  intro z
  have k := (keptB_kept ok _).mp z
  have hd : ((row.drop p).take (q - p)).take 1 = [row[p]'(by omega)] := by
    have e1 : row.drop p = row[p]'(by omega) :: row.drop (p + 1) := List.drop_eq_getElem_cons (by omega)
    rw [e1]
    obtain ⟨m, hm⟩ : ∃ m, q - p = m + 1 := ⟨q - p - 1, by omega⟩
    rw [hm]
    rfl
  have le : row[p]'(by omega) + 1 ≤ alwP rs (row.take p) := (le_alwP ok.ne _ _).mpr fun r hr => by
    have := k r hr
    unfold bentL at this
    rw [hd, List.append_assoc] at this
    exact (kept1_app.mp this).2.1
  omega
def J8 (ns : List Int) (k : Nat) (rs : List Rl) (row : List Int) (ρ : VEnv) : Prop := ∃ s x6 x7 x9 x10 x11 x12 x13 x14 x15 x16 x17 x18 x19 x20 x21, Stm s ∧ ρ = E8 ns k s rs row x6 x7 x9 x10 x11 x12 x13 x14 x15 x16 x17 x18 x19 x20 x21
theorem Lss.len {a b : List Int} (h : Lss a b) : a.length = b.length := by induction h <;> simp_all
theorem r_b2 {ns : List Int} {k : Nat} {rs : List Rl} (ok : RsOk rs) {row : List Int} (kr : KRow rs row) (hl : row.length ≤ 100) {s : Val} (hs : Stm s) (x6 x7 x9 x10 x11 x12 x13 x14 x15 x16 x17 x18 x19 x20 x21 : Option Val) : Runs m_law_b2 (E8 ns k s rs row x6 x7 x9 x10 x11 x12 x13 x14 x15 x16 x17 x18 x19 x20 x21) (J8 ns k rs row) := by
  obtain ⟨p, q, s1, hs1, hpq, hql, e1⟩ := r_begin (ns := ns) (k := k) (rs := rs) (row := row) (by omega) hs x6 x7 x9 x10 x11 x12 x13 x14 x15 x16 x17 x18 x19 x20 x21
  refine R_asg e1 (ρ2 := E8 ns k s1 rs row x6 x7 x9 (some (.int (p : Int))) (some (.int (q : Int))) none x13 x14 x15 x16 x17 x18 x19 x20 x21) rfl ?_
  obtain ⟨fw, s2, hs2, lss, fb, e2⟩ := r_fewer (ns := ns) (k := k) (rs := rs) (row := row) (x6 := x6) (x7 := x7) (x9 := x9) (x10 := some (.int (p : Int))) (x11 := some (.int (q : Int))) (x12 := none) (x13 := x13) (x15 := x15) (x16 := x16) (x17 := x17) (x18 := x18) (x19 := x19) (x20 := x20) (x21 := x21) row [] s1 hs1 kr.pos (by simp; omega)
  have e3 : mFz (mLc (mItemsL (mVar 8)) (gV 14) mYes (mCall f_draw [.r 2, .v ⟨true, true, (mFun semAdd [(mVar 14), (mC (.int 1))])⟩]) [14]) (E8 ns k s1 rs row x6 x7 x9 (some (.int (p : Int))) (some (.int (q : Int))) none x13 x14 x15 x16 x17 x18 x19 x20 x21) = .ok (iL false fw) (E8 ns k s2 rs row x6 x7 x9 (some (.int (p : Int))) (some (.int (q : Int))) none x13 none x15 x16 x17 x18 x19 x20 x21) := by
    refine E_fz (v := iL true fw) ?_ (iL_frz true fw)
    unfold mLc
    have : mItemsL (mVar 8) (E8 ns k s1 rs row x6 x7 x9 (some (.int (p : Int))) (some (.int (q : Int))) none x13 x14 x15 x16 x17 x18 x19 x20 x21) = .ok (row.map Val.int) (E8 ns k s1 rs row x6 x7 x9 (some (.int (p : Int))) (some (.int (q : Int))) none x13 x14 x15 x16 x17 x18 x19 x20 x21) := E_itL (E_var rfl)
    rw [this]
    exact e2
  refine R_set e3 (ρ2 := E8 ns k s2 rs row x6 x7 x9 (some (.int (p : Int))) (some (.int (q : Int))) none (some (iL false fw)) none x15 x16 x17 x18 x19 x20 x21) (by simp) rfl ?_
  refine R_set (r_bent (by omega) hpq hql s2 x6 x7 x9 none (some (iL false fw)) none x15 x16 x17 x18 x19 x20 x21) (ρ2 := E8 ns k s2 rs row x6 x7 x9 (some (.int (p : Int))) (some (.int (q : Int))) none (some (iL false fw)) none (some (iL false (bentL row p q))) x16 x17 x18 x19 x20 x21) (by simp) rfl ?_
  have rowOk := kr.rowOk
  have okP : RowOk ((row.drop p).take (q - p)) := fun c hc => rowOk c (List.mem_of_mem_drop (List.mem_of_mem_take hc))
  have okF : RowOk fw := fun c hc => by have := fb c hc; omega
  have okB := bent_ok kr.pos p q
  have okJ : RowOk (row.drop q ++ row.take p) := fun c hc => (List.mem_append.mp hc).elim (fun h => rowOk c (List.mem_of_mem_drop h)) fun h => rowOk c (List.mem_of_mem_take h)
  have lP : ((row.drop p).take (q - p)).length ≤ 1000 := by simp; omega
  have lF : fw.length ≤ 1000 := by rw [lss.len]; omega
  have lB : (bentL row p q).length ≤ 1000 := by have := bent_len row p q; omega
  have lJ : (row.drop q ++ row.take p).length ≤ 1000 := by simp; omega
  have mi : ∀ x16 x17 : Option Val, mItemsL (mFz (mLst [(mFz (mFun semSlB [(mVar 8), mInt (mVar 10), (mVar 11)])), (mStab (mVar 13)), (mStab (mVar 15)), (mFz (mFun semAdd [(mFun semSlL [(mVar 8), (mVar 11)]), (mFun semSlU [(mVar 8), (mVar 10)])]))])) (E8 ns k s2 rs row x6 x7 x9 (some (.int (p : Int))) (some (.int (q : Int))) none (some (iL false fw)) none (some (iL false (bentL row p q))) x16 x17 x18 x19 x20 x21) =
      .ok [iL false ((row.drop p).take (q - p)), iL false fw, iL false (bentL row p q), iL false (row.drop q ++ row.take p)] (E8 ns k s2 rs row x6 x7 x9 (some (.int (p : Int))) (some (.int (q : Int))) none (some (iL false fw)) none (some (iL false (bentL row p q))) x16 x17 x18 x19 x20 x21) := fun x16 x17 => by
    have i1 : mInt (mVar 10) (E8 ns k s2 rs row x6 x7 x9 (some (.int (p : Int))) (some (.int (q : Int))) none (some (iL false fw)) none (some (iL false (bentL row p q))) x16 x17 x18 x19 x20 x21) = .ok (.int (p : Int)) (E8 ns k s2 rs row x6 x7 x9 (some (.int (p : Int))) (some (.int (q : Int))) none (some (iL false fw)) none (some (iL false (bentL row p q))) x16 x17 x18 x19 x20 x21) := rfl
    have a1 : semAdd [iL true (row.drop q), iL true (row.take p)] = some (iL true (row.drop q ++ row.take p)) := mul_add_ints _ _ (by simp; omega)
    have el : mLst [(mFz (mFun semSlB [(mVar 8), mInt (mVar 10), (mVar 11)])), (mStab (mVar 13)), (mStab (mVar 15)), (mFz (mFun semAdd [(mFun semSlL [(mVar 8), (mVar 11)]), (mFun semSlU [(mVar 8), (mVar 10)])]))] (E8 ns k s2 rs row x6 x7 x9 (some (.int (p : Int))) (some (.int (q : Int))) none (some (iL false fw)) none (some (iL false (bentL row p q))) x16 x17 x18 x19 x20 x21) = .ok (.lst true [iL false ((row.drop p).take (q - p)), iL false fw, iL false (bentL row p q), iL false (row.drop q ++ row.take p)]) (E8 ns k s2 rs row x6 x7 x9 (some (.int (p : Int))) (some (.int (q : Int))) none (some (iL false fw)) none (some (iL false (bentL row p q))) x16 x17 x18 x19 x20 x21) := E_lstM (EM_cons (E_fz (E_fun (EM_cons (E_var rfl) (EM_cons i1 (EM_cons (E_var rfl) EM_nil))) (slB_ints row p q hql hpq)) (iL_frz true _)) (EM_cons (E_stab rfl (iL_fz fw)) (EM_cons (E_stab rfl (iL_fz _)) (EM_cons (E_fz (E_f2 (E_f2 (E_var rfl) (E_var rfl) (slL_ints row q)) (E_f2 (E_var rfl) (E_var rfl) (slU_ints row p)) a1) (iL_frz true _)) EM_nil))))
    refine E_itL (E_fz el ?_)
    simp only [Val.frz, frzs, iL_frz]
  refine R_seqK (J := fun ρ => ∃ x16 x17, ρ = E8 ns k s2 rs row x6 x7 x9 (some (.int (p : Int))) (some (.int (q : Int))) none (some (iL false fw)) none (some (iL false (bentL row p q))) x16 x17 x18 x19 x20 x21) (R_for (mi x16 x17) ⟨x16, x17, rfl⟩ fun u hu ρ ⟨y16, y17, hρ⟩ => ?_) ?_
  · subst hρ
    simp only [List.mem_cons, List.not_mem_nil, or_false] at hu
    rcases hu with rfl | rfl | rfl | rfl
    · exact ⟨E8 ns k s2 rs row x6 x7 x9 (some (.int (p : Int))) (some (.int (q : Int))) none (some (iL false fw)) none (some (iL false (bentL row p q))) (some (iL false ((row.drop p).take (q - p)))) y17 x18 x19 x20 x21, rfl, r_told ok okP lP ⟨_, _, rfl⟩⟩
    · exact ⟨E8 ns k s2 rs row x6 x7 x9 (some (.int (p : Int))) (some (.int (q : Int))) none (some (iL false fw)) none (some (iL false (bentL row p q))) (some (iL false fw)) y17 x18 x19 x20 x21, rfl, r_told ok okF lF ⟨_, _, rfl⟩⟩
    · exact ⟨E8 ns k s2 rs row x6 x7 x9 (some (.int (p : Int))) (some (.int (q : Int))) none (some (iL false fw)) none (some (iL false (bentL row p q))) (some (iL false (bentL row p q))) y17 x18 x19 x20 x21, rfl, r_told ok okB lB ⟨_, _, rfl⟩⟩
    · exact ⟨E8 ns k s2 rs row x6 x7 x9 (some (.int (p : Int))) (some (.int (q : Int))) none (some (iL false fw)) none (some (iL false (bentL row p q))) (some (iL false (row.drop q ++ row.take p))) y17 x18 x19 x20 x21, rfl, r_told ok okJ lJ ⟨_, _, rfl⟩⟩
  rintro ρ ⟨y16, y17, rfl⟩
  have kF : Kept rs fw := kept_less ok lss kr.kept
  have bF : keptB rs [] fw = true := (keptB_kept ok fw).mpr kF
  have bP : keptB rs [] ((row.drop p).take (q - p)) = true := (keptB_kept ok _).mpr (kept_part ok kr.kept p (q - p))
  have i2 : mInt (mVar 10) (E8 ns k s2 rs row x6 x7 x9 (some (.int (p : Int))) (some (.int (q : Int))) none (some (iL false fw)) none (some (iL false (bentL row p q))) y16 y17 x18 x19 x20 x21) = .ok (.int (p : Int)) (E8 ns k s2 rs row x6 x7 x9 (some (.int (p : Int))) (some (.int (q : Int))) none (some (iL false fw)) none (some (iL false (bentL row p q))) y16 y17 x18 x19 x20 x21) := rfl
  have g1 := in_bound ok okP (by omega) not
  have g2 := in_bound ok okF (by omega) not
  rw [bP] at g1
  rw [bF] at g2
  refine R_guardF (E_orF (E_call2 (E_fz (E_fun (EM_cons (E_var rfl) (EM_cons i2 (EM_cons (E_var rfl) EM_nil))) (slB_ints row p q hql hpq)) (iL_frz true _)) (E_stab rfl (bdV_fz rs)) g1) (E_call2 (E_stab rfl (iL_fz fw)) (E_stab rfl (bdV_fz rs)) g2)) ?_
  have kt : ∀ n, Kept rs (row.take n) := fun n => kept_take ok kr.kept n
  have pos : ∀ n, ∀ c ∈ row.take n, 0 ≤ c := fun n c hc => (kr.pos c (List.mem_of_mem_take hc)).1
  have posF : ∀ n, ∀ c ∈ fw.take n, 0 ≤ c := fun n c hc => (fb c (List.mem_of_mem_take hc)).1
  have ec : mFun (semCmp fun i j => decide (i < j)) [(mVar 10), (mVar 11)] (E8 ns k s2 rs row x6 x7 x9 (some (.int (p : Int))) (some (.int (q : Int))) none (some (iL false fw)) none (some (iL false (bentL row p q))) y16 y17 x18 x19 x20 x21) = .ok (.bl (decide ((p : Int) < (q : Int)))) (E8 ns k s2 rs row x6 x7 x9 (some (.int (p : Int))) (some (.int (q : Int))) none (some (iL false fw)) none (some (iL false (bentL row p q))) y16 y17 x18 x19 x20 x21) := E_f2 (E_var rfl) (E_var rfl) rfl
  have part : ∃ y18, mIfS (mFun (semCmp fun i j => decide (i < j)) [(mVar 10), (mVar 11)]) (mSeq (mSet 18 (mCall f_allowed [.v ⟨true, true, (mStab (mVar 4))⟩, .v ⟨true, true, (mCall f_levels [.v ⟨true, true, (mStab (mVar 4))⟩, .v ⟨true, true, (mFz (mFun semSlU [(mVar 8), (mVar 10)]))⟩])⟩]))
      (mIfS (mAnd (mFun semEq [(mVar 18), (mFun semIx [(mVar 8), (mVar 10)])]) (mCall (mfIn id 0 f_Bound_contains) [.v ⟨true, true, (mStab (mVar 15))⟩, .v ⟨true, true, (mStab (mVar 4))⟩])) (mRet (mC (.bl false))) mNext)) mNext (E8 ns k s2 rs row x6 x7 x9 (some (.int (p : Int))) (some (.int (q : Int))) none (some (iL false fw)) none (some (iL false (bentL row p q))) y16 y17 x18 x19 x20 x21) =
      .nx (E8 ns k s2 rs row x6 x7 x9 (some (.int (p : Int))) (some (.int (q : Int))) none (some (iL false fw)) none (some (iL false (bentL row p q))) y16 y17 y18 x19 x20 x21) := by
    by_cases h : p < q
    · rw [show decide ((p : Int) < (q : Int)) = true by simp; omega] at ec
      refine ⟨some (.int (alwP rs (row.take p))), (E_ifT ec).trans (E_seq (E_set (ρ2 := E8 ns k s2 rs row x6 x7 x9 (some (.int (p : Int))) (some (.int (q : Int))) none (some (iL false fw)) none (some (iL false (bentL row p q))) y16 y17 (some (.int (alwP rs (row.take p)))) x19 x20 x21) (E_call2 (E_stab rfl (bdV_fz rs)) (E_call2 (E_stab rfl (bdV_fz rs)) (E_fz (E_f2 (E_var rfl) (E_var rfl) (slU_ints row p)) (iL_frz true _)) (a_levels ok (kt p) (pos p))) (a_allowed ok (kt p))) (by simp) rfl) ?_)⟩
      have ix : semIx [iL false row, .int (p : Int)] = some (.int (row[p]'(by omega))) := by
        have e1 : atI (row.map Val.int) (p : Int) = some (.int (row[p]'(by omega))) := atI_nat (by rw [List.getElem?_map, List.getElem?_eq_getElem (by omega)]; rfl)
        show (match atI (row.map Val.int) (p : Int) with | some v => if v.fz = true then some v else none | none => none) = _
        rw [e1]; rfl
      have e1 := in_bound ok okB (by omega) id
      have ea := E_andB (E_f2 (m1 := mVar 18) (m2 := mFun semIx [(mVar 8), (mVar 10)]) (ρ := E8 ns k s2 rs row x6 x7 x9 (some (.int (p : Int))) (some (.int (q : Int))) none (some (iL false fw)) none (some (iL false (bentL row p q))) y16 y17 (some (.int (alwP rs (row.take p)))) x19 x20 x21) (E_var rfl) (E_f2 (E_var rfl) (E_var rfl) ix) (eq_int _ _)) (E_call2 (p1 := true) (s1 := true) (p2 := true) (s2 := true) (m1 := mStab (mVar 15)) (m2 := mStab (mVar 4)) (E_stab rfl (iL_fz (bentL row p q))) (E_stab rfl (bdV_fz rs)) e1)
      have hk : (decide (alwP rs (row.take p) = row[p]'(by omega)) && id (keptB rs [] (bentL row p q))) = false := by
        by_cases z : alwP rs (row.take p) = row[p]'(by omega)
        · rw [bent_not ok h hql z]; simp
        · simp [z]
      rw [hk] at ea
      exact (E_ifF ea).trans E_next
    · rw [show decide ((p : Int) < (q : Int)) = false by simp; omega] at ec
      exact ⟨x18, (E_ifF ec).trans E_next⟩
  obtain ⟨y18, ep⟩ := part
  refine R_seq ep ?_
  have kFt : Kept rs (fw.take q) := kept_take ok kF q
  have tv : ∀ v1 v2 : Val, gTupV (gConsV (gV 19) (gConsV (gV 20) gNilV)) 2 (.tup [v1, v2]) (E8 ns k s2 rs row x6 x7 x9 (some (.int (p : Int))) (some (.int (q : Int))) none (some (iL false fw)) none (some (iL false (bentL row p q))) y16 y17 y18 x19 x20 x21) = some (E8 ns k s2 rs row x6 x7 x9 (some (.int (p : Int))) (some (.int (q : Int))) none (some (iL false fw)) none (some (iL false (bentL row p q))) y16 y17 y18 (some v1) (some v2) x21) := fun v1 v2 => rfl
  refine R_asg (E_tupM (EM_cons (E_call2 (E_stab rfl (bdV_fz rs)) (E_fz (E_f2 (E_var rfl) (E_var rfl) (slU_ints fw q)) (iL_frz true _)) (a_levels ok kFt (posF q))) (EM_cons (E_call2 (E_stab rfl (bdV_fz rs)) (E_fz (E_f2 (E_var rfl) (E_var rfl) (slU_ints row q)) (iL_frz true _)) (a_levels ok (kt q) (pos q))) EM_nil))) (tv (lvs rs (fw.take q)) (lvs rs (row.take q))) ?_
  have e5 : mLc (mRng1 (mFun semLen [(mVar 19)])) (gV 21) (mFun (semCmp fun i j => decide (j < i)) [(mFun semIx [(mVar 19), (mVar 21)]), (mFun semIx [(mVar 20), (mVar 21)])]) (mStab (mVar 21)) [21] (E8 ns k s2 rs row x6 x7 x9 (some (.int (p : Int))) (some (.int (q : Int))) none (some (iL false fw)) none (some (iL false (bentL row p q))) y16 y17 y18 (some (lvs rs (fw.take q))) (some (lvs rs (row.take q))) x21) =
      .ok (.lst true (((List.range rs.length).filter fun _ => false).map fun i : Nat => Val.int (i : Int))) (E8 ns k s2 rs row x6 x7 x9 (some (.int (p : Int))) (some (.int (q : Int))) none (some (iL false fw)) none (some (iL false (bentL row p q))) y16 y17 y18 (some (lvs rs (fw.take q))) (some (lvs rs (row.take q))) none) := by
    have hlen : semLen [lvs rs (fw.take q)] = some (.int (rs.length : Int)) := by
      show some (Val.int (((rs.map fun r => lv r (fw.take q)).map Val.int).length : Int)) = _
      simp
    refine E_lcG (F := fun i : Nat => Val.int (i : Int)) (E_rng1 (E_f1 (E_var rfl) hlen) (by have := ok.len; omega)) rfl (fun i hi => ⟨E8 ns k s2 rs row x6 x7 x9 (some (.int (p : Int))) (some (.int (q : Int))) none (some (iL false fw)) none (some (iL false (bentL row p q))) y16 y17 y18 (some (lvs rs (fw.take q))) (some (lvs rs (row.take q))) (some (.int (i : Int))), rfl, ?_, E_stab rfl rfl, rfl⟩) (by simp; have := ok.len; omega)
    have hi' : i < rs.length := by simpa using hi
    have ix : ∀ w : List Int, semIx [lvs rs w, .int (i : Int)] = some (.int (lv rs[i] w)) := fun w => by
      have e1 : atI ((rs.map fun r => lv r w).map Val.int) (i : Int) = some (.int (lv rs[i] w)) := atI_nat (by rw [List.getElem?_map, List.getElem?_map, List.getElem?_eq_getElem hi']; rfl)
      show (match atI ((rs.map fun r => lv r w).map Val.int) (i : Int) with | some v => if v.fz = true then some v else none | none => none) = _
      rw [e1]; rfl
    have mono : lv rs[i] (fw.take q) ≤ lv rs[i] (row.take q) := fold_mono (ok.ok _ (List.getElem_mem hi')) (lss.take q) (Int.le_refl 0)
    have ecm : semCmp (fun i j => decide (j < i)) [.int (lv rs[i] (fw.take q)), .int (lv rs[i] (row.take q))] = some (.bl false) := by
      show some (Val.bl (decide (lv rs[i] (row.take q) < lv rs[i] (fw.take q)))) = _
      rw [show decide (lv rs[i] (row.take q) < lv rs[i] (fw.take q)) = false by simp; omega]
    exact E_f2 (E_f2 (E_var rfl) (E_var rfl) (ix _)) (E_f2 (E_var rfl) (E_var rfl) (ix _)) ecm
  have e6 : ((List.range rs.length).filter fun _ => false) = [] := by simp
  rw [e6] at e5
  have e7 : semNe [.lst true [], .lst true []] = some (.bl false) := semNe_same (n := 1) (by decide) rfl rfl
  exact R_guardFE (E_f2 e5 (E_lstM EM_nil) e7) ⟨s2, _, _, _, _, _, _, _, _, _, _, _, _, _, _, _, hs2, rfl⟩
theorem lv_zero {r : Rl} (h : RlOk r) : ∀ n : Nat, lv r (List.replicate n 0) = 0 := by
  have e : lev1 r 0 0 = 0 := by unfold lev1; rw [if_neg (by omega)]
  intro n
  unfold lv
  induction n with
  | zero => rfl
  | succ n ih => rw [List.replicate_succ, List.foldl_cons, e, ih]
theorem kept_zeros {rs : List Rl} (ok : RsOk rs) (n : Nat) : Kept rs (List.replicate n 0) := fun r hr => by
  have h := ok.ok r hr
  have e : lev1 r 0 0 = 0 := by unfold lev1; rw [if_neg (by omega)]
  induction n with
  | zero => trivial
  | succ n ih =>
    rw [List.replicate_succ]
    refine ⟨(alw1_le h 0 0).mpr (by have := prod_ge h; omega), ?_⟩
    rw [e]; exact ih
theorem plD_ints (xs : List Int) : plD 1 (tI xs) = true := by
  show (xs.map Val.int).all (plD 0) = true
  simp [plD, scD]
theorem r_b3 (ns : List Int) (k : Nat) (x2 x3 x4 x5 x6 x7 x8 x9 x10 x11 x12 x13 x14 x15 x16 x17 x18 x19 x20 x21 : Option Val) (hk : k < 8) : Runs m_law_b3 [some (.scr ns), some (.int (k : Int)), x2, x3, x4, x5, x6, x7, x8, x9, x10, x11, x12, x13, x14, x15, x16, x17, x18, x19, x20, x21] fun ρ => ρ[0]? = some (some (.scr ns)) ∧ ρ.length = 22 := by
  obtain ⟨sa, sb, ha, hb, hb2, e1⟩ := a_stream ns k (by omega)
  have hs0 : Stm (.lst true [.int sa, .int sb]) := ⟨sa, sb, rfl, ha, hb, hb2⟩
  generalize hS0 : Val.lst true [.int sa, .int sb] = s0 at e1 hs0
  refine R_set (E_call2 (E_stab rfl rfl) (E_stab rfl rfl) e1) (by simp) (ρ2 := [some (.scr ns), some (.int (k : Int)), some s0, x3, x4, x5, x6, x7, x8, x9, x10, x11, x12, x13, x14, x15, x16, x17, x18, x19, x20, x21]) rfl ?_
  obtain ⟨rs, s1, rules, _, hs1, e2⟩ := a_three hs0 (M := 8) (E := 12) (by decide) (by decide)
  have ok := rules.toRsOk
  have c2 : mCall f_three [.r 2, .v ⟨true, true, (mC (.int 8))⟩, .v ⟨true, true, (mC (.int 12))⟩] [some (.scr ns), some (.int (k : Int)), some s0, x3, x4, x5, x6, x7, x8, x9, x10, x11, x12, x13, x14, x15, x16, x17, x18, x19, x20, x21] = .ok (rsV false rs) [some (.scr ns), some (.int (k : Int)), some s1, x3, x4, x5, x6, x7, x8, x9, x10, x11, x12, x13, x14, x15, x16, x17, x18, x19, x20, x21] :=
    E_callG rfl (EM_cons E_c (EM_cons E_c EM_nil)) rfl e2 rfl
  refine R_set (E_fz c2 (rsV_frz rs false)) (by simp) (ρ2 := [some (.scr ns), some (.int (k : Int)), some s1, some (rsV false rs), x4, x5, x6, x7, x8, x9, x10, x11, x12, x13, x14, x15, x16, x17, x18, x19, x20, x21]) rfl ?_
  have c3 : mLc (mItemsL (mVar 3)) (gTupV (gConsV (gV 6) (gConsV (gV 7) gNilV)) 2) mYes (mFz (mCall (mMake 0 f_Bound_init) [.v ⟨true, true, (mStab (mVar 6))⟩, .v ⟨true, true, (mStab (mVar 7))⟩, .k (.non) (.wtp [])])) [6, 7] [some (.scr ns), some (.int (k : Int)), some s1, some (rsV false rs), x4, x5, x6, x7, x8, x9, x10, x11, x12, x13, x14, x15, x16, x17, x18, x19, x20, x21] =
      .ok (.lst true (rs.map fun r => bdV false [r])) [some (.scr ns), some (.int (k : Int)), some s1, some (rsV false rs), x4, x5, none, none, x8, x9, x10, x11, x12, x13, x14, x15, x16, x17, x18, x19, x20, x21] := by
    refine E_lcA (E_itL (E_var rfl)) rfl (fun r hr => ⟨[some (.scr ns), some (.int (k : Int)), some s1, some (rsV false rs), x4, x5, some (.int r.1), some (.int r.2), x8, x9, x10, x11, x12, x13, x14, x15, x16, x17, x18, x19, x20, x21], rfl, ?_, rfl⟩) (by have := ok.len; omega)
    have c : mCall (mMake 0 f_Bound_init) [.v ⟨true, true, (mStab (mVar 6))⟩, .v ⟨true, true, (mStab (mVar 7))⟩, .k (.non) (.wtp [])] [some (.scr ns), some (.int (k : Int)), some s1, some (rsV false rs), x4, x5, some (.int r.1), some (.int r.2), x8, x9, x10, x11, x12, x13, x14, x15, x16, x17, x18, x19, x20, x21] = .ok (bdV true [r]) [some (.scr ns), some (.int (k : Int)), some s1, some (rsV false rs), x4, x5, some (.int r.1), some (.int r.2), x8, x9, x10, x11, x12, x13, x14, x15, x16, x17, x18, x19, x20, x21] :=
      E_callG rfl (EM_cons (E_stab rfl rfl) (EM_cons (E_stab rfl rfl) EM_nil)) rfl (a_lone (rules_one ok hr)) rfl
    exact E_fz c (bdV_frz [r])
  have fl : (Val.lst true (rs.map fun r => bdV false [r])).frz = loneV rs := by
    simp only [Val.frz, loneV]
    congr 1
    rw [frzs_map, List.map_map]
    apply List.map_congr_left
    intro r _
    show (bdV false [r]).frz = bdV false [r]
    simp only [Val.frz, bdV, frzs, rsV, List.map_cons, List.map_nil, rV]
  refine R_seq (E_par (E_fz (E_call1 (E_stab rfl (rsV_fz rs)) (a_bound rules)) (bdV_frz rs)) (E_fz c3 fl) (by simp) (by simp) (ρ' := [some (.scr ns), some (.int (k : Int)), some s1, some (rsV false rs), some (bdV false rs), some (loneV rs), none, none, x8, x9, x10, x11, x12, x13, x14, x15, x16, x17, x18, x19, x20, x21]) rfl) ?_
  obtain ⟨d, s2, d0, d1, hs2, ed⟩ := a_draw hs1 (c := 41) (by decide) (by decide)
  obtain ⟨n, rfl⟩ := Int.eq_ofNat_of_zero_le d0
  obtain ⟨row, s3, kr, rl, hs3, er⟩ := a_row ok hs2 (n := n) (by omega)
  have hl : row.length ≤ 100 := by omega
  have cd : mCall f_draw [.r 2, .v ⟨true, true, (mC (.int 41))⟩] [some (.scr ns), some (.int (k : Int)), some s1, some (rsV false rs), some (bdV false rs), some (loneV rs), none, none, x8, x9, x10, x11, x12, x13, x14, x15, x16, x17, x18, x19, x20, x21] = .ok (.int (n : Int)) [some (.scr ns), some (.int (k : Int)), some s2, some (rsV false rs), some (bdV false rs), some (loneV rs), none, none, x8, x9, x10, x11, x12, x13, x14, x15, x16, x17, x18, x19, x20, x21] := E_callR2 E_c rfl ⟨_, rfl⟩ ed rfl
  have cr : mCall f_row [.r 2, .v ⟨true, true, (mStab (mVar 3))⟩, .v ⟨false, true, (mCall f_draw [.r 2, .v ⟨true, true, (mC (.int 41))⟩])⟩] [some (.scr ns), some (.int (k : Int)), some s1, some (rsV false rs), some (bdV false rs), some (loneV rs), none, none, x8, x9, x10, x11, x12, x13, x14, x15, x16, x17, x18, x19, x20, x21] = .ok (iL false row) [some (.scr ns), some (.int (k : Int)), some s3, some (rsV false rs), some (bdV false rs), some (loneV rs), none, none, x8, x9, x10, x11, x12, x13, x14, x15, x16, x17, x18, x19, x20, x21] :=
    E_callG rfl (EM_cons (E_stab rfl (rsV_fz rs)) (EM_cons cd EM_nil)) rfl er rfl
  refine R_set (E_fz cr (iL_frz false row)) (by simp) (ρ2 := E8 ns k s3 rs row none none x9 x10 x11 x12 x13 x14 x15 x16 x17 x18 x19 x20 x21) rfl ?_
  have rowOk := kr.rowOk
  have g1 := in_bound ok rowOk (by omega) not
  rw [(keptB_kept ok row).mpr kr.kept] at g1
  have g2 := in_bound ok (row := row.drop 1) (fun c hc => rowOk c (List.mem_of_mem_drop hc)) (by simp; omega) not
  rw [(keptB_kept ok _).mpr (kept_drop ok kr.kept 1)] at g2
  have cg : semCmp (fun i j => decide (j < i)) [.int (row.length : Int), .int 0] = some (.bl (decide ((0 : Int) < (row.length : Int)))) := rfl
  refine R_guardK (E_orB (E_call2 (E_stab rfl (iL_fz row)) (E_stab rfl (bdV_fz rs)) g1) (E_andB (E_f2 (E_f1 (E_var rfl) (len_ints row)) E_c cg) (E_call2 (E_fz (E_f2 (E_var rfl) E_c (slL_ints row 1)) (iL_frz true _)) (E_stab rfl (bdV_fz rs)) g2))) (by simp) ?_
  refine R_seqK (J := J8 ns k rs row) (R_for (us := (List.range 6).map fun i : Nat => Val.int (i : Int)) (E_rng1 (n := 6) E_c (by decide)) ⟨s3, _, _, _, _, _, _, _, _, _, _, _, _, _, _, _, hs3, rfl⟩ fun u hu ρ ⟨s, y6, y7, y9, y10, y11, y12, y13, y14, y15, y16, y17, y18, y19, y20, y21, hs, hρ⟩ => ?_) ?_
  · subst hρ
    exact ⟨E8 ns k s rs row y6 y7 (some u) y10 y11 y12 y13 y14 y15 y16 y17 y18 y19 y20 y21, rfl, r_b2 ok kr hl hs _ _ _ _ _ _ _ _ _ _ _ _ _ _ _⟩
  rintro ρ ⟨s, y6, y7, y9, y10, y11, y12, y13, y14, y15, y16, y17, y18, y19, y20, y21, hs, rfl⟩
  have zr : mFz (mFun semMul [(mLst [(mC (.int 0))]), (mFun semLen [(mVar 8)])]) (E8 ns k s rs row y6 y7 y9 y10 y11 y12 y13 y14 y15 y16 y17 y18 y19 y20 y21) = .ok (iL false (List.replicate row.length 0)) (E8 ns k s rs row y6 y7 y9 y10 y11 y12 y13 y14 y15 y16 y17 y18 y19 y20 y21) := by
    have m1 : semMul [.lst true [.int 0], .int (row.length : Int)] = some (iL true (List.replicate row.length 0)) := by
      have e := mul_rep (o := true) (k := (row.length : Int)) (n := 0) (by omega) (by omega)
      rwa [show rep (row.length : Int) 0 = List.replicate row.length 0 by simp [rep]] at e
    exact E_fz (E_f2 (E_lstM (EM_cons E_c EM_nil)) (E_f1 (E_var rfl) (len_ints row)) m1) (iL_frz true _)
  have el : lvs rs (List.replicate row.length 0) = lvs rs [] := by
    exact congrArg tI (List.map_congr_left fun r hr => lv_zero (ok.ok r hr) row.length)
  have nz : semNe [lvs rs (List.replicate row.length 0), lvs rs []] = some (.bl false) := by
    rw [el]
    exact semNe_same (n := 1) (by decide) (plD_ints _) rfl
  exact R_guardFE (E_f2 (E_call2 (E_stab rfl (bdV_fz rs)) zr (a_levels ok (kept_zeros ok row.length) fun c hc => by rw [(List.mem_replicate.mp hc).2]; decide)) (E_call1 (E_stab rfl (bdV_fz rs)) (a_first_levels ok)) nz) ⟨rfl, rfl⟩
theorem law_true (ns : List Int) (h : ns.length ≤ 63) : ∃ fs, f_law [.scr ns] = .ok (.bl true) fs := by
  refine ⟨[none], law_runs (c := 8) (by decide) (by decide) fun k xs hk hx => ?_⟩
  match xs, hx with
  | [x2, x3, x4, x5, x6, x7, x8, x9, x10, x11, x12, x13, x14, x15, x16, x17, x18, x19, x20, x21], _ => exact r_b3 ns k x2 x3 x4 x5 x6 x7 x8 x9 x10 x11 x12 x13 x14 x15 x16 x17 x18 x19 x20 x21 (by have : (8 : Int).toNat = 8 := rfl; omega)

end Gb
set_option maxHeartbeats 0
namespace Gb
open PySem L2 VL
theorem facts {P : Program} {w : World} {K : PySem.W.Frag} {h : Heap} {mg : Str → Option Value} {f : Addr} (X : K.In h) (G : h.Ns mainGlobals mg) (hfa : mg ("law" : Str) = some (.ref f)) (cw : SaysW fa fn ts w K) :
    ∃ fd : FuncData, (∀ (s : Shared) (v : Value), BindsTo s fd ⟨[v], []⟩ [("_law_script", v)]) ∧ ∀ base : Heap, K.In base → base.Ns mainGlobals mg → FnOk P w K mg base (L2.CX P w) 10 f fd ["_law_script"] (spV (gam K w) 1 f_law) := by
  have c := cw.v
  obtain ⟨fd, F⟩ := c.def_ 28 (d := d_law) rfl
  have T := txt_of X G cw
  have e : mg ("law" : Str) = some (.ref (He.ga K "law")) := He.glo_ok X G (c.fact 48 (f := fun K => (He.Fa.glo "law").ok K) rfl)
  have e := hfa.symm.trans e
  cases e
  have b := FunD.bindsA (ps := ["_law_script"]) F fun _ _ _ _ _ _ us hl => match us, hl with | [_], _ => rfl
  exact ⟨fd, fun s v => b s [v] rfl, law_end F fun base _ _ => all_ok T c⟩
end Gb
open PySem PySem.W PySem.Calls PyProof.Rows VL
theorem PySem.Challenge.cw_gatheredbells_k80_whole_levels_and_stret_holds : PySem.Challenge.rw_gatheredbells_k80_whole_levels_and_stret.Holds := by
  w_on; o_law
  refine HandSHeadRun.head_any (r := OpenLaw.row PySem.Challenge.rw_gatheredbells_k80_whole_levels_and_stret) (q := view (OpenLaw.row PySem.Challenge.rw_gatheredbells_k80_whole_levels_and_stret).prog [39]) (H := Gb.hk) (ob := Gb.ob) (M := 40000) (loose := Gb.loose) (d := HandSHeadRun.topDef (OpenLaw.row PySem.Challenge.rw_gatheredbells_k80_whole_levels_and_stret).prog 39) (kwd := []) Gb.ob_eq
    (by kernel_rfl) (fun s => by kernel_rfl) Gb.run (by kernel_rfl) (by kernel_rfl) (by kernel_rfl) (by rfl) (by first | assumption | decide +kernel) (by decide +kernel) ⟨rfl, rfl, rfl, rfl, rfl, by decide +kernel⟩ ?hw ?hc
  case hw => w_witness2
  case hc =>
    refine walk_ofV (l := PySem.Challenge.rw_gatheredbells_k80_whole_levels_and_stret) (n := 63) (k := 10) (x := "_law_script") (mf := Gb.f_law) (G := Gb.gam) (fun _ _ => rfl) rfl (by decide) (by kernel_rfl) ⟨rfl, by decide, by decide⟩ Gb.law_true ?F
    intro w mg f h Y G hmg0
    obtain ⟨K, KX, c⟩ := Y
    have hmg : mg ("law" : PySem.Str) = some (.ref f) := by
      have e : (HandSHeadRun.topDef (OpenLaw.row PySem.Challenge.rw_gatheredbells_k80_whole_levels_and_stret).prog 39).name = ("law" : PySem.Str) := by kernel_rfl
      rw [← e]
      exact hmg0
    obtain ⟨fd, hb, hF⟩ := Gb.facts (P := (PySem.Challenge.rw_gatheredbells_k80_whole_levels_and_stret).prog) (w := w) KX G hmg c
    exact ⟨K, fd, KX, hb, hF⟩
