import PyProof.Rows.All
import Wide.All
import OpenK.AllK
import Wide.FinOn
import HandS.ForMost
import HandS.Wide
import HandS.Walk
import HandS.DictTup
import HandS.Exc
import HandS.IsInst
import HandS.Property
import HandS.SortInts
import HandS.Defaults
import HandS.Zip
import HandS.TupLe
import HandS.RaiseMore
import HandS.FStrTup
import HandS.Flt
import HandS.OwnEq
import HandS.Style
import HandS.ExcInit
import HandS.ExcSuper
import KE.KExcSuper
import HandS.ExcOwn
import HandS.ExcValue
import HandS.WordsExc
import HandS.ExcIs
import HandS.ExcField
import PyProof.TupleKey
import PyProof.DictRoadsH
import OpenK.KMeth
import KE.KOpsOwn
import HandS.DictComp
import HandS.ClsMeth
import HandS.Words
import HandS.Head0
import HandS.Head1
import HandS.Head2
import HandS.HeadEnd
import HandS.HeadHook1
import HandS.HeadHook2
import HandS.HeadNt
import HandS.Conv
import HandS.Deep
import KE.KExcIs
import PyProof.Rows.StrMul
import PySem.Challenge.RW_axisticks_k02_rules_made
set_option Elab.async false
set_option linter.all false
set_option maxRecDepth 100000
set_option maxHeartbeats 4000000
/-! DLa: values as plain data, and what a heap must hold for a value to stand for a datum. -/
namespace DL
open PySem PySem.Spec PyProof.Rows L2

/-- data: the pure ones, and those that only an expression or a slot may be (own: a list that this frame alone holds; new: one just made; pur: the purse) -/
inductive D where
  | non | bl (b : Bool) | int (i : Int) | str (x : Str)
  | tup (ds : List D) | ktup (ds : List D) | slst (ds : List D) | lst (ds : List D) | obj (C : Addr) (ns : List Str) (ds : List D)
  | raw (v : V)
  | own (p : Addr) (ds : List D) | new (ds : List D) | pur (p : Addr)
  | ownK (p : Addr) (ks : List Key) (ds : List D) | newK
  | ownT (p : Addr) (ks : List (List Key)) (ds : List D) | newT
  | ins (p dx C : Addr) (ns : List Str) (ds : List D)
  | exc (C : Addr) (d : D)
  | dik (f : Key × List Key × Key → Int) (ks : List (Key × List Key × Key)) (kds ds : List D)
  | lkK (ks : List Key) (ds : List D) | lkT (ks : List (List Key)) (ds : List D)
  | ownN (p : Addr) (ks : Option (List (List Key))) (ps : List Addr) (ds : List D) | newN (ks : Option (List (List Key))) (ds : List D) | newP (d : D) (ds : List D) | newD (ks : List (List Key)) (ds : List D)

/-- a key as a datum -/
def keyDat : Key → D
  | .inl i => .int i
  | .inr x => .str x
def nkD (k : Key × List Key × Key) : D := .tup [keyDat k.1, .tup (k.2.1.map keyDat), keyDat k.2.2]
/-- a dict with keys (x, (y, ..), z) at a: the keys' objects at ps, the values vs -/
def dikO (f : Key × List Key × Key → Int) (a : Addr) (ks : List (Key × List Key × Key)) (ps : List Addr) (vs : List V) : HO := .ext fun h => ∃ (o : Obj) (es : Array DictEntry) (ep : Nat) (xs : List ((Key × List Key × Key) × Addr × Value)),
  h.get? a = some o ∧ o.ExactDict ∧ o.data = .dict es ep ∧ es.toList = xs.map (fun x => ⟨f x.1, .ref x.2.1, x.2.2⟩) ∧ xs.map (·.1) = ks ∧ xs.map (·.2.1) = ps ∧ Vals vs (xs.map (·.2.2))

/-- a caught exception of the class at C, its dict at dx -/
def exq (a C dx : Addr) : HO := .ext fun h => ∃ (oe : Obj) (vs : Array Value), h.get? a = some oe ∧ Zc (.ref C) (some dx) oe ∧ oe.data = .fields vs

/-- a tuple of the written part -/
def KT (K : PySem.W.Frag) (a : Addr) (xs : List V) : Prop :=
  ∃ (o : Obj) (its : Array Value) (n : Nat), K.lookup a = some o ∧ o.cls = .type "tuple" ∧ o.data = .seq its n ∧ its.size ≤ sizeLine ∧ Vals xs its.toList

/-- a list of the written part -/
def KL (K : PySem.W.Frag) (a : Addr) (xs : List V) : Prop :=
  ∃ (o : Obj) (its : Array Value) (n : Nat), K.lookup a = some o ∧ o.cls = .type "list" ∧ o.dict = none ∧ o.data = .seq its n ∧ its.size ≤ sizeLine ∧ Vals xs its.toList

/-- not a tuple -/
def NT : HO → Prop
  | .tup _ => False
  | _ => True
mutual
/-- v stands for the datum in H; what stands for it keeps off Av -/
def Rp (K : PySem.W.Frag) (Av : Addr → Prop) (H : Hp) : D → V → Prop
  | .non, v => v = .non
  | .bl b, v => v = .bl b
  | .int i, v => v = .int i
  | .str x, v => v = .str x
  | .tup ds, v => ∃ a vs, v = .ref a ∧ ¬ Av a ∧ H a = some (.tup vs) ∧ Rps K Av H ds vs
  | .ktup ds, v => ∃ a vs, v = .ref a ∧ ((¬ Av a ∧ H a = some (.tup vs)) ∨ KT K a vs) ∧ Rps K Av H ds vs
  | .slst ds, v => ∃ a vs, v = .ref a ∧ ((¬ Av a ∧ Rd H a (.lst vs)) ∨ KL K a vs) ∧ Rps K Av H ds vs
  | .lst ds, v => ∃ a vs, v = .ref a ∧ ¬ Av a ∧ H a = some (.lst vs) ∧ Rps K Av H ds vs
  | .obj C ns ds, v => ∃ a dx gs, v = .ref a ∧ ¬ Av a ∧ H a = some (.ins C dx gs) ∧ gs.map (·.1) = ns ∧ Rps K Av H ds (gs.map (·.2))
  | .raw u, v => v = u
  | .own _ _, _ => False
  | .new _, _ => False
  | .pur _, _ => False
  | .ownK _ _ _, _ => False
  | .newK, _ => False
  | .ownT _ _ _, _ => False
  | .newT, _ => False
  | .ins _ _ _ _ _, _ => False
  | .ownN _ _ _ _, _ => False
  | .newN _ _, _ => False
  | .newP _ _, _ => False
  | .newD _ _, _ => False
  | .exc C d, v => ∃ (a dx : Addr) (fs : List (Str × V)) (u : V), v = .ref a ∧ ¬ Av a ∧ ¬ Av dx ∧ H a = some (exq a C dx) ∧ H dx = some (.xd fs) ∧ fs.lookup ("value" : Str) = some u ∧ Rp K Av H d u
  | .dik f ks kds ds, v => ∃ (a : Addr) (ps : List Addr) (vs : List V), v = .ref a ∧ ¬ Av a ∧ H a = some (dikO f a ks ps vs) ∧ kds = ks.map nkD ∧ ks.Nodup ∧ ks.length ≤ 1000 ∧ Rps K Av H kds (ps.map V.ref) ∧ Rps K Av H ds vs
  | .lkK ks ds, v => ∃ (a : Addr) (o : Obj) (kvs : List (Key × V)), v = .ref a ∧ ¬ Av a ∧ H a = some (.frz o (.dK kvs)) ∧ kvs.map (·.1) = ks ∧ Rps K Av H ds (kvs.map (·.2))
  | .lkT ks ds, v => ∃ (a : Addr) (o : Obj) (kvs : List (List Key × V)), v = .ref a ∧ ¬ Av a ∧ H a = some (.frz o (.dT kvs)) ∧ kvs.map (·.1) = ks ∧ Rps K Av H ds (kvs.map (·.2))
def Rps (K : PySem.W.Frag) (Av : Addr → Prop) (H : Hp) : List D → List V → Prop
  | [], vs => vs = []
  | d :: ds, vs => ∃ v r, vs = v :: r ∧ Rp K Av H d v ∧ Rps K Av H ds r
end

/-- a list, or a dict with such keys, of the lists at ps -/
def nstO (ks : Option (List (List Key))) (ps : List Addr) : HO :=
  match ks with
  | none => .lst (ps.map V.ref)
  | some l => .dT (l.zip (ps.map V.ref))
theorem nt_nst (ks : Option (List (List Key))) (ps : List Addr) : NT (nstO ks ps) := by cases ks <;> trivial
/-- the lists at ps hold what ds says -/
def Nst (K : PySem.W.Frag) (Av : Addr → Prop) (H : Hp) : List Addr → List D → Prop
  | [], ds => ds = []
  | a :: ps, ds => ∃ xs us r, ds = .lst xs :: r ∧ H a = some (.lst us) ∧ Rps K Av H xs us ∧ Nst K Av H ps r
theorem Nst.to {K : PySem.W.Frag} {Av Av' : Addr → Prop} {H H' : Hp} (s : ∀ xs us, Rps K Av H xs us → Rps K Av' H' xs us) : ∀ {ps : List Addr} {ds : List D}, (∀ a ∈ ps, ∀ o, H a = some o → H' a = some o) → Nst K Av H ps ds → Nst K Av' H' ps ds
  | [], _, _, h => h
  | a :: ps, ds, k, ⟨xs, us, r, e, h1, h2, h3⟩ => ⟨xs, us, r, e, k a List.mem_cons_self _ h1, s _ _ h2, Nst.to s (fun b m => k b (List.mem_cons_of_mem _ m)) h3⟩
theorem Nst.len {K : PySem.W.Frag} {Av : Addr → Prop} {H : Hp} : ∀ {ps : List Addr} {ds : List D}, Nst K Av H ps ds → ps.length = ds.length
  | [], _, h => by have e : _ = _ := h; subst e; rfl
  | _ :: _, _, ⟨_, _, _, e, _, _, h3⟩ => by subst e; simp [Nst.len h3]
theorem Nst.some {K : PySem.W.Frag} {Av : Addr → Prop} {H : Hp} : ∀ {ps : List Addr} {ds : List D}, Nst K Av H ps ds → ∀ a ∈ ps, ∃ us, H a = some (.lst us)
  | _ :: _, _, ⟨_, us, _, _, h1, _, h3⟩, b, m => by
    rcases List.mem_cons.mp m with rfl | m
    · exact ⟨us, h1⟩
    · exact Nst.some h3 b m

/-- all but what ex names stays -/
def Kp (ex : Option Addr) (H H' : Hp) : Prop := ∀ a o, ex ≠ some a → H a = some o → H' a = some o
theorem Kp.refl {ex : Option Addr} {H : Hp} : Kp ex H H := fun _ _ _ h => h
theorem Kp.trans {ex : Option Addr} {H H1 H2 : Hp} (a : Kp ex H H1) (b : Kp ex H1 H2) : Kp ex H H2 := fun x o n h => b x o n (a x o n h)
theorem Kp.new {ex : Option Addr} {H : Hp} {p : Addr} {o : HO} (h : H p = none) : Kp ex H (upd H p o) := fun a u _ e => by
  rw [upd_ne (ne_of_none e h)]; exact e
theorem Kp.of {ex : Option Addr} {H H' : Hp} (h : Same H H') : Kp ex H H' := fun a o _ e => h a o e

section
variable {K : PySem.W.Frag} {Av Av' : Addr → Prop} {H H' : Hp} {ex : Option Addr}
theorem rd_kp (k : Kp ex H H') {a : Addr} (n : ex ≠ some a) {u : HO} (h : Rd H a u) : Rd H' a u := by
  rcases h with h | ⟨o, h⟩
  · exact .inl (k a _ n h)
  · exact .inr ⟨o, k a _ n h⟩
mutual
theorem Rp.kp (hx : ∀ a, ex = some a → Av a) (k : Kp ex H H') : ∀ {d : D} {v : V}, Rp K Av H d v → Rp K Av H' d v
  | .non, _, h => h
  | .bl _, _, h => h
  | .int _, _, h => h
  | .str _, _, h => h
  | .tup ds, v, h => by
    obtain ⟨a, vs, e, n, h1, h2⟩ := h
    exact ⟨a, vs, e, n, k a _ (fun z => n (hx a z)) h1, Rps.kp hx k h2⟩
  | .ktup ds, v, h => by
    obtain ⟨a, vs, e, h1, h2⟩ := h
    exact ⟨a, vs, e, h1.imp (fun z => ⟨z.1, k a _ (fun w => z.1 (hx a w)) z.2⟩) id, Rps.kp hx k h2⟩
  | .slst ds, v, h => by
    obtain ⟨a, vs, e, h1, h2⟩ := h
    exact ⟨a, vs, e, h1.imp (fun z => ⟨z.1, rd_kp k (fun w => z.1 (hx a w)) z.2⟩) id, Rps.kp hx k h2⟩
  | .lst ds, v, h => by
    obtain ⟨a, vs, e, n, h1, h2⟩ := h
    exact ⟨a, vs, e, n, k a _ (fun z => n (hx a z)) h1, Rps.kp hx k h2⟩
  | .obj C ns ds, v, h => by
    obtain ⟨a, dx, gs, e, n, h1, e2, h2⟩ := h
    exact ⟨a, dx, gs, e, n, k a _ (fun z => n (hx a z)) h1, e2, Rps.kp hx k h2⟩
  | .raw _, _, h => h
  | .own _ _, _, h => h.elim
  | .new _, _, h => h.elim
  | .pur _, _, h => h.elim
  | .ownK _ _ _, _, h => h.elim
  | .newK, _, h => h.elim
  | .ownT _ _ _, _, h => h.elim
  | .newT, _, h => h.elim
  | .ins _ _ _ _ _, _, h => h.elim
  | .ownN _ _ _ _, _, h => h.elim
  | .newN _ _, _, h => h.elim
  | .newP _ _, _, h => h.elim
  | .newD _ _, _, h => h.elim
  | .exc C d, v, h => by
    obtain ⟨a, dx, fs, u, e, n1, n2, h1, h2, l, h3⟩ := h
    exact ⟨a, dx, fs, u, e, n1, n2, k a _ (fun z => n1 (hx a z)) h1, k dx _ (fun z => n2 (hx dx z)) h2, l, Rp.kp hx k h3⟩
  | .dik f ks kds ds, v, h => by
    obtain ⟨a, ps, vs, e, n, h1, h2, h3, h4, h5, h6⟩ := h
    exact ⟨a, ps, vs, e, n, k a _ (fun z => n (hx a z)) h1, h2, h3, h4, Rps.kp hx k h5, Rps.kp hx k h6⟩
  | .lkK ks ds, v, h => by
    obtain ⟨a, dx, gs, e, n, h1, e2, h2⟩ := h
    exact ⟨a, dx, gs, e, n, k a _ (fun z => n (hx a z)) h1, e2, Rps.kp hx k h2⟩
  | .lkT ks ds, v, h => by
    obtain ⟨a, dx, gs, e, n, h1, e2, h2⟩ := h
    exact ⟨a, dx, gs, e, n, k a _ (fun z => n (hx a z)) h1, e2, Rps.kp hx k h2⟩
theorem Rps.kp (hx : ∀ a, ex = some a → Av a) (k : Kp ex H H') : ∀ {ds : List D} {vs : List V}, Rps K Av H ds vs → Rps K Av H' ds vs
  | [], _, h => h
  | _ :: _, _, h => by
    obtain ⟨v, r, e, h1, h2⟩ := h
    exact ⟨v, r, e, Rp.kp hx k h1, Rps.kp hx k h2⟩
end
mutual
/-- keeping off less, in a heap that keeps what Av does not name -/
theorem Rp.wk (s : ∀ a, Av' a → Av a) (k : ∀ a o, ¬ Av a → H a = some o → H' a = some o) : ∀ {d : D} {v : V}, Rp K Av H d v → Rp K Av' H' d v
  | .non, _, h => h
  | .bl _, _, h => h
  | .int _, _, h => h
  | .str _, _, h => h
  | .tup ds, v, h => by
    obtain ⟨a, vs, e, n, h1, h2⟩ := h
    exact ⟨a, vs, e, fun z => n (s a z), k a _ n h1, Rps.wk s k h2⟩
  | .ktup ds, v, h => by
    obtain ⟨a, vs, e, h1, h2⟩ := h
    exact ⟨a, vs, e, h1.imp (fun w => ⟨fun z => w.1 (s a z), k a _ w.1 w.2⟩) id, Rps.wk s k h2⟩
  | .slst ds, v, h => by
    obtain ⟨a, vs, e, h1, h2⟩ := h
    exact ⟨a, vs, e, h1.imp (fun z => ⟨fun w => z.1 (s a w), z.2.imp (k a _ z.1) fun ⟨o, w⟩ => ⟨o, k a _ z.1 w⟩⟩) id, Rps.wk s k h2⟩
  | .lst ds, v, h => by
    obtain ⟨a, vs, e, n, h1, h2⟩ := h
    exact ⟨a, vs, e, fun z => n (s a z), k a _ n h1, Rps.wk s k h2⟩
  | .obj C ns ds, v, h => by
    obtain ⟨a, dx, gs, e, n, h1, e2, h2⟩ := h
    exact ⟨a, dx, gs, e, fun z => n (s a z), k a _ n h1, e2, Rps.wk s k h2⟩
  | .raw _, _, h => h
  | .own _ _, _, h => h.elim
  | .new _, _, h => h.elim
  | .pur _, _, h => h.elim
  | .ownK _ _ _, _, h => h.elim
  | .newK, _, h => h.elim
  | .ownT _ _ _, _, h => h.elim
  | .newT, _, h => h.elim
  | .ins _ _ _ _ _, _, h => h.elim
  | .ownN _ _ _ _, _, h => h.elim
  | .newN _ _, _, h => h.elim
  | .newP _ _, _, h => h.elim
  | .newD _ _, _, h => h.elim
  | .exc C d, v, h => by
    obtain ⟨a, dx, fs, u, e, n1, n2, h1, h2, l, h3⟩ := h
    exact ⟨a, dx, fs, u, e, (fun z => n1 (s a z)), (fun z => n2 (s dx z)), k a _ n1 h1, k dx _ n2 h2, l, Rp.wk s k h3⟩
  | .dik f ks kds ds, v, h => by
    obtain ⟨a, ps, vs, e, n, h1, h2, h3, h4, h5, h6⟩ := h
    exact ⟨a, ps, vs, e, fun z => n (s a z), k a _ n h1, h2, h3, h4, Rps.wk s k h5, Rps.wk s k h6⟩
  | .lkK ks ds, v, h => by
    obtain ⟨a, dx, gs, e, n, h1, e2, h2⟩ := h
    exact ⟨a, dx, gs, e, fun z => n (s a z), k a _ n h1, e2, Rps.wk s k h2⟩
  | .lkT ks ds, v, h => by
    obtain ⟨a, dx, gs, e, n, h1, e2, h2⟩ := h
    exact ⟨a, dx, gs, e, fun z => n (s a z), k a _ n h1, e2, Rps.wk s k h2⟩
theorem Rps.wk (s : ∀ a, Av' a → Av a) (k : ∀ a o, ¬ Av a → H a = some o → H' a = some o) : ∀ {ds : List D} {vs : List V}, Rps K Av H ds vs → Rps K Av' H' ds vs
  | [], _, h => h
  | _ :: _, _, h => by
    obtain ⟨v, r, e, h1, h2⟩ := h
    exact ⟨v, r, e, Rp.wk s k h1, Rps.wk s k h2⟩
end
mutual
/-- keeping off one address more that is not tracked (yet) -/
theorem Rp.off {p : Addr} (hp : H p = none) (s : ∀ a, Av' a → Av a ∨ a = p) : ∀ {d : D} {v : V}, Rp K Av H d v → Rp K Av' H d v
  | .non, _, h => h
  | .bl _, _, h => h
  | .int _, _, h => h
  | .str _, _, h => h
  | .tup ds, v, h => by
    obtain ⟨a, vs, e, n, h1, h2⟩ := h
    refine ⟨a, vs, e, fun z => ?_, h1, Rps.off hp s h2⟩
    rcases s a z with z | z
    · exact n z
    · subst z; rw [hp] at h1; cases h1
  | .ktup ds, v, h => by
    obtain ⟨a, vs, e, h1, h2⟩ := h
    refine ⟨a, vs, e, h1.imp (fun ⟨n, h1⟩ => ⟨fun z => ?_, h1⟩) id, Rps.off hp s h2⟩
    rcases s a z with z | z
    · exact n z
    · subst z; rw [hp] at h1; cases h1
  | .slst ds, v, h => by
    obtain ⟨a, vs, e, h1, h2⟩ := h
    refine ⟨a, vs, e, h1.imp (fun z => ⟨fun w => ?_, z.2⟩) id, Rps.off hp s h2⟩
    rcases s a w with w | w
    · exact z.1 w
    · subst w
      rcases z.2 with h1 | ⟨o, h1⟩ <;> rw [hp] at h1 <;> cases h1
  | .lst ds, v, h => by
    obtain ⟨a, vs, e, n, h1, h2⟩ := h
    refine ⟨a, vs, e, fun z => ?_, h1, Rps.off hp s h2⟩
    rcases s a z with z | z
    · exact n z
    · subst z; rw [hp] at h1; cases h1
  | .obj C ns ds, v, h => by
    obtain ⟨a, dx, gs, e, n, h1, e2, h2⟩ := h
    refine ⟨a, dx, gs, e, fun z => ?_, h1, e2, Rps.off hp s h2⟩
    rcases s a z with z | z
    · exact n z
    · subst z; rw [hp] at h1; cases h1
  | .raw _, _, h => h
  | .own _ _, _, h => h.elim
  | .new _, _, h => h.elim
  | .pur _, _, h => h.elim
  | .ownK _ _ _, _, h => h.elim
  | .newK, _, h => h.elim
  | .ownT _ _ _, _, h => h.elim
  | .newT, _, h => h.elim
  | .ins _ _ _ _ _, _, h => h.elim
  | .ownN _ _ _ _, _, h => h.elim
  | .newN _ _, _, h => h.elim
  | .newP _ _, _, h => h.elim
  | .newD _ _, _, h => h.elim
  | .exc C d, v, h => by
    obtain ⟨a, dx, fs, u, e, n1, n2, h1, h2, l, h3⟩ := h
    refine ⟨a, dx, fs, u, e, (fun z => ?_), (fun z => ?_), h1, h2, l, Rp.off hp s h3⟩
    · rcases s a z with z | z
      · exact n1 z
      · subst z; rw [hp] at h1; cases h1
    · rcases s dx z with z | z
      · exact n2 z
      · subst z; rw [hp] at h2; cases h2
  | .dik f ks kds ds, v, h => by
    obtain ⟨a, ps, vs, e, n, h1, h2, h3, h4, h5, h6⟩ := h
    refine ⟨a, ps, vs, e, fun z => ?_, h1, h2, h3, h4, Rps.off hp s h5, Rps.off hp s h6⟩
    rcases s a z with z | z
    · exact n z
    · subst z; rw [hp] at h1; cases h1
  | .lkK ks ds, v, h => by
    obtain ⟨a, dx, gs, e, n, h1, e2, h2⟩ := h
    refine ⟨a, dx, gs, e, fun z => ?_, h1, e2, Rps.off hp s h2⟩
    rcases s a z with z | z
    · exact n z
    · subst z; rw [hp] at h1; cases h1
  | .lkT ks ds, v, h => by
    obtain ⟨a, dx, gs, e, n, h1, e2, h2⟩ := h
    refine ⟨a, dx, gs, e, fun z => ?_, h1, e2, Rps.off hp s h2⟩
    rcases s a z with z | z
    · exact n z
    · subst z; rw [hp] at h1; cases h1
theorem Rps.off {p : Addr} (hp : H p = none) (s : ∀ a, Av' a → Av a ∨ a = p) : ∀ {ds : List D} {vs : List V}, Rps K Av H ds vs → Rps K Av' H ds vs
  | [], _, h => h
  | _ :: _, _, h => by
    obtain ⟨v, r, e, h1, h2⟩ := h
    exact ⟨v, r, e, Rp.off hp s h1, Rps.off hp s h2⟩
end
mutual
/-- in another heap, keeping off other addresses: what is newly kept off was not there, what is not kept off stays -/
theorem Rp.mv (s : ∀ a, Av' a → Av a ∨ H a = none) (k : ∀ a o, ¬ Av a → H a = some o → H' a = some o) : ∀ {d : D} {v : V}, Rp K Av H d v → Rp K Av' H' d v
  | .non, _, h => h
  | .bl _, _, h => h
  | .int _, _, h => h
  | .str _, _, h => h
  | .tup ds, v, h => by
    obtain ⟨a, vs, e, n, h1, h2⟩ := h
    refine ⟨a, vs, e, fun z => ?_, k a _ n h1, Rps.mv s k h2⟩
    rcases s a z with z | z
    · exact n z
    · rw [z] at h1; cases h1
  | .ktup ds, v, h => by
    obtain ⟨a, vs, e, h1, h2⟩ := h
    refine ⟨a, vs, e, h1.imp (fun ⟨n, h1⟩ => ⟨fun z => ?_, k a _ n h1⟩) id, Rps.mv s k h2⟩
    rcases s a z with z | z
    · exact n z
    · rw [z] at h1; cases h1
  | .slst ds, v, h => by
    obtain ⟨a, vs, e, h1, h2⟩ := h
    refine ⟨a, vs, e, h1.imp (fun z => ⟨fun w => ?_, z.2.imp (k a _ z.1) fun ⟨o, w⟩ => ⟨o, k a _ z.1 w⟩⟩) id, Rps.mv s k h2⟩
    rcases s a w with w | w
    · exact z.1 w
    · rcases z.2 with h1 | ⟨o, h1⟩ <;> rw [w] at h1 <;> cases h1
  | .lst ds, v, h => by
    obtain ⟨a, vs, e, n, h1, h2⟩ := h
    refine ⟨a, vs, e, fun z => ?_, k a _ n h1, Rps.mv s k h2⟩
    rcases s a z with z | z
    · exact n z
    · rw [z] at h1; cases h1
  | .obj C ns ds, v, h => by
    obtain ⟨a, dx, gs, e, n, h1, e2, h2⟩ := h
    refine ⟨a, dx, gs, e, fun z => ?_, k a _ n h1, e2, Rps.mv s k h2⟩
    rcases s a z with z | z
    · exact n z
    · rw [z] at h1; cases h1
  | .raw _, _, h => h
  | .own _ _, _, h => h.elim
  | .new _, _, h => h.elim
  | .pur _, _, h => h.elim
  | .ownK _ _ _, _, h => h.elim
  | .newK, _, h => h.elim
  | .ownT _ _ _, _, h => h.elim
  | .newT, _, h => h.elim
  | .ins _ _ _ _ _, _, h => h.elim
  | .ownN _ _ _ _, _, h => h.elim
  | .newN _ _, _, h => h.elim
  | .newP _ _, _, h => h.elim
  | .newD _ _, _, h => h.elim
  | .exc C d, v, h => by
    obtain ⟨a, dx, fs, u, e, n1, n2, h1, h2, l, h3⟩ := h
    refine ⟨a, dx, fs, u, e, (fun z => ?_), (fun z => ?_), k a _ n1 h1, k dx _ n2 h2, l, Rp.mv s k h3⟩
    · rcases s a z with z | z
      · exact n1 z
      · rw [z] at h1; cases h1
    · rcases s dx z with z | z
      · exact n2 z
      · rw [z] at h2; cases h2
  | .dik f ks kds ds, v, h => by
    obtain ⟨a, ps, vs, e, n, h1, h2, h3, h4, h5, h6⟩ := h
    refine ⟨a, ps, vs, e, fun z => ?_, k a _ n h1, h2, h3, h4, Rps.mv s k h5, Rps.mv s k h6⟩
    rcases s a z with z | z
    · exact n z
    · rw [z] at h1; cases h1
  | .lkK ks ds, v, h => by
    obtain ⟨a, dx, gs, e, n, h1, e2, h2⟩ := h
    refine ⟨a, dx, gs, e, fun z => ?_, k a _ n h1, e2, Rps.mv s k h2⟩
    rcases s a z with z | z
    · exact n z
    · rw [z] at h1; cases h1
  | .lkT ks ds, v, h => by
    obtain ⟨a, dx, gs, e, n, h1, e2, h2⟩ := h
    refine ⟨a, dx, gs, e, fun z => ?_, k a _ n h1, e2, Rps.mv s k h2⟩
    rcases s a z with z | z
    · exact n z
    · rw [z] at h1; cases h1
theorem Rps.mv (s : ∀ a, Av' a → Av a ∨ H a = none) (k : ∀ a o, ¬ Av a → H a = some o → H' a = some o) : ∀ {ds : List D} {vs : List V}, Rps K Av H ds vs → Rps K Av' H' ds vs
  | [], _, h => h
  | _ :: _, _, h => by
    obtain ⟨v, r, e, h1, h2⟩ := h
    exact ⟨v, r, e, Rp.mv s k h1, Rps.mv s k h2⟩
end
theorem Rps.length : ∀ {ds : List D} {vs : List V}, Rps K Av H ds vs → ds.length = vs.length
  | [], _, h => by have e : _ = _ := h; subst e; rfl
  | _ :: _, _, h => by
    obtain ⟨v, r, e, h1, h2⟩ := h
    subst e
    simp [Rps.length h2]
theorem Rps.get : ∀ {ds : List D} {vs : List V} {i : Nat} {d : D}, Rps K Av H ds vs → ds[i]? = some d → ∃ v, vs[i]? = some v ∧ Rp K Av H d v
  | [], _, _, _, _, e => by simp at e
  | _ :: _, _, 0, _, h, e => by
    obtain ⟨v, r, rfl, h1, h2⟩ := h
    simp at e; subst e
    exact ⟨v, rfl, h1⟩
  | _ :: _, _, i + 1, _, h, e => by
    obtain ⟨v, r, rfl, h1, h2⟩ := h
    obtain ⟨w, e2, h3⟩ := Rps.get h2 (i := i) (by simpa using e)
    exact ⟨w, by simpa using e2, h3⟩
theorem Rps.get' : ∀ {ds : List D} {vs : List V} {i : Nat} {v : V}, Rps K Av H ds vs → vs[i]? = some v → ∃ d, ds[i]? = some d ∧ Rp K Av H d v := fun {ds vs i v} h e => by
  have hl := h.length
  have hi : i < ds.length := by rw [hl]; exact (List.getElem?_eq_some_iff.mp e).1
  obtain ⟨w, e2, r⟩ := h.get (d := ds[i]) (List.getElem?_eq_getElem hi)
  rw [e] at e2; cases e2
  exact ⟨_, List.getElem?_eq_getElem hi, r⟩
theorem Rps.append : ∀ {ds es : List D} {vs ws : List V}, Rps K Av H ds vs → Rps K Av H es ws → Rps K Av H (ds ++ es) (vs ++ ws)
  | [], _, _, _, h, g => by have e : _ = _ := h; subst e; exact g
  | _ :: _, _, _, _, h, g => by
    obtain ⟨v, r, rfl, h1, h2⟩ := h
    exact ⟨v, r ++ _, rfl, h1, Rps.append h2 g⟩
theorem Rps.set : ∀ {ds : List D} {vs : List V} {d : D} {v : V} (i : Nat), Rps K Av H ds vs → Rp K Av H d v → Rps K Av H (ds.set i d) (vs.set i v)
  | [], _, _, _, _, h, _ => by have e : _ = _ := h; subst e; exact rfl
  | _ :: _, _, _, _, 0, h, g => by
    obtain ⟨v, r, rfl, h1, h2⟩ := h
    exact ⟨_, r, rfl, g, h2⟩
  | _ :: _, _, _, _, i + 1, h, g => by
    obtain ⟨v, r, rfl, h1, h2⟩ := h
    exact ⟨v, _, rfl, h1, Rps.set i h2 g⟩
theorem Rps.take : ∀ {ds : List D} {vs : List V} (n : Nat), Rps K Av H ds vs → Rps K Av H (ds.take n) (vs.take n)
  | _, _, 0, _ => rfl
  | [], _, _ + 1, h => by have e : _ = _ := h; subst e; exact rfl
  | _ :: _, _, n + 1, h => by
    obtain ⟨v, r, rfl, h1, h2⟩ := h
    exact ⟨v, _, rfl, h1, Rps.take n h2⟩
theorem Rps.drop : ∀ {ds : List D} {vs : List V} (n : Nat), Rps K Av H ds vs → Rps K Av H (ds.drop n) (vs.drop n)
  | _, _, 0, h => h
  | [], _, _ + 1, h => by have e : _ = _ := h; subst e; exact rfl
  | _ :: _, _, n + 1, h => by
    obtain ⟨v, r, rfl, h1, h2⟩ := h
    exact Rps.drop n h2
theorem Rps.ints : ∀ {ns : List Int} {vs : List V}, Rps K Av H (ns.map D.int) vs → vs = ns.map V.int
  | [], _, h => h
  | _ :: _, _, h => by
    obtain ⟨v, r, rfl, h1, h2⟩ := h
    have e1 : v = _ := h1
    subst e1
    rw [Rps.ints h2]; rfl
theorem Rps.of_ints : ∀ (ns : List Int), Rps K Av H (ns.map D.int) (ns.map V.int)
  | [] => rfl
  | n :: ns => ⟨_, _, rfl, rfl, Rps.of_ints ns⟩
theorem KL.sq {a : Addr} {vs : List V} (h : (¬ Av a ∧ Rd H a (.lst vs)) ∨ KL K a vs) : SqL K H a vs := by
  rcases h with h | ⟨o, its, n, h⟩
  · exact .inl h.2
  · exact .inr ⟨o, its, n, h⟩
theorem TAt.sq {a : Addr} {vs : List V} (h : (¬ Av a ∧ H a = some (.tup vs)) ∨ KT K a vs) : SqT K H a vs := by
  rcases h with h | ⟨o, its, n, h⟩
  · exact .of h.2
  · exact .inr ⟨o, its, n, h⟩
theorem KT.sq {a : Addr} {vs : List V} (h : KT K a vs) : SqT K H a vs := by
  obtain ⟨o, its, n, h⟩ := h
  exact .inr ⟨o, its, n, h⟩
end
end DL

/-! DLb: the judgements over data: expressions, tests, statements, blocks; the basic rules. -/
namespace DL
open PySem PySem.Spec PyProof.Rows L2

/-- the semantic readings -/
def wE (X : Cx) (e : Expr) : TE := fun σ H Q => ∀ pins s, Inv X pins σ H s → wpAny (model X.prog X.w) X.A (eval e X.env) (EP X pins σ Q) X.xe s
def wT (X : Cx) (e : Expr) : TT := fun σ H Q => ∀ pins s, Inv X pins σ H s → wpAny (model X.prog X.w) X.A (isTrue e X.env (eval e X.env)) (TP X pins σ Q) X.xe s
def wW (X : Cx) (e : Expr) : TT := fun σ H Q => ∀ whole pins s, Inv X pins σ H s → wpAny (model X.prog X.w) X.A (isTrue e X.env whole) (TP X pins σ Q) X.xe s
def wA (X : Cx) (es : List Expr) : TA := fun σ H Q => ∀ pos pins s, Inv X pins σ H s → wpAny (model X.prog X.w) X.A (spliced (backTo pos (starEach es X.env))) (AP X pins σ Q) X.xe s
def wS (X : Cx) (st : Stmt) : TS := fun D σ H => ∀ pins s, Inv X pins σ H s → wpAny (model X.prog X.w) X.A (exec st X.env) (SP X pins D) X.xe s
def wB (X : Cx) (sts : List Stmt) : TS := fun D σ H => ∀ pins s, Inv X pins σ H s → wpAny (model X.prog X.w) X.A (execs sts X.env) (SP X pins D) X.xe s
def wG (X : Cx) (tg : Expr) : TG := fun v σ H Q => ∀ pins s u, Inv X pins σ H s → RelV v u → wpAny (model X.prog X.w) X.A (assign tg X.env u) (fun _ s' => ∃ σ' H', Inv X pins σ' H' s' ∧ Q σ' H') X.xe s
def wGs (X : Cx) (ts : List Expr) : TGs := fun vs σ H Q => ∀ pins s us, Inv X pins σ H s → Vals vs us → wpAny (model X.prog X.w) X.A (assignInOrder ((assignEach ts X.env).map (·.2)) us) (fun _ s' => ∃ σ' H', Inv X pins σ' H' s' ∧ Q σ' H') X.xe s
section
variable {X : Cx} {e : Expr} {es : List Expr} {st : Stmt} {sts : List Stmt}
theorem pe_w : PE X e (wE X e) := ⟨fun pins s σ H Q I h => h pins s I⟩
theorem pt_w : PT X e (wT X e) := ⟨fun pins s σ H Q I h => h pins s I⟩
theorem pw_w : PW X e (wW X e) := ⟨fun wh pins s σ H Q I h => h wh pins s I⟩
theorem pa_w : PA X es (wA X es) := ⟨fun pos pins s σ H Q I h => h pos pins s I⟩
theorem ps_w : PS X st (wS X st) := ⟨fun pins s σ H D I h => h pins s I⟩
theorem pb_w : PSs X sts (wB X sts) := ⟨fun pins s σ H D I h => h pins s I⟩
theorem pg_w : PG X e (wG X e) := ⟨fun pins s σ H v u Q I r h => h pins s u I r⟩
theorem pgs_w : PGs X es (wGs X es) := ⟨fun pins s σ H vs us Q I r h => h pins s us I r⟩
theorem pe_to {t : TE} (p : PE X e t) {σ H Q} (h : t σ H Q) : wE X e σ H Q := fun pins s I => p.run pins s σ H Q I h
theorem pt_to {t : TT} (p : PT X e t) {σ H Q} (h : t σ H Q) : wT X e σ H Q := fun pins s I => p.run pins s σ H Q I h
theorem pw_to {t : TT} (p : PW X e t) {σ H Q} (h : t σ H Q) : wW X e σ H Q := fun wh pins s I => p.run wh pins s σ H Q I h
theorem pa_to {t : TA} (p : PA X es t) {σ H Q} (h : t σ H Q) : wA X es σ H Q := fun pos pins s I => p.run pos pins s σ H Q I h
theorem ps_to {t : TS} (p : PS X st t) {σ H D} (h : t D σ H) : wS X st D σ H := fun pins s I => p.run pins s σ H D I h
theorem pb_to {t : TS} (p : PSs X sts t) {σ H D} (h : t D σ H) : wB X sts D σ H := fun pins s I => p.run pins s σ H D I h
theorem pg_to {t : TG} (p : PG X e t) {v σ H Q} (h : t v σ H Q) : wG X e v σ H Q := fun pins s u I r => p.run pins s σ H v u Q I r h
theorem pgs_to {t : TGs} (p : PGs X es t) {v σ H Q} (h : t v σ H Q) : wGs X es v σ H Q := fun pins s u I r => p.run pins s σ H v u Q I r h
theorem wE_mono {σ H} {Q Q' : VK} (h : wE X e σ H Q) (k : ∀ v H', Q v H' → Q' v H') : wE X e σ H Q' := fun pins s I => thn (h pins s I) fun _ _ ⟨v, H', I', r, q⟩ => ⟨v, H', I', r, k v H' q⟩
end

/-- the context over data: outer mutable things M that nothing here may hold, the purse -/
structure Ctx where
  X : Cx
  M : Addr → Prop
  pu : Option Addr
/-- where the frame began -/
structure Base where
  H0 : Hp
  B : Addr → Prop

abbrev DE := List (Option D)
def addr1 : Option D → List Addr
  | some (.own p _) => [p]
  | some (.ownK p _ _) => [p]
  | some (.ownT p _ _) => [p]
  | some (.ins p _ _ _ _) => [p]
  | some (.ownN p _ ps _) => p :: ps
  | _ => []
def addrs (δ : DE) : List Addr := δ.flatMap addr1
/-- the addresses of a slot -/
def adr (δ : DE) (j : Nat) : List Addr := addr1 (δ[j]?.join)
theorem m1 {p : Addr} : p ∈ [p] := List.mem_singleton.mpr rfl
def Ctx.Ow (_ : Ctx) (δ : DE) (a : Addr) : Prop := a ∈ addrs δ
def Ctx.Av (c : Ctx) (δ : DE) (a : Addr) : Prop := c.M a ∨ c.pu = some a ∨ a ∈ addrs δ

/-- the purse: three numbers, n draws are surely left -/
def PurseAt (H : Hp) (p : Addr) (n : Nat) : Prop :=
  ∃ x y z : Int, H p = some (.lst [.int x, .int y, .int z]) ∧ 0 ≤ x ∧ x < 10 ^ 400 ∧ 0 ≤ y ∧ y < 2147483629 ∧ 0 ≤ z ∧ z + n ≤ 2 ^ 60
theorem PurseAt.le {H : Hp} {p : Addr} {n m : Nat} (h : PurseAt H p n) (l : m ≤ n) : PurseAt H p m := by
  obtain ⟨x, y, z, h0, h1, h2, h3, h4, h5, h6⟩ := h
  exact ⟨x, y, z, h0, h1, h2, h3, h4, h5, by omega⟩

def SlAt (K : PySem.W.Frag) (Av : Addr → Prop) (pu : Option Addr) (H : Hp) : Option D → Option (Option V) → Prop
  | none, _ => True
  | some (.own p ds), o => o = some (some (.ref p)) ∧ ∃ vs, H p = some (.lst vs) ∧ Rps K Av H ds vs
  | some (.pur p), o => o = some (some (.ref p)) ∧ pu = some p
  | some (.ownK p ks ds), o => o = some (some (.ref p)) ∧ ∃ kvs, H p = some (.dK kvs) ∧ kvs.map (·.1) = ks ∧ Rps K Av H ds (kvs.map (·.2))
  | some (.ownT p ks ds), o => o = some (some (.ref p)) ∧ ∃ kvs, H p = some (.dT kvs) ∧ kvs.map (·.1) = ks ∧ Rps K Av H ds (kvs.map (·.2))
  | some (.ins p dx C ns ds), o => o = some (some (.ref p)) ∧ ∃ gs, H p = some (.ins C dx gs) ∧ gs.map (·.1) = ns ∧ Rps K Av H ds (gs.map (·.2))
  | some (.ownN p ks ps ds), o => o = some (some (.ref p)) ∧ H p = some (nstO ks ps) ∧ (∀ l, ks = some l → l.length = ps.length) ∧ Nst K Av H ps ds
  | some d, o => ∃ v, o = some (some v) ∧ Rp K Av H d v
/-- what an expression's value stands for; Hs: the heap at its start -/
def RpE (K : PySem.W.Frag) (Av Ow : Addr → Prop) (pu : Option Addr) (Hs H : Hp) : D → V → Prop
  | .own p ds, v => v = .ref p ∧ (pu ≠ some p ∧ Ow p) ∧ ∃ vs, H p = some (.lst vs) ∧ Rps K Av H ds vs
  | .pur p, v => v = .ref p ∧ pu = some p
  | .ownK p ks ds, v => v = .ref p ∧ (pu ≠ some p ∧ Ow p) ∧ ∃ kvs, H p = some (.dK kvs) ∧ kvs.map (·.1) = ks ∧ Rps K Av H ds (kvs.map (·.2))
  | .ownT p ks ds, v => v = .ref p ∧ (pu ≠ some p ∧ Ow p) ∧ ∃ kvs, H p = some (.dT kvs) ∧ kvs.map (·.1) = ks ∧ Rps K Av H ds (kvs.map (·.2))
  | .ins p dx C ns ds, v => v = .ref p ∧ (pu ≠ some p ∧ Ow p) ∧ ∃ gs, H p = some (.ins C dx gs) ∧ gs.map (·.1) = ns ∧ Rps K Av H ds (gs.map (·.2))
  | .new ds, v => ∃ p vs, v = .ref p ∧ Hs p = none ∧ ¬ Av p ∧ pu ≠ some p ∧ H p = some (.lst vs) ∧ Rps K (fun a => Av a ∨ a = p) H ds vs
  | .newK, v => ∃ p, v = .ref p ∧ Hs p = none ∧ ¬ Av p ∧ pu ≠ some p ∧ H p = some (.dK [])
  | .newT, v => ∃ p, v = .ref p ∧ Hs p = none ∧ ¬ Av p ∧ pu ≠ some p ∧ H p = some (.dT [])
  | .ownN p ks ps ds, v => v = .ref p ∧ (∀ a ∈ p :: ps, pu ≠ some a ∧ Ow a) ∧ H p = some (nstO ks ps) ∧ (∀ l, ks = some l → l.length = ps.length) ∧ Nst K Av H ps ds
  | .newN ks ds, v => ∃ p ps, v = .ref p ∧ (p :: ps).Nodup ∧ (∀ a ∈ p :: ps, Hs a = none ∧ ¬ Av a ∧ pu ≠ some a) ∧ H p = some (nstO ks ps) ∧ (∀ l, ks = some l → l.length = ps.length) ∧ Nst K (fun a => Av a ∨ a ∈ p :: ps) H ps ds
  | .newP d ds, v => ∃ a p w vs, v = .ref a ∧ ¬ Av a ∧ H a = some (.tup [w, .ref p]) ∧ Hs p = none ∧ ¬ Av p ∧ pu ≠ some p ∧ H p = some (.lst vs) ∧ Rp K (fun a => Av a ∨ a = p) H d w ∧ Rps K (fun a => Av a ∨ a = p) H ds vs
  | .newD ks ds, v => ∃ p kvs, v = .ref p ∧ Hs p = none ∧ ¬ Av p ∧ pu ≠ some p ∧ H p = some (.dT kvs) ∧ kvs.map (·.1) = ks ∧ Rps K (fun a => Av a ∨ a = p) H ds (kvs.map (·.2))
  | d, v => Rp K Av H d v
def pureD : D → Bool
  | .own _ _ => false | .pur _ => false | .ownK _ _ _ => false | .ownT _ _ _ => false | .new _ => false | .newK => false | .newT => false | .ins _ _ _ _ _ => false | .ownN _ _ _ _ => false | .newN _ _ => false | .newP _ _ => false | .newD _ _ => false
  | _ => true
/-- as a thing that is never changed again -/
def frz : D → D
  | .own _ ds => .lst ds
  | .new ds => .lst ds
  | d => d
section
variable {K : PySem.W.Frag} {Av Av' Ow : Addr → Prop} {pu : Option Addr} {Hs Hs' H H' : Hp} {d : D} {v : V}
theorem RpE.of (h : Rp K Av H d v) : RpE K Av Ow pu Hs H d v := by
  cases d <;> first | exact h | exact h.elim
theorem RpE.pure (p : pureD d = true) (h : RpE K Av Ow pu Hs H d v) : Rp K Av H d v := by
  cases d <;> first | exact h | cases p
theorem Rp.isPure (h : Rp K Av H d v) : pureD d = true := by
  cases d <;> first | rfl | exact h.elim
theorem RpE.kp (hx : ∀ a, pu = some a → Av a) (k : Kp pu H H') (h : RpE K Av Ow pu Hs H d v) : RpE K Av Ow pu Hs H' d v := by
  cases d with
  | own p ds => obtain ⟨e, n, vs, h1, h2⟩ := h; exact ⟨e, n, vs, k _ _ n.1 h1, h2.kp hx k⟩
  | ownK p ks ds => obtain ⟨e, n, kvs, h1, h3, h2⟩ := h; exact ⟨e, n, kvs, k _ _ n.1 h1, h3, h2.kp hx k⟩
  | ownT p ks ds => obtain ⟨e, n, kvs, h1, h3, h2⟩ := h; exact ⟨e, n, kvs, k _ _ n.1 h1, h3, h2.kp hx k⟩
  | ins p dx C ns ds => obtain ⟨e, n, kvs, h1, h3, h2⟩ := h; exact ⟨e, n, kvs, k _ _ n.1 h1, h3, h2.kp hx k⟩
  | new ds => obtain ⟨p, vs, e, h0, h1, n, h2, h3⟩ := h; exact ⟨p, vs, e, h0, h1, n, k _ _ n h2, h3.kp (fun a z => .inl (hx a z)) k⟩
  | newK => obtain ⟨p, e, h0, h1, n, h2⟩ := h; exact ⟨p, e, h0, h1, n, k _ _ n h2⟩
  | newT => obtain ⟨p, e, h0, h1, n, h2⟩ := h; exact ⟨p, e, h0, h1, n, k _ _ n h2⟩
  | ownN p ks ps ds => obtain ⟨e, n, h1, l, h2⟩ := h; exact ⟨e, n, k _ _ (n p List.mem_cons_self).1 h1, l, h2.to (fun _ _ z => z.kp hx k) fun a m o z => k a o (n a (List.mem_cons_of_mem _ m)).1 z⟩
  | newN ks ds => obtain ⟨p, ps, e, nd, n, h1, l, h2⟩ := h; exact ⟨p, ps, e, nd, n, k _ _ (n p List.mem_cons_self).2.2 h1, l, h2.to (fun _ _ z => z.kp (fun a z => .inl (hx a z)) k) fun a m o z => k a o (n a (List.mem_cons_of_mem _ m)).2.2 z⟩
  | newP d ds => obtain ⟨a, p, w, vs, e, na, ha, h0, h1, n, h2, h3, h4⟩ := h; exact ⟨a, p, w, vs, e, na, k _ _ (fun z => na (hx a z)) ha, h0, h1, n, k _ _ n h2, h3.kp (fun a z => .inl (hx a z)) k, h4.kp (fun a z => .inl (hx a z)) k⟩
  | newD ks ds => obtain ⟨p, kvs, e, h0, h1, n, h2, h4, h3⟩ := h; exact ⟨p, kvs, e, h0, h1, n, k _ _ n h2, h4, h3.kp (fun a z => .inl (hx a z)) k⟩
  | pur p => exact h
  | non => exact h
  | bl b => exact h
  | int i => exact h
  | str x => exact h
  | raw u => exact h
  | tup ds => exact Rp.kp (d := .tup ds) hx k h
  | ktup ds => exact Rp.kp (d := .ktup ds) hx k h
  | slst ds => exact Rp.kp (d := .slst ds) hx k h
  | lst ds => exact Rp.kp (d := .lst ds) hx k h
  | obj C ns ds => exact Rp.kp (d := .obj C ns ds) hx k h
  | exc C d => exact Rp.kp (d := .exc C d) hx k h
  | dik f ks kds ds => exact Rp.kp (d := .dik f ks kds ds) hx k h
  | lkK ks ds => exact Rp.kp (d := .lkK ks ds) hx k h
  | lkT ks ds => exact Rp.kp (d := .lkT ks ds) hx k h
/-- from an earlier start -/
theorem RpE.early (k : ∀ p, Hs' p = none → Hs p = none) (h : RpE K Av Ow pu Hs' H d v) : RpE K Av Ow pu Hs H d v := by
  cases d with
  | new ds => obtain ⟨p, vs, e, h0, h1⟩ := h; exact ⟨p, vs, e, k p h0, h1⟩
  | newK => obtain ⟨p, e, h0, h1⟩ := h; exact ⟨p, e, k p h0, h1⟩
  | newT => obtain ⟨p, e, h0, h1⟩ := h; exact ⟨p, e, k p h0, h1⟩
  | newN ks ds => obtain ⟨p, ps, e, nd, n, h1⟩ := h; exact ⟨p, ps, e, nd, fun a m => ⟨k a (n a m).1, (n a m).2⟩, h1⟩
  | newP d ds => obtain ⟨a, p, w, vs, e, na, ha, h0, h1⟩ := h; exact ⟨a, p, w, vs, e, na, ha, k p h0, h1⟩
  | newD ks ds => obtain ⟨p, kvs, e, h0, h1⟩ := h; exact ⟨p, kvs, e, k p h0, h1⟩
  | _ => exact h
end

structure SlR (c : Ctx) (σ : L2.St) (H : Hp) (δ : DE) (n : Nat) : Prop where
  len : δ.length = σ.length
  dom : ∀ a, c.M a → ∃ o, H a = some o ∧ NT o
  pur : ∀ p, c.pu = some p → PurseAt H p n ∧ ¬ c.M p
  nd : (addrs δ).Nodup
  dis : ∀ p ∈ addrs δ, ¬ c.M p ∧ c.pu ≠ some p
  sl : ∀ (i : Nat) (s : Option D), δ[i]? = some s → SlAt c.X.K (c.Av δ) c.pu H s (σ[i]?)
structure Bs (c : Ctx) (b : Base) (H : Hp) (δ : DE) : Prop where
  keep : ∀ a o, ¬ b.B a → b.H0 a = some o → H a = some o
  fresh : ∀ p ∈ addrs δ, b.B p ∨ b.H0 p = none
  pu : ∀ p, c.pu = some p → b.B p
section
variable {c : Ctx} {b : Base} {σ : L2.St} {H H' : Hp} {δ : DE} {n n' : Nat}
theorem Ctx.puAv : ∀ a, c.pu = some a → c.Av δ a := fun _ e => .inr (.inl e)
theorem SlAt.kp {o : Option D} {x : Option (Option V)} {Av : Addr → Prop} (hx : ∀ a, c.pu = some a → Av a) (ho : ∀ p ∈ addr1 o, c.pu ≠ some p) (k : Kp c.pu H H') (h : SlAt c.X.K Av c.pu H o x) : SlAt c.X.K Av c.pu H' o x := by
  cases o with
  | none => trivial
  | some d =>
    cases d with
    | own p ds => obtain ⟨e, vs, h1, h2⟩ := h; exact ⟨e, vs, k _ _ (ho p m1) h1, h2.kp hx k⟩
    | ownK p ks ds => obtain ⟨e, vs, h1, h3, h2⟩ := h; exact ⟨e, vs, k _ _ (ho p m1) h1, h3, h2.kp hx k⟩
    | ownT p ks ds => obtain ⟨e, vs, h1, h3, h2⟩ := h; exact ⟨e, vs, k _ _ (ho p m1) h1, h3, h2.kp hx k⟩
    | ins p dx C ns ds => obtain ⟨e, vs, h1, h3, h2⟩ := h; exact ⟨e, vs, k _ _ (ho p m1) h1, h3, h2.kp hx k⟩
    | pur p => exact h
    | new ds => obtain ⟨v, e, r⟩ := h; exact r.elim
    | newK => obtain ⟨v, e, r⟩ := h; exact r.elim
    | ownN p ks ps ds => obtain ⟨e, h1, l, h2⟩ := h; exact ⟨e, k _ _ (ho p List.mem_cons_self) h1, l, h2.to (fun _ _ z => z.kp hx k) fun a m o z => k a o (ho a (List.mem_cons_of_mem _ m)) z⟩
    | newN _ _ => obtain ⟨v, e, r⟩ := h; exact r.elim
    | newP _ _ => obtain ⟨v, e, r⟩ := h; exact r.elim
    | newD _ _ => obtain ⟨v, e, r⟩ := h; exact r.elim
    | newT => obtain ⟨v, e, r⟩ := h; exact r.elim
    | non => exact h
    | bl b => exact h
    | int i => exact h
    | str x => exact h
    | raw u => exact h
    | tup ds => obtain ⟨v, e, r⟩ := h; exact ⟨v, e, r.kp hx k⟩
    | ktup ds => obtain ⟨v, e, r⟩ := h; exact ⟨v, e, r.kp hx k⟩
    | slst ds => obtain ⟨v, e, r⟩ := h; exact ⟨v, e, r.kp hx k⟩
    | lst ds => obtain ⟨v, e, r⟩ := h; exact ⟨v, e, r.kp hx k⟩
    | obj C ns ds => obtain ⟨v, e, r⟩ := h; exact ⟨v, e, r.kp hx k⟩
    | exc C d => obtain ⟨v, e, r⟩ := h; exact ⟨v, e, r.kp hx k⟩
    | dik f ks kds ds => obtain ⟨v, e, r⟩ := h; exact ⟨v, e, r.kp hx k⟩
    | lkK ks ds => obtain ⟨v, e, r⟩ := h; exact ⟨v, e, r.kp hx k⟩
    | lkT ks ds => obtain ⟨v, e, r⟩ := h; exact ⟨v, e, r.kp hx k⟩
theorem mem_addrs2 {i : Nat} {s : Option D} {p : Addr} (h : δ[i]? = some s) (e : p ∈ addr1 s) : p ∈ addrs δ :=
  List.mem_flatMap.mpr ⟨s, List.mem_of_getElem? h, e⟩
theorem mem_addrs {i : Nat} {s : Option D} {p : Addr} (h : δ[i]? = some s) (e : addr1 s = [p]) : p ∈ addrs δ := mem_addrs2 h (by rw [e]; exact m1)
theorem SlR.kp (S : SlR c σ H δ n) (k : Kp c.pu H H') (hp : ∀ p, c.pu = some p → PurseAt H' p n') : SlR c σ H' δ n' where
  len := S.len
  dom := fun a m => by
    obtain ⟨o, e, nt⟩ := S.dom a m
    exact ⟨o, k a o (fun z => (S.pur a z).2 m) e, nt⟩
  pur := fun p e => ⟨hp p e, (S.pur p e).2⟩
  nd := S.nd
  dis := S.dis
  sl := fun i s e => (S.sl i s e).kp Ctx.puAv (fun p z => (S.dis p (mem_addrs2 e z)).2) k
/-- a heap that grew -/
theorem SlR.grow (S : SlR c σ H δ n) (k : Same H H') : SlR c σ H' δ n := S.kp (Kp.of k) fun p e => by
  obtain ⟨⟨x, y, z, h0, h⟩, _⟩ := S.pur p e
  exact ⟨x, y, z, k _ _ h0, h⟩
theorem SlR.less {m : Nat} (S : SlR c σ H δ n) (l : m ≤ n) : SlR c σ H δ m := S.kp Kp.refl fun p e => ((S.pur p e).1).le l
theorem Bs.kp (B : Bs c b H δ) (k : Kp c.pu H H') : Bs c b H' δ where
  keep := fun a o nb e => k a o (fun z => nb (B.pu a z)) (B.keep a o nb e)
  fresh := B.fresh
  pu := B.pu
theorem SlR.addr_some (S : SlR c σ H δ n) {p : Addr} (h : p ∈ addrs δ) : ∃ o, H p = some o := by
  obtain ⟨s, hs, e⟩ := List.mem_flatMap.mp h
  obtain ⟨i, hi⟩ := List.mem_iff_getElem?.mp hs
  have q := S.sl i s hi
  cases s with
  | none => cases e
  | some d =>
    cases d with
    | own p' ds => obtain rfl := List.mem_singleton.mp e; obtain ⟨_, vs, h1, _⟩ := q; exact ⟨_, h1⟩
    | ownK p' ks ds => obtain rfl := List.mem_singleton.mp e; obtain ⟨_, vs, h1, _⟩ := q; exact ⟨_, h1⟩
    | ownT p' ks ds => obtain rfl := List.mem_singleton.mp e; obtain ⟨_, vs, h1, _⟩ := q; exact ⟨_, h1⟩
    | ins p' dx C ns ds => obtain rfl := List.mem_singleton.mp e; obtain ⟨_, vs, h1, _⟩ := q; exact ⟨_, h1⟩
    | ownN p' ks ps ds =>
      obtain ⟨_, h1, _, h2⟩ := q
      rcases List.mem_cons.mp e with rfl | m
      · exact ⟨_, h1⟩
      · obtain ⟨us, h3⟩ := h2.some _ m; exact ⟨_, h3⟩
    | _ => cases e
theorem SlR.av_some (S : SlR c σ H δ n) {p : Addr} (h : c.Av δ p) : ∃ o, H p = some o := by
  rcases h with h | h | h
  · obtain ⟨o, e, _⟩ := S.dom p h
    exact ⟨o, e⟩
  · obtain ⟨⟨x, y, z, h0, _⟩, _⟩ := S.pur p h
    exact ⟨_, h0⟩
  · exact S.addr_some h
theorem SlR.addr_nt (S : SlR c σ H δ n) {p : Addr} (h : p ∈ addrs δ) : ∃ o, H p = some o ∧ NT o := by
  obtain ⟨s, hs, e⟩ := List.mem_flatMap.mp h
  obtain ⟨i, hi⟩ := List.mem_iff_getElem?.mp hs
  have q := S.sl i s hi
  cases s with
  | none => cases e
  | some d =>
    cases d with
    | own p' ds => obtain rfl := List.mem_singleton.mp e; obtain ⟨_, vs, h1, _⟩ := q; exact ⟨_, h1, trivial⟩
    | ownK p' ks ds => obtain rfl := List.mem_singleton.mp e; obtain ⟨_, vs, h1, _⟩ := q; exact ⟨_, h1, trivial⟩
    | ownT p' ks ds => obtain rfl := List.mem_singleton.mp e; obtain ⟨_, vs, h1, _⟩ := q; exact ⟨_, h1, trivial⟩
    | ins p' dx C ns ds => obtain rfl := List.mem_singleton.mp e; obtain ⟨_, vs, h1, _⟩ := q; exact ⟨_, h1, trivial⟩
    | ownN p' ks ps ds =>
      obtain ⟨_, h1, _, h2⟩ := q
      rcases List.mem_cons.mp e with rfl | m
      · exact ⟨_, h1, nt_nst ks ps⟩
      · obtain ⟨us, h3⟩ := h2.some _ m; exact ⟨_, h3, trivial⟩
    | _ => cases e
theorem SlR.av_nt (S : SlR c σ H δ n) {p : Addr} (h : c.Av δ p) : ∃ o, H p = some o ∧ NT o := by
  rcases h with h | h | h
  · exact S.dom p h
  · obtain ⟨⟨x, y, z, h0, _⟩, _⟩ := S.pur p h
    exact ⟨_, h0, trivial⟩
  · exact S.addr_nt h
/-- what may be changed is no tuple -/
theorem SlR.tup_off (S : SlR c σ H δ n) {p : Addr} {xs : List V} (h : H p = some (.tup xs)) : ¬ c.Av δ p := fun z => by
  obtain ⟨o, e, nt⟩ := S.av_nt z
  rw [h] at e; cases e; exact nt
theorem SlR.off (S : SlR c σ H δ n) {p : Addr} (h : H p = none) : ¬ c.Av δ p := fun z => by
  obtain ⟨o, e⟩ := S.av_some z
  rw [h] at e; cases e
theorem SlR.npu (S : SlR c σ H δ n) {p : Addr} (h : H p = none) : c.pu ≠ some p := fun z => S.off h (.inr (.inl z))
theorem Kp.back {σ' : L2.St} {n' : Nat} (S : SlR c σ H δ n) (S' : SlR c σ' H' δ n') (k : Kp c.pu H H') {p : Addr} (h : H' p = none) : H p = none := by
  cases e : H p with
  | none => rfl
  | some o =>
    by_cases z : c.pu = some p
    · exact absurd h (by obtain ⟨⟨x, y, w, h0, _⟩, _⟩ := S'.pur p z; rw [h0]; simp)
    · rw [k p o z e] at h; cases h
end

/-! ### the judgements -/
structure WE (c : Ctx) (e : Expr) (δ : DE) (n : Nat) (Φ : D → Nat → Prop) : Prop where
  run : ∀ σ H Q, SlR c σ H δ n → (∀ v H2 d n2, Kp c.pu H H2 → SlR c σ H2 δ n2 → RpE c.X.K (c.Av δ) (c.Ow δ) c.pu H H2 d v → Φ d n2 → Q v H2) → wE c.X e σ H Q
structure WA (c : Ctx) (es : List Expr) (δ : DE) (n : Nat) (Φ : List D → Nat → Prop) : Prop where
  run : ∀ σ H Q, SlR c σ H δ n → (∀ vs H2 ds n2, Kp c.pu H H2 → SlR c σ H2 δ n2 → Paired (RpE c.X.K (c.Av δ) (c.Ow δ) c.pu H H2) ds vs → Φ ds n2 → Q vs H2) → wA c.X es σ H Q
structure WT (c : Ctx) (e : Expr) (δ : DE) (n : Nat) (Φ : Bool → Nat → Prop) : Prop where
  run : ∀ σ H Q, SlR c σ H δ n → (∀ b H2 n2, Kp c.pu H H2 → SlR c σ H2 δ n2 → Φ b n2 → Q b H2) → wT c.X e σ H Q
structure WW (c : Ctx) (e : Expr) (δ : DE) (n : Nat) (Φ : Bool → Nat → Prop) : Prop where
  run : ∀ σ H Q, SlR c σ H δ n → (∀ b H2 n2, Kp c.pu H H2 → SlR c σ H2 δ n2 → Φ b n2 → Q b H2) → wW c.X e σ H Q
/-- the slots that an assignment may change -/
def Agr (is : List Nat) (σ σ' : L2.St) : Prop := σ'.length = σ.length ∧ ∀ i : Nat, i ∉ is → σ'[i]? = σ[i]?
/-- the own things after an assignment: none new, none lost but what stood in a slot that was set -/
def Sub (is : List Nat) (δ δ' : DE) : Prop := (∀ p ∈ addrs δ', p ∈ addrs δ) ∧ (∀ j : Nat, adr δ j = [] → adr δ' j = []) ∧ ((∀ i ∈ is, adr δ i = []) → ∀ p ∈ addrs δ, p ∈ addrs δ')
structure WG (c : Ctx) (tg : Expr) (is : List Nat) (d : D) (δ : DE) (n : Nat) (Φ : DE → Nat → Prop) : Prop where
  run : ∀ σ H v Q, SlR c σ H δ n → RpE c.X.K (c.Av δ) (c.Ow δ) c.pu H H d v → (∀ σ' δ' n', SlR c σ' H δ' n' → Sub is δ δ' → Agr is σ σ' → Φ δ' n' → Q σ' H) → wG c.X tg v σ H Q
structure WGs (c : Ctx) (tgs : List Expr) (is : List Nat) (ds : List D) (δ : DE) (n : Nat) (Φ : DE → Nat → Prop) : Prop where
  run : ∀ σ H vs Q, SlR c σ H δ n → Rps c.X.K (c.Av δ) H ds vs → (∀ σ' δ' n', SlR c σ' H δ' n' → Sub is δ δ' → Agr is σ σ' → Φ δ' n' → Q σ' H) → wGs c.X tgs vs σ H Q

/-- what may be handed back: a datum, or what is fresh -/
def RetF (K : PySem.W.Frag) (Av Fr : Addr → Prop) (H : Hp) (d : D) (v : V) : Prop :=
  (pureD d = true ∧ Rp K Av H d v) ∨ (∃ ds p vs, d = .new ds ∧ v = .ref p ∧ Fr p ∧ ¬ Av p ∧ H p = some (.lst vs) ∧ Rps K (fun a => Av a ∨ a = p) H ds vs) ∨
  (∃ ks ds p ps, d = .newN ks ds ∧ v = .ref p ∧ (p :: ps).Nodup ∧ (∀ a ∈ p :: ps, Fr a ∧ ¬ Av a) ∧ H p = some (nstO ks ps) ∧ (∀ l, ks = some l → l.length = ps.length) ∧ Nst K (fun a => Av a ∨ a ∈ p :: ps) H ps ds) ∨
  (∃ d1 ds a p w vs, d = .newP d1 ds ∧ v = .ref a ∧ ¬ Av a ∧ H a = some (.tup [w, .ref p]) ∧ Fr p ∧ ¬ Av p ∧ H p = some (.lst vs) ∧ Rp K (fun a => Av a ∨ a = p) H d1 w ∧ Rps K (fun a => Av a ∨ a = p) H ds vs)
theorem RetF.to {K : PySem.W.Frag} {Av Av' Fr Fr' : Addr → Prop} {H : Hp} {d : D} {v : V} (s : ∀ a, Av' a → Av a) (f : ∀ p, ¬ Av p → Fr p → Fr' p) (h : RetF K Av Fr H d v) : RetF K Av' Fr' H d v := by
  have sp : ∀ p a, (Av' a ∨ a = p) → (Av a ∨ a = p) := fun p a z => z.imp (s a) id
  rcases h with ⟨a, b⟩ | ⟨ds, p, vs, e1, e2, e3, e4, e5, e6⟩ | ⟨ks, ds, p, ps, e1, e2, nd, e3, e4, l, e5⟩ | ⟨d1, ds, a, p, w, vs, e1, e2, e3, e4, e5, e6, e7, e8, e9⟩
  · exact .inl ⟨a, b.wk s fun _ _ _ e => e⟩
  · exact .inr (.inl ⟨ds, p, vs, e1, e2, f p e4 e3, fun z => e4 (s p z), e5, e6.wk (sp p) fun _ _ _ e => e⟩)
  · exact .inr (.inr (.inl ⟨ks, ds, p, ps, e1, e2, nd, fun a m => ⟨f a (e3 a m).2 (e3 a m).1, fun z => (e3 a m).2 (s a z)⟩, e4, l, e5.to (fun _ _ z => z.wk (fun a z => z.imp (s a) id) fun _ _ _ e => e) fun _ _ _ e => e⟩))
  · exact .inr (.inr (.inr ⟨d1, ds, a, p, w, vs, e1, e2, fun z => e3 (s a z), e4, f p e6 e5, fun z => e6 (s p z), e7, e8.wk (sp p) fun _ _ _ e => e, e9.wk (sp p) fun _ _ _ e => e⟩))
structure DEnds where
  nx : DE → Nat → Prop
  rt : D → Nat → Prop
  bk : DE → Nat → Prop := fun _ _ => False
  ct : DE → Nat → Prop := fun _ _ => False
structure RetOk (c : Ctx) (b : Base) (H : Hp) (v : V) (d : D) (n : Nat) : Prop where
  keep : ∀ a o, ¬ b.B a → b.H0 a = some o → H a = some o
  pur : ∀ p, c.pu = some p → PurseAt H p n
  rp : RetF c.X.K (c.Av []) (fun p => b.B p ∨ b.H0 p = none) H d v
structure EndsOk (c : Ctx) (b : Base) (D' : DEnds) (DD : Ends) : Prop where
  nx : ∀ σ H δ n, SlR c σ H δ n → Bs c b H δ → D'.nx δ n → DD.nx σ H
  bk : ∀ σ H δ n, SlR c σ H δ n → Bs c b H δ → D'.bk δ n → DD.bk σ H
  ct : ∀ σ H δ n, SlR c σ H δ n → Bs c b H δ → D'.ct δ n → DD.ct σ H
  rt : ∀ v H d n, RetOk c b H v d n → D'.rt d n → DD.rt v H
structure WS (c : Ctx) (st : Stmt) (δ : DE) (n : Nat) (D' : DEnds) : Prop where
  run : ∀ b σ H DD, SlR c σ H δ n → Bs c b H δ → EndsOk c b D' DD → wS c.X st DD σ H
structure WB (c : Ctx) (sts : List Stmt) (δ : DE) (n : Nat) (D' : DEnds) : Prop where
  run : ∀ b σ H DD, SlR c σ H δ n → Bs c b H δ → EndsOk c b D' DD → wB c.X sts DD σ H

section
variable {c : Ctx} {δ : DE} {n : Nat} {e e1 e2 : Expr} {pos : Pos}
theorem WE.imp {Φ Ψ : D → Nat → Prop} (h : WE c e δ n Φ) (k : ∀ d m, Φ d m → Ψ d m) : WE c e δ n Ψ := ⟨fun σ H Q S q => h.run σ H Q S fun v H2 d n2 a b r f => q v H2 d n2 a b r (k d n2 f)⟩
theorem WT.imp {Φ Ψ : Bool → Nat → Prop} (h : WT c e δ n Φ) (k : ∀ d m, Φ d m → Ψ d m) : WT c e δ n Ψ := ⟨fun σ H Q S q => h.run σ H Q S fun v H2 n2 a b f => q v H2 n2 a b (k v n2 f)⟩
theorem WE.less {m : Nat} {Φ : D → Nat → Prop} (h : WE c e δ m Φ) (l : m ≤ n) : WE c e δ n Φ := ⟨fun σ H Q S q => h.run σ H Q (S.less l) q⟩

/-! ### names, constants -/
def notOwn : D → Bool
  | _ => true
/-- the value of a slot -/
theorem SlAt.val {K : PySem.W.Frag} {Av Ow : Addr → Prop} {pu : Option Addr} {H : Hp} {d : D} {o : Option (Option V)} (hp : ∀ p ∈ addr1 (some d), pu ≠ some p ∧ Ow p) (h : SlAt K Av pu H (some d) o) : ∃ v, o = some (some v) ∧ RpE K Av Ow pu H H d v := by
  cases d with
  | own p ds => obtain ⟨e, vs, h1, h2⟩ := h; exact ⟨_, e, rfl, hp p m1, vs, h1, h2⟩
  | ownK p ks ds => obtain ⟨e, vs, h1, h2⟩ := h; exact ⟨_, e, rfl, hp p m1, vs, h1, h2⟩
  | ownT p ks ds => obtain ⟨e, vs, h1, h2⟩ := h; exact ⟨_, e, rfl, hp p m1, vs, h1, h2⟩
  | ins p dx C ns ds => obtain ⟨e, vs, h1, h2⟩ := h; exact ⟨_, e, rfl, hp p m1, vs, h1, h2⟩
  | pur p => obtain ⟨e, h1⟩ := h; exact ⟨_, e, rfl, h1⟩
  | new ds => obtain ⟨v, e, r⟩ := h; exact r.elim
  | newK => obtain ⟨v, e, r⟩ := h; exact r.elim
  | newT => obtain ⟨v, e, r⟩ := h; exact r.elim
  | ownN p ks ps ds => obtain ⟨e, h1, h2⟩ := h; exact ⟨_, e, rfl, hp, h1, h2⟩
  | newN _ _ => obtain ⟨v, e, r⟩ := h; exact r.elim
  | newP _ _ => obtain ⟨v, e, r⟩ := h; exact r.elim
  | newD _ _ => obtain ⟨v, e, r⟩ := h; exact r.elim
  | _ => exact h
theorem we_var (i : Nat) {x : Str} {d : D} {Φ : D → Nat → Prop} (hd : δ[i]? = some (some d)) (h : Φ d n) (hN : c.X.N[i]? = some x := by rfl) (hv : Vis c.X.env.scope x := by first | exact Or.inl rfl | exact Or.inr (Or.inl rfl) | exact Or.inr (Or.inr rfl))
    (h1 : (x == ("__debug__" : Str)) = false := by decide) (h2 : (x == ("__classdict__" : Str)) = false := by decide) : WE c (.Name x pos) δ n Φ := ⟨fun σ H Q S q => by
  obtain ⟨v, e, r⟩ := (S.sl i _ hd).val (Ow := c.Ow δ) fun p z => ⟨(S.dis p (mem_addrs2 hd z)).2, mem_addrs2 hd z⟩
  exact pe_to (pe_var hN hv h1 h2) ⟨v, e, q v H d n Kp.refl S r h⟩⟩
theorem we_int {i : Int} {j : Nat} {Φ : D → Nat → Prop} (h : Φ (.int i) n) : WE c (.Constant (.int i) j pos) δ n Φ := ⟨fun σ H Q S q => pe_to pe_int (q _ H (D.int i) n Kp.refl S rfl h)⟩
theorem we_bl {i : Bool} {j : Nat} {Φ : D → Nat → Prop} (h : Φ (.bl i) n) : WE c (.Constant (.bool i) j pos) δ n Φ := ⟨fun σ H Q S q => pe_to pe_bl (q _ H (D.bl i) n Kp.refl S rfl h)⟩
theorem we_non {j : Nat} {Φ : D → Nat → Prop} (h : Φ .non n) : WE c (.Constant .none j pos) δ n Φ := ⟨fun σ H Q S q => pe_to pe_non (q _ H (D.non) n Kp.refl S rfl h)⟩
theorem we_str {x : Str} {j : Nat} {Φ : D → Nat → Prop} (h : Φ (.str x) n) : WE c (.Constant (.str x) j pos) δ n Φ := ⟨fun σ H Q S q => pe_to pe_str (q _ H (D.str x) n Kp.refl S rfl h)⟩

/-! ### two operands -/
/-- what a rule on values must say of data -/
def R2ok (c : Ctx) (δ : DE) (r : R2) (R : D → D → (D → Prop) → Prop) : Prop :=
  ∀ σ H Hs n x y v u (Φ : D → Prop) (Q : VK), SlR c σ H δ n → (∀ p, H p = none → Hs p = none) → RpE c.X.K (c.Av δ) (c.Ow δ) c.pu Hs H x v → RpE c.X.K (c.Av δ) (c.Ow δ) c.pu Hs H y u → R x y Φ →
    (∀ w H3 z, Same H H3 → RpE c.X.K (c.Av δ) (c.Ow δ) c.pu Hs H3 z w → Φ z → Q w H3) → r v u H Q
theorem two {r : R2} {R : D → D → (D → Prop) → Prop} (ok : R2ok c δ r R) {Φ : D → Nat → Prop} (h : WE c e1 δ n fun x n1 => WE c e2 δ n1 fun y n2 => R x y fun z => Φ z n2)
    {σ : L2.St} {H : Hp} {Q : VK} (S : SlR c σ H δ n) (q : ∀ v H2 d n2, Kp c.pu H H2 → SlR c σ H2 δ n2 → RpE c.X.K (c.Av δ) (c.Ow δ) c.pu H H2 d v → Φ d n2 → Q v H2) : tOp r (wE c.X e1) (wE c.X e2) σ H Q := by
  refine h.run σ H _ S fun v H2 x n1 k1 S1 r1 h2 => ?_
  refine h2.run σ H2 _ S1 fun u H3 y n2 k2 S2 r2 h3 => ?_
  have back : ∀ p, H3 p = none → H2 p = none := fun p z => Kp.back S1 S2 k2 z
  have back1 : ∀ p, H2 p = none → H p = none := fun p z => Kp.back S S1 k1 z
  refine ok σ H3 H n2 x y v u _ Q S2 (fun p z => back1 p (back p z)) (r1.kp Ctx.puAv k2) (r2.early back1) h3 fun w H4 z k4 r4 f => ?_
  exact q w H4 z n2 ((k1.trans k2).trans (Kp.of k4)) (S2.grow k4) r4 f
theorem we_bin {op : Operator} {r : R2} {R : D → D → (D → Prop) → Prop} (ho : OpR c.X (binaryOp op) r) (ok : R2ok c δ r R) {Φ : D → Nat → Prop}
    (h : WE c e1 δ n fun x n1 => WE c e2 δ n1 fun y n2 => R x y fun z => Φ z n2) : WE c (.BinOp e1 op e2 pos) δ n Φ := ⟨fun σ H Q S q => pe_to (pe_op ho pe_w pe_w) (two ok h S q)⟩
theorem we_cmp1 {op : CmpOp} {r : R2} {R : D → D → (D → Prop) → Prop} (ho : OpR c.X (compareOp op) r) (hm : behindInMarks op e2 = false) (ok : R2ok c δ r R) {Φ : D → Nat → Prop}
    (h : WE c e1 δ n fun x n1 => WE c e2 δ n1 fun y n2 => R x y fun z => Φ z n2) : WE c (.Compare e1 [op] [e2] pos) δ n Φ := ⟨fun σ H Q S q => pe_to (pe_cmpR ho pe_w pe_w hm) (two ok h S q)⟩
theorem wt_cmp1 {op : CmpOp} {r : R2} {R : D → D → (D → Prop) → Prop} (ho : OpR c.X (compareOp op) r) (hm : behindInMarks op e2 = false) (ok : R2ok c δ r R) {Φ : Bool → Nat → Prop}
    (h : WE c e1 δ n fun x n1 => WE c e2 δ n1 fun y n2 => R x y fun z => ∃ b, z = .bl b ∧ Φ b n2) : WT c (.Compare e1 [op] [e2] pos) δ n Φ := ⟨fun σ H Q S q => by
  refine pt_to (pt_cmpR ho pe_w pe_w hm) ?_
  refine two (Φ := fun z n2 => ∃ b, z = .bl b ∧ Φ b n2) ok h S fun v H2 d n2 k S2 r f => ?_
  obtain ⟨b, rfl, f⟩ := f
  have e : v = .bl b := r
  exact ⟨b, e, q b H2 n2 k S2 f⟩⟩
end
end DL

/-! DLc: operators and comparisons over data. -/
namespace DL
open PySem PySem.Spec PyProof.Rows L2

def lstOf : D → Option (List D)
  | .lst ds => some ds | .own _ ds => some ds | .new ds => some ds | _ => none
def tupOf : D → Option (List D)
  | .tup ds => some ds | .ktup ds => some ds | _ => none
def seqOf : D → Option (List D)
  | .lst ds => some ds | .own _ ds => some ds | .new ds => some ds | .tup ds => some ds | .ktup ds => some ds | .slst ds => some ds | _ => none
section
variable {K : PySem.W.Frag} {Av Ow : Addr → Prop} {pu : Option Addr} {Hs H : Hp} {d : D} {v : V} {ds : List D}
theorem RpE.lstOf (h : RpE K Av Ow pu Hs H d v) (e : lstOf d = some ds) : ∃ p vs, v = .ref p ∧ H p = some (.lst vs) ∧ Rps K Av H ds vs := by
  cases d with
  | lst es => cases e; obtain ⟨a, vs, e1, _, h1, h2⟩ := h; exact ⟨a, vs, e1, h1, h2⟩
  | own p es => cases e; obtain ⟨e1, _, vs, h1, h2⟩ := h; exact ⟨p, vs, e1, h1, h2⟩
  | new es => cases e; obtain ⟨p, vs, e1, _, _, _, h1, h2⟩ := h; exact ⟨p, vs, e1, h1, h2.wk (fun _ z => .inl z) fun _ _ _ e => e⟩
  | _ => cases e
theorem RpE.tupOf (h : RpE K Av Ow pu Hs H d v) (e : tupOf d = some ds) : ∃ p vs, v = .ref p ∧ SqT K H p vs ∧ Rps K Av H ds vs := by
  cases d with
  | tup es => cases e; obtain ⟨a, vs, e1, _, h1, h2⟩ := h; exact ⟨a, vs, e1, .of h1, h2⟩
  | ktup es => cases e; obtain ⟨a, vs, e1, h1, h2⟩ := h; exact ⟨a, vs, e1, TAt.sq h1, h2⟩
  | _ => cases e
theorem RpE.seqOf (h : RpE K Av Ow pu Hs H d v) (e : seqOf d = some ds) : ∃ p vs, v = .ref p ∧ (SqL K H p vs ∨ SqT K H p vs) ∧ Rps K Av H ds vs := by
  cases d with
  | lst es => obtain ⟨p, vs, e1, h1, h2⟩ := h.lstOf (ds := es) rfl; cases e; exact ⟨p, vs, e1, .inl (.of h1), h2⟩
  | own p es => obtain ⟨p, vs, e1, h1, h2⟩ := h.lstOf (ds := es) rfl; cases e; exact ⟨p, vs, e1, .inl (.of h1), h2⟩
  | new es => obtain ⟨p, vs, e1, h1, h2⟩ := h.lstOf (ds := es) rfl; cases e; exact ⟨p, vs, e1, .inl (.of h1), h2⟩
  | tup es => obtain ⟨p, vs, e1, h1, h2⟩ := h.tupOf (ds := es) rfl; cases e; exact ⟨p, vs, e1, .inr h1, h2⟩
  | ktup es => obtain ⟨p, vs, e1, h1, h2⟩ := h.tupOf (ds := es) rfl; cases e; exact ⟨p, vs, e1, .inr h1, h2⟩
  | slst es => cases e; obtain ⟨p, vs, e1, h1, h2⟩ := h; exact ⟨p, vs, e1, .inl (KL.sq h1), h2⟩
  | _ => cases e
theorem sz {n : Nat} (h : n ≤ 16000000) : n ≤ sizeLine := Nat.le_trans h (by decide)
end
section
variable {c : Ctx} {σ : L2.St} {δ : DE} {Hs H : Hp} {n : Nat}
/-- a new list, a new tuple at p -/
theorem RpE.mkNew (S : SlR c σ H δ n) (hs : ∀ p, H p = none → Hs p = none) {p : Addr} {vs : List V} {ds : List D} (hp : H p = none) (r : Rps c.X.K (c.Av δ) H ds vs) : RpE c.X.K (c.Av δ) (c.Ow δ) c.pu Hs (upd H p (.lst vs)) (.new ds) (.ref p) :=
  ⟨p, vs, rfl, hs p hp, S.off hp, S.npu hp, upd_same, (r.off hp fun _ z => z).kp (ex := c.pu) (fun a z => .inl (Ctx.puAv a z)) (Kp.new hp)⟩
theorem RpE.mkTup (S : SlR c σ H δ n) {p : Addr} {vs : List V} {ds : List D} (hp : H p = none) (r : Rps c.X.K (c.Av δ) H ds vs) : RpE c.X.K (c.Av δ) (c.Ow δ) c.pu Hs (upd H p (.tup vs)) (.tup ds) (.ref p) :=
  ⟨p, vs, rfl, S.off hp, upd_same, r.kp (ex := c.pu) Ctx.puAv (Kp.new hp)⟩
theorem same_new {p : Addr} {o : HO} (hp : H p = none) : Same H (upd H p o) := fun a u e => by rw [upd_ne (ne_of_none e hp)]; exact e
end

/-! ### + -/
def AddR : D → D → (D → Prop) → Prop
  | .int i, .int j, Φ => Φ (.int (i + j))
  | .tup xs, y, Φ => ∃ ys, tupOf y = some ys ∧ xs.length + ys.length ≤ 16000000 ∧ xs ≠ [] ∧ ys ≠ [] ∧ Φ (.tup (xs ++ ys))
  | x, y, Φ => ∃ xs ys, lstOf x = some xs ∧ lstOf y = some ys ∧ xs.length + ys.length ≤ 16000000 ∧ Φ (.new (xs ++ ys))
def rAddA (K : PySem.W.Frag) : R2 := fun x y H Q => (∃ i j, x = .int i ∧ y = .int j ∧ Q (.int (i + j)) H) ∨ (rCat x y H Q ∨ rCatT K x y H Q)
theorem op_addA {X : Cx} : OpR X (binaryOp .Add) (rAddA X.K) := OpR.or op_add (OpR.or op_cat op_catT)
theorem add_list {K : PySem.W.Frag} {c : Ctx} {δ : DE} {σ : L2.St} {H Hs : Hp} {n : Nat} {x y : D} {v u : V} {Φ : D → Prop} {Q : VK} (S : SlR c σ H δ n) (hs : ∀ p, H p = none → Hs p = none) (rx : RpE c.X.K (c.Av δ) (c.Ow δ) c.pu Hs H x v) (ry : RpE c.X.K (c.Av δ) (c.Ow δ) c.pu Hs H y u)
    (h : ∃ xs ys, lstOf x = some xs ∧ lstOf y = some ys ∧ xs.length + ys.length ≤ 16000000 ∧ Φ (.new (xs ++ ys)))
    (q : ∀ w H3 z, Same H H3 → RpE c.X.K (c.Av δ) (c.Ow δ) c.pu Hs H3 z w → Φ z → Q w H3) : rCat v u H Q := by
  obtain ⟨xs, ys, e1, e2, l, f⟩ := h
  obtain ⟨p, vs, rfl, h1, h2⟩ := rx.lstOf e1
  obtain ⟨p', vs', rfl, h1', h2'⟩ := ry.lstOf e2
  exact ⟨p, p', vs, vs', rfl, rfl, h1, h1', sz (by rw [← h2.length, ← h2'.length]; exact l), fun a ha => q _ _ _ (same_new ha) (RpE.mkNew S hs ha (h2.append h2')) f⟩
theorem addR_ok {c : Ctx} {δ : DE} : R2ok c δ (rAddA c.X.K) AddR := by
  intro σ H Hs n x y v u Φ Q S hs rx ry h q
  cases x with
  | int i =>
    cases y with
    | int j =>
      have e1 : v = .int i := rx
      have e2 : u = .int j := ry
      subst e1 e2
      exact .inl ⟨i, j, rfl, rfl, q _ H (.int (i + j)) (Same.refl H) rfl h⟩
    | _ => (obtain ⟨xs, ys, e1, _⟩ := h; cases e1)
  | tup xs =>
    obtain ⟨ys, e2, l, n1, n2, f⟩ := h
    obtain ⟨p, vs, rfl, h1, h2⟩ := rx.tupOf (ds := xs) rfl
    obtain ⟨p', vs', rfl, h1', h2'⟩ := ry.tupOf e2
    have ne1 : vs ≠ [] := fun z => n1 (List.eq_nil_of_length_eq_zero (by rw [h2.length, z]; rfl))
    have ne2 : vs' ≠ [] := fun z => n2 (List.eq_nil_of_length_eq_zero (by rw [h2'.length, z]; rfl))
    exact .inr (.inr ⟨p, p', vs, vs', rfl, rfl, h1, h1', ne1, sz (by rw [← h2.length, ← h2'.length]; exact l), fun z => absurd z ne2, fun _ a ha => q _ _ _ (same_new ha) (RpE.mkTup S ha (h2.append h2')) f⟩)
  | lst xs => exact .inr (.inl (add_list (K := c.X.K) S hs rx ry h q))
  | own p xs => exact .inr (.inl (add_list (K := c.X.K) S hs rx ry h q))
  | new xs => exact .inr (.inl (add_list (K := c.X.K) S hs rx ry h q))
  | _ => (obtain ⟨xs, ys, e1, _⟩ := h; cases e1)

/-! ### - * // % ** of ints -/
def IntR (C : Int → Int → Prop) (g : Int → Int → D) : D → D → (D → Prop) → Prop
  | .int i, .int j, Φ => C i j ∧ Φ (g i j)
  | _, _, _ => False
def dV : D → V
  | .non => .non | .bl b => .bl b | .int i => .int i | .str x => .str x | .raw v => v | _ => .non
def flat : D → Bool
  | .non => true | .bl _ => true | .int _ => true | .str _ => true | _ => false
theorem intR_ok {c : Ctx} {δ : DE} {C : Int → Int → Prop} {g : Int → Int → D} (hg : ∀ i j, flat (g i j) = true) : R2ok c δ (rI C fun i j => dV (g i j)) (IntR C g) := by
  intro σ H Hs n x y v u Φ Q S hs rx ry h q
  cases x with
  | int i =>
    cases y with
    | int j =>
      have e1 : v = .int i := rx
      have e2 : u = .int j := ry
      subst e1 e2
      refine ⟨i, j, rfl, rfl, h.1, q _ H (g i j) (Same.refl H) ?_ h.2⟩
      have z := hg i j
      show RpE c.X.K (c.Av δ) (c.Ow δ) c.pu Hs H (g i j) (dV (g i j))
      generalize g i j = w at z
      cases w <;> first | rfl | cases z
    | _ => exact h.elim
  | _ => exact h.elim
def SubR : D → D → (D → Prop) → Prop
  | .int i, .int j, Φ => Φ (.int (i - j))
  | _, _, _ => False
def FdivR : D → D → (D → Prop) → Prop
  | .int i, .int j, Φ => CDivW i j ∧ Φ (.int (i / j))
  | _, _, _ => False
def ModR : D → D → (D → Prop) → Prop
  | .int i, .int j, Φ => 0 < j ∧ Φ (.int (i % j))
  | _, _, _ => False
def CPowW (i j : Int) : Prop := 0 ≤ j ∧ (Builtin.Int.intBits i : Int) * j ≤ 2 ^ 27
def PowR : D → D → (D → Prop) → Prop
  | .int i, .int j, Φ => CPowW i j ∧ Φ (.int (i ^ j.toNat))
  | _, _, _ => False
/-- rules for one R, made of IntR -/
theorem R2ok.conv {c : Ctx} {δ : DE} {r r' : R2} {R R' : D → D → (D → Prop) → Prop} (h : R2ok c δ r R) (h1 : ∀ x y Φ, R' x y Φ → R x y Φ) (h2 : ∀ x y H Q, r x y H Q → r' x y H Q) : R2ok c δ r' R' :=
  fun σ H Hs n x y v u Φ Q S hs rx ry z q => h2 _ _ _ _ (h σ H Hs n x y v u Φ Q S hs rx ry (h1 _ _ _ z) q)
theorem op_powW {X : Cx} : OpR X (binaryOp .Pow) (rI CPowW fun i j => .int (i ^ j.toNat)) := opI fun _ _ _ _ _ _ _ hc q => pow_int hc.1 hc.2 q
theorem subR_ok {c : Ctx} {δ : DE} : R2ok c δ (rI0 fun i j => .int (i - j)) SubR :=
  (intR_ok (C := fun _ _ => True) (g := fun i j => .int (i - j)) fun _ _ => rfl).conv (fun x y Φ h => by cases x <;> cases y <;> first | exact ⟨trivial, h⟩ | exact h) fun x y H Q ⟨i, j, a, b, _, k⟩ => ⟨i, j, a, b, k⟩
theorem fdivR_ok {c : Ctx} {δ : DE} : R2ok c δ (rI CDivW fun i j => .int (i / j)) FdivR :=
  (intR_ok (C := CDivW) (g := fun i j => .int (i / j)) fun _ _ => rfl).conv (fun x y Φ h => by cases x <;> cases y <;> exact h) fun x y H Q h => h
theorem modR_ok {c : Ctx} {δ : DE} : R2ok c δ (rI (fun _ j => 0 < j) fun i j => .int (i % j)) ModR :=
  (intR_ok (C := fun _ j => 0 < j) (g := fun i j => .int (i % j)) fun _ _ => rfl).conv (fun x y Φ h => by cases x <;> cases y <;> exact h) fun x y H Q h => h
theorem powR_ok {c : Ctx} {δ : DE} : R2ok c δ (rI CPowW fun i j => .int (i ^ j.toNat)) PowR :=
  (intR_ok (C := CPowW) (g := fun i j => .int (i ^ j.toNat)) fun _ _ => rfl).conv (fun x y Φ h => by cases x <;> cases y <;> exact h) fun x y H Q h => h
/-- i * j of ints; a list times a number -/
def repD (k : Nat) (xs : List D) : List D := (List.replicate k xs).flatten
def MulR : D → D → (D → Prop) → Prop
  | .int i, .int j, Φ => CMulW i j ∧ Φ (.int (i * j))
  | x, .int k, Φ => ∃ xs, lstOf x = some xs ∧ 0 ≤ k ∧ k ≤ 16000000 ∧ xs.length * k.toNat ≤ 16000000 ∧ Φ (.new (repD k.toNat xs))
  | _, _, _ => False
theorem Rps.rep {K : PySem.W.Frag} {Av : Addr → Prop} {H : Hp} {ds : List D} {vs : List V} (h : Rps K Av H ds vs) : ∀ k, Rps K Av H (repD k ds) (List.replicate k vs).flatten
  | 0 => rfl
  | k + 1 => by
    show Rps K Av H (List.replicate (k + 1) ds).flatten (List.replicate (k + 1) vs).flatten
    rw [List.replicate_succ, List.replicate_succ, List.flatten_cons, List.flatten_cons]
    exact h.append (Rps.rep h k)
theorem op_mulA {X : Cx} : OpR X (binaryOp .Mult) (fun x y H Q => rI CMulW (fun i j => .int (i * j)) x y H Q ∨ rRep x y H Q) := OpR.or op_mulW op_rep
theorem mulR_ok {c : Ctx} {δ : DE} : R2ok c δ (fun x y H Q => rI CMulW (fun i j => .int (i * j)) x y H Q ∨ rRep x y H Q) MulR := by
  intro σ H Hs n x y v u Φ Q S hs rx ry h q
  cases y with
  | int j =>
    have e2 : u = .int j := ry
    subst e2
    have key : (∃ xs, lstOf x = some xs ∧ 0 ≤ j ∧ j ≤ 16000000 ∧ xs.length * j.toNat ≤ 16000000 ∧ Φ (.new (repD j.toNat xs))) → rRep v (.int j) H Q := fun ⟨xs, e, h0, h1, h2, f⟩ => by
      obtain ⟨p, vs, rfl, h3, h4⟩ := rx.lstOf e
      exact ⟨p, j, vs, rfl, rfl, h3, by omega, by omega, sz (by rw [← h4.length]; exact h2), fun a ha => q _ _ _ (same_new ha) (RpE.mkNew S hs ha (h4.rep _)) f⟩
    cases x with
    | int i =>
      have e1 : v = .int i := rx
      subst e1
      exact .inl ⟨i, j, rfl, rfl, h.1, q _ H (.int (i * j)) (Same.refl H) rfl h.2⟩
    | lst xs => exact .inr (key h)
    | own p xs => exact .inr (key h)
    | new xs => exact .inr (key h)
    | _ => (obtain ⟨xs, e, _⟩ := h; cases e)
  | _ => cases x <;> exact h.elim

/-! ### < <= > >= of ints -/
def CmpI (p : Int → Int → Bool) : D → D → (D → Prop) → Prop
  | .int i, .int j, Φ => Φ (.bl (p i j))
  | _, _, _ => False
theorem cmpI_ok {c : Ctx} {δ : DE} {p : Int → Int → Bool} : R2ok c δ (rI0 fun i j => .bl (p i j)) (CmpI p) :=
  (intR_ok (C := fun _ _ => True) (g := fun i j => .bl (p i j)) fun _ _ => rfl).conv (fun x y Φ h => by cases x <;> cases y <;> first | exact ⟨trivial, h⟩ | exact h) fun x y H Q ⟨i, j, a, b, _, k⟩ => ⟨i, j, a, b, k⟩

/-! ### == != of data -/
mutual
def toPy : D → PyData
  | .non => .none | .bl b => .bool b | .int i => .int i | .str x => .str x
  | .tup ds => .tuple (toPys ds) | .ktup ds => .tuple (toPys ds) | .lst ds => .list (toPys ds) | .own _ ds => .list (toPys ds) | .new ds => .list (toPys ds)
  | _ => .none
def toPys : List D → List PyData
  | [] => []
  | d :: ds => toPy d :: toPys ds
end
mutual
def isPy : D → Bool
  | .non => true | .bl _ => true | .int _ => true | .str _ => true
  | .tup ds => isPys ds | .ktup ds => isPys ds | .lst ds => isPys ds | .own _ ds => isPys ds | .new ds => isPys ds
  | _ => false
def isPys : List D → Bool
  | [] => true
  | d :: ds => isPy d && isPys ds
end
mutual
theorem Rp.dp {K : PySem.W.Frag} {Av : Addr → Prop} {H : Hp} : ∀ {d : D} {v : V}, Rp K Av H d v → isPy d = true → Dp K H v (toPy d)
  | .non, _, h, _ => by have e : _ = _ := h; subst e; exact .non
  | .bl b, _, h, _ => by have e : _ = _ := h; subst e; exact .bl b
  | .int b, _, h, _ => by have e : _ = _ := h; subst e; exact .int b
  | .str b, _, h, _ => by have e : _ = _ := h; subst e; exact .str b
  | .tup ds, _, h, i => by
    obtain ⟨a, vs, rfl, _, h1, h2⟩ := h
    exact .tup (.of h1) (Rps.dp h2 (by simpa [isPy] using i))
  | .ktup ds, _, h, i => by
    obtain ⟨a, vs, rfl, h1, h2⟩ := h
    exact .tup (TAt.sq h1) (Rps.dp h2 (by simpa [isPy] using i))
  | .lst ds, _, h, i => by
    obtain ⟨a, vs, rfl, _, h1, h2⟩ := h
    exact .lst (.of h1) (Rps.dp h2 (by simpa [isPy] using i))
  | .slst _, _, _, i => by simp [isPy] at i
  | .obj _ _ _, _, _, i => by simp [isPy] at i
  | .exc _ _, _, _, i => by simp [isPy] at i
  | .dik _ _ _ _, _, _, i => by simp [isPy] at i
  | .lkK _ _, _, _, i => by simp [isPy] at i
  | .lkT _ _, _, _, i => by simp [isPy] at i
  | .raw _, _, _, i => by simp [isPy] at i
  | .own _ _, _, h, _ => h.elim
  | .new _, _, h, _ => h.elim
  | .pur _, _, h, _ => h.elim
  | .ownK _ _ _, _, h, _ => h.elim
  | .newK, _, h, _ => h.elim
  | .ownT _ _ _, _, h, _ => h.elim
  | .newT, _, h, _ => h.elim
  | .ownN _ _ _ _, _, h, _ => h.elim
  | .newN _ _, _, h, _ => h.elim
  | .newP _ _, _, h, _ => h.elim
  | .newD _ _, _, h, _ => h.elim
  | .ins _ _ _ _ _, _, h, _ => h.elim
theorem Rps.dp {K : PySem.W.Frag} {Av : Addr → Prop} {H : Hp} : ∀ {ds : List D} {vs : List V}, Rps K Av H ds vs → isPys ds = true → DpAll K H vs (toPys ds)
  | [], _, h, _ => by have e : _ = _ := h; subst e; exact .nil
  | d :: ds, _, h, i => by
    obtain ⟨v, r, rfl, h1, h2⟩ := h
    have i' : isPy d = true ∧ isPys ds = true := by simpa [isPys] using i
    exact .cons (Rp.dp h1 i'.1) (Rps.dp h2 i'.2)
end
theorem RpE.dp {K : PySem.W.Frag} {Av Ow : Addr → Prop} {pu : Option Addr} {Hs H : Hp} {d : D} {v : V} (h : RpE K Av Ow pu Hs H d v) (i : isPy d = true) : Dp K H v (toPy d) := by
  cases d with
  | own p ds => obtain ⟨rfl, _, vs, h1, h2⟩ := h; exact .lst (.of h1) (h2.dp (by simpa [isPy] using i))
  | new ds => obtain ⟨p, vs, rfl, _, _, _, h1, h2⟩ := h; exact .lst (.of h1) (h2.dp (by simpa [isPy] using i))
  | pur p => simp [isPy] at i
  | ownK p ks ds => simp [isPy] at i
  | ownT p ks ds => simp [isPy] at i
  | newK => simp [isPy] at i
  | newT => simp [isPy] at i
  | ownN _ _ _ _ => simp [isPy] at i
  | newN _ _ => simp [isPy] at i
  | newP _ _ => simp [isPy] at i
  | newD _ _ => simp [isPy] at i
  | ins p dx C ns ds => simp [isPy] at i
  | non => exact Rp.dp (K := K) (Av := Av) (H := H) (d := .non) h i
  | bl b => exact Rp.dp (K := K) (Av := Av) (H := H) (d := .bl b) h i
  | int b => exact Rp.dp (K := K) (Av := Av) (H := H) (d := .int b) h i
  | str b => exact Rp.dp (K := K) (Av := Av) (H := H) (d := .str b) h i
  | tup ds => exact Rp.dp (K := K) (Av := Av) (H := H) (d := .tup ds) h i
  | ktup ds => exact Rp.dp (K := K) (Av := Av) (H := H) (d := .ktup ds) h i
  | lst ds => exact Rp.dp (K := K) (Av := Av) (H := H) (d := .lst ds) h i
  | slst ds => simp [isPy] at i
  | obj C ns ds => simp [isPy] at i
  | exc C d => simp [isPy] at i
  | dik f ks kds ds => simp [isPy] at i
  | lkK ks ds => simp [isPy] at i
  | lkT ks ds => simp [isPy] at i
  | raw u => simp [isPy] at i
def shapedD (d : D) : Bool := isPy d && SeqAt.shaped (toPy d)
def EqR : D → D → (D → Prop) → Prop
  | .int i, .int j, Φ => Φ (.bl (decide (i = j)))
  | .str i, .str j, Φ => Φ (.bl (decide (i = j)))
  | x, y, Φ => shapedD x = true ∧ shapedD y = true ∧ Φ (.bl (PyData.eqv (toPy x) (toPy y)))
def NeR : D → D → (D → Prop) → Prop
  | .int i, .int j, Φ => Φ (.bl (!decide (i = j)))
  | .str i, .str j, Φ => Φ (.bl (!decide (i = j)))
  | x, y, Φ => shapedD x = true ∧ shapedD y = true ∧ Φ (.bl (!PyData.eqv (toPy x) (toPy y)))
theorem op_eqA {X : Cx} (hu : X.A.units + 64 < cLine) : OpR X (compareOp .Eq) (fun x y H Q => rEq x y H Q ∨ rEqD X.K x y H Q) := OpR.or op_eq (op_eqD hu)
theorem op_neA {X : Cx} (hu : X.A.units + 64 < cLine) : OpR X (compareOp .NotEq) (fun x y H Q => rNe x y H Q ∨ rNeD X.K x y H Q) := OpR.or op_ne (op_neD hu)
theorem shapedD_split {d : D} (h : shapedD d = true) : isPy d = true ∧ SeqAt.shaped (toPy d) = true := by simpa [shapedD] using h
theorem vint_inj {i j : Int} : decide (V.int i = V.int j) = decide (i = j) := by simp
theorem vstr_inj {i j : Str} : decide (V.str i = V.str j) = decide (i = j) := by simp
theorem eqR_ok {c : Ctx} {δ : DE} : R2ok c δ (fun x y H Q => rEq x y H Q ∨ rEqD c.X.K x y H Q) EqR := by
  intro σ H Hs n x y v u Φ Q S hs rx ry h q
  have deep : (shapedD x = true ∧ shapedD y = true ∧ Φ (.bl (PyData.eqv (toPy x) (toPy y)))) → rEqD c.X.K v u H Q := fun ⟨a, b, f⟩ =>
    ⟨_, _, rx.dp (shapedD_split a).1, ry.dp (shapedD_split b).1, (shapedD_split a).2, (shapedD_split b).2, q _ H (.bl _) (Same.refl H) rfl f⟩
  cases x with
  | int i =>
    cases y with
    | int j =>
      have e1 : v = .int i := rx
      have e2 : u = .int j := ry
      subst e1 e2
      exact .inl ⟨rfl, by rw [vint_inj]; exact q _ H (.bl (decide (i = j))) (Same.refl H) rfl h⟩
    | _ => exact .inr (deep h)
  | str i =>
    cases y with
    | str j =>
      have e1 : v = .str i := rx
      have e2 : u = .str j := ry
      subst e1 e2
      exact .inl ⟨rfl, by rw [vstr_inj]; exact q _ H (.bl (decide (i = j))) (Same.refl H) rfl h⟩
    | _ => exact .inr (deep h)
  | _ => exact .inr (deep h)
theorem neR_ok {c : Ctx} {δ : DE} : R2ok c δ (fun x y H Q => rNe x y H Q ∨ rNeD c.X.K x y H Q) NeR := by
  intro σ H Hs n x y v u Φ Q S hs rx ry h q
  have deep : (shapedD x = true ∧ shapedD y = true ∧ Φ (.bl (!PyData.eqv (toPy x) (toPy y)))) → rNeD c.X.K v u H Q := fun ⟨a, b, f⟩ =>
    ⟨_, _, rx.dp (shapedD_split a).1, ry.dp (shapedD_split b).1, (shapedD_split a).2, (shapedD_split b).2, q _ H (.bl _) (Same.refl H) rfl f⟩
  cases x with
  | int i =>
    cases y with
    | int j =>
      have e1 : v = .int i := rx
      have e2 : u = .int j := ry
      subst e1 e2
      exact .inl ⟨rfl, by rw [vint_inj]; exact q _ H (.bl (!decide (i = j))) (Same.refl H) rfl h⟩
    | _ => exact .inr (deep h)
  | str i =>
    cases y with
    | str j =>
      have e1 : v = .str i := rx
      have e2 : u = .str j := ry
      subst e1 e2
      exact .inl ⟨rfl, by rw [vstr_inj]; exact q _ H (.bl (!decide (i = j))) (Same.refl H) rfl h⟩
    | _ => exact .inr (deep h)
  | _ => exact .inr (deep h)

/-! ### in, not in a list or tuple of flat things -/
def inD (x : D) (xs : List D) : Bool := inV (dV x) (xs.map dV)
def InR (neg : Bool) : D → D → (D → Prop) → Prop := fun x y Φ => ∃ ys, seqOf y = some ys ∧ flat x = true ∧ ys.all flat = true ∧ Φ (.bl (if neg then !inD x ys else inD x ys))
theorem flat_rp {K : PySem.W.Frag} {Av : Addr → Prop} {H : Hp} {d : D} {v : V} (f : flat d = true) (h : Rp K Av H d v) : v = dV d ∧ flatV v = true := by
  cases d with
  | non => have e : v = _ := h; subst e; exact ⟨rfl, rfl⟩
  | bl b => have e : v = _ := h; subst e; exact ⟨rfl, rfl⟩
  | int b => have e : v = _ := h; subst e; exact ⟨rfl, rfl⟩
  | str b => have e : v = _ := h; subst e; exact ⟨rfl, rfl⟩
  | _ => cases f
theorem flats_rp {K : PySem.W.Frag} {Av : Addr → Prop} {H : Hp} : ∀ {ds : List D} {vs : List V}, ds.all flat = true → Rps K Av H ds vs → vs = ds.map dV ∧ vs.all flatV = true
  | [], _, _, h => by have e : _ = _ := h; subst e; exact ⟨rfl, rfl⟩
  | d :: ds, _, f, h => by
    obtain ⟨v, r, rfl, h1, h2⟩ := h
    rw [List.all_cons, Bool.and_eq_true] at f
    obtain ⟨a, b⟩ := flat_rp f.1 h1
    obtain ⟨a', b'⟩ := flats_rp f.2 h2
    exact ⟨by rw [List.map_cons, a, a'], by rw [List.all_cons, b, b']; rfl⟩
theorem flat_rpE {K : PySem.W.Frag} {Av Ow : Addr → Prop} {pu : Option Addr} {Hs H : Hp} {d : D} {v : V} (f : flat d = true) (h : RpE K Av Ow pu Hs H d v) : v = dV d ∧ flatV v = true :=
  flat_rp f (h.pure (by cases d <;> first | rfl | cases f))
theorem inR_ok {c : Ctx} {δ : DE} {neg : Bool} : R2ok c δ (rIn c.X.K neg) (InR neg) := by
  intro σ H Hs n x y v u Φ Q S hs rx ry h q
  obtain ⟨ys, e, fx, fy, f⟩ := h
  obtain ⟨p, vs, rfl, h1, h2⟩ := ry.seqOf e
  obtain ⟨rfl, b⟩ := flat_rpE fx rx
  obtain ⟨rfl, b'⟩ := flats_rp fy h2
  exact ⟨p, _, rfl, h1, b, b', q _ H (.bl _) (Same.refl H) rfl f⟩

/-! ### is None -/
def IsR (neg : Bool) : D → D → (D → Prop) → Prop
  | .non, .non, Φ => Φ (.bl (!neg))
  | .int _, .non, Φ => Φ (.bl neg)
  | .str _, .non, Φ => Φ (.bl neg)
  | .bl _, .non, Φ => Φ (.bl neg)
  | .tup _, .non, Φ => Φ (.bl neg)
  | .lst _, .non, Φ => Φ (.bl neg)
  | .obj _ _ _, .non, Φ => Φ (.bl neg)
  | .exc _ _, .non, Φ => Φ (.bl neg)
  | .own _ _, .non, Φ => Φ (.bl neg)
  | .new _, .non, Φ => Φ (.bl neg)
  | _, _, _ => False
def rIsA (neg : Bool) : R2 := fun x y H Q => y = .non ∧ Q (.bl (if neg then !decide (x = .non) else decide (x = .non))) H
theorem op_isA {X : Cx} : OpR X (compareOp .Is) (rIsA false) := op_isN
theorem op_isnotA {X : Cx} : OpR X (compareOp .IsNot) (rIsA true) := op_notN
theorem isR_ok {c : Ctx} {δ : DE} {neg : Bool} : R2ok c δ (rIsA neg) (IsR neg) := by
  intro σ H Hs n x y v u Φ Q S hs rx ry h q
  cases y with
  | non =>
    have e2 : u = .non := ry
    subst e2
    have fin : ∀ b : Bool, (if neg then !decide (v = V.non) else decide (v = V.non)) = b → Φ (.bl b) → rIsA neg v .non H Q := fun b e f => ⟨rfl, by rw [e]; exact q _ H (.bl b) (Same.refl H) rfl f⟩
    cases x with
    | non => have e1 : v = _ := rx; subst e1; exact fin _ (by cases neg <;> rfl) h
    | int i => have e1 : v = _ := rx; subst e1; exact fin _ (by cases neg <;> rfl) h
    | str i => have e1 : v = _ := rx; subst e1; exact fin _ (by cases neg <;> rfl) h
    | bl i => have e1 : v = _ := rx; subst e1; exact fin _ (by cases neg <;> rfl) h
    | tup ds => obtain ⟨a, vs, rfl, _⟩ := rx; exact fin _ (by cases neg <;> rfl) h
    | lst ds => obtain ⟨a, vs, rfl, _⟩ := rx; exact fin _ (by cases neg <;> rfl) h
    | obj C ns ds => obtain ⟨a, dx, gs, rfl, _⟩ := rx; exact fin _ (by cases neg <;> rfl) h
    | exc C d => obtain ⟨a, dx, fs, u, rfl, _⟩ := rx; exact fin _ (by cases neg <;> rfl) h
    | own p ds => obtain ⟨rfl, _⟩ := rx; exact fin _ (by cases neg <;> rfl) h
    | new ds => obtain ⟨a, vs, rfl, _⟩ := rx; exact fin _ (by cases neg <;> rfl) h
    | _ => exact h.elim
  | _ => cases x <;> exact h.elim
section
variable {c : Ctx} {δ : DE} {n : Nat} {a b : Expr} {pos : Pos} {Φ : D → Nat → Prop} {Ψ : Bool → Nat → Prop}
theorem we_add (h : WE c a δ n fun x n1 => WE c b δ n1 fun y n2 => AddR x y fun z => Φ z n2) : WE c (.BinOp a .Add b pos) δ n Φ := we_bin op_addA addR_ok h
theorem we_sub (h : WE c a δ n fun x n1 => WE c b δ n1 fun y n2 => SubR x y fun z => Φ z n2) : WE c (.BinOp a .Sub b pos) δ n Φ := we_bin op_sub subR_ok h
theorem we_mul (h : WE c a δ n fun x n1 => WE c b δ n1 fun y n2 => MulR x y fun z => Φ z n2) : WE c (.BinOp a .Mult b pos) δ n Φ := we_bin op_mulA mulR_ok h
theorem we_fdiv (h : WE c a δ n fun x n1 => WE c b δ n1 fun y n2 => FdivR x y fun z => Φ z n2) : WE c (.BinOp a .FloorDiv b pos) δ n Φ := we_bin op_fdivW fdivR_ok h
theorem we_mod (h : WE c a δ n fun x n1 => WE c b δ n1 fun y n2 => ModR x y fun z => Φ z n2) : WE c (.BinOp a .Mod b pos) δ n Φ := we_bin op_mod modR_ok h
theorem we_pow (h : WE c a δ n fun x n1 => WE c b δ n1 fun y n2 => PowR x y fun z => Φ z n2) : WE c (.BinOp a .Pow b pos) δ n Φ := we_bin op_powW powR_ok h
theorem we_lt (h : WE c a δ n fun x n1 => WE c b δ n1 fun y n2 => CmpI (fun i j => decide (i < j)) x y fun z => Φ z n2) : WE c (.Compare a [.Lt] [b] pos) δ n Φ := we_cmp1 op_lt (nomark _) cmpI_ok h
theorem we_le (h : WE c a δ n fun x n1 => WE c b δ n1 fun y n2 => CmpI (fun i j => decide (i ≤ j)) x y fun z => Φ z n2) : WE c (.Compare a [.LtE] [b] pos) δ n Φ := we_cmp1 op_le (nomark _) cmpI_ok h
theorem we_gt (h : WE c a δ n fun x n1 => WE c b δ n1 fun y n2 => CmpI (fun i j => decide (j < i)) x y fun z => Φ z n2) : WE c (.Compare a [.Gt] [b] pos) δ n Φ := we_cmp1 op_gt (nomark _) cmpI_ok h
theorem we_ge (h : WE c a δ n fun x n1 => WE c b δ n1 fun y n2 => CmpI (fun i j => decide (j ≤ i)) x y fun z => Φ z n2) : WE c (.Compare a [.GtE] [b] pos) δ n Φ := we_cmp1 op_ge (nomark _) cmpI_ok h
theorem we_eq (hu : c.X.A.units + 64 < cLine) (h : WE c a δ n fun x n1 => WE c b δ n1 fun y n2 => EqR x y fun z => Φ z n2) : WE c (.Compare a [.Eq] [b] pos) δ n Φ := we_cmp1 (op_eqA hu) (nomark _) eqR_ok h
theorem we_ne (hu : c.X.A.units + 64 < cLine) (h : WE c a δ n fun x n1 => WE c b δ n1 fun y n2 => NeR x y fun z => Φ z n2) : WE c (.Compare a [.NotEq] [b] pos) δ n Φ := we_cmp1 (op_neA hu) (nomark _) neR_ok h
theorem we_in (h : WE c a δ n fun x n1 => WE c b δ n1 fun y n2 => InR false x y fun z => Φ z n2) (hm : behindInMarks .In b = false := by rfl) : WE c (.Compare a [.In] [b] pos) δ n Φ := we_cmp1 op_in_seq hm inR_ok h
theorem we_notin (h : WE c a δ n fun x n1 => WE c b δ n1 fun y n2 => InR true x y fun z => Φ z n2) (hm : behindInMarks .NotIn b = false := by rfl) : WE c (.Compare a [.NotIn] [b] pos) δ n Φ := we_cmp1 op_notIn_seq hm inR_ok h
theorem we_is (h : WE c a δ n fun x n1 => WE c b δ n1 fun y n2 => IsR false x y fun z => Φ z n2) : WE c (.Compare a [.Is] [b] pos) δ n Φ := we_cmp1 op_isA (nomark _) isR_ok h
theorem we_isnot (h : WE c a δ n fun x n1 => WE c b δ n1 fun y n2 => IsR true x y fun z => Φ z n2) : WE c (.Compare a [.IsNot] [b] pos) δ n Φ := we_cmp1 op_isnotA (nomark _) isR_ok h
/-- the answer of a comparison, as a test -/
def asB (Ψ : Bool → Nat → Prop) (n : Nat) (z : D) : Prop := ∃ b, z = .bl b ∧ Ψ b n
theorem wt_lt (h : WE c a δ n fun x n1 => WE c b δ n1 fun y n2 => CmpI (fun i j => decide (i < j)) x y (asB Ψ n2)) : WT c (.Compare a [.Lt] [b] pos) δ n Ψ := wt_cmp1 op_lt (nomark _) cmpI_ok h
theorem wt_le (h : WE c a δ n fun x n1 => WE c b δ n1 fun y n2 => CmpI (fun i j => decide (i ≤ j)) x y (asB Ψ n2)) : WT c (.Compare a [.LtE] [b] pos) δ n Ψ := wt_cmp1 op_le (nomark _) cmpI_ok h
theorem wt_gt (h : WE c a δ n fun x n1 => WE c b δ n1 fun y n2 => CmpI (fun i j => decide (j < i)) x y (asB Ψ n2)) : WT c (.Compare a [.Gt] [b] pos) δ n Ψ := wt_cmp1 op_gt (nomark _) cmpI_ok h
theorem wt_ge (h : WE c a δ n fun x n1 => WE c b δ n1 fun y n2 => CmpI (fun i j => decide (j ≤ i)) x y (asB Ψ n2)) : WT c (.Compare a [.GtE] [b] pos) δ n Ψ := wt_cmp1 op_ge (nomark _) cmpI_ok h
theorem wt_eq (hu : c.X.A.units + 64 < cLine) (h : WE c a δ n fun x n1 => WE c b δ n1 fun y n2 => EqR x y (asB Ψ n2)) : WT c (.Compare a [.Eq] [b] pos) δ n Ψ := wt_cmp1 (op_eqA hu) (nomark _) eqR_ok h
theorem wt_ne (hu : c.X.A.units + 64 < cLine) (h : WE c a δ n fun x n1 => WE c b δ n1 fun y n2 => NeR x y (asB Ψ n2)) : WT c (.Compare a [.NotEq] [b] pos) δ n Ψ := wt_cmp1 (op_neA hu) (nomark _) neR_ok h
theorem wt_in (h : WE c a δ n fun x n1 => WE c b δ n1 fun y n2 => InR false x y (asB Ψ n2)) (hm : behindInMarks .In b = false := by rfl) : WT c (.Compare a [.In] [b] pos) δ n Ψ := wt_cmp1 op_in_seq hm inR_ok h
theorem wt_notin (h : WE c a δ n fun x n1 => WE c b δ n1 fun y n2 => InR true x y (asB Ψ n2)) (hm : behindInMarks .NotIn b = false := by rfl) : WT c (.Compare a [.NotIn] [b] pos) δ n Ψ := wt_cmp1 op_notIn_seq hm inR_ok h
theorem wt_is (h : WE c a δ n fun x n1 => WE c b δ n1 fun y n2 => IsR false x y (asB Ψ n2)) : WT c (.Compare a [.Is] [b] pos) δ n Ψ := wt_cmp1 op_isA (nomark _) isR_ok h
theorem wt_isnot (h : WE c a δ n fun x n1 => WE c b δ n1 fun y n2 => IsR true x y (asB Ψ n2)) : WT c (.Compare a [.IsNot] [b] pos) δ n Ψ := wt_cmp1 op_isnotA (nomark _) isR_ok h
end
end DL

/-! DLd: arguments, displays, subscripts, and / or / not, calls of built-ins and of defs, fields. -/
namespace DL
open PySem PySem.Spec PyProof.Rows L2
section
variable {c : Ctx} {δ : DE} {n : Nat} {a b e : Expr} {es rest : List Expr} {pos : Pos} {Φ : D → Nat → Prop} {Ψ : Bool → Nat → Prop}
theorem Paired.mapP' {α β : Type} {F G : α → β → Prop} {l₁ : List α} {l₂ : List β} (h : Paired F l₁ l₂) (f : ∀ a b, F a b → G a b) : Paired G l₁ l₂ := Paired.mapP h f
theorem wa_nil {Θ : List D → Nat → Prop} (h : Θ [] n) : WA c [] δ n Θ := ⟨fun σ H Q S q => pa_to pa_nil (q [] H [] n Kp.refl S .nil h)⟩
theorem wa_cons {Θ : List D → Nat → Prop} (h : WE c e δ n fun x n1 => WA c es δ n1 fun xs n2 => Θ (x :: xs) n2) (hs : starEach (e :: es) c.X.env = (false, eval e c.X.env) :: starEach es c.X.env := by rfl) : WA c (e :: es) δ n Θ := ⟨fun σ H Q S q => by
  refine pa_to (pa_cons pe_w pa_w hs) ?_
  refine h.run σ H _ S fun v H2 x n1 k1 S1 r1 h2 => ?_
  refine h2.run σ H2 _ S1 fun vs H3 xs n2 k2 S2 r2 h3 => ?_
  have back1 : ∀ p, H2 p = none → H p = none := fun p z => Kp.back S S1 k1 z
  exact q _ H3 _ n2 (k1.trans k2) S2 (.cons (r1.kp Ctx.puAv k2) (Paired.mapP r2 fun d v r => r.early back1)) h3⟩
/-- what may go into a tuple or a list -/
def okEl : D → Bool
  | .new _ => true
  | d => pureD d
theorem RpE.el {K : PySem.W.Frag} {Av Ow : Addr → Prop} {pu : Option Addr} {Hs H : Hp} {d : D} {v : V} (o : okEl d = true) (h : RpE K Av Ow pu Hs H d v) : Rp K Av H (frz d) v := by
  cases d with
  | new ds => obtain ⟨p, vs, e, _, h1, _, h2, h3⟩ := h; exact ⟨p, vs, e, h1, h2, h3.wk (fun _ z => .inl z) fun _ _ _ e => e⟩
  | own p ds => cases o
  | pur p => cases o
  | ownK p ks ds => cases o
  | ownT p ks ds => cases o
  | newK => cases o
  | newT => cases o
  | ownN _ _ _ _ => cases o
  | newN _ _ => cases o
  | newP _ _ => cases o
  | newD _ _ => cases o
  | ins p dx C ns ds => cases o
  | _ => exact h
theorem els_ok {K : PySem.W.Frag} {Av Ow : Addr → Prop} {pu : Option Addr} {Hs H : Hp} : ∀ {ds : List D} {vs : List V}, ds.all okEl = true → Paired (RpE K Av Ow pu Hs H) ds vs → Rps K Av H (ds.map frz) vs
  | [], _, _, h => by cases h; exact rfl
  | d :: ds, _, o, h => by
    cases h with
    | cons r t =>
      rw [List.all_cons, Bool.and_eq_true] at o
      exact ⟨_, _, rfl, r.el o.1, els_ok o.2 t⟩
theorem Paired.len {α β : Type} {F : α → β → Prop} {l₁ : List α} {l₂ : List β} (h : Paired F l₁ l₂) : l₁.length = l₂.length := Paired.length h
theorem we_tup {x1} (h : WA c es δ n fun ds n1 => ds.all okEl = true ∧ ds.length ≤ 16000000 ∧ Φ (.tup (ds.map frz)) n1) : WE c (.Tuple es x1 pos) δ n Φ := ⟨fun σ H Q S q => by
  refine pe_to (pe_tup pa_w) ?_
  refine h.run σ H _ S fun vs H2 ds n1 k1 S1 r1 ⟨h1, h2, h3⟩ => ?_
  refine ⟨sz (by rw [← Paired.len r1]; exact h2), fun p hp => ?_⟩
  exact q _ _ _ n1 (k1.trans (Kp.new hp)) (S1.grow (same_new hp)) (RpE.mkTup S1 hp (els_ok h1 r1)) h3⟩
theorem we_lst (h : WA c es δ n fun ds n1 => ds.all okEl = true ∧ ds.length ≤ 16000000 ∧ Φ (.new (ds.map frz)) n1) : WE c (.List es pos) δ n Φ := ⟨fun σ H Q S q => by
  refine pe_to (pe_lst pa_w) ?_
  refine h.run σ H _ S fun vs H2 ds n1 k1 S1 r1 ⟨h1, h2, h3⟩ => ?_
  refine ⟨sz (by rw [← Paired.len r1]; exact h2), fun p hp => ?_⟩
  exact q _ _ _ n1 (k1.trans (Kp.new hp)) (S1.grow (same_new hp)) (RpE.mkNew S1 (fun p z => Kp.back S S1 k1 z) hp (els_ok h1 r1)) h3⟩

/-! ### subscripts -/
def IxD : D → D → (D → Prop) → Prop := fun x y Φ => ∃ xs i d, seqOf x = some xs ∧ y = .int i ∧ atI xs i = some d ∧ Φ d
theorem ixD_ok : R2ok c δ (fun x y H Q => rIxL c.X.K x y H Q ∨ rIxT c.X.K x y H Q) IxD := by
  intro σ H Hs n x y v u Φ Q S hs rx ry h q
  obtain ⟨xs, i, d, e, rfl, hi, f⟩ := h
  have e2 : u = .int i := ry
  subst e2
  obtain ⟨p, vs, rfl, h1, h2⟩ := rx.seqOf e
  have hl := h2.length
  obtain ⟨w, hw, rw⟩ : ∃ w, atI vs i = some w ∧ Rp c.X.K (c.Av δ) H d w := by
    unfold atI at hi ⊢
    rw [← hl]
    cases hz : ixN xs.length i with
    | none => rw [hz] at hi; cases hi
    | some j =>
      rw [hz] at hi
      exact h2.get hi
  rcases h1 with h1 | h1
  · exact .inl ⟨p, vs, i, w, rfl, rfl, h1, hw, q _ H d (Same.refl H) (RpE.of rw) f⟩
  · exact .inr ⟨p, vs, i, w, rfl, rfl, h1, hw, q _ H d (Same.refl H) (RpE.of rw) f⟩
theorem we_ix (h : WE c a δ n fun x n1 => WE c b δ n1 fun y n2 => IxD x y fun z => Φ z n2) (hs : PlainIx b := by exact fun _ _ => rfl) : WE c (.Subscript a b pos) δ n Φ :=
  ⟨fun σ H Q S q => pe_to (pe_ix (IxR.or ix_list ix_tup) pe_w pe_w hs) (two ixD_ok h S q)⟩
/-- xs[lo:hi] of a list -/
def cutD (ds : List D) (lo hi : Option Int) : List D := (ds.drop (HT.sIx ds.length 0 lo)).take (HT.sIx ds.length ds.length hi - HT.sIx ds.length 0 lo)
theorem Rps.cut {K : PySem.W.Frag} {Av : Addr → Prop} {H : Hp} {ds : List D} {vs : List V} (h : Rps K Av H ds vs) (lo hi : Option Int) : Rps K Av H (cutD ds lo hi) (cutV vs lo hi) := by
  unfold cutD cutV
  rw [h.length]
  exact (h.drop _).take _
theorem slice_end {σ : L2.St} {H H2 : Hp} {n1 n2 : Nat} {Q : VK} {vs : List V} {ds : List D} {lo hi : Option Int} {p : Addr} (S : SlR c σ H δ n) (S2 : SlR c σ H2 δ n2) (k : Kp c.pu H H2) (h1 : H2 p = some (.lst vs)) (h2 : Rps c.X.K (c.Av δ) H2 ds vs)
    (q : ∀ v H2 d n2, Kp c.pu H H2 → SlR c σ H2 δ n2 → RpE c.X.K (c.Av δ) (c.Ow δ) c.pu H H2 d v → Φ d n2 → Q v H2) (f : Φ (.new (cutD ds lo hi)) n2) : rSlL c.X.K (.ref p) lo hi H2 Q :=
  ⟨p, vs, rfl, .of h1, fun a ha => q _ _ _ n2 (k.trans (Kp.new ha)) (S2.grow (same_new ha)) (RpE.mkNew S2 (fun p z => Kp.back S S2 k z) ha (h2.cut lo hi)) f⟩
theorem we_slLo {p2} (h : WE c a δ n fun x n1 => WE c b δ n1 fun y n2 => ∃ xs i, lstOf x = some xs ∧ y = .int i ∧ Φ (.new (cutD xs (some i) none)) n2) : WE c (.Subscript a (.Slice (some b) none none p2) pos) δ n Φ := ⟨fun σ H Q S q => by
  refine pe_to (pe_slice sl_list pe_w (po_some pe_w) po_none) ?_
  refine h.run σ H _ S fun v H2 x n1 k1 S1 r1 h2 => ?_
  refine h2.run σ H2 _ S1 fun u H3 y n2 k2 S2 r2 ⟨xs, i, e, e2, f⟩ => ?_
  subst e2
  obtain ⟨p, vs, rfl, h3, h4⟩ := (r1.kp Ctx.puAv k2).lstOf e
  exact ⟨i, r2, slice_end (n1 := n1) S S2 (k1.trans k2) h3 h4 q f⟩⟩
theorem we_slHi {p2} (h : WE c a δ n fun x n1 => WE c b δ n1 fun y n2 => ∃ xs i, lstOf x = some xs ∧ y = .int i ∧ Φ (.new (cutD xs none (some i))) n2) : WE c (.Subscript a (.Slice none (some b) none p2) pos) δ n Φ := ⟨fun σ H Q S q => by
  refine pe_to (pe_slice sl_list pe_w po_none (po_some pe_w)) ?_
  refine h.run σ H _ S fun v H2 x n1 k1 S1 r1 h2 => ?_
  refine h2.run σ H2 _ S1 fun u H3 y n2 k2 S2 r2 ⟨xs, i, e, e2, f⟩ => ?_
  subst e2
  obtain ⟨p, vs, rfl, h3, h4⟩ := (r1.kp Ctx.puAv k2).lstOf e
  exact ⟨i, r2, slice_end (n1 := n1) S S2 (k1.trans k2) h3 h4 q f⟩⟩

/-! ### and, or, not, a if t else b -/
theorem we_one {op} (h : WE c a δ n Φ) : WE c (.BoolOp op [a] pos) δ n Φ := ⟨fun σ H Q S q => pe_to (pe_one pe_w) (h.run σ H Q S q)⟩
theorem we_and (h : WE c a δ n fun x n1 => ∃ k, x = .bl k ∧ (k = true → WE c (.BoolOp .And (b :: rest) pos) δ n1 Φ) ∧ (k = false → Φ (.bl false) n1)) : WE c (.BoolOp .And (a :: b :: rest) pos) δ n Φ := ⟨fun σ H Q S q => by
  refine pe_to (pe_and pe_w pe_w) ?_
  refine h.run σ H _ S fun v H2 x n1 k1 S1 r1 ⟨k, e, h1, h2⟩ => ?_
  subst e
  have e : v = .bl k := r1
  subst e
  refine ⟨k, rfl, ?_⟩
  cases k with
  | true => exact iteT ((h1 rfl).run σ H2 Q S1 fun v H3 d n2 k2 S2 r f => q v H3 d n2 (k1.trans k2) S2 (r.early fun p z => Kp.back S S1 k1 z) f)
  | false => exact iteF (q _ H2 (.bl false) n1 k1 S1 rfl (h2 rfl))⟩
theorem we_or (h : WE c a δ n fun x n1 => ∃ k, x = .bl k ∧ (k = false → WE c (.BoolOp .Or (b :: rest) pos) δ n1 Φ) ∧ (k = true → Φ (.bl true) n1)) : WE c (.BoolOp .Or (a :: b :: rest) pos) δ n Φ := ⟨fun σ H Q S q => by
  refine pe_to (pe_or pe_w pe_w) ?_
  refine h.run σ H _ S fun v H2 x n1 k1 S1 r1 ⟨k, e, h1, h2⟩ => ?_
  subst e
  have e : v = .bl k := r1
  subst e
  refine ⟨k, rfl, ?_⟩
  cases k with
  | false => exact iteF ((h1 rfl).run σ H2 Q S1 fun v H3 d n2 k2 S2 r f => q v H3 d n2 (k1.trans k2) S2 (r.early fun p z => Kp.back S S1 k1 z) f)
  | true => exact iteT (q _ H2 (.bl true) n1 k1 S1 rfl (h2 rfl))⟩
theorem we_not (h : WE c a δ n fun x n1 => ∃ k, x = .bl k ∧ Φ (.bl (!k)) n1) : WE c (.UnaryOp .Not a pos) δ n Φ := ⟨fun σ H Q S q => by
  refine pe_to (pe_not pe_w) ?_
  refine h.run σ H _ S fun v H2 x n1 k1 S1 r1 ⟨k, e, f⟩ => ?_
  subst e
  exact ⟨k, r1, q _ H2 (.bl (!k)) n1 k1 S1 rfl f⟩⟩
theorem we_neg (h : WE c a δ n fun x n1 => ∃ i, x = .int i ∧ Φ (.int (-i)) n1) : WE c (.UnaryOp .USub a pos) δ n Φ := ⟨fun σ H Q S q => by
  refine pe_to (pe_un un_neg pe_w) ?_
  refine h.run σ H _ S fun v H2 x n1 k1 S1 r1 ⟨k, e, f⟩ => ?_
  subst e
  exact ⟨k, r1, q _ H2 (.int (-k)) n1 k1 S1 rfl f⟩⟩
theorem we_if {t : Expr} (h : WT c t δ n fun k n1 => (k = true → WE c a δ n1 Φ) ∧ (k = false → WE c b δ n1 Φ)) : WE c (.IfExp t a b pos) δ n Φ := ⟨fun σ H Q S q => by
  refine pe_to (pe_ifExp pt_w pe_w pe_w) ?_
  refine h.run σ H _ S fun k H2 n1 k1 S1 ⟨h1, h2⟩ => ?_
  cases k with
  | true => exact iteT ((h1 rfl).run σ H2 Q S1 fun v H3 d n2 k2 S2 r f => q v H3 d n2 (k1.trans k2) S2 (r.early fun p z => Kp.back S S1 k1 z) f)
  | false => exact iteF ((h2 rfl).run σ H2 Q S1 fun v H3 d n2 k2 S2 r f => q v H3 d n2 (k1.trans k2) S2 (r.early fun p z => Kp.back S S1 k1 z) f)⟩
/-! as tests -/
theorem wt_not (h : WT c a δ n fun k n1 => Ψ (!k) n1) : WT c (.UnaryOp .Not a pos) δ n Ψ := ⟨fun σ H Q S q => pt_to (pt_not pt_w) (h.run σ H _ S fun k H2 n1 k1 S1 f => q _ H2 n1 k1 S1 f)⟩
theorem ww_and1 (h : WT c a δ n Ψ) : WW c (.BoolOp .And [a] pos) δ n Ψ := ⟨fun σ H Q S q => pw_to (pw_and1 pt_w) (h.run σ H Q S q)⟩
theorem ww_or1 (h : WT c a δ n Ψ) : WW c (.BoolOp .Or [a] pos) δ n Ψ := ⟨fun σ H Q S q => pw_to (pw_or1 pt_w) (h.run σ H Q S q)⟩
theorem ww_and (h : WT c a δ n fun k n1 => (k = true → WW c (.BoolOp .And (b :: rest) pos) δ n1 Ψ) ∧ (k = false → Ψ false n1)) : WW c (.BoolOp .And (a :: b :: rest) pos) δ n Ψ := ⟨fun σ H Q S q => by
  refine pw_to (pw_and pt_w pw_w) ?_
  refine h.run σ H _ S fun k H2 n1 k1 S1 ⟨h1, h2⟩ => ?_
  cases k with
  | true => exact iteT ((h1 rfl).run σ H2 Q S1 fun v H3 n2 k2 S2 f => q v H3 n2 (k1.trans k2) S2 f)
  | false => exact iteF (q _ H2 n1 k1 S1 (h2 rfl))⟩
theorem ww_or (h : WT c a δ n fun k n1 => (k = false → WW c (.BoolOp .Or (b :: rest) pos) δ n1 Ψ) ∧ (k = true → Ψ true n1)) : WW c (.BoolOp .Or (a :: b :: rest) pos) δ n Ψ := ⟨fun σ H Q S q => by
  refine pw_to (pw_or pt_w pw_w) ?_
  refine h.run σ H _ S fun k H2 n1 k1 S1 ⟨h1, h2⟩ => ?_
  cases k with
  | false => exact iteF ((h1 rfl).run σ H2 Q S1 fun v H3 n2 k2 S2 f => q v H3 n2 (k1.trans k2) S2 f)
  | true => exact iteT (q _ H2 n1 k1 S1 (h2 rfl))⟩
theorem wt_bo (h : WW c e δ n Ψ) : WT c e δ n Ψ := ⟨fun σ H Q S q => pt_to (PW.pt pw_w) (h.run σ H Q S q)⟩
/-- an expression that is a bool -/
theorem wt_val (h : WE c e δ n fun x n1 => ∃ k, x = .bl k ∧ Ψ k n1) (he : ∀ whole, isTrue e c.X.env whole = (do let v ← whole; standAt e.pos; holding [v] (truthy v)) := by intro _; rfl) : WT c e δ n Ψ := ⟨fun σ H Q S q => by
  refine pt_to (pt_val pe_w he) ?_
  refine h.run σ H _ S fun v H2 x n1 k1 S1 r1 ⟨k, e, f⟩ => ?_
  subst e
  exact ⟨k, r1, q k H2 n1 k1 S1 f⟩⟩

/-! ### calls of built-ins -/
def RCok (c : Ctx) (δ : DE) (r : List V → Hp → VK → Prop) (R : List D → (D → Prop) → Prop) : Prop :=
  ∀ σ H Hs n ds vs (Φ : D → Prop) (Q : VK), SlR c σ H δ n → (∀ p, H p = none → Hs p = none) → Paired (RpE c.X.K (c.Av δ) (c.Ow δ) c.pu Hs H) ds vs → R ds Φ →
    (∀ w H3 z, Same H H3 → RpE c.X.K (c.Av δ) (c.Ow δ) c.pu Hs H3 z w → Φ z → Q w H3) → r vs H Q
theorem call_in {r : List V → Hp → VK → Prop} {R : List D → (D → Prop) → Prop} (ok : RCok c δ r R) (h : WA c es δ n fun ds n1 => R ds fun z => Φ z n1) {σ : L2.St} {H : Hp} {Q : VK} (S : SlR c σ H δ n)
    (q : ∀ v H2 d n2, Kp c.pu H H2 → SlR c σ H2 δ n2 → RpE c.X.K (c.Av δ) (c.Ow δ) c.pu H H2 d v → Φ d n2 → Q v H2) : tCB r (wA c.X es) σ H Q :=
  h.run σ H _ S fun vs H2 ds n1 k1 S1 r1 f => ok σ H2 H n1 ds vs _ Q S1 (fun p z => Kp.back S S1 k1 z) r1 f fun w H3 z k2 r2 f2 => q w H3 z n1 (k1.trans (Kp.of k2)) (S1.grow k2) r2 f2
theorem we_callB {id : String} {x : Str} {p : Pos} {r : List V → Hp → VK → Prop} {R : List D → (D → Prop) → Prop} (hc : CallR c.X (.builtin id) r) (ok : RCok c δ r R) (hm : c.X.mg x = none) (hg : Gl c.X x) (hv : bootBuiltins x = some (.builtin id))
    (h : WA c (e :: es) δ n fun ds n1 => R ds fun z => Φ z n1) (hn : x ≠ "__name__" := by decide) (hdb : (x == ("__debug__" : Str)) = false := by decide)
    (he : starEach (e :: es) c.X.env = (false, eval e c.X.env) :: starEach es c.X.env := by rfl) (hpl : (backTo pos (starEach es c.X.env)).any (·.1) = false := by rfl) : WE c (.Call (.Name x p) (e :: es) [] pos) δ n Φ :=
  ⟨fun σ H Q S q => pe_to (pe_callB hc hg hm hv pa_w hn hdb he hpl) (call_in ok h S q)⟩
theorem we_callTy {T : String} {x : Str} {p : Pos} {r : List V → Hp → VK → Prop} {R : List D → (D → Prop) → Prop} (hc : CallR c.X (.type T) r) (ok : RCok c δ r R) (hm : c.X.mg x = none) (hg : Gl c.X x) (hv : bootBuiltins x = some (.type T))
    (h : WA c (e :: es) δ n fun ds n1 => R ds fun z => Φ z n1) (hn : x ≠ "__name__" := by decide) (hdb : (x == ("__debug__" : Str)) = false := by decide)
    (he : starEach (e :: es) c.X.env = (false, eval e c.X.env) :: starEach es c.X.env := by rfl) (hpl : (backTo pos (starEach es c.X.env)).any (·.1) = false := by rfl) : WE c (.Call (.Name x p) (e :: es) [] pos) δ n Φ :=
  ⟨fun σ H Q S q => pe_to (pe_callTy hc hg hm hv pa_w hn hdb he hpl) (call_in ok h S q)⟩
theorem paired1 {α β : Type} {F : α → β → Prop} {x : α} {l : List β} (h : Paired F [x] l) : ∃ y, l = [y] ∧ F x y := by
  cases h with
  | cons r t => cases t; exact ⟨_, rfl, r⟩
theorem paired2 {α β : Type} {F : α → β → Prop} {x x' : α} {l : List β} (h : Paired F [x, x'] l) : ∃ y y', l = [y, y'] ∧ F x y ∧ F x' y' := by
  cases h with
  | cons r t =>
    obtain ⟨y', rfl, r'⟩ := paired1 t
    exact ⟨_, _, rfl, r, r'⟩
/-- len -/
def LenR : List D → (D → Prop) → Prop := fun ds Φ => ∃ x xs, ds = [x] ∧ seqOf x = some xs ∧ Φ (.int xs.length)
theorem lenR_ok : RCok c δ (fun xs H Q => ∃ p ys, xs = [.ref p] ∧ (SqL c.X.K H p ys ∨ SqT c.X.K H p ys) ∧ Q (.int ys.length) H) LenR := by
  intro σ H Hs n ds vs Φ Q S hs r h q
  obtain ⟨x, xs, rfl, e, f⟩ := h
  obtain ⟨v, rfl, r1⟩ := paired1 r
  obtain ⟨p, ys, rfl, h1, h2⟩ := r1.seqOf e
  refine ⟨p, ys, rfl, h1, ?_⟩
  rw [← h2.length]
  exact q _ H (.int xs.length) (Same.refl H) rfl f
theorem we_len {p : Pos} (hm : c.X.mg "len" = none) (hg : Gl c.X "len") (h : WA c [e] δ n fun ds n1 => LenR ds fun z => Φ z n1) (he : starEach [e] c.X.env = (false, eval e c.X.env) :: starEach [] c.X.env := by rfl) (hpl : (backTo pos (starEach [] c.X.env)).any (·.1) = false := by rfl) :
    WE c (.Call (.Name "len" p) [e] [] pos) δ n Φ := we_callB call_len_seq lenR_ok hm hg PySem.boot_len h (he := he) (hpl := hpl)
/-- int(x) -/
def IntOf : List D → (D → Prop) → Prop := fun ds Φ => (∃ i, ds = [.int i] ∧ Φ (.int i)) ∨ (∃ k, ds = [.bl k] ∧ Φ (.int (if k then 1 else 0)))
theorem intOf_ok : RCok c δ (fun xs H Q => (∃ i, xs = [.int i] ∧ Q (.int i) H) ∨ ∃ k, xs = [.bl k] ∧ Q (.int (if k then 1 else 0)) H) IntOf := by
  intro σ H Hs n ds vs Φ Q S hs r h q
  rcases h with ⟨i, rfl, f⟩ | ⟨k, rfl, f⟩
  · obtain ⟨v, rfl, r1⟩ := paired1 r
    have e1 : v = _ := r1
    subst e1
    exact .inl ⟨i, rfl, q _ H (.int i) (Same.refl H) rfl f⟩
  · obtain ⟨v, rfl, r1⟩ := paired1 r
    have e1 : v = _ := r1
    subst e1
    exact .inr ⟨k, rfl, q _ H (.int (if k then 1 else 0)) (Same.refl H) rfl f⟩
theorem we_toInt {p : Pos} (hm : c.X.mg "int" = none) (hg : Gl c.X "int") (h : WA c [e] δ n fun ds n1 => IntOf ds fun z => Φ z n1) (he : starEach [e] c.X.env = (false, eval e c.X.env) :: starEach [] c.X.env := by rfl) (hpl : (backTo pos (starEach [] c.X.env)).any (·.1) = false := by rfl) :
    WE c (.Call (.Name "int" p) [e] [] pos) δ n Φ := we_callTy call_int1 intOf_ok hm hg (by decide +kernel) h (he := he) (hpl := hpl)
/-- max(i, j), min(i, j) -/
def Two (g : Int → Int → Int) : List D → (D → Prop) → Prop := fun ds Φ => ∃ i j, ds = [.int i, .int j] ∧ Φ (.int (g i j))
theorem twoR_ok {g : Int → Int → Int} : RCok c δ (fun xs H Q => ∃ i j, xs = [.int i, .int j] ∧ Q (.int (g i j)) H) (Two g) := by
  intro σ H Hs n ds vs Φ Q S hs r h q
  obtain ⟨i, j, rfl, f⟩ := h
  obtain ⟨v, v', rfl, r1, r2⟩ := paired2 r
  have e1 : v = _ := r1
  have e2 : v' = _ := r2
  subst e1 e2
  exact ⟨i, j, rfl, q _ H (.int (g i j)) (Same.refl H) rfl f⟩
theorem we_max2 {p : Pos} (hc : c.X.calm = true) (hm : c.X.mg "max" = none) (hg : Gl c.X "max") (h : WA c [a, b] δ n fun ds n1 => Two (fun i j => if j > i then j else i) ds fun z => Φ z n1)
    (he : starEach [a, b] c.X.env = (false, eval a c.X.env) :: starEach [b] c.X.env := by rfl) (hpl : (backTo pos (starEach [b] c.X.env)).any (·.1) = false := by rfl) :
    WE c (.Call (.Name "max" p) [a, b] [] pos) δ n Φ := we_callB (call_max2 hc) twoR_ok hm hg (by decide +kernel) h (he := he) (hpl := hpl)
theorem we_min2 {p : Pos} (hc : c.X.calm = true) (hm : c.X.mg "min" = none) (hg : Gl c.X "min") (h : WA c [a, b] δ n fun ds n1 => Two (fun i j => if j < i then j else i) ds fun z => Φ z n1)
    (he : starEach [a, b] c.X.env = (false, eval a c.X.env) :: starEach [b] c.X.env := by rfl) (hpl : (backTo pos (starEach [b] c.X.env)).any (·.1) = false := by rfl) :
    WE c (.Call (.Name "min" p) [a, b] [] pos) δ n Φ := we_callB (call_min2 hc) twoR_ok hm hg (by decide +kernel) h (he := he) (hpl := hpl)
/-- list(x), tuple(x) -/
def ListOf : List D → (D → Prop) → Prop := fun ds Φ => ∃ x xs, ds = [x] ∧ seqOf x = some xs ∧ Φ (.new xs)
theorem listOf_ok : RCok c δ (fun xs H Q => ∃ p ys, xs = [.ref p] ∧ (SqL c.X.K H p ys ∨ SqT c.X.K H p ys) ∧ ∀ l, H l = none → Q (.ref l) (upd H l (.lst ys))) ListOf := by
  intro σ H Hs n ds vs Φ Q S hs r h q
  obtain ⟨x, xs, rfl, e, f⟩ := h
  obtain ⟨v, rfl, r1⟩ := paired1 r
  obtain ⟨p, ys, rfl, h1, h2⟩ := r1.seqOf e
  exact ⟨p, ys, rfl, h1, fun l hl => q _ _ _ (same_new hl) (RpE.mkNew S hs hl h2) f⟩
theorem we_toList {p : Pos} (hm : c.X.mg "list" = none) (hg : Gl c.X "list") (h : WA c [e] δ n fun ds n1 => ListOf ds fun z => Φ z n1) (he : starEach [e] c.X.env = (false, eval e c.X.env) :: starEach [] c.X.env := by rfl) (hpl : (backTo pos (starEach [] c.X.env)).any (·.1) = false := by rfl) :
    WE c (.Call (.Name "list" p) [e] [] pos) δ n Φ := we_callTy call_list_of listOf_ok hm hg (by decide +kernel) h (he := he) (hpl := hpl)
def TupleOf : List D → (D → Prop) → Prop := fun ds Φ => ∃ x xs, ds = [x] ∧ lstOf x = some xs ∧ Φ (.tup xs)
theorem tupleOf_ok : RCok c δ (fun xs H Q => ∃ p ys, xs = [.ref p] ∧ ((SqL c.X.K H p ys ∧ ∀ l, H l = none → Q (.ref l) (upd H l (.tup ys))) ∨ (SqT c.X.K H p ys ∧ Q (.ref p) H))) TupleOf := by
  intro σ H Hs n ds vs Φ Q S hs r h q
  obtain ⟨x, xs, rfl, e, f⟩ := h
  obtain ⟨v, rfl, r1⟩ := paired1 r
  obtain ⟨p, ys, rfl, h1, h2⟩ := r1.lstOf e
  exact ⟨p, ys, rfl, .inl ⟨.of h1, fun l hl => q _ _ _ (same_new hl) (RpE.mkTup S hl h2) f⟩⟩
theorem we_toTuple {p : Pos} (hm : c.X.mg "tuple" = none) (hg : Gl c.X "tuple") (h : WA c [e] δ n fun ds n1 => TupleOf ds fun z => Φ z n1) (he : starEach [e] c.X.env = (false, eval e c.X.env) :: starEach [] c.X.env := by rfl) (hpl : (backTo pos (starEach [] c.X.env)).any (·.1) = false := by rfl) :
    WE c (.Call (.Name "tuple" p) [e] [] pos) δ n Φ := we_callTy call_tuple_of tupleOf_ok hm hg (by decide +kernel) h (he := he) (hpl := hpl)
/-- sorted of ints: the one ascending arrangement -/
def SortedR : List D → (D → Prop) → Prop := fun ds Φ => ∃ x ns, ds = [x] ∧ lstOf x = some (ns.map D.int) ∧ ∀ ns' : List Int, ns'.Perm ns → ns'.Pairwise (· ≤ ·) → Φ (.new (ns'.map D.int))
theorem sortedR_ok : RCok c δ (rSortedI c.X.K) SortedR := by
  intro σ H Hs n ds vs Φ Q S hs r h q
  obtain ⟨x, ns, rfl, e, f⟩ := h
  obtain ⟨v, rfl, r1⟩ := paired1 r
  obtain ⟨p, ys, rfl, h1, h2⟩ := r1.lstOf e
  have e2 := h2.ints
  subst e2
  exact ⟨p, ns, rfl, .of h1, fun ns' l pm pw hl => q _ _ _ (same_new hl) (RpE.mkNew S hs hl (Rps.of_ints ns')) (f ns' pm pw)⟩
theorem we_sorted {p : Pos} (hm : c.X.mg "sorted" = none) (hg : Gl c.X "sorted") (h : WA c [e] δ n fun ds n1 => SortedR ds fun z => Φ z n1) (he : starEach [e] c.X.env = (false, eval e c.X.env) :: starEach [] c.X.env := by rfl) (hpl : (backTo pos (starEach [] c.X.env)).any (·.1) = false := by rfl) :
    WE c (.Call (.Name "sorted" p) [e] [] pos) δ n Φ := we_callB cr_sortedI sortedR_ok hm hg (by decide +kernel) h (he := he) (hpl := hpl)
/-- isinstance(x, T) -/
def isTy (T : String) : D → Option Bool
  | .non => some false
  | .int _ => some (T == "int")
  | .bl _ => some (T == "bool" || T == "int")
  | .str _ => some (T == "str")
  | .tup _ => some (T == "tuple")
  | .ktup _ => some (T == "tuple")
  | .lst _ => some (T == "list")
  | .own _ _ => some (T == "list")
  | .new _ => some (T == "list")
  | _ => none
def tyN : D → String
  | .int _ => "int" | .bl _ => "bool" | .str _ => "str" | .tup _ => "tuple" | .ktup _ => "tuple" | .lst _ => "list" | .own _ _ => "list" | .new _ => "list" | _ => "NoneType"
theorem isTy_kit {T : String} (hT : T ∈ ["int", "bool", "str", "tuple", "list"]) {d : D} {k : Bool} (h : isTy T d = some k) : kitB (tyN d) T = some k := by
  have key : ∀ T ∈ ["int", "bool", "str", "tuple", "list"], kitB "NoneType" T = some false ∧ kitB "int" T = some (T == "int") ∧ kitB "bool" T = some (T == "bool" || T == "int") ∧ kitB "str" T = some (T == "str") ∧ kitB "tuple" T = some (T == "tuple") ∧ kitB "list" T = some (T == "list") := by decide +kernel
  obtain ⟨k1, k2, k3, k4, k5, k6⟩ := key T hT
  cases d <;> first | (cases h; assumption) | cases h
theorem isTy_ty {K : PySem.W.Frag} {Av Ow : Addr → Prop} {pu : Option Addr} {Hs H : Hp} {T : String} {d : D} {v : V} {k : Bool} (h : isTy T d = some k) (r : RpE K Av Ow pu Hs H d v) : TyX K H v (.type (tyN d)) := by
  cases d with
  | non => have e : v = _ := r; subst e; exact .base .non
  | int i => have e : v = _ := r; subst e; exact .base (.int i)
  | bl i => have e : v = _ := r; subst e; exact .base (.bl i)
  | str i => have e : v = _ := r; subst e; exact .base (.str i)
  | tup ds => obtain ⟨a, vs, rfl, _, h1, _⟩ := r; exact .base (.tup h1)
  | ktup ds => obtain ⟨a, vs, rfl, h1, _⟩ := r; exact h1.elim (fun h1 => .base (.tup h1.2)) fun ⟨o, its, m, h1, h2, _⟩ => .kTuple h1 h2
  | lst ds => obtain ⟨a, vs, rfl, h1, _⟩ := r.lstOf rfl; exact .base (.lst h1)
  | own p ds => obtain ⟨a, vs, rfl, h1, _⟩ := r.lstOf rfl; exact .base (.lst h1)
  | new ds => obtain ⟨a, vs, rfl, h1, _⟩ := r.lstOf rfl; exact .base (.lst h1)
  | _ => cases h
theorem we_isinst (T : String) {x : Str} {p p2 : Pos} (hT : T ∈ ["int", "bool", "str", "tuple", "list"]) (hv : bootBuiltins x = some (.type T)) (hm : c.X.mg "isinstance" = none) (hm2 : c.X.mg x = none) (hg : Gl c.X "isinstance") (hg2 : Gl c.X x)
    (h : WE c e δ n fun d n1 => ∃ k, isTy T d = some k ∧ Φ (.bl k) n1) (hn : x ≠ "__name__" := by decide) (hdb : (x == ("__debug__" : Str)) = false := by decide)
    (he : starEach [e, .Name x p2] c.X.env = (false, eval e c.X.env) :: starEach [.Name x p2] c.X.env := by rfl) (he2 : starEach [.Name x p2] c.X.env = (false, eval (.Name x p2) c.X.env) :: starEach [] c.X.env := by rfl)
    (hpl : (backTo pos (starEach [.Name x p2] c.X.env)).any (·.1) = false := by rfl) : WE c (.Call (.Name "isinstance" p) [e, .Name x p2] [] pos) δ n Φ := ⟨fun σ H Q S q => by
  refine pe_to (pe_callB call_isi hg hm (by decide +kernel) (pa_cons pe_w (pa_cons (pe_bltn (v := .ty T) hg2 hm2 hv rfl hn hdb) pa_nil he2) he) (by decide) (by decide) he hpl) ?_
  refine h.run σ H _ S fun v H2 d n1 k1 S1 r1 ⟨k, hk, f⟩ => ?_
  exact ⟨v, .ty T, _, _, k, rfl, .ty T, isTy_ty hk r1, kit_ty (isTy_kit hT hk), q _ H2 (.bl k) n1 k1 S1 rfl f⟩⟩
end
end DL

/-! DLe: defs and their promises over data: calls, bodies; instances: fields, methods, properties, making. -/
namespace DL
open PySem PySem.Spec PyProof.Rows L2

abbrev DSp := List D → (D → Prop) → Prop
abbrev PSp := List D → Nat → (D → Nat → Prop) → Prop
/-- what a def hands back -/
abbrev RetV (K : PySem.W.Frag) (M : Addr → Prop) (H H2 : Hp) (d : D) (v : V) : Prop := RetF K M (fun p => H p = none) H2 d v
/-- the promise of a def that changes nothing -/
def spD (K : PySem.W.Frag) (sp : DSp) : Sp := fun vs H Q _ => ∃ (M : Addr → Prop) (ds : List D) (Φ : D → Prop), (∀ a, M a → ∃ o, H a = some o ∧ NT o) ∧ Rps K M H ds vs ∧ sp ds Φ ∧ ∀ d v H2, Φ d → Same H H2 → RetV K M H H2 d v → Q v H2
/-- the promise of a def whose first argument is the purse -/
def spP (K : PySem.W.Frag) (sp : PSp) : Sp := fun vs H Q _ => ∃ (M : Addr → Prop) (p : Addr) (n : Nat) (ds : List D) (us : List V) (Φ : D → Nat → Prop), vs = .ref p :: us ∧ (∀ a, M a → ∃ o, H a = some o ∧ NT o) ∧ ¬ M p ∧ PurseAt H p n ∧ Rps K (fun a => M a ∨ a = p) H ds us ∧
  sp ds n Φ ∧ ∀ d m v H2, Φ d m → Kp (some p) H H2 → PurseAt H2 p m → RetV K (fun a => M a ∨ a = p) H H2 d v → Q v H2
structure Fn (P : Program) (w : World) (K : PySem.W.Frag) (mg : Str → Option Value) (base : Heap) (x : Str) (ps : List Str) (k : Nat) (sp : Sp) : Prop where
  ex : ∃ (f : Addr) (fd : FuncData), mg x = some (.ref f) ∧ PySem.W.keepIn K (.ref f) = true ∧ Binds K fd ps [] ∧ FnOk P w K mg base CX0 k f fd ps sp
theorem RetV.rpE {c : Ctx} {σ : L2.St} {δ : DE} {n : Nat} {Hs H H2 : Hp} {d : D} {v : V} {M : Addr → Prop} (hM : ∀ a, c.Av δ a ↔ M a) (hs : ∀ p, H p = none → Hs p = none) (S : SlR c σ H δ n) (h : RetV c.X.K M H H2 d v) : RpE c.X.K (c.Av δ) (c.Ow δ) c.pu Hs H2 d v := by
  have eM : M = c.Av δ := by
    funext a
    exact propext (hM a).symm
  subst eM
  rcases h with ⟨_, h⟩ | ⟨ds, p, vs, rfl, rfl, h1, h2, h3, h4⟩ | ⟨ks, ds, p, ps, rfl, rfl, nd, h1, h2, l, h3⟩ | ⟨d1, ds, a, p, w, vs, rfl, rfl, h1, h2, h3, h4, h5, h6, h7⟩
  · exact RpE.of h
  · exact ⟨p, vs, rfl, hs p h1, h2, S.npu h1, h3, h4⟩
  · exact ⟨p, ps, rfl, nd, fun a m => ⟨hs a (h1 a m).1, (h1 a m).2, S.npu (h1 a m).1⟩, h2, l, h3⟩
  · exact ⟨a, p, w, vs, rfl, h1, h2, hs p h3, h4, S.npu h3, h5, h6, h7⟩
section
variable {c : Ctx} {δ : DE} {n : Nat} {e : Expr} {es : List Expr} {pos p : Pos} {Φ : D → Nat → Prop} {x : Str} {ps : List Str} {k : Nat}
theorem we_call {sp : DSp} (F : Fn c.X.prog c.X.w c.X.K c.X.mg c.X.base x ps k (spD c.X.K sp)) (hr : Room k c.X.A) (hg : Gl c.X x) (h : WA c (e :: es) δ n fun ds n1 => ds.all okEl = true ∧ sp (ds.map frz) fun d => Φ d n1)
    (hdb : (x == ("__debug__" : Str)) = false := by decide) (he : starEach (e :: es) c.X.env = (false, eval e c.X.env) :: starEach es c.X.env := by rfl) (hpl : (backTo pos (starEach es c.X.env)).any (·.1) = false := by rfl) :
    WE c (.Call (.Name x p) (e :: es) [] pos) δ n Φ := ⟨fun σ H Q S q => by
  obtain ⟨f, fd, hm, hk, hb, F⟩ := F.ex
  refine pe_to (pe_call F hr hg hm hk hb .nil pass0 pa_w hdb he hpl) ?_
  refine h.run σ H _ S fun vs H2 ds n1 k1 S1 r1 ⟨o, f⟩ => ?_
  refine ⟨c.Av δ, ds.map frz, _, fun a m => S1.av_nt m, ?_, f, fun d v H3 f sm rv => ?_⟩
  · rw [List.append_nil]; exact els_ok o r1
  · exact q v H3 d n1 (k1.trans (Kp.of sm)) (S1.grow sm) (rv.rpE (fun _ => Iff.rfl) (fun p z => Kp.back S S1 k1 z) S1) f⟩
/-- own lists lent to a def that hands back a flat thing -/
def okLend : D → Bool
  | .own _ _ => true
  | d => okEl d
def ownAddr : D → Option Addr
  | .own p _ => some p
  | _ => none
def ownsOf (l : List D) : List Addr := l.filterMap ownAddr
theorem mem_owns {p : Addr} {ds : List D} {l : List D} (h : D.own p ds ∈ l) : p ∈ ownsOf l := List.mem_filterMap.mpr ⟨_, h, rfl⟩
theorem okLend_split {d : D} (h : okLend d = true) : (∃ p es, d = .own p es) ∨ okEl d = true := by
  cases d with
  | own p es => exact .inl ⟨p, es, rfl⟩
  | _ => exact .inr h
theorem lend_ok {K : PySem.W.Frag} {Av Av' Ow : Addr → Prop} {pu : Option Addr} {Hs H : Hp} (s : ∀ a, Av' a → Av a) : ∀ {ds : List D} {vs : List V}, (∀ p es, D.own p es ∈ ds → ¬ Av' p) → ds.all okLend = true → Paired (RpE K Av Ow pu Hs H) ds vs → Rps K Av' H (ds.map frz) vs
  | [], _, _, _, h => by cases h; exact rfl
  | d :: ds, _, ho, o, h => by
    cases h with
    | cons r t =>
      rw [List.all_cons, Bool.and_eq_true] at o
      refine ⟨_, _, rfl, ?_, lend_ok s (fun p es m => ho p es (List.mem_cons_of_mem _ m)) o.2 t⟩
      rcases okLend_split o.1 with ⟨p, es, rfl⟩ | o1
      · obtain ⟨rfl, _, vs, h1, h2⟩ := r
        exact ⟨p, vs, rfl, ho p es List.mem_cons_self, h1, h2.wk s fun _ _ _ e => e⟩
      · exact (r.el o1).wk s fun _ _ _ e => e
theorem we_callO {sp : DSp} (F : Fn c.X.prog c.X.w c.X.K c.X.mg c.X.base x ps k (spD c.X.K sp)) (hr : Room k c.X.A) (hg : Gl c.X x) (h : WA c (e :: es) δ n fun ds n1 => ds.all okLend = true ∧ sp (ds.map frz) fun d => flat d = true ∧ Φ d n1)
    (hdb : (x == ("__debug__" : Str)) = false := by decide) (he : starEach (e :: es) c.X.env = (false, eval e c.X.env) :: starEach es c.X.env := by rfl) (hpl : (backTo pos (starEach es c.X.env)).any (·.1) = false := by rfl) :
    WE c (.Call (.Name x p) (e :: es) [] pos) δ n Φ := ⟨fun σ H Q S q => by
  obtain ⟨f, fd, hm, hk, hb, F⟩ := F.ex
  refine pe_to (pe_call F hr hg hm hk hb .nil pass0 pa_w hdb he hpl) ?_
  refine h.run σ H _ S fun vs H2 ds n1 k1 S1 r1 ⟨o, f⟩ => ?_
  refine ⟨fun a => c.Av δ a ∧ a ∉ ownsOf ds, ds.map frz, _, fun a m => S1.av_nt m.1, ?_, f, fun d v H3 f sm rv => ?_⟩
  · rw [List.append_nil]
    exact lend_ok (fun a m => m.1) (fun p es m z => z.2 (mem_owns m)) o r1
  · refine q v H3 d n1 (k1.trans (Kp.of sm)) (S1.grow sm) ?_ f.2
    rcases rv with ⟨_, rv⟩ | ⟨ds', p, vs', rfl, _⟩ | ⟨_, _, _, _, rfl, _⟩ | ⟨_, _, _, _, _, _, rfl, _⟩
    · obtain ⟨rfl, _⟩ := flat_rp f.1 rv
      have fd := f.1
      cases d <;> first | rfl | cases fd
    · cases f.1
    · cases f.1
    · cases f.1⟩
theorem we_call0 {sp : DSp} (F : Fn c.X.prog c.X.w c.X.K c.X.mg c.X.base x ps k (spD c.X.K sp)) (hr : Room k c.X.A) (hg : Gl c.X x) (h : sp [] fun d => Φ d n)
    (hdb : (x == ("__debug__" : Str)) = false := by decide) : WE c (.Call (.Name x p) [] [] pos) δ n Φ := ⟨fun σ H Q S q => by
  obtain ⟨f, fd, hm, hk, hb, F⟩ := F.ex
  refine pe_to (pe_call0 F hr hg hm hk hb .nil pass0 hdb) ?_
  exact ⟨c.Av δ, [], _, fun a m => S.av_nt m, rfl, h, fun d v H3 f sm rv => q v H3 d n (Kp.of sm) (S.grow sm) (rv.rpE (fun _ => Iff.rfl) (fun p z => z) S) f⟩⟩
/-- a call with the purse in front -/
theorem we_callP {sp : PSp} (F : Fn c.X.prog c.X.w c.X.K c.X.mg c.X.base x ps k (spP c.X.K sp)) (hr : Room k c.X.A) (hg : Gl c.X x) (h : WA c (e :: es) δ n fun ds n1 => ∃ p ds', ds = .pur p :: ds' ∧ ds'.all okEl = true ∧ sp (ds'.map frz) n1 Φ)
    (hdb : (x == ("__debug__" : Str)) = false := by decide) (he : starEach (e :: es) c.X.env = (false, eval e c.X.env) :: starEach es c.X.env := by rfl) (hpl : (backTo pos (starEach es c.X.env)).any (·.1) = false := by rfl) :
    WE c (.Call (.Name x p) (e :: es) [] pos) δ n Φ := ⟨fun σ H Q S q => by
  obtain ⟨f, fd, hm, hk, hb, F⟩ := F.ex
  refine pe_to (pe_call F hr hg hm hk hb .nil pass0 pa_w hdb he hpl) ?_
  refine h.run σ H _ S fun vs H2 ds n1 k1 S1 r1 ⟨p, ds', e, o, f⟩ => ?_
  subst e
  cases r1 with
  | cons r t =>
    obtain ⟨rfl, hp⟩ := r
    have hM : ∀ a, c.Av δ a ↔ ((c.M a ∨ a ∈ addrs δ) ∨ a = p) := fun a => by
      constructor
      · rintro (z | z | z)
        · exact .inl (.inl z)
        · rw [hp] at z; exact .inr (Option.some.inj z).symm
        · exact .inl (.inr z)
      · rintro ((z | z) | z)
        · exact .inl z
        · exact .inr (.inr z)
        · subst z; exact .inr (.inl hp)
    have eM : (fun a => (c.M a ∨ a ∈ addrs δ) ∨ a = p) = c.Av δ := by
      funext a
      exact propext (hM a).symm
    refine ⟨fun a => c.M a ∨ a ∈ addrs δ, p, n1, ds'.map frz, _, _, by rw [List.append_nil], fun a m => S1.av_nt ((hM a).mpr (.inl m)), ?_, (S1.pur p hp).1, ?_, f, fun d m v H3 f sm pa rv => ?_⟩
    · rintro (z | z)
      · exact (S1.pur p hp).2 z
      · exact (S1.dis p z).2 hp
    · rw [eM]; exact els_ok o t
    · have sm' : Kp c.pu H2 H3 := by rw [hp]; exact sm
      refine q v H3 d m (k1.trans sm') (S1.kp sm' fun p' e => ?_) (rv.rpE hM (fun p z => Kp.back S S1 k1 z) S1) f
      rw [hp] at e
      cases e
      exact pa⟩
end

/-! ### a def's body -/
def startD (N : List Str) (ds : List D) : DE := ds.map some ++ List.replicate (N.length - ds.length) none
theorem addrs_pure : ∀ {ds : List D} (h : ∀ d ∈ ds, pureD d = true) (k : Nat), addrs (ds.map some ++ List.replicate k none) = []
  | [], _, k => by
    unfold addrs
    rw [List.map_nil, List.nil_append, List.flatMap_eq_nil_iff.mpr (fun s m => by rw [(List.mem_replicate.mp m).2]; rfl)]
  | d :: ds, h, k => by
    have ih := addrs_pure (ds := ds) (fun e m => h e (List.mem_cons_of_mem _ m)) k
    unfold addrs at ih ⊢
    rw [List.map_cons, List.cons_append, List.flatMap_cons]
    have : addr1 (some d) = [] := by
      have z := h d List.mem_cons_self
      cases d <;> first | rfl | cases z
    rw [this, List.nil_append]
    exact ih
theorem rps_pure {K : PySem.W.Frag} {Av : Addr → Prop} {H : Hp} : ∀ {ds : List D} {vs : List V}, Rps K Av H ds vs → ∀ d ∈ ds, pureD d = true
  | [], _, _, _, m => by cases m
  | d :: ds, _, h, e, m => by
    obtain ⟨v, r, rfl, h1, h2⟩ := h
    rcases List.mem_cons.mp m with rfl | m
    · exact h1.isPure
    · exact rps_pure h2 e m
theorem okEl_pure {d : D} (h : pureD d = true) : okEl d = true := by
  cases d <;> first | rfl | cases h
theorem frz_pure {d : D} (h : pureD d = true) : frz d = d := by
  cases d <;> first | rfl | cases h
theorem start_get {N : List Str} {vs : List V} {ds : List D} (hl : ds.length = vs.length) {i : Nat} {s : Option D} (h : (startD N ds)[i]? = some s) : (∃ d, ds[i]? = some d ∧ s = some d ∧ (L2.start N vs)[i]? = (vs[i]?).map some) ∨ s = none := by
  unfold startD at h
  by_cases hi : i < ds.length
  · rw [List.getElem?_append_left (by simpa using hi), List.getElem?_map] at h
    cases e : ds[i]? with
    | none => rw [List.getElem?_eq_none_iff] at e; omega
    | some d =>
      rw [e] at h
      cases h
      refine .inl ⟨d, rfl, rfl, ?_⟩
      unfold L2.start
      rw [List.getElem?_append_left (by rw [List.length_map]; omega), List.getElem?_map]
  · rw [List.getElem?_append_right (by simpa using hi), List.getElem?_replicate] at h
    split at h
    · cases h; exact .inr rfl
    · cases h
theorem slAt_pure {K : PySem.W.Frag} {Av : Addr → Prop} {pu : Option Addr} {H : Hp} {d : D} {v : V} {o : Option (Option V)} (r : Rp K Av H d v) (e : o = some (some v)) : SlAt K Av pu H (some d) o := by
  have z := r.isPure
  cases d <;> first | exact ⟨v, e, r⟩ | cases z
/-- a def as it stands behind the top, its defaults left open -/
structure FunV (K : PySem.W.Frag) (x qual : Str) (st : Stmt) (f : Addr) (fd : FuncData) : Prop where
  ex : ∃ (oc : Value) (od : Option Addr) (dV kV doc pm : Value) (an : Option Addr) (cdv ct : Value) (osl : Array (Option Value)),
    fd = PySem.W.fnOf x qual (defArgs st) (defBody st) (defScope st) dV kV doc pm an cdv ct ∧ K.lookup f = some ⟨oc, od, .func fd, osl⟩ ∧ PySem.W.codeIn K cdv qual = true
  kp : PySem.W.keepIn K (.ref f) = true
section
variable {P : Program} {w : World} {K : PySem.W.Frag} {mg : Str → Option Value} {base : Heap}
theorem FunV.of {x qual : Str} {st : Stmt} {f : Addr} {fd : FuncData} (F : Fun K x qual st f fd) : FunV K x qual st f fd := by
  obtain ⟨oc, od, kV, doc, pm, an, cdv, ct, osl, e, lk, hcd⟩ := F.ex
  exact ⟨⟨oc, od, _, kV, doc, pm, an, cdv, ct, osl, e, lk, hcd⟩, F.kp⟩
theorem FunV.ofD {x qual : Str} {st : Stmt} {f : Addr} {fd : FuncData} {dvs : List V} {kws : List (Str × V)} (F : FunD K x qual (defArgs st) (defBody st) (defScope st) dvs kws f fd) : FunV K x qual st f fd := by
  obtain ⟨oc, od, dV, kV, doc, pm, an, cdv, ct, osl, e, lk, hcd, _, _⟩ := F.ex
  exact ⟨⟨oc, od, dV, kV, doc, pm, an, cdv, ct, osl, e, lk, hcd⟩, F.kp⟩
theorem FunV.ok {x qual : Str} {st : Stmt} {f : Addr} {fd : FuncData} {N ps : List Str} {k : Nat} {sp : Sp} (F : FunV K x qual st f fd) (S : FnScope N ps (defScope st)) (len : ∀ vs H Q E, sp vs H Q E → vs.length = ps.length)
    (hbody : ∀ (cdv : Value) (A : Around) (outer : List Env) (s : Shared) (H : Hp) (vs : List V) (Q : VK) (E : XK), Room k (A.deeper (envOfC qual (defScope st) s.heap.objs.size f cdv)) → sp vs H Q E →
      ∃ t, PSs (cxOf CX0 P w K mg base N qual (defScope st) f cdv A outer s H E).nox (defBody st) t ∧ t { nx := fun _ H' => Q .non H', rt := Q } (L2.start N vs) H) : FnOk P w K mg base CX0 (k + 1) f fd ps sp := by
  obtain ⟨oc, od, dV, kV, doc, pm, an, cdv, ct, osl, rfl, lk, hcd⟩ := F.ex
  refine fn_of lk hcd S len fun A outer s H vs Q E hr hsp => ?_
  obtain ⟨t, h, q⟩ := hbody cdv A outer s H vs Q E hr hsp
  exact ⟨t, h.nox, q⟩
end
section
variable {P : Program} {w : World} {K : PySem.W.Frag} {mg : Str → Option Value} {base : Heap}
theorem fnD {x qual : Str} {st : Stmt} {f : Addr} {fd : FuncData} {N ps : List Str} {k : Nat} {sp : DSp} (F : FunV K x qual st f fd) (S : FnScope N ps (defScope st)) (hl : ∀ ds Φ, sp ds Φ → ds.length = ps.length)
    (body : ∀ (cdv : Value) (A : Around) (outer : List Env) (s : Shared) (H : Hp) (E : XK) (M : Addr → Prop) (ds : List D) (Φ : D → Prop), Room k (A.deeper (envOfC qual (defScope st) s.heap.objs.size f cdv)) → (∀ d ∈ ds, pureD d = true) → sp ds Φ →
      WB ⟨(cxOf CX0 P w K mg base N qual (defScope st) f cdv A outer s H E).nox, M, none⟩ (defBody st) (startD N ds) 0 { nx := fun _ _ => Φ .non, rt := fun d _ => Φ d }) : FnOk P w K mg base CX0 (k + 1) f fd ps (spD K sp) := by
  refine F.ok S (fun vs H Q E h => ?_) (fun cdv A outer s H vs Q E hr h => ?_)
  · obtain ⟨M, ds, Φ, _, h1, h2, _⟩ := h
    rw [← h1.length]; exact hl ds _ h2
  · obtain ⟨M, ds, Φ, dom, h1, h2, h3⟩ := h
    refine ⟨_, pb_w, (body cdv A outer s H E M ds Φ hr (rps_pure h1) h2).run ⟨H, fun _ => False⟩ (L2.start N vs) H _ ?_ ?_ ?_⟩
    · have hp := rps_pure h1
      have ha : addrs (startD N ds) = [] := addrs_pure hp _
      refine ⟨?_, dom, (fun p z => by cases z), by rw [ha]; exact List.nodup_nil, fun p z => by rw [ha] at z; (cases z), fun i s' e => ?_⟩
      · unfold startD L2.start
        rw [List.length_append, List.length_append, List.length_map, List.length_map, h1.length]
        simp
      · rcases start_get h1.length e with ⟨d, e1, rfl, e2⟩ | rfl
        · obtain ⟨v, e3, r⟩ := h1.get e1
          rw [e2, e3]
          refine slAt_pure (r.wk (fun a z => ?_) fun _ _ _ e => e) rfl
          rcases z with z | z | z
          · exact z
          · cases z
          · rw [ha] at z; cases z
        · trivial
    · exact ⟨fun a o _ e => e, fun p z => .inr (by rw [show addrs (startD N ds) = [] from addrs_pure (rps_pure h1) _] at z; cases z), (fun p z => by cases z)⟩
    · refine ⟨fun σ' H' δ' n' S' B' z => ?_, fun _ _ _ _ _ _ z => z.elim, fun _ _ _ _ _ _ z => z.elim, fun v H' d n' R z => ?_⟩
      · exact h3 .non .non H' z (fun a o e => B'.keep a o (fun z => z) e) (.inl ⟨rfl, rfl⟩)
      · refine h3 d v H' z (fun a o e => R.keep a o (fun z => z) e) ?_
        have hav : ∀ a, M a → Ctx.Av ⟨(cxOf CX0 P w K mg base N qual (defScope st) f cdv A outer s H E).nox, M, none⟩ [] a := fun a z => .inl z
        exact R.rp.to hav fun p _ z => z.elim (fun z => z.elim) (fun z => z)
theorem fnP {x qual : Str} {st : Stmt} {f : Addr} {fd : FuncData} {N ps : List Str} {k : Nat} {sp : PSp} (F : FunV K x qual st f fd) (S : FnScope N ps (defScope st)) (hl : ∀ ds n Φ, sp ds n Φ → ds.length + 1 = ps.length)
    (body : ∀ (cdv : Value) (A : Around) (outer : List Env) (s : Shared) (H : Hp) (E : XK) (M : Addr → Prop) (p : Addr) (n : Nat) (ds : List D) (Φ : D → Nat → Prop), Room k (A.deeper (envOfC qual (defScope st) s.heap.objs.size f cdv)) → (∀ d ∈ ds, pureD d = true) → sp ds n Φ →
      WB ⟨(cxOf CX0 P w K mg base N qual (defScope st) f cdv A outer s H E).nox, M, some p⟩ (defBody st) (startD N (.pur p :: ds)) n { nx := fun _ m => Φ .non m, rt := fun d m => Φ d m }) : FnOk P w K mg base CX0 (k + 1) f fd ps (spP K sp) := by
  refine F.ok S (fun vs H Q E h => ?_) (fun cdv A outer s H vs Q E hr h => ?_)
  · obtain ⟨M, p, n, ds, us, Φ, rfl, _, _, _, h1, h2, _⟩ := h
    rw [List.length_cons, ← h1.length]; exact hl ds n _ h2
  · obtain ⟨M, p, n, ds, us, Φ, rfl, dom, np, pa, h1, h2, h3⟩ := h
    refine ⟨_, pb_w, (body cdv A outer s H E M p n ds Φ hr (rps_pure h1) h2).run ⟨H, fun a => a = p⟩ (L2.start N (.ref p :: us)) H _ ?_ ?_ ?_⟩
    · have hp := rps_pure h1
      have ha : addrs (startD N (.pur p :: ds)) = [] := addrs_pure (ds := ds) hp (N.length - (ds.length + 1))
      refine ⟨?_, dom, fun p' z => by cases z; exact ⟨pa, np⟩, by rw [ha]; exact List.nodup_nil, fun p z => by rw [ha] at z; (cases z), fun i s' e => ?_⟩
      · unfold startD L2.start
        rw [List.length_append, List.length_append, List.length_map, List.length_map, List.length_cons, List.length_cons, h1.length]
        simp
      · rcases start_get (vs := .ref p :: us) (by rw [List.length_cons, List.length_cons, h1.length]) e with ⟨d, e1, rfl, e2⟩ | rfl
        · rw [e2]
          cases i with
          | zero =>
            cases e1
            exact ⟨rfl, rfl⟩
          | succ i =>
            obtain ⟨v, e3, r⟩ := h1.get (by simpa using e1)
            rw [show (V.ref p :: us)[i + 1]? = us[i]? from by simp, e3]
            refine slAt_pure (r.wk (fun a z => ?_) fun _ _ _ e => e) rfl
            rcases z with z | z | z
            · exact .inl z
            · exact .inr (Option.some.inj z).symm
            · rw [ha] at z; cases z
        · trivial
    · exact ⟨fun a o _ e => e, fun q z => .inr (by rw [show addrs (startD N (.pur p :: ds)) = [] from addrs_pure (ds := ds) (rps_pure h1) (N.length - (ds.length + 1))] at z; cases z), fun q z => by cases z; rfl⟩
    · refine ⟨fun σ' H' δ' n' S' B' z => ?_, fun _ _ _ _ _ _ z => z.elim, fun _ _ _ _ _ _ z => z.elim, fun v H' d n' R z => ?_⟩
      · exact h3 .non n' .non H' z (fun a o ne e => B'.keep a o (fun z => ne (by rw [z])) e) (S'.pur p rfl).1 (.inl ⟨rfl, rfl⟩)
      · refine h3 d n' v H' z (fun a o ne e => R.keep a o (fun z => ne (by rw [z])) e) (R.pur p rfl) ?_
        have hav : ∀ a, M a ∨ a = p → Ctx.Av ⟨(cxOf CX0 P w K mg base N qual (defScope st) f cdv A outer s H E).nox, M, some p⟩ [] a := fun a z => by
          rcases z with z | rfl
          · exact .inl z
          · exact .inr (.inl rfl)
        exact R.rp.to hav fun p' e4 e3 => e3.elim (fun z => absurd (hav p' (.inr z)) e4) (fun z => z)
theorem fn_is {x qual : Str} {st : Stmt} {f : Addr} {fd : FuncData} {ps : List Str} {k : Nat} {sp : Sp} (F : FunV K x qual st f fd) (hm : mg x = some (.ref f)) (hb : Binds K fd ps []) (ok : FnOk P w K mg base CX0 k f fd ps sp) : Fn P w K mg base x ps k sp := ⟨⟨f, fd, hm, F.kp, hb, ok⟩⟩
end
end DL

/-! DLf: statements, targets, loops. -/
namespace DL
open PySem PySem.Spec PyProof.Rows L2
/-! ### a slot is set -/
theorem addrs_cons {s : Option D} {δ : DE} : addrs (s :: δ) = addr1 s ++ addrs δ := List.flatMap_cons
theorem addrs_set_sub {s : Option D} (h : addr1 s = []) : ∀ {δ : DE} {i : Nat}, (addrs (δ.set i s)).Sublist (addrs δ)
  | [], _ => by simp
  | x :: δ, 0 => by
    rw [List.set_cons_zero, addrs_cons, addrs_cons, h, List.nil_append]
    exact List.sublist_append_right _ _
  | x :: δ, i + 1 => by
    rw [List.set_cons_succ, addrs_cons, addrs_cons]
    exact (List.Sublist.refl _).append (addrs_set_sub h (δ := δ) (i := i))
theorem addrs_set_ownL {s : Option D} {L : List Addr} (h : addr1 s = L) : ∀ {δ : DE} {i : Nat}, (∀ q ∈ addrs (δ.set i s), q ∈ L ∨ q ∈ addrs δ) ∧ ((addrs δ).Nodup → L.Nodup → (∀ q ∈ L, q ∉ addrs δ) → (addrs (δ.set i s)).Nodup)
  | [], _ => by simp [addrs]
  | x :: δ, 0 => by
    rw [List.set_cons_zero, addrs_cons, addrs_cons, h]
    constructor
    · intro q hq
      rcases List.mem_append.mp hq with e | e
      · exact .inl e
      · exact .inr (List.mem_append_right _ e)
    · intro nd nl np
      exact List.nodup_append.mpr ⟨nl, (List.nodup_append.mp nd).2.1, fun a ha b hb e => np a ha (List.mem_append_right _ (e ▸ hb))⟩
  | x :: δ, i + 1 => by
    rw [List.set_cons_succ, addrs_cons, addrs_cons]
    obtain ⟨ih1, ih2⟩ := addrs_set_ownL h (δ := δ) (i := i)
    constructor
    · intro q hq
      rcases List.mem_append.mp hq with e | e
      · exact .inr (List.mem_append_left _ e)
      · exact (ih1 q e).imp id (fun z => List.mem_append_right _ z)
    · intro nd nl np
      obtain ⟨a, b, d⟩ := List.nodup_append.mp nd
      refine List.nodup_append.mpr ⟨a, ih2 b nl (fun q m z => np q m (List.mem_append_right _ z)), fun q ha r hb e => ?_⟩
      subst e
      rcases ih1 _ hb with e | e
      · exact np q e (List.mem_append_left _ ha)
      · exact d q ha q e rfl
theorem addrs_set_own {s : Option D} {p : Addr} (h : addr1 s = [p]) {δ : DE} {i : Nat} : (∀ q ∈ addrs (δ.set i s), q = p ∨ q ∈ addrs δ) ∧ ((addrs δ).Nodup → p ∉ addrs δ → (addrs (δ.set i s)).Nodup) :=
  ⟨fun q m => ((addrs_set_ownL h).1 q m).imp List.mem_singleton.mp id, fun nd np => (addrs_set_ownL h).2 nd (by simp) fun q m => by rw [List.mem_singleton.mp m]; exact np⟩
theorem adr_at {δ : DE} {i : Nat} {s : Option D} (h : δ[i]? = some s) : adr δ i = addr1 s := by
  unfold adr; rw [h]; rfl
theorem addrs_lost {s : Option D} {p : Addr} : ∀ {δ : DE} {i : Nat}, p ∈ addrs δ → p ∈ addrs (δ.set i s) ∨ p ∈ adr δ i
  | [], _, h => by cases h
  | x :: δ, 0, h => by
    rw [List.set_cons_zero, addrs_cons]
    rw [addrs_cons] at h
    rcases List.mem_append.mp h with h | h
    · exact .inr h
    · exact .inl (List.mem_append_right _ h)
  | x :: δ, i + 1, h => by
    rw [List.set_cons_succ, addrs_cons]
    rw [addrs_cons] at h
    have ih := @addrs_lost s p δ i
    have e : adr (x :: δ) (i + 1) = adr δ i := by unfold adr; rw [List.getElem?_cons_succ]
    rw [e]
    rcases List.mem_append.mp h with h | h
    · exact .inl (List.mem_append_left _ h)
    · exact (ih h).imp (fun z => List.mem_append_right _ z) id
theorem set_none {s : Option D} {δ : DE} {i j : Nat} (hs : addr1 s = []) (h : adr δ j = []) : adr (δ.set i s) j = [] := by
  unfold adr at h ⊢
  by_cases e : i = j
  · subst e
    by_cases hi : i < δ.length
    · rw [List.getElem?_set_self hi]; exact hs
    · rw [List.getElem?_eq_none (by simpa using hi)]; rfl
  · rw [List.getElem?_set_ne e]; exact h
/-- what a slot alone held is no longer held when it is set -/
theorem addrs_drop2 {s : Option D} {p : Addr} {d : Option D} (hs : p ∈ addr1 s) (hd : p ∉ addr1 d) : ∀ {δ : DE} {i : Nat}, δ[i]? = some s → (addrs δ).Nodup → p ∉ addrs (δ.set i d)
  | [], _, h, _ => by simp at h
  | x :: δ, 0, h, nd => by
    simp at h
    subst h
    rw [List.set_cons_zero, addrs_cons]
    rw [addrs_cons] at nd
    exact fun z => (List.mem_append.mp z).elim hd fun z => (List.nodup_append.mp nd).2.2 p hs p z rfl
  | x :: δ, i + 1, h, nd => by
    have h' : δ[i]? = some s := by simpa using h
    rw [List.set_cons_succ, addrs_cons]
    rw [addrs_cons] at nd
    obtain ⟨a, b, d'⟩ := List.nodup_append.mp nd
    refine fun z => ?_
    rcases List.mem_append.mp z with e | z
    · exact d' p e p (mem_addrs2 h' hs) rfl
    · exact addrs_drop2 hs hd h' b z
theorem pure_addr {d : D} (p : pureD d = true) : addr1 (some d) = [] := by
  cases d <;> first | rfl | cases p
section
variable {c : Ctx} {b : Base} {σ : L2.St} {H H2 : Hp} {δ : DE} {n n2 : Nat}
/-- a slot's datum, moved -/
theorem SlAt.mv {K : PySem.W.Frag} {Av Av' : Addr → Prop} {pu : Option Addr} {H H' : Hp} {o : Option D} {x : Option (Option V)} (s : ∀ a, Av' a → Av a ∨ H a = none) (k : ∀ a o, ¬ Av a → H a = some o → H' a = some o)
    (ho : ∀ p ∈ addr1 o, ∀ u, H p = some u → H' p = some u) (h : SlAt K Av pu H o x) : SlAt K Av' pu H' o x := by
  cases o with
  | none => trivial
  | some d =>
    cases d with
    | own p ds => obtain ⟨e, vs, h1, h2⟩ := h; exact ⟨e, vs, ho p m1 _ h1, h2.mv s k⟩
    | ownK p ks ds => obtain ⟨e, vs, h1, h3, h2⟩ := h; exact ⟨e, vs, ho p m1 _ h1, h3, h2.mv s k⟩
    | ownT p ks ds => obtain ⟨e, vs, h1, h3, h2⟩ := h; exact ⟨e, vs, ho p m1 _ h1, h3, h2.mv s k⟩
    | ins p dx C ns ds => obtain ⟨e, vs, h1, h3, h2⟩ := h; exact ⟨e, vs, ho p m1 _ h1, h3, h2.mv s k⟩
    | pur p => exact h
    | new ds => obtain ⟨v, e, r⟩ := h; exact r.elim
    | newK => obtain ⟨v, e, r⟩ := h; exact r.elim
    | newT => obtain ⟨v, e, r⟩ := h; exact r.elim
    | ownN p ks ps ds => obtain ⟨e, h1, l, h2⟩ := h; exact ⟨e, ho p List.mem_cons_self _ h1, l, h2.to (fun _ _ z => z.mv s k) fun a m o z => ho a (List.mem_cons_of_mem _ m) o z⟩
    | newN _ _ => obtain ⟨v, e, r⟩ := h; exact r.elim
    | newP _ _ => obtain ⟨v, e, r⟩ := h; exact r.elim
    | newD _ _ => obtain ⟨v, e, r⟩ := h; exact r.elim
    | non => exact h
    | bl b => exact h
    | int i => exact h
    | str x => exact h
    | raw u => exact h
    | tup ds => obtain ⟨v, e, r⟩ := h; exact ⟨v, e, r.mv s k⟩
    | ktup ds => obtain ⟨v, e, r⟩ := h; exact ⟨v, e, r.mv s k⟩
    | slst ds => obtain ⟨v, e, r⟩ := h; exact ⟨v, e, r.mv s k⟩
    | lst ds => obtain ⟨v, e, r⟩ := h; exact ⟨v, e, r.mv s k⟩
    | obj C ns ds => obtain ⟨v, e, r⟩ := h; exact ⟨v, e, r.mv s k⟩
    | exc C d => obtain ⟨v, e, r⟩ := h; exact ⟨v, e, r.mv s k⟩
    | dik f ks kds ds => obtain ⟨v, e, r⟩ := h; exact ⟨v, e, r.mv s k⟩
    | lkK ks ds => obtain ⟨v, e, r⟩ := h; exact ⟨v, e, r.mv s k⟩
    | lkT ks ds => obtain ⟨v, e, r⟩ := h; exact ⟨v, e, r.mv s k⟩
theorem get_set {α : Type} {l : List α} {i j : Nat} {x y : α} (h : (l.set i x)[j]? = some y) : (j = i ∧ y = x) ∨ (j ≠ i ∧ l[j]? = some y) := by
  by_cases e : i = j
  · subst e
    by_cases hi : i < l.length
    · rw [List.getElem?_set_self hi] at h; cases h; exact .inl ⟨rfl, rfl⟩
    · rw [List.getElem?_eq_none (by simpa using hi)] at h; cases h
  · rw [List.getElem?_set_ne e] at h
    exact .inr ⟨fun z => e z.symm, h⟩
theorem SlR.set (S : SlR c σ H δ n) (i : Nat) {d : D} {v : V} (r : Rp c.X.K (c.Av δ) H d v) : SlR c (σ.set i (some v)) H (δ.set i (some d)) n := by
  have hp := pure_addr r.isPure
  have sub := addrs_set_sub hp (δ := δ) (i := i)
  have av : ∀ a, c.Av (δ.set i (some d)) a → c.Av δ a := fun a z => z.imp id (Or.imp id fun z => sub.subset z)
  refine ⟨by simp [S.len], S.dom, S.pur, S.nd.sublist sub, fun p m => S.dis p (sub.subset m), fun j s e => ?_⟩
  rcases get_set e with ⟨rfl, rfl⟩ | ⟨ne, e⟩
  · have hj : j < σ.length := by
      rw [← S.len]
      have := (List.getElem?_eq_some_iff.mp e).1
      simpa using this
    exact slAt_pure (r.wk av fun _ _ _ e => e) (by rw [List.getElem?_set_self hj])
  · rw [List.getElem?_set_ne (Ne.symm ne)]
    exact (S.sl j s e).mv (fun a z => .inl (av a z)) (fun _ _ _ e => e) fun _ _ _ e => e
theorem SlR.unset (S : SlR c σ H δ n) (i : Nat) (x : Option V) : SlR c (σ.set i x) H (δ.set i none) n := by
  have sub := addrs_set_sub (s := none) rfl (δ := δ) (i := i)
  have av : ∀ a, c.Av (δ.set i none) a → c.Av δ a := fun a z => z.imp id (Or.imp id fun z => sub.subset z)
  refine ⟨by simp [S.len], S.dom, S.pur, S.nd.sublist sub, fun p m => S.dis p (sub.subset m), fun j s e => ?_⟩
  rcases get_set e with ⟨rfl, rfl⟩ | ⟨ne, e⟩
  · trivial
  · rw [List.getElem?_set_ne (Ne.symm ne)]
    exact (S.sl j s e).mv (fun a z => .inl (av a z)) (fun _ _ _ e => e) fun _ _ _ e => e
/-- a slot that holds what is own becomes frozen -/
theorem SlR.freeze (S : SlR c σ H δ n) {i : Nat} {p : Addr} {ds : List D} (h : δ[i]? = some (some (.own p ds))) : SlR c σ H (δ.set i (some (.lst ds))) n := by
  obtain ⟨e1, vs, h1, h2⟩ := S.sl i _ h
  have hmem := mem_addrs (s := some (.own p ds)) h rfl
  have np : p ∉ addrs (δ.set i (some (.lst ds))) := addrs_drop2 (s := some (.own p ds)) (d := some (.lst ds)) m1 (fun z => by cases z) h S.nd
  have sub := addrs_set_sub (s := some (.lst ds)) rfl (δ := δ) (i := i)
  have av : ∀ a, c.Av (δ.set i (some (.lst ds))) a → c.Av δ a := fun a z => z.imp id (Or.imp id fun z => sub.subset z)
  refine ⟨by simp [S.len], S.dom, S.pur, S.nd.sublist sub, fun p m => S.dis p (sub.subset m), fun j s e => ?_⟩
  rcases get_set e with ⟨rfl, rfl⟩ | ⟨ne, e⟩
  · refine ⟨.ref p, e1, p, vs, rfl, ?_, h1, h2.wk av fun _ _ _ e => e⟩
    rintro (z | z | z)
    · exact (S.dis p hmem).1 z
    · exact (S.dis p hmem).2 z
    · exact np z
  · exact (S.sl j s e).mv (fun a z => .inl (av a z)) (fun _ _ _ e => e) fun _ _ _ e => e
/-- a list just made becomes the frame's own -/
theorem SlR.setOwn (S : SlR c σ H δ n) (S2 : SlR c σ H2 δ n2) (k : Kp c.pu H H2) (i : Nat) {p : Addr} {vs : List V} {ds : List D} (h0 : H p = none) (h1 : ¬ c.Av δ p) (h2 : c.pu ≠ some p) (h3 : H2 p = some (.lst vs)) (r : Rps c.X.K (fun a => c.Av δ a ∨ a = p) H2 ds vs) :
    SlR c (σ.set i (some (.ref p))) H2 (δ.set i (some (.own p ds))) n2 := by
  obtain ⟨m1, m2⟩ := addrs_set_own (s := some (.own p ds)) (p := p) rfl (δ := δ) (i := i)
  have np : p ∉ addrs δ := fun z => h1 (.inr (.inr z))
  have av : ∀ a, c.Av (δ.set i (some (.own p ds))) a → c.Av δ a ∨ a = p := fun a z => by
    rcases z with z | z | z
    · exact .inl (.inl z)
    · exact .inl (.inr (.inl z))
    · rcases m1 a z with z | z
      · exact .inr z
      · exact .inl (.inr (.inr z))
  refine ⟨by simp [S2.len], S2.dom, S2.pur, m2 S2.nd np, fun q m => ?_, fun j s e => ?_⟩
  · rcases m1 q m with rfl | m
    · exact ⟨fun z => h1 (.inl z), h2⟩
    · exact S2.dis q m
  · rcases get_set e with ⟨rfl, rfl⟩ | ⟨ne, e⟩
    · have hj : j < σ.length := by
        rw [← S2.len]
        have := (List.getElem?_eq_some_iff.mp e).1
        simpa using this
      exact ⟨by rw [List.getElem?_set_self hj], vs, h3, r.wk av fun _ _ _ e => e⟩
    · rw [List.getElem?_set_ne (Ne.symm ne)]
      refine (S.sl j s e).mv (fun a z => ?_) (fun a o na e => k a o (fun z => na (.inr (.inl z))) e) fun q hq u e' => k q u (S.dis q (mem_addrs2 e hq)).2 e'
      rcases av a z with z | rfl
      · exact .inl z
      · exact .inr h0
theorem Bs.set (B : Bs c b H δ) {i : Nat} {s : Option D} (h : ∀ p ∈ addrs (δ.set i s), p ∈ addrs δ ∨ b.B p ∨ b.H0 p = none) : Bs c b H (δ.set i s) :=
  ⟨B.keep, fun p m => (h p m).elim (fun z => B.fresh p z) id, B.pu⟩
theorem Bs.set1 (B : Bs c b H δ) {i : Nat} {s : Option D} (h : addr1 s = []) : Bs c b H (δ.set i s) := B.set fun p m => .inl ((addrs_set_sub h).subset m)
theorem Bs.back (B : Bs c b H δ) {p : Addr} (h : H p = none) : b.B p ∨ b.H0 p = none := by
  by_cases z : b.B p
  · exact .inl z
  · refine .inr ?_
    cases e : b.H0 p with
    | none => rfl
    | some o => rw [B.keep p o z e] at h; cases h
end

section
variable {c : Ctx} {δ : DE} {n : Nat} {a e t : Expr} {es : List Expr} {pos p : Pos} {D' : DEnds} {st : Stmt} {sts rest : List Stmt}
theorem wb_nil (h : D'.nx δ n) : WB c [] δ n D' := ⟨fun b σ H DD S B E => pb_to pss_nil (E.nx σ H δ n S B h)⟩
theorem wb_cons (h : WS c st δ n { D' with nx := fun δ' n' => WB c rest δ' n' D' }) : WB c (st :: rest) δ n D' := ⟨fun b σ H DD S B E => by
  refine pb_to (pss_cons ps_w pb_w) ?_
  exact h.run b σ H _ S B ⟨fun σ' H' δ' n' S' B' k => k.run b σ' H' DD S' B' E, E.bk, E.ct, E.rt⟩⟩
theorem wb_one (h : WS c st δ n D') : WB c [st] δ n D' := ⟨fun b σ H DD S B E => pb_to (pss_one ps_w) (h.run b σ H DD S B E)⟩
theorem WB.imp {D2 : DEnds} (h : WB c sts δ n D') (h1 : ∀ δ n, D'.nx δ n → D2.nx δ n) (h2 : ∀ d n, D'.rt d n → D2.rt d n) (h3 : ∀ δ n, D'.bk δ n → D2.bk δ n) (h4 : ∀ δ n, D'.ct δ n → D2.ct δ n) : WB c sts δ n D2 :=
  ⟨fun b σ H DD S B E => h.run b σ H DD S B ⟨fun σ' H' δ' n' S' B' k => E.nx σ' H' δ' n' S' B' (h1 _ _ k), fun σ' H' δ' n' S' B' k => E.bk σ' H' δ' n' S' B' (h3 _ _ k), fun σ' H' δ' n' S' B' k => E.ct σ' H' δ' n' S' B' (h4 _ _ k), fun v H' d n' R k => E.rt v H' d n' R (h2 _ _ k)⟩⟩
theorem WB.less {m : Nat} (h : WB c sts δ m D') (l : m ≤ n) : WB c sts δ n D' := ⟨fun b σ H DD S B E => h.run b σ H DD (S.less l) B E⟩
/-- an own list is frozen from here on -/
theorem wb_freeze (i : Nat) {q : Addr} {ds : List D} (hi : δ[i]? = some (some (.own q ds))) (h : WB c sts (δ.set i (some (.lst ds))) n D') : WB c sts δ n D' := ⟨fun b σ H DD S B E => h.run b σ H DD (S.freeze hi) (B.set1 rfl) E⟩
theorem ws_pass (h : D'.nx δ n) : WS c (.Pass pos) δ n D' := ⟨fun b σ H DD S B E => ps_to ps_pass (E.nx σ H δ n S B h)⟩
theorem ws_break (h : D'.bk δ n) : WS c (.Break pos) δ n D' := ⟨fun b σ H DD S B E => ps_to ps_break (E.bk σ H δ n S B h)⟩
theorem ws_cont (h : D'.ct δ n) : WS c (.Continue pos) δ n D' := ⟨fun b σ H DD S B E => ps_to ps_continue (E.ct σ H δ n S B h)⟩
theorem ws_if (h : WT c t δ n fun k n1 => (k = true → WB c sts δ n1 D') ∧ (k = false → WB c rest δ n1 D')) : WS c (.If t sts rest pos) δ n D' := ⟨fun b σ H DD S B E => by
  refine ps_to (ps_if pt_w pb_w pb_w) ?_
  refine h.run σ H _ S fun k H2 n1 k1 S1 ⟨h1, h2⟩ => ?_
  cases k with
  | true => exact iteT ((h1 rfl).run b σ H2 DD S1 (B.kp k1) E)
  | false => exact iteF ((h2 rfl).run b σ H2 DD S1 (B.kp k1) E)⟩
/-- what is handed back -/
def retD : D → D
  | .own _ ds => .new ds
  | d => d
def retOk : D → Bool
  | .pur _ => false | .ownK _ _ _ => false | .ownT _ _ _ => false | .newK => false | .newT => false | .ins _ _ _ _ _ => false | .ownN _ _ _ _ => false | .newD _ _ => false
  | _ => true
theorem ws_ret (h : WE c e δ n fun d n1 => retOk d = true ∧ D'.rt (retD d) n1) : WS c (.Return (some e) pos) δ n D' := ⟨fun b σ H DD S B E => by
  refine ps_to (ps_ret pe_w) ?_
  refine h.run σ H _ S fun v H2 d n1 k1 S1 r1 ⟨o, f⟩ => ?_
  have av0 : ∀ a, c.Av [] a → c.Av δ a := fun a z => by
    rcases z with z | z | z
    · exact .inl z
    · exact .inr (.inl z)
    · cases z
  refine E.rt v H2 _ n1 ⟨(B.kp k1).keep, fun p e => (S1.pur p e).1, ?_⟩ f
  have off : ∀ p, p ∈ addrs δ → c.pu ≠ some p → ¬ c.Av [] p := fun p hm np => by
    rintro (z | z | z)
    · exact (S.dis p hm).1 z
    · exact np z
    · cases z
  cases d with
  | own p ds =>
    obtain ⟨rfl, ⟨np, hm⟩, vs, h1, h2⟩ := r1
    refine .inr (.inl ⟨ds, p, vs, rfl, rfl, B.fresh p hm, off p hm np, h1, h2.wk (fun a z => ?_) fun _ _ _ e => e⟩)
    rcases z with z | rfl
    · exact av0 a z
    · exact .inr (.inr hm)
  | new ds =>
    obtain ⟨p, vs, rfl, h0, h1, h2, h3, h4⟩ := r1
    exact .inr (.inl ⟨ds, p, vs, rfl, rfl, B.back h0, fun z => h1 (av0 p z), h3, h4.wk (fun a z => z.imp (av0 a) id) fun _ _ _ e => e⟩)
  | ownN _ _ _ _ => cases o
  | newD _ _ => cases o
  | newN ks ds =>
    obtain ⟨p, ps, rfl, nd, nm, h1, l, h2⟩ := r1
    exact .inr (.inr (.inl ⟨ks, ds, p, ps, rfl, rfl, nd, fun a m => ⟨B.back (nm a m).1, fun z => (nm a m).2.1 (av0 a z)⟩, h1, l, h2.to (fun _ _ z => z.wk (fun a z => z.imp (av0 a) id) fun _ _ _ e => e) fun _ _ _ e => e⟩))
  | newP d1 ds =>
    obtain ⟨a, p, w, vs, rfl, na, ha, h0, h1, h2, h3, h4, h5⟩ := r1
    exact .inr (.inr (.inr ⟨d1, ds, a, p, w, vs, rfl, rfl, fun z => na (av0 a z), ha, B.back h0, fun z => h1 (av0 p z), h3, h4.wk (fun a z => z.imp (av0 a) id) fun _ _ _ e => e, h5.wk (fun a z => z.imp (av0 a) id) fun _ _ _ e => e⟩))
  | pur _ => cases o
  | ownK _ _ _ => cases o
  | ownT _ _ _ => cases o
  | newK => cases o
  | newT => cases o
  | ins _ _ _ _ _ => cases o
  | _ => exact .inl ⟨rfl, Rp.wk av0 (fun _ _ _ e => e) r1⟩⟩
theorem ws_retN (h : D'.rt .non n) : WS c (.Return none pos) δ n D' := ⟨fun b σ H DD S B E => ps_to ps_retN (E.rt .non H .non n ⟨B.keep, fun p e => (S.pur p e).1, .inl ⟨rfl, rfl⟩⟩ h)⟩
/-- x = e -/
theorem ws_asg (i : Nat) {x : Str} {p' : Pos} (hN : c.X.N.Nodup) (h : WE c e δ n fun d n1 => okEl d = true ∧ D'.nx (δ.set i (some (frz d))) n1) (hi : c.X.N[i]? = some x := by rfl) (hx : Loc c.X.env.scope x := by first | exact Or.inl rfl | exact Or.inr rfl)
    (hs : swapsWith e (some (.Name x p')) pos.line c.X.env = pure false := by rfl) (hf : c.X.fn x = true ∨ c.X.env.scope.names.lookup x = some .local := by first | exact .inl rfl | exact .inr rfl) : WS c (.Assign [.Name x p'] e pos) δ n D' := ⟨fun b σ H DD S B E => by
  refine ps_to (ps_set hN hi hx pe_w hs hf) ?_
  refine h.run σ H _ S fun v H2 d n1 k1 S1 r1 ⟨o, f⟩ => ?_
  have r := r1.el o
  exact E.nx _ H2 _ n1 (S1.set i r) ((B.kp k1).set1 (pure_addr r.isPure)) f⟩
/-- x = e, a new list that the frame will change -/
theorem ws_asgO (i : Nat) {x : Str} {p' : Pos} (hN : c.X.N.Nodup) (h : WE c e δ n fun d n1 => ∃ ds, d = .new ds ∧ ∀ q, D'.nx (δ.set i (some (.own q ds))) n1) (hi : c.X.N[i]? = some x := by rfl) (hx : Loc c.X.env.scope x := by first | exact Or.inl rfl | exact Or.inr rfl)
    (hs : swapsWith e (some (.Name x p')) pos.line c.X.env = pure false := by rfl) (hf : c.X.fn x = true ∨ c.X.env.scope.names.lookup x = some .local := by first | exact .inl rfl | exact .inr rfl) : WS c (.Assign [.Name x p'] e pos) δ n D' := ⟨fun b σ H DD S B E => by
  refine ps_to (ps_set hN hi hx pe_w hs hf) ?_
  refine h.run σ H _ S fun v H2 d n1 k1 S1 r1 ⟨ds, ed, f⟩ => ?_
  subst ed
  obtain ⟨q, vs, rfl, h0, h1, h2, h3, h4⟩ := r1
  refine E.nx _ H2 _ n1 (S.setOwn S1 k1 i h0 h1 h2 h3 h4) ((B.kp k1).set fun r m => ?_) (f q)
  rcases (addrs_set_own (s := some (.own q ds)) (p := q) rfl).1 r m with rfl | m
  · exact .inr (B.back h0)
  · exact .inl m⟩
/-- x += e of ints -/
theorem ws_aug {op : Operator} {g : Int → Int → Int} (ho : PIp c.X op (ipI g)) (i : Nat) {x : Str} {p' : Pos} {k : Int} (hN : c.X.N.Nodup) (hd : δ[i]? = some (some (.int k))) (h : WE c e δ n fun d n1 => ∃ j, d = .int j ∧ D'.nx (δ.set i (some (.int (g k j)))) n1) (hi : c.X.N[i]? = some x := by rfl)
    (hx : Loc c.X.env.scope x := by first | exact Or.inl rfl | exact Or.inr rfl) (hf : c.X.fn x = true ∨ c.X.env.scope.names.lookup x = some .local := by first | exact .inl rfl | exact .inr rfl) : WS c (.AugAssign (.Name x p') op e pos) δ n D' := ⟨fun b σ H DD S B E => by
  refine ps_to (ps_aug hN hi hx pe_w ho hf) ?_
  obtain ⟨v, ev, r⟩ := S.sl i _ hd
  have r : v = .int k := r
  subst r
  refine ⟨_, ev, ?_⟩
  refine h.run σ H _ S fun u H2 d n1 k1 S1 r1 ⟨j, ed, f⟩ => ?_
  subst ed
  have r1 : u = .int j := r1
  subst r1
  exact ⟨k, j, rfl, rfl, E.nx _ H2 _ n1 (S1.set i (d := .int (g k j)) rfl) ((B.kp k1).set1 rfl) f⟩⟩

/-! ### targets -/
theorem wg_name (i : Nat) {x : Str} {d : D} {Φ : DE → Nat → Prop} (hN : c.X.N.Nodup) (ho : pureD d = true) (h : Φ (δ.set i (some d)) n) (hi : c.X.N[i]? = some x := by rfl) (hx : Loc c.X.env.scope x := by first | exact Or.inl rfl | exact Or.inr rfl)
    (hf : c.X.fn x = true ∨ c.X.env.scope.names.lookup x = some .local := by first | exact .inl rfl | exact .inr rfl) : WG c (.Name x pos) [i] d δ n Φ := ⟨fun σ H v Q S r q => by
  have r := r.pure ho
  exact pg_to (pg_name hN hi hx hf) (q _ _ n (S.set i r) ⟨fun p m => (addrs_set_sub (pure_addr ho)).subset m, fun j hj => set_none (pure_addr ho) hj, fun hz p m => (addrs_lost m).elim id fun z => by rw [hz i (List.mem_singleton.mpr rfl)] at z; cases z⟩ ⟨by simp, fun j hj => List.getElem?_set_ne fun e => hj (by rw [e]; exact List.mem_singleton.mpr rfl)⟩ h)⟩
theorem wgs_nil {Φ : DE → Nat → Prop} (h : Φ δ n) : WGs c [] [] [] δ n Φ := ⟨fun σ H vs Q S r q => by
  have e : vs = [] := r
  exact pgs_to pgs_nil ⟨e, q σ δ n S ⟨fun _ m => m, fun _ h => h, fun _ _ m => m⟩ ⟨rfl, fun _ _ => rfl⟩ h⟩⟩
theorem wgs_cons {is js : List Nat} {d : D} {ds : List D} {Φ : DE → Nat → Prop} (h : WG c e is d δ n fun δ1 n1 => WGs c es js ds δ1 n1 Φ) (hs : (assignEach (e :: es) c.X.env).map (·.2) = assign e c.X.env :: (assignEach es c.X.env).map (·.2) := by rfl) : WGs c (e :: es) (is ++ js) (d :: ds) δ n Φ := ⟨fun σ H vs Q S r q => by
  obtain ⟨v, us, rfl, r1, r2⟩ := r
  refine pgs_to (pgs_cons pg_w pgs_w hs) ⟨v, us, rfl, ?_⟩
  refine h.run σ H v _ S (RpE.of r1) fun σ1 δ1 n1 S1 m1 a1 h1 => ?_
  refine h1.run σ1 H us _ S1 (r2.wk (fun a z => z.imp id (Or.imp id (m1.1 a))) fun _ _ _ e => e) fun σ2 δ2 n2 S2 m2 a2 h2 => ?_
  refine q σ2 δ2 n2 S2 ⟨fun p m => m1.1 p (m2.1 p m), fun j hj => m2.2.1 j (m1.2.1 j hj), fun hz p m => m2.2.2 (fun i hi => m1.2.1 i (hz i (List.mem_append_right _ hi))) p (m1.2.2 (fun i hi => hz i (List.mem_append_left _ hi)) p m)⟩ ⟨a2.1.trans a1.1, fun i hi => ?_⟩ h2
  rw [List.mem_append, not_or] at hi
  rw [a2.2 i hi.2, a1.2 i hi.1]⟩
theorem wg_tup {x1 : Nat} {is : List Nat} {d : D} {Φ : DE → Nat → Prop} (hc : c.X.calm = true) (h : ∃ ds, tupOf d = some ds ∧ ds.length = es.length ∧ WGs c es is ds δ n Φ) (hn : (assignEach es c.X.env).length = es.length := by rfl) (hst : (assignEach es c.X.env).findIdx? (·.1) = none := by rfl) :
    WG c (.Tuple es x1 pos) is d δ n Φ := ⟨fun σ H v Q S r q => by
  obtain ⟨ds, e, l, h⟩ := h
  obtain ⟨p, vs, rfl, h1, h2⟩ := r.tupOf e
  refine pg_to (pg_tup hc pgs_w hn hst) ⟨p, vs, rfl, h1, by rw [← h2.length, l], ?_⟩
  exact h.run σ H vs Q S h2 q⟩
/-- (a, b, ..) = e, and other targets -/
theorem ws_asgG {tg : Expr} {is : List Nat} (h : WE c e δ n fun d n1 => WG c tg is (frz d) δ n1 D'.nx ∧ okEl d = true) (hs : swapsWithSole [tg] e pos.line c.X.env = pure false := by rfl) (hw : swappedStores [tg] e c.X.env = pure none := by rfl)
    (h1 : (assignEach [tg] c.X.env).map (·.2) = [assign tg c.X.env] := by rfl) : WS c (.Assign [tg] e pos) δ n D' := ⟨fun b σ H DD S B E => by
  refine ps_to (ps_asg pe_w pg_w hs hw h1) ?_
  refine h.run σ H _ S fun v H2 d n1 k1 S1 r1 ⟨h2, o⟩ => ?_
  refine h2.run σ H2 v _ S1 (RpE.of (r1.el o)) fun σ' δ' n' S' m _ f => ?_
  have B1 := B.kp k1
  exact E.nx σ' H2 δ' n' S' ⟨B1.keep, fun p z => B1.fresh p (m.1 p z), B1.pu⟩ f⟩
/-- a, b = e1, e2 -/
theorem ws_par (i j : Nat) {x y : Str} {ea eb : Expr} {px py pt : Pos} {kt k2 pt2} (hc : c.X.calm = true) (hN : c.X.N.Nodup) (hij : i ≠ j)
    (h : WA c [ea, eb] δ n fun ds n1 => ∃ d1 d2, ds = [d1, d2] ∧ pureD d1 = true ∧ pureD d2 = true ∧ D'.nx ((δ.set i (some d1)).set j (some d2)) n1)
    (hi : c.X.N[i]? = some x := by rfl) (hj : c.X.N[j]? = some y := by rfl) (hx : c.X.env.scope.names.lookup x = some .local := by rfl) (hy : c.X.env.scope.names.lookup y = some .local := by rfl)
    (hw : swappedStores [.Tuple [.Name x px, .Name y py] kt pt] (.Tuple [ea, eb] k2 pt2) c.X.env = pure (some [x, y]) := by rfl)
    (hs : swapsWithSole [.Tuple [.Name x px, .Name y py] kt pt] (.Tuple [ea, eb] k2 pt2) pos.line c.X.env = pure false := by rfl) :
    WS c (.Assign [.Tuple [.Name x px, .Name y py] kt pt] (.Tuple [ea, eb] k2 pt2) pos) δ n D' := ⟨fun b σ H DD S B E => by
  refine ps_to (ps_par hc hN hi hj hij hx hy pa_w hw hs) ?_
  refine h.run σ H _ S fun vs H2 ds n1 k1 S1 r1 ⟨d1, d2, e, o1, o2, f⟩ => ?_
  subst e
  obtain ⟨v, w', rfl, r1, r2⟩ := paired2 r1
  have r1 := r1.pure o1
  have r2 := r2.pure o2
  refine ⟨v, w', rfl, ?_⟩
  have S2 := S1.set i r1
  have S3 := S2.set j (r2.wk (fun a z => z.imp id (Or.imp id fun z => (addrs_set_sub (pure_addr o1)).subset z)) fun _ _ _ e => e)
  exact E.nx _ H2 _ n1 S3 (((B.kp k1).set1 (pure_addr o1)).set1 (pure_addr o2)) f⟩
end
end DL

/-! DLg: what is walked; for, while, comprehensions. -/
namespace DL
open PySem PySem.Spec PyProof.Rows L2
def wI (X : Cx) (tg iter : Expr) : TI := fun σ H R => ∀ pins s, Inv X pins σ H s →
  wpAny (model X.prog X.w) X.A (eval iter X.env) (fun v s1 => wpAny (model X.prog X.w) X.A (pyIter v) (PIE X pins σ tg R) X.xe s1) X.xe s
theorem pi_w {X : Cx} {tg iter : Expr} : PI X tg iter (wI X tg iter) := ⟨fun pins s σ H R I h => h pins s I⟩
theorem pi_to {X : Cx} {tg iter : Expr} {t : TI} (p : PI X tg iter t) {σ H R} (h : t σ H R) : wI X tg iter σ H R := fun pins s I => p.run pins s σ H R I h
/-- J walks the items, as long as what is not kept off stays as it is in H2 -/
def Items (c : Ctx) (δ : DE) (H2 : Hp) (J : It) (items : List D) : Prop :=
  ∃ (G : Hp → Prop) (Y : Nat → Hp → V → Hp → Prop), Walk J items.length G Y ∧ (∀ H', (∀ a o, ¬ c.Av δ a → H2 a = some o → H' a = some o) → G H') ∧
    ∀ i H' v H'' (Av' : Addr → Prop), i < items.length → (∀ a o, ¬ c.Av δ a → H2 a = some o → H' a = some o) → (∀ a, Av' a → c.Av δ a ∨ H2 a = none) → (∀ a, Av' a → ∃ o, H' a = some o ∧ NT o) → Y i H' v H'' →
      Same H' H'' ∧ ∃ d, items[i]? = some d ∧ Rp c.X.K Av' H'' d v
structure WI (c : Ctx) (tg iter : Expr) (δ : DE) (n : Nat) (Θ : List D → Nat → Prop) : Prop where
  run : ∀ σ H (R : It → Hp → Prop), SlR c σ H δ n → (∀ J H2 items n2, Kp c.pu H H2 → SlR c σ H2 δ n2 → Items c δ H2 J items → Θ items n2 → R J H2) → wI c.X tg iter σ H R
/-- a list or a tuple that is not the frame's own -/
def itOf : D → Option (List D)
  | .lst ds => some ds | .new ds => some ds | _ => none
section
variable {c : Ctx} {δ : DE} {n : Nat} {a b e tg : Expr} {es : List Expr} {pos p : Pos} {Θ : List D → Nat → Prop} {σ : L2.St} {H2 : Hp}
theorem items_list {a : Addr} {vs : List V} {ds : List D} (na : ¬ c.Av δ a) (h1 : H2 a = some (.lst vs)) (h2 : Rps c.X.K (c.Av δ) H2 ds vs) : Items c δ H2 (Itl c.X.K a) ds := by
  refine ⟨fun H => SqL c.X.K H a vs, YAt vs, by rw [h2.length]; exact walk_list, fun H' k => SqL.of (k a _ na h1), fun i H' v H'' Av' hi k hv _ y => ?_⟩
  obtain ⟨rfl, y⟩ := y
  obtain ⟨d, e, r⟩ := h2.get' y
  exact ⟨Same.refl _, d, e, r.mv hv k⟩
theorem wi_list (h : WE c e δ n fun d n1 => ∃ ds, itOf d = some ds ∧ Θ ds n1) : WI c tg e δ n Θ := ⟨fun σ H R S q => by
  refine pi_to (pi_list pe_w) ?_
  refine h.run σ H _ S fun v H2 d n1 k1 S1 r1 ⟨ds, e, f⟩ => ?_
  cases d with
  | lst es =>
    cases e
    obtain ⟨a, vs, rfl, na, h1, h2⟩ := r1
    exact ⟨a, rfl, ⟨vs, .of h1⟩, q _ H2 _ n1 k1 S1 (items_list na h1 h2) f⟩
  | new es =>
    cases e
    obtain ⟨a, vs, rfl, _, na, _, h1, h2⟩ := r1
    exact ⟨a, rfl, ⟨vs, .of h1⟩, q _ H2 _ n1 k1 S1 (items_list na h1 (h2.wk (fun _ z => .inl z) fun _ _ _ e => e)) f⟩
  | _ => cases e⟩
theorem wi_tup (h : WE c e δ n fun d n1 => ∃ ds, tupOf d = some ds ∧ Θ ds n1) : WI c tg e δ n Θ := ⟨fun σ H R S q => by
  refine pi_to (pi_tup pe_w) ?_
  refine h.run σ H _ S fun v H2 d n1 k1 S1 r1 ⟨ds, e, f⟩ => ?_
  cases d with
  | tup es =>
    cases e
    obtain ⟨a, vs, rfl, na, h1, h2⟩ := r1
    refine ⟨a, rfl, ⟨vs, .of h1⟩, q _ H2 _ n1 k1 S1 ⟨fun H => SqT c.X.K H a vs, YAt vs, by rw [h2.length]; exact walk_tup, fun H' k => .of (k a _ na h1), fun i H' v H'' Av' hi k hv _ y => ?_⟩ f⟩
    obtain ⟨rfl, y⟩ := y
    obtain ⟨d, e, r⟩ := h2.get' y
    exact ⟨Same.refl _, d, e, r.mv hv k⟩
  | ktup es =>
    cases e
    obtain ⟨a, vs, rfl, h1, h2⟩ := r1
    refine ⟨a, rfl, ⟨vs, TAt.sq h1⟩, q _ H2 _ n1 k1 S1 ⟨fun H => SqT c.X.K H a vs, YAt vs, by rw [h2.length]; exact walk_tup, fun H' k => h1.elim (fun w => .of (k a _ w.1 w.2)) KT.sq, fun i H' v H'' Av' hi k hv _ y => ?_⟩ f⟩
    obtain ⟨rfl, y⟩ := y
    obtain ⟨d, e, r⟩ := h2.get' y
    exact ⟨Same.refl _, d, e, r.mv hv k⟩
  | _ => cases e⟩
/-- lo, lo + 1, .. -/
def rangeD (lo : Int) (m : Nat) : List D := (List.range m).map fun (i : Nat) => D.int (lo + (i : Int))
theorem rangeD_len {lo : Int} {m : Nat} : (rangeD lo m).length = m := by unfold rangeD; rw [List.length_map, List.length_range]
theorem rangeD_get {lo : Int} {m i : Nat} (h : i < m) : (rangeD lo m)[i]? = some (.int (lo + (i : Int))) := by
  unfold rangeD
  rw [List.getElem?_map, List.getElem?_range h]
  rfl
theorem items_range {lo : Int} {m : Nat} : Items c δ H2 (Itr lo m) (rangeD lo m) := by
  refine ⟨_, _, by rw [rangeD_len]; exact walk_range, fun _ _ => trivial, fun i H' v H'' Av' hi _ _ _ y => ?_⟩
  obtain ⟨rfl, rfl⟩ := y
  rw [rangeD_len] at hi
  exact ⟨Same.refl _, _, rangeD_get hi, rfl⟩
theorem wi_range1 (hm : c.X.mg "range" = none) (hg : Gl c.X "range") (h : WE c e δ n fun d n1 => ∃ j : Int, d = .int j ∧ -(2 ^ 62) ≤ j ∧ j < 2 ^ 62 ∧ Θ (rangeD 0 j.toNat) n1) (hs : starEach [e] c.X.env = [(false, eval e c.X.env)] := by rfl) : WI c tg (.Call (.Name "range" p) [e] [] pos) δ n Θ := ⟨fun σ H R S q => by
  refine pi_to (pi_range1 hg hm (pa_cons pe_w pa_nil hs) hs) ?_
  refine h.run σ H _ S fun v H2 d n1 k1 S1 r1 ⟨j, e, h1, h2, f⟩ => ?_
  subst e
  have e : v = .int j := r1
  subst e
  exact ⟨j, rfl, h1, h2, q _ H2 _ n1 k1 S1 items_range f⟩⟩
theorem wi_range2 (hm : c.X.mg "range" = none) (hg : Gl c.X "range") (h : WE c a δ n fun d n1 => WE c b δ n1 fun d2 n2 => ∃ i j : Int, d = .int i ∧ d2 = .int j ∧ (-(2 ^ 62) ≤ i ∧ i < 2 ^ 62 ∧ -(2 ^ 62) ≤ j ∧ j < 2 ^ 62) ∧ Θ (rangeD i (j - i).toNat) n2)
    (hs : starEach [a, b] c.X.env = [(false, eval a c.X.env), (false, eval b c.X.env)] := by rfl) (hs2 : starEach [b] c.X.env = [(false, eval b c.X.env)] := by rfl) : WI c tg (.Call (.Name "range" p) [a, b] [] pos) δ n Θ := ⟨fun σ H R S q => by
  refine pi_to (pi_range2 hg hm (pa_cons pe_w (pa_cons pe_w pa_nil hs2) (by rw [hs, hs2])) hs hs2) ?_
  refine h.run σ H _ S fun v H2 d n1 k1 S1 r1 h2 => ?_
  refine h2.run σ H2 _ S1 fun u H3 d2 n2 k2 S2 r2 ⟨i, j, e1, e2, h3, f⟩ => ?_
  subst e1 e2
  have e1 : v = .int i := r1
  have e2 : u = .int j := r2
  subst e1 e2
  exact ⟨i, j, rfl, h3, q _ H3 _ n2 (k1.trans k2) S2 items_range f⟩⟩
/-- lo, lo + c, .. -/
def rangeC (lo s : Int) (m : Nat) : List D := (List.range m).map fun (i : Nat) => D.int (lo + (i : Int) * s)
theorem rangeC_len {lo s : Int} {m : Nat} : (rangeC lo s m).length = m := by unfold rangeC; rw [List.length_map, List.length_range]
theorem rangeC_get {lo s : Int} {m i : Nat} (h : i < m) : (rangeC lo s m)[i]? = some (.int (lo + (i : Int) * s)) := by
  unfold rangeC
  rw [List.getElem?_map, List.getElem?_range h]
  rfl
theorem wi_range3 (hm : c.X.mg "range" = none) (hg : Gl c.X "range") (h : WA c [a, b, e] δ n fun ds n1 => ∃ (i j s : Int) (m : Nat), ds = [.int i, .int j, .int s] ∧ RgC i j s m ∧ Θ (rangeC i s m) n1)
    (hs : starEach [a, b, e] c.X.env = (false, eval a c.X.env) :: starEach [b, e] c.X.env := by rfl) (hpl : (backTo pos (starEach [b, e] c.X.env)).any (·.1) = false := by rfl) : WI c tg (.Call (.Name "range" p) [a, b, e] [] pos) δ n Θ := ⟨fun σ H R S q => by
  refine pi_to (pi_range3 hg hm pa_w hs hpl) ?_
  refine h.run σ H _ S fun vs H2 ds n1 k1 S1 r1 ⟨i, j, s, m, e, h2, f⟩ => ?_
  subst e
  cases r1 with
  | cons r1 t =>
    obtain ⟨u2, u3, rfl, r2, r3⟩ := paired2 t
    have e1 : _ = V.int i := r1
    have e2 : u2 = .int j := r2
    have e3 : u3 = .int s := r3
    subst e1 e2 e3
    refine ⟨i, j, s, m, rfl, h2, q _ H2 _ n1 k1 S1 ⟨_, _, by rw [rangeC_len]; exact walk_rangeC, fun _ _ => trivial, fun i H' v H'' Av' hi _ _ _ y => ?_⟩ f⟩
    obtain ⟨rfl, rfl⟩ := y
    rw [rangeC_len] at hi
    exact ⟨Same.refl _, _, rangeC_get hi, rfl⟩⟩
/-- pairs -/
def zipD (xs ys : List D) : List D := (xs.zip ys).map fun q => D.tup [q.1, q.2]
theorem zipD_get {xs ys : List D} {i : Nat} {x y : D} (h1 : xs[i]? = some x) (h2 : ys[i]? = some y) : (zipD xs ys)[i]? = some (.tup [x, y]) := by
  unfold zipD
  rw [List.getElem?_map, (List.getElem?_zip_eq_some (z := (x, y))).mpr ⟨h1, h2⟩]
  rfl
theorem pair_rp {K : PySem.W.Frag} {Av' : Addr → Prop} {H' : Hp} {T : Addr} {x y : D} {u w : V} (hT : H' T = none) (dom : ∀ a, Av' a → ∃ o, H' a = some o) (r1 : Rp K Av' H' x u) (r2 : Rp K Av' H' y w) : Rp K Av' (upd H' T (.tup [u, w])) (.tup [x, y]) (.ref T) := by
  have k : Kp none H' (upd H' T (.tup [u, w])) := Kp.new hT
  refine ⟨T, _, rfl, fun z => ?_, upd_same, _, _, rfl, r1.kp (fun _ z => nomatch z) k, _, _, rfl, r2.kp (fun _ z => nomatch z) k, rfl⟩
  obtain ⟨o, e⟩ := dom T z
  rw [hT] at e
  cases e
theorem wi_zip {tpos : Pos} {elts : List Expr} {kk : Nat} (hm : c.X.mg "zip" = none) (hg : Gl c.X "zip") (h : WA c [a, b] δ n fun ds n1 => ∃ d1 d2 xs ys, ds = [d1, d2] ∧ itOf d1 = some xs ∧ itOf d2 = some ys ∧ Θ (zipD xs ys) n1)
    (hs : starEach [a, b] c.X.env = [(false, eval a c.X.env), (false, eval b c.X.env)] := by rfl) (hs2 : starEach [b] c.X.env = [(false, eval b c.X.env)] := by rfl) : WI c (.Tuple elts kk tpos) (.Call (.Name "zip" p) [a, b] [] pos) δ n Θ := ⟨fun σ H R S q => by
  have it : ∀ {H2 Hs : Hp} {d : D} {v : V} {xs : List D}, RpE c.X.K (c.Av δ) (c.Ow δ) c.pu Hs H2 d v → itOf d = some xs → ∃ a vs, v = .ref a ∧ ¬ c.Av δ a ∧ H2 a = some (.lst vs) ∧ Rps c.X.K (c.Av δ) H2 xs vs := fun {H2 Hs d v xs} r e => by
    cases d with
    | lst es => cases e; exact r
    | new es => cases e; obtain ⟨a, vs, rfl, _, na, _, h1, h2⟩ := r; exact ⟨a, vs, rfl, na, h1, h2.wk (fun _ z => .inl z) fun _ _ _ e => e⟩
    | _ => cases e
  refine pi_to (pi_zip hg hm pa_w (by rw [hs, hs2]) (by rw [hs2]; rfl)) ?_
  refine h.run σ H _ S fun vs H2 ds n1 k1 S1 r1 ⟨d1, d2, xs, ys, e, e1, e2, f⟩ => ?_
  subst e
  obtain ⟨v1, v2, rfl, r1, r2⟩ := paired2 r1
  obtain ⟨p1, us, rfl, n1', h1, h2⟩ := it r1 e1
  obtain ⟨p2, ws, rfl, n2', h3, h4⟩ := it r2 e2
  have hl : (zipD xs ys).length = min us.length ws.length := by unfold zipD; rw [List.length_map, List.length_zip, h2.length, h4.length]
  refine ⟨p1, p2, us, ws, rfl, .of h1, .of h3, q _ H2 _ n1 k1 S1 ⟨fun H => SqL c.X.K H p1 us ∧ SqL c.X.K H p2 ws, YPair (fun i => us[i]?) (fun i => ws[i]?), walk_zip hl, fun H' k => ⟨SqL.of (k _ _ n1' h1), SqL.of (k _ _ n2' h3)⟩, fun i H' v H'' Av' hi k hv dom y => ?_⟩ f⟩
  obtain ⟨T, u, w, rfl, hT, rfl, y1, y2⟩ := y
  obtain ⟨d1, g1, q1⟩ := h2.get' y1
  obtain ⟨d2, g2, q2⟩ := h4.get' y2
  exact ⟨same_new hT, _, zipD_get g1 g2, pair_rp hT (fun a z => (dom a z).imp fun _ h => h.1) (q1.mv hv k) (q2.mv hv k)⟩⟩
def enumD (xs : List D) : List D := zipD (rangeD 0 xs.length) xs
theorem wi_enum {tpos : Pos} {elts : List Expr} {kk : Nat} (hm : c.X.mg "enumerate" = none) (hg : Gl c.X "enumerate") (h : WE c e δ n fun d n1 => ∃ xs, itOf d = some xs ∧ Θ (enumD xs) n1)
    (hs : starEach [e] c.X.env = [(false, eval e c.X.env)] := by rfl) : WI c (.Tuple elts kk tpos) (.Call (.Name "enumerate" p) [e] [] pos) δ n Θ := ⟨fun σ H R S q => by
  refine pi_to (pi_enum hg hm (pa_cons pe_w pa_nil hs) hs) ?_
  refine h.run σ H _ S fun v H2 d n1 k1 S1 r1 ⟨xs, e1, f⟩ => ?_
  obtain ⟨p1, us, rfl, n1', h1, h2⟩ : ∃ a vs, v = .ref a ∧ ¬ c.Av δ a ∧ H2 a = some (.lst vs) ∧ Rps c.X.K (c.Av δ) H2 xs vs := by
    cases d with
    | lst es => cases e1; exact r1
    | new es => cases e1; obtain ⟨a, vs, rfl, _, na, _, h1, h2⟩ := r1; exact ⟨a, vs, rfl, na, h1, h2.wk (fun _ z => .inl z) fun _ _ _ e => e⟩
    | _ => cases e1
  have hl : (enumD xs).length = us.length := by unfold enumD zipD; rw [List.length_map, List.length_zip, rangeD_len, h2.length]; omega
  refine ⟨p1, us, rfl, .of h1, q _ H2 _ n1 k1 S1 ⟨fun H => SqL c.X.K H p1 us, YPair (fun i => some (.int (i : Nat))) (fun i => us[i]?), by rw [hl]; exact walk_enum, fun H' k => SqL.of (k _ _ n1' h1), fun i H' v H'' Av' hi k hv dom y => ?_⟩ f⟩
  obtain ⟨T, u, w, rfl, hT, rfl, y1, y2⟩ := y
  cases y1
  obtain ⟨d2, g2, q2⟩ := h2.get' y2
  have hi2 : i < xs.length := (List.getElem?_eq_some_iff.mp g2).1
  have g1 := rangeD_get (lo := 0) hi2
  rw [Int.zero_add] at g1
  exact ⟨same_new hT, _, zipD_get g1 g2, pair_rp hT (fun a z => (dom a z).imp fun _ h => h.1) rfl (q2.mv hv k)⟩⟩
end
/-! ### while, for -/
section
variable {c : Ctx} {b b' : Base} {σ : L2.St} {H H2 : Hp} {δ δ' : DE} {n n' : Nat}
theorem Bs.out (B : Bs c b H δ) (B' : Bs c ⟨H, fun a => a ∈ addrs δ ∨ c.pu = some a⟩ H2 δ') : Bs c b H2 δ' where
  keep := fun a o nb e => B'.keep a o (fun z => by
    rcases z with z | z
    · rcases B.fresh a z with z | z
      · exact nb z
      · rw [z] at e; cases e
    · exact nb (B.pu a z)) (B.keep a o nb e)
  fresh := fun p m => by
    rcases B'.fresh p m with (z | z) | z
    · exact B.fresh p z
    · exact .inl (B.pu p z)
    · exact B.back z
  pu := B.pu
theorem RetOk.out {v : V} {d : D} (B : Bs c b H δ) (R : RetOk c ⟨H, fun a => a ∈ addrs δ ∨ c.pu = some a⟩ H2 v d n') : RetOk c b H2 v d n' where
  keep := fun a o nb e => R.keep a o (fun z => by
    rcases z with z | z
    · rcases B.fresh a z with z | z
      · exact nb z
      · rw [z] at e; cases e
    · exact nb (B.pu a z)) (B.keep a o nb e)
  pur := R.pur
  rp := R.rp.to (fun _ z => z) fun p _ e3 => by
    rcases e3 with (z | z) | z
    · exact B.fresh p z
    · exact .inl (B.pu p z)
    · exact B.back z
end
section
variable {c : Ctx} {δ : DE} {n : Nat} {t e tg iter : Expr} {es : List Expr} {pos : Pos} {D' : DEnds} {body : List Stmt}
theorem ws_while (hp : PassesOwn (model c.X.prog c.X.w) c.X.A c.X.env c.X.xe) (Inv : Nat → DE → Nat → Prop) (m0 : Nat) (h0 : Inv m0 δ n)
    (h : ∀ m δ' n', Inv m δ' n' → WT c t δ' n' fun k n1 => (k = true → WB c body δ' n1 { D' with nx := fun δ2 n2 => ∃ m', m' < m ∧ Inv m' δ2 n2, ct := fun δ2 n2 => ∃ m', m' < m ∧ Inv m' δ2 n2, bk := D'.nx }) ∧ (k = false → D'.nx δ' n1)) : WS c (.While t body [] pos) δ n D' := ⟨fun b σ H DD S B E => by
  refine ps_to (ps_while hp pt_w pb_w) ?_
  refine ⟨fun m σ H => ∃ δ n, SlR c σ H δ n ∧ Bs c b H δ ∧ Inv m δ n, ⟨m0, δ, n, S, B, h0⟩, ?_⟩
  rintro m σ1 H1 ⟨δ1, n1, S1, B1, I1⟩
  refine (h m δ1 n1 I1).run σ1 H1 _ S1 fun k H2 n2 k2 S2 ⟨f1, f2⟩ => ?_
  cases k with
  | true =>
    refine iteT ⟨fun σ' H' => ∃ m', m' < m ∧ ∃ δ n, SlR c σ' H' δ n ∧ Bs c b H' δ ∧ Inv m' δ n, fun σ' H' z => z, ?_⟩
    have out : ∀ σ' H' δ' n', SlR c σ' H' δ' n' → Bs c b H' δ' → (∃ m', m' < m ∧ Inv m' δ' n') → ∃ m', m' < m ∧ ∃ δ n, SlR c σ' H' δ n ∧ Bs c b H' δ ∧ Inv m' δ n := fun σ' H' δ' n' S' B' ⟨m', l, i⟩ => ⟨m', l, δ', n', S', B', i⟩
    exact (f1 rfl).run b σ1 H2 _ S2 (B1.kp k2) ⟨out, E.nx, out, E.rt⟩
  | false => exact iteF (E.nx σ1 H2 δ1 n2 S2 (B1.kp k2) (f2 rfl))⟩
theorem ws_for {is : List Nat} (hp : PassesOwn (model c.X.prog c.X.w) c.X.A c.X.env c.X.xe) (hc : c.X.calm = true)
    (h : WI c tg iter δ n fun items n1 => ∃ Inv : Nat → DE → Nat → Prop, Inv 0 δ n1 ∧
      (∀ i d δ' n', items[i]? = some d → Inv i δ' n' → WG c tg is d δ' n' fun δ2 n2 => WB c body δ2 n2 { D' with nx := Inv (i + 1), ct := Inv (i + 1), bk := D'.nx }) ∧ ∀ δ' n', Inv items.length δ' n' → D'.nx δ' n')
    (hs : ∀ x, foldedSetIterable iter c.X.env x = pure x := by intro _; rfl) : WS c (.For tg iter body [] pos) δ n D' := ⟨fun b σ H DD S B E => by
  refine ps_to (ps_for hp hc pi_w pg_w pb_w hs) ?_
  refine h.run σ H _ S fun J H2 items n1 k1 S1 ⟨G, Y, w, hG, hY⟩ ⟨Iv, h0, hi, hd⟩ => ?_
  have B1 := B.kp k1
  have keep : ∀ {δ' : DE} {H' : Hp}, Bs c ⟨H2, fun a => a ∈ addrs δ ∨ c.pu = some a⟩ H' δ' → ∀ a o, ¬ c.Av δ a → H2 a = some o → H' a = some o := fun B' a o na e => B'.keep a o (fun z => na (.inr z.symm)) e
  have offs : ∀ {δ' : DE} {H' : Hp}, Bs c ⟨H2, fun a => a ∈ addrs δ ∨ c.pu = some a⟩ H' δ' → ∀ a, c.Av δ' a → c.Av δ a ∨ H2 a = none := fun B' a z => by
    rcases z with z | z | z
    · exact .inl (.inl z)
    · exact .inl (.inr (.inl z))
    · rcases B'.fresh a z with (z | z) | z
      · exact .inl (.inr (.inr z))
      · exact .inl (.inr (.inl z))
      · exact .inr z
  refine for_it w (fun i σ' H' => ∃ δ' n', SlR c σ' H' δ' n' ∧ Bs c ⟨H2, fun a => a ∈ addrs δ ∨ c.pu = some a⟩ H' δ' ∧ Iv i δ' n') ⟨δ, n1, S1, ⟨fun _ _ _ e => e, fun p m => .inl (.inl m), fun p e => .inr e⟩, h0⟩ ?_ ?_ ?_
  · rintro i σ' H' _ ⟨δ', n', S', B', _⟩
    exact hG H' (keep B')
  · rintro i x σ' H' H'' il ⟨δ', n', S', B', I'⟩ y
    obtain ⟨sm, d, ed, r⟩ := hY i H' x H'' (c.Av δ') il (keep B') (offs B') (fun a z => S'.av_nt z) y
    have S2 := S'.grow sm
    refine (hi i d δ' n' ed I').run σ' H'' x _ S2 (RpE.of r) fun σ3 δ3 n3 S3 m3 _ f => ?_
    have B2 : Bs c ⟨H2, fun a => a ∈ addrs δ ∨ c.pu = some a⟩ H'' δ3 := by
      have z := B'.kp (Kp.of sm)
      exact ⟨z.keep, fun p m => z.fresh p (m3.1 p m), z.pu⟩
    have out : ∀ σ' H' δ' n', SlR c σ' H' δ' n' → Bs c ⟨H2, fun a => a ∈ addrs δ ∨ c.pu = some a⟩ H' δ' → Iv (i + 1) δ' n' → ∃ δ' n', SlR c σ' H' δ' n' ∧ Bs c ⟨H2, fun a => a ∈ addrs δ ∨ c.pu = some a⟩ H' δ' ∧ Iv (i + 1) δ' n' :=
      fun σ' H' δ' n' S' B' i => ⟨δ', n', S', B', i⟩
    exact f.run ⟨H2, fun a => a ∈ addrs δ ∨ c.pu = some a⟩ σ3 H'' _ S3 B2 ⟨out, fun σ' H' δ' n' S' B' k => E.nx σ' H' δ' n' S' (B1.out B') k, out, fun v H' d n' R k => E.rt v H' d n' (RetOk.out B1 R) k⟩
  · rintro σ' H' ⟨δ', n', S', B', I'⟩
    exact E.nx σ' H' δ' n' S' (B1.out B') (hd δ' n' I')⟩
end
end DL

/-! DLh: list comprehensions; stores into own lists. -/
namespace DL
open PySem PySem.Spec PyProof.Rows L2
def wTs (X : Cx) (ifs : List Expr) : TT := fun σ H Q => ∀ pins s, Inv X pins σ H s →
  wpAny (model X.prog X.w) X.A (forIn ifs true fun c r => if r = true then do let ok ← isTrue c X.env (eval c X.env); pure (ForInStep.yield ok) else pure (ForInStep.yield r)) (TP X pins σ Q) X.xe s
theorem pts_w {X : Cx} {ifs : List Expr} : PTs X ifs (wTs X ifs) := ⟨fun pins s σ H Q I h => h pins s I⟩
structure WTs (c : Ctx) (ifs : List Expr) (δ : DE) (n : Nat) (Φ : Bool → Nat → Prop) : Prop where
  run : ∀ σ H Q, SlR c σ H δ n → (∀ b H2 n2, Kp c.pu H H2 → SlR c σ H2 δ n2 → Φ b n2 → Q b H2) → wTs c.X ifs σ H Q
theorem wts_nil {c : Ctx} {δ : DE} {n : Nat} {Φ : Bool → Nat → Prop} (h : Φ true n) : WTs c [] δ n Φ := ⟨fun σ H Q S q pins s I => pts_nil.run pins s σ H Q I (q true H n Kp.refl S h)⟩
theorem wts_one {c : Ctx} {δ : DE} {n : Nat} {e : Expr} {Φ : Bool → Nat → Prop} (h : WT c e δ n Φ) : WTs c [e] δ n Φ := ⟨fun σ H Q S q pins s I => (pts_one pt_w).run pins s σ H Q I (h.run σ H Q S q)⟩
def wipeD (δ : DE) : List Nat → DE
  | [] => δ
  | v :: vs => (wipeD δ vs).set v none
abbrev blkC (c : Ctx) (scope : Scope) (s : Shared) (H : Hp) (C : Addr) (cl : List (Str × Addr)) (fp : List Addr) (M : Addr → Prop) : Ctx := ⟨c.X.blk s H scope (compEnvC scope cl C c.X.env) fp, M, c.pu⟩
section
variable {c c' : Ctx} {σ : L2.St} {H : Hp} {δ : DE} {n : Nat}
theorem SlR.wipe (S : SlR c σ H δ n) : ∀ vs : List Nat, SlR c (L2.wipe σ vs) H (wipeD δ vs) n
  | [] => S
  | v :: vs => by
    show SlR c ((L2.wipe σ vs).set v none) H ((wipeD δ vs).set v none) n
    exact (S.wipe vs).unset v none
theorem SlR.conv {X' : Cx} (S : SlR c σ H δ n) (e : X'.K = c.X.K) : SlR ⟨X', c.M, c.pu⟩ σ H δ n :=
  ⟨S.len, S.dom, S.pur, S.nd, S.dis, fun i s h => by
    show SlAt X'.K _ _ _ _ _
    rw [e]
    exact S.sl i s h⟩
theorem SlR.reM {X' : Cx} {Dl : Addr} {o : HO} (S : SlR c σ H δ n) (e : X'.K = c.X.K) (h : H Dl = none) (nt : NT o := by exact trivial) : SlR ⟨X', fun a => c.M a ∨ a = Dl, c.pu⟩ σ (upd H Dl o) δ n where
  len := S.len
  dom := fun a m => by
    rcases m with m | rfl
    · obtain ⟨u, e, nt⟩ := S.dom a m
      exact ⟨u, by rw [upd_ne (ne_of_none e h)]; exact e, nt⟩
    · exact ⟨o, upd_same, nt⟩
  pur := fun p z => by
    obtain ⟨⟨x, y, w, h0, h1⟩, nm⟩ := S.pur p z
    refine ⟨⟨x, y, w, by rw [upd_ne (ne_of_none h0 h)]; exact h0, h1⟩, ?_⟩
    rintro (m | rfl)
    · exact nm m
    · rw [h] at h0; cases h0
  nd := S.nd
  dis := fun p m => by
    refine ⟨?_, (S.dis p m).2⟩
    rintro (z | rfl)
    · exact (S.dis p m).1 z
    · obtain ⟨u, e⟩ := S.addr_some m
      rw [h] at e; cases e
  sl := fun i s hs => by
    show SlAt X'.K _ _ _ _ _
    rw [e]
    refine (S.sl i s hs).mv (fun a z => ?_) (fun a u _ e => by rw [upd_ne (ne_of_none e h)]; exact e) fun p _ u e => by rw [upd_ne (ne_of_none e h)]; exact e
    rcases z with (z | rfl) | z | z
    · exact .inl (.inl z)
    · exact .inr h
    · exact .inl (.inr (.inl z))
    · exact .inl (.inr (.inr z))
theorem SlR.mutM {Dl : Addr} {o : HO} (S : SlR c σ H δ n) (h : c.M Dl) (nt : NT o := by exact trivial) : SlR c σ (upd H Dl o) δ n where
  len := S.len
  dom := fun a m => by
    by_cases e : a = Dl
    · subst e; exact ⟨o, upd_same, nt⟩
    · obtain ⟨u, q, nt⟩ := S.dom a m
      exact ⟨u, by rw [upd_ne e]; exact q, nt⟩
  pur := fun p z => by
    obtain ⟨⟨x, y, w, h0, h1⟩, nm⟩ := S.pur p z
    have ne : p ≠ Dl := fun e => nm (e ▸ h)
    exact ⟨⟨x, y, w, by rw [upd_ne ne]; exact h0, h1⟩, nm⟩
  nd := S.nd
  dis := S.dis
  sl := fun i s hs => by
    refine (S.sl i s hs).mv (fun a z => .inl z) (fun a u na e => ?_) fun p hp u e => ?_
    · have ne : a ≠ Dl := fun e => na (e ▸ .inl h)
      rw [upd_ne ne]; exact e
    · have ne : p ≠ Dl := fun z => (S.dis p (mem_addrs2 hs hp)).1 (z ▸ h)
      rw [upd_ne ne]; exact e
end
theorem wipe_get {σ : L2.St} {i : Nat} : ∀ {vs : List Nat}, (L2.wipe σ vs)[i]? = if i ∈ vs ∧ i < σ.length then some none else σ[i]?
  | [] => by simp [L2.wipe]
  | v :: vs => by
    have ih := wipe_get (σ := σ) (i := i) (vs := vs)
    show ((L2.wipe σ vs).set v none)[i]? = _
    by_cases e : v = i
    · subst e
      by_cases hl : v < σ.length
      · rw [List.getElem?_set_self (by rw [wipe_length]; exact hl), if_pos ⟨List.mem_cons_self, hl⟩]
      · rw [List.getElem?_eq_none (by rw [List.length_set, wipe_length]; omega), if_neg (fun z => hl z.2), List.getElem?_eq_none (by omega)]
    · rw [List.getElem?_set_ne e, ih]
      by_cases hm : i ∈ vs
      · simp [hm]
      · simp [hm, Ne.symm e]
theorem wipe_agr {σ σ2 : L2.St} {vs is : List Nat} (h : ∀ i ∈ is, i ∈ vs) (a : Agr is (L2.wipe σ vs) σ2) : L2.wipe σ2 vs = L2.wipe σ vs := by
  refine List.ext_getElem? fun i => ?_
  have hl : σ2.length = σ.length := a.1.trans (wipe_length σ vs)
  rw [wipe_get, wipe_get, hl]
  by_cases hm : i ∈ vs
  · by_cases hi : i < σ.length
    · rw [if_pos ⟨hm, hi⟩, if_pos ⟨hm, hi⟩]
    · rw [if_neg (fun z => hi z.2), if_neg (fun z => hi z.2), List.getElem?_eq_none (by omega), List.getElem?_eq_none (by omega)]
  · rw [if_neg (fun z => hm z.1), if_neg (fun z => hm z.1), a.2 i fun z => hm (h i z), wipe_get, if_neg fun z => hm z.1]
section
variable {c : Ctx} {δ : DE} {n : Nat} {elt tg iter : Expr} {ifs : List Expr} {scope : Scope} {own : List (Str × Nat)} {pos : Pos} {Φ : D → Nat → Prop} {is : List Nat}
def gAll (X : Cx) (scope : Scope) (tg : Expr) : TG := fun v σ H Q => ∀ (s : Shared) (H0 : Hp) (C : Addr) (cl : List (Str × Addr)) (fp : List Addr), wG (X.blk s H0 scope (compEnvC scope cl C X.env) fp) tg v σ H Q
def tAll (X : Cx) (scope : Scope) (ifs : List Expr) : TT := fun σ H Q => ∀ (s : Shared) (H0 : Hp) (C : Addr) (cl : List (Str × Addr)) (fp : List Addr), wTs (X.blk s H0 scope (compEnvC scope cl C X.env) fp) ifs σ H Q
def eAll (X : Cx) (scope : Scope) (e : Expr) : TE := fun σ H Q => ∀ (s : Shared) (H0 : Hp) (C : Addr) (cl : List (Str × Addr)) (fp : List Addr), wE (X.blk s H0 scope (compEnvC scope cl C X.env) fp) e σ H Q
/-- the invariant of a comprehension: the turn, the list so far -/
def LcOk (c : Ctx) (elt tg iter : Expr) (ifs : List Expr) (scope : Scope) (is vs : List Nat) (δ : DE) (n : Nat) (Φ : D → Nat → Prop) : Prop :=
  WI c tg iter δ n fun items n1 => ∃ Iv : Nat → List D → Nat → Prop, Iv 0 [] n1 ∧
    (∀ i d acc n', items[i]? = some d → Iv i acc n' → ∀ s H0 C cl fp M, WG (blkC c scope s H0 C cl fp M) tg is d (wipeD δ vs) n' fun δ2 n2 =>
      ∀ s H0 C cl fp M, WTs (blkC c scope s H0 C cl fp M) ifs δ2 n2 fun b n3 =>
        (b = true → ∀ s H0 C cl fp M, WE (blkC c scope s H0 C cl fp M) elt δ2 n3 fun y n4 => okEl y = true ∧ acc.length < 16000000 ∧ Iv (i + 1) (acc ++ [frz y]) n4) ∧ (b = false → Iv (i + 1) acc n3)) ∧
    ∀ acc n', Iv items.length acc n' → Φ (.new acc) n'
theorem wipeD_sub {δ : DE} : ∀ (vs : List Nat) p, p ∈ addrs (wipeD δ vs) → p ∈ addrs δ
  | [], _, m => m
  | v :: vs, p, m => wipeD_sub vs p ((addrs_set_sub rfl).subset m)
theorem lc_read {vs : List Nat} (hsub : ∀ i ∈ is, i ∈ vs) (h : LcOk c elt tg iter ifs scope is vs δ n Φ) {σ : L2.St} {H : Hp} {Q : VK} (S : SlR c σ H δ n) (q : ∀ v H2 d n2, Kp c.pu H H2 → SlR c σ H2 δ n2 → RpE c.X.K (c.Av δ) (c.Ow δ) c.pu H H2 d v → Φ d n2 → Q v H2) :
    tLc (wI c.X tg iter) (gAll c.X scope tg) (tAll c.X scope ifs) (eAll c.X scope elt) vs σ H Q := by
  refine h.run σ H _ S fun J H1 items n1 k1 S1 ⟨G, Y, w, hG, hY⟩ ⟨Iv, h0, hi, hd⟩ => ?_
  intro Dl hD
  have nAv := S1.off hD
  have nPu := S1.npu hD
  let M1 : Addr → Prop := fun a => c.M a ∨ a = Dl ∨ (a ∈ addrs δ ∧ a ∉ addrs (wipeD δ vs))
  have Sv := S1.wipe vs
  have avM : ∀ a δ', (∀ p ∈ addrs δ', p ∈ addrs δ) → Ctx.Av ⟨c.X, M1, c.pu⟩ δ' a → c.Av δ a ∨ a = Dl := fun a δ' m z => by
    rcases z with (z | z | z) | z | z
    · exact .inl (.inl z)
    · exact .inr z
    · exact .inl (.inr (.inr z.1))
    · exact .inl (.inr (.inl z))
    · exact .inl (.inr (.inr (m a z)))
  have Mav : ∀ a δ', (∀ p ∈ addrs (wipeD δ vs), p ∈ addrs δ') → (c.Av δ a ∨ a = Dl) → Ctx.Av ⟨c.X, M1, c.pu⟩ δ' a := fun a δ' m z => by
    rcases z with (z | z | z) | z
    · exact .inl (.inl z)
    · exact .inr (.inl z)
    · by_cases h : a ∈ addrs (wipeD δ vs)
      · exact .inr (.inr (m a h))
      · exact .inl (.inr (.inr ⟨z, h⟩))
    · exact .inl (.inr (.inl z))
  -- the slots, wiped, while the new list grows
  have slw : ∀ (H' : Hp) (n' : Nat), Kp c.pu H1 H' → (∃ us, H' Dl = some (.lst us)) → (∀ p, c.pu = some p → PurseAt H' p n') → SlR ⟨c.X, M1, c.pu⟩ (L2.wipe σ vs) H' (wipeD δ vs) n' := fun H' n' k ⟨us, hl⟩ pp => by
    refine ⟨Sv.len, ?_, ?_, Sv.nd, ?_, ?_⟩
    · rintro a (m | rfl | ⟨m, _⟩)
      · obtain ⟨o, e, nt⟩ := S1.dom a m
        exact ⟨o, k a o (fun z => (S1.pur a z).2 m) e, nt⟩
      · exact ⟨_, hl, trivial⟩
      · obtain ⟨o, e, nt⟩ := S1.addr_nt m
        exact ⟨o, k a o (S1.dis a m).2 e, nt⟩
    · intro p e
      refine ⟨pp p e, ?_⟩
      rintro (m | rfl | ⟨m, _⟩)
      · exact (S1.pur p e).2 m
      · exact nPu e
      · exact (S1.dis p m).2 e
    · intro p m
      refine ⟨?_, (Sv.dis p m).2⟩
      rintro (z | rfl | ⟨_, z⟩)
      · exact (Sv.dis p m).1 z
      · obtain ⟨o, e⟩ := Sv.addr_some m
        rw [hD] at e; cases e
      · exact z m
    · intro i s' e
      have wg : s' = none ∨ (δ[i]? = some s' ∧ (L2.wipe σ vs)[i]? = σ[i]?) := by
        have key : ∀ (ws : List Nat), (wipeD δ ws)[i]? = some s' → s' = none ∨ (δ[i]? = some s' ∧ i ∉ ws) := by
          intro ws
          induction ws with
          | nil => exact fun h => .inr ⟨h, by simp⟩
          | cons w ws ih =>
            intro h
            rcases get_set (show ((wipeD δ ws).set w none)[i]? = some s' from h) with ⟨_, e⟩ | ⟨ne, e⟩
            · exact .inl e
            · exact (ih e).imp id fun z => ⟨z.1, by simp [ne, z.2]⟩
        rcases key vs e with h | ⟨h, hv⟩
        · exact .inl h
        · exact .inr ⟨h, by rw [wipe_get, if_neg fun z => hv z.1]⟩
      rcases wg with rfl | ⟨e1, e2⟩
      · trivial
      · rw [e2]
        refine (S1.sl i s' e1).mv (fun a z => ?_) (fun a o na e => k a o (fun z => na (.inr (.inl z))) e) fun p hp u e' => k p u (S1.dis p (mem_addrs2 e1 hp)).2 e'
        rcases avM a _ (wipeD_sub vs) z with z | rfl
        · exact .inl z
        · exact .inr hD
  let Pv : Nat → Hp → Prop := fun i H' => ∃ (acc : List D) (us : List V) (n' : Nat), H' Dl = some (.lst us) ∧ Kp c.pu H1 H' ∧ (∀ p, c.pu = some p → PurseAt H' p n') ∧
    Rps c.X.K (fun a => c.Av δ a ∨ a = Dl) H' acc us ∧ Iv i acc n'
  have hx : ∀ a, c.pu = some a → c.Av δ a ∨ a = Dl := fun a z => .inl (.inr (.inl z))
  refine lc_it w Pv ?_ ?_ ?_ ?_
  · exact ⟨[], [], n1, upd_same, Kp.new hD, fun p e => by
      obtain ⟨x, y, z, h0, h1⟩ := (S1.pur p e).1
      exact ⟨x, y, z, by rw [upd_ne (ne_of_none h0 hD)]; exact h0, h1⟩, rfl, h0⟩
  · rintro i H' _ ⟨acc, us, n', _, k, _⟩
    exact hG H' fun a o na e => k a o (fun z => na (.inr (.inl z))) e
  · rintro i x H' H'' il ⟨acc, us, n', hl, k, pp, r, I'⟩ y
    have S' := slw H' n' k ⟨us, hl⟩ pp
    have avS : ∀ a, (c.Av δ a ∨ a = Dl) → ∃ o, H' a = some o ∧ NT o := fun a z => S'.av_nt (Mav a _ (fun _ m => m) z)
    obtain ⟨sm, d, ed, rd⟩ := hY i H' x H'' (fun a => c.Av δ a ∨ a = Dl) il (fun a o na e => k a o (fun z => na (.inr (.inl z))) e) (fun a z => by
      rcases z with z | rfl
      · exact .inl z
      · exact .inr hD) avS y
    have S2 := S'.grow sm
    have rd' : Rp c.X.K (Ctx.Av ⟨c.X, M1, c.pu⟩ (wipeD δ vs)) H'' d x := rd.wk (fun a z => avM a _ (wipeD_sub vs) z) fun _ _ _ e => e
    have k2 : Kp c.pu H1 H'' := k.trans (Kp.of sm)
    have hl2 : H'' Dl = some (.lst us) := sm _ _ hl
    have r2 : Rps c.X.K (fun a => c.Av δ a ∨ a = Dl) H'' acc us := r.kp (ex := none) (fun _ z => nomatch z) (Kp.of sm)
    intro s H0 C cl fp
    refine (hi i d acc n' ed I' s H0 C cl fp M1).run (L2.wipe σ vs) H'' x _ (S2.conv rfl) (RpE.of rd') fun σ2 δ2 n2 S3 m3 a3 f3 => ⟨wipe_agr hsub a3, ?_⟩
    have same2 : ∀ p ∈ addrs (wipeD δ vs), p ∈ addrs δ2 := m3.2.2 fun i hi => by
      have key : ∀ (ws : List Nat), i ∈ ws → adr (wipeD δ ws) i = [] := by
        intro ws
        induction ws with
        | nil => exact fun h => absurd h (by simp)
        | cons w ws ih =>
          intro h
          show adr ((wipeD δ ws).set w none) i = []
          by_cases e : w = i
          · subst e
            unfold adr
            by_cases hw : w < (wipeD δ ws).length
            · rw [List.getElem?_set_self hw]; rfl
            · rw [List.getElem?_eq_none (by simpa using hw)]; rfl
          · unfold adr at ih ⊢
            rw [List.getElem?_set_ne e]
            exact ih ((List.mem_cons.mp h).resolve_left fun z => e z.symm)
      exact key vs (hsub i hi)
    intro s H0 C cl fp
    refine (f3 s H0 C cl fp M1).run σ2 H'' _ (S3.conv rfl) fun b H3 n3 k3 S4 ⟨f4, f5⟩ => ?_
    have hl3 : H3 Dl = some (.lst us) := k3 _ _ nPu hl2
    cases b with
    | false => exact iteF ⟨acc, us, n3, hl3, k2.trans k3, fun p e => (S4.pur p e).1, r2.kp hx k3, f5 rfl⟩
    | true =>
      refine iteT ?_
      intro s H0 C cl fp
      refine (f4 rfl s H0 C cl fp M1).run σ2 H3 _ (S4.conv rfl) fun u H4 y n4 k4 S5 ry ⟨o, l, f6⟩ => ?_
      have hl4 : H4 Dl = some (.lst us) := k4 _ _ nPu hl3
      have kk : Kp c.pu H1 H4 := (k2.trans k3).trans k4
      have r4 := (r2.kp hx k3).kp hx k4
      refine ⟨us, hl4, Nat.lt_of_lt_of_le (by rw [← r4.length]; exact l) (by decide : 16000000 ≤ sizeLine), ?_⟩
      have mt4 : ∀ a o, ¬ (c.Av δ a ∨ a = Dl) → H4 a = some o → upd H4 Dl (.lst (us ++ [u])) a = some o := fun a o na e => by
        rw [upd_ne fun z => na (.inr z)]
        exact e
      have ry' : Rp c.X.K (fun a => c.Av δ a ∨ a = Dl) H4 (frz y) u := (ry.el o).wk (fun a z => Mav a δ2 same2 z) fun _ _ _ e => e
      refine ⟨acc ++ [frz y], us ++ [u], n4, upd_same, fun a o' na e => ?_, fun p e => ?_, (r4.append (show Rps c.X.K (fun a => c.Av δ a ∨ a = Dl) H4 [frz y] [u] from ⟨u, [], rfl, ry', rfl⟩)).mv (fun a z => .inl z) mt4, f6⟩
      · rw [upd_ne (ne_of_none e hD)]
        exact kk a o' na e
      · obtain ⟨x, y, z, h0, h1⟩ := (S5.pur p e).1
        exact ⟨x, y, z, by rw [upd_ne (fun w => nPu (e.trans (congrArg some w)))]; exact h0, h1⟩
  · rintro H' ⟨acc, us, n', hl, k, pp, r, I'⟩
    refine q (.ref Dl) H' _ n' (k1.trans k) (S1.kp k pp) ?_ (hd acc n' I')
    exact ⟨Dl, us, rfl, Kp.back S S1 k1 hD, nAv, nPu, hl, r⟩
theorem we_lc (is : List Nat) (hsub : ∀ i ∈ is, i ∈ own.map (·.2)) (hc : c.X.calm = true) (hN : c.X.N.Nodup) (ok : BlkOk c.X.N c.X.env.scope scope own) (h : LcOk c elt tg iter ifs scope is (own.map (·.2)) δ n Φ) (hs : ∀ x, foldedSetIterable iter c.X.env x = pure x := by intro _; rfl) :
    WE c (.ListComp elt [⟨tg, iter, ifs, 0⟩] scope pos) δ n Φ := ⟨fun σ H Q S q => by
  refine pe_to (pe_lc hc hN pi_w ok (g := gAll c.X scope tg) (tt := tAll c.X scope ifs) (te := eAll c.X scope elt) ?_ ?_ ?_ hs) (lc_read hsub h S q)
  · exact fun s H C cl fp => ⟨fun pins s' σ H' v u Q I r z => z s H C cl fp pins s' u I r⟩
  · exact fun s H C cl fp => ⟨fun pins s' σ H' Q I z => z s H C cl fp pins s' I⟩
  · exact fun s H C cl fp => ⟨fun pins s' σ H' Q I z => z s H C cl fp pins s' I⟩⟩
/-- x = [.. for ..] -/
theorem ws_asgLc {D' : DEnds} (i : Nat) {y : Str} {py : Pos} {spos : Pos} (is : List Nat) (hsub : ∀ i ∈ is, i ∈ own.map (·.2)) (hc : c.X.calm = true) (hN : c.X.N.Nodup) (ok : BlkOk c.X.N c.X.env.scope scope own)
    (hsw : swapsWith (.ListComp elt [⟨tg, iter, ifs, 0⟩] scope pos) (some (.Name y py)) spos.line c.X.env = pure true)
    (h : LcOk c elt tg iter ifs scope is (own.map (·.2)) δ n fun d n1 => ∃ ds, d = .new ds ∧ D'.nx (δ.set i (some (.lst ds))) n1) (hy : c.X.N[i]? = some y := by rfl) (hyl : c.X.env.scope.names.lookup y = some .local := by rfl) (hs : ∀ x, foldedSetIterable iter c.X.env x = pure x := by intro _; rfl) :
    WS c (.Assign [.Name y py] (.ListComp elt [⟨tg, iter, ifs, 0⟩] scope pos) spos) δ n D' := ⟨fun b σ H DD S B E => by
  refine ps_to (ps_setLc hc hN hy hyl hsw pi_w ok (g := gAll c.X scope tg) (tt := tAll c.X scope ifs) (te := eAll c.X scope elt) ?_ ?_ ?_ hs) ?_
  · exact fun s H C cl fp => ⟨fun pins s' σ H' v u Q I r z => z s H C cl fp pins s' u I r⟩
  · exact fun s H C cl fp => ⟨fun pins s' σ H' Q I z => z s H C cl fp pins s' I⟩
  · exact fun s H C cl fp => ⟨fun pins s' σ H' Q I z => z s H C cl fp pins s' I⟩
  · refine lc_read (Q := fun x H1 => gName i x σ H1 DD.nx) hsub h S fun v H2 d n2 k S2 r ⟨ds, e, f⟩ => ?_
    subst e
    exact E.nx _ H2 _ n2 (S2.set i (r.el rfl)) ((B.kp k).set1 rfl) f⟩
theorem ws_asgLcO {D' : DEnds} (i : Nat) {y : Str} {py : Pos} {spos : Pos} (is : List Nat) (hsub : ∀ i ∈ is, i ∈ own.map (·.2)) (hc : c.X.calm = true) (hN : c.X.N.Nodup) (ok : BlkOk c.X.N c.X.env.scope scope own)
    (hsw : swapsWith (.ListComp elt [⟨tg, iter, ifs, 0⟩] scope pos) (some (.Name y py)) spos.line c.X.env = pure true)
    (h : LcOk c elt tg iter ifs scope is (own.map (·.2)) δ n fun d n1 => ∃ ds, d = .new ds ∧ ∀ q, D'.nx (δ.set i (some (.own q ds))) n1) (hy : c.X.N[i]? = some y := by rfl) (hyl : c.X.env.scope.names.lookup y = some .local := by rfl) (hs : ∀ x, foldedSetIterable iter c.X.env x = pure x := by intro _; rfl) :
    WS c (.Assign [.Name y py] (.ListComp elt [⟨tg, iter, ifs, 0⟩] scope pos) spos) δ n D' := ⟨fun b σ H DD S B E => by
  refine ps_to (ps_setLc hc hN hy hyl hsw pi_w ok (g := gAll c.X scope tg) (tt := tAll c.X scope ifs) (te := eAll c.X scope elt) ?_ ?_ ?_ hs) ?_
  · exact fun s H C cl fp => ⟨fun pins s' σ H' v u Q I r z => z s H C cl fp pins s' u I r⟩
  · exact fun s H C cl fp => ⟨fun pins s' σ H' Q I z => z s H C cl fp pins s' I⟩
  · exact fun s H C cl fp => ⟨fun pins s' σ H' Q I z => z s H C cl fp pins s' I⟩
  · refine lc_read (Q := fun x H1 => gName i x σ H1 DD.nx) hsub h S fun v H2 d n2 k S2 r ⟨ds, e, f⟩ => ?_
    subst e
    obtain ⟨q, vs, rfl, h0, h1, h2, h3, h4⟩ := r
    refine E.nx _ H2 _ n2 (S.setOwn S2 k i h0 h1 h2 h3 h4) ((B.kp k).set fun r m => ?_) (f q)
    rcases (addrs_set_own (s := some (.own q ds)) (p := q) rfl).1 r m with rfl | m
    · exact .inr (B.back h0)
    · exact .inl m⟩
end
end DL

/-! DLi: own lists and dicts changed; instances: fields, methods, properties, making. -/
namespace DL
open PySem PySem.Spec PyProof.Rows L2
theorem nodup_slot2 {p : Addr} : ∀ {δ : DE} {i j : Nat} {s s' : Option D}, (addrs δ).Nodup → δ[i]? = some s → p ∈ addr1 s → δ[j]? = some s' → p ∈ addr1 s' → i = j
  | [], i, _, _, _, _, h, _, _, _ => by simp at h
  | x :: δ, 0, 0, _, _, _, _, _, _, _ => rfl
  | x :: δ, 0, j + 1, s, s', nd, h, e, h', e' => by
    simp at h; subst h
    rw [addrs_cons] at nd
    exact absurd rfl ((List.nodup_append.mp nd).2.2 p e p (mem_addrs2 (show δ[j]? = some s' by simpa using h') e'))
  | x :: δ, i + 1, 0, s, s', nd, h, e, h', e' => by
    simp at h'; subst h'
    rw [addrs_cons] at nd
    exact absurd rfl ((List.nodup_append.mp nd).2.2 p e' p (mem_addrs2 (show δ[i]? = some s by simpa using h) e))
  | x :: δ, i + 1, j + 1, s, s', nd, h, e, h', e' => by
    rw [addrs_cons] at nd
    rw [nodup_slot2 (List.nodup_append.mp nd).2.1 (show δ[i]? = some s by simpa using h) e (show δ[j]? = some s' by simpa using h') e']
theorem addrs_set_same {s s' : Option D} : ∀ {δ : DE} {i : Nat}, δ[i]? = some s → addr1 s = addr1 s' → addrs (δ.set i s') = addrs δ
  | [], _, h, _ => by simp at h
  | x :: δ, 0, h, e => by
    simp at h; subst h
    rw [List.set_cons_zero, addrs_cons, addrs_cons, e]
  | x :: δ, i + 1, h, e => by
    rw [List.set_cons_succ, addrs_cons, addrs_cons, addrs_set_same (show δ[i]? = some s by simpa using h) e]
theorem ne_by {a p : Addr} (Q : Addr → Prop) (h1 : Q a) (h2 : ¬ Q p) : a ≠ p := fun z => h2 (z ▸ h1)
section
variable {c : Ctx} {b : Base} {σ : L2.St} {H : Hp} {δ : DE} {n : Nat}
/-- the content of an own thing changes -/
theorem SlR.mutL (S : SlR c σ H δ n) {i : Nat} {s s' : Option D} {p : Addr} {o : HO} (h : δ[i]? = some s) (e : p ∈ addr1 s) (e' : addr1 s = addr1 s') (hs : SlAt c.X.K (c.Av δ) c.pu (upd H p o) s' (σ[i]?)) : SlR c σ (upd H p o) (δ.set i s') n := by
  have ha : addrs (δ.set i s') = addrs δ := addrs_set_same h e'
  have hav : ∀ a, c.Av (δ.set i s') a → c.Av δ a := fun a z => by
    rcases z with z | z | z
    · exact .inl z
    · exact .inr (.inl z)
    · rw [ha] at z; exact .inr (.inr z)
  have pm := mem_addrs2 h e
  refine ⟨by simp [S.len], fun a m => ?_, fun q z => ?_, by rw [ha]; exact S.nd, fun q m => by rw [ha] at m; exact S.dis q m, fun j t ht => ?_⟩
  · obtain ⟨u, hu, nt⟩ := S.dom a m
    exact ⟨u, by rw [upd_ne (ne_by c.M m (S.dis p pm).1)]; exact hu, nt⟩
  · obtain ⟨⟨x, y, w, h0, h1⟩, nm⟩ := S.pur q z
    exact ⟨⟨x, y, w, by rw [upd_ne (ne_by (fun a => c.pu = some a) z (S.dis p pm).2)]; exact h0, h1⟩, nm⟩
  · rcases get_set ht with ⟨rfl, rfl⟩ | ⟨ne, ht⟩
    · exact hs.mv (fun a z => .inl (hav a z)) (fun _ _ _ e => e) fun _ _ _ e => e
    · refine (S.sl j t ht).mv (fun a z => .inl (hav a z)) (fun a u na e => ?_) fun q hq u e => ?_
      · rw [upd_ne (ne_by (fun a => ¬ c.Av δ a) na fun w => w (.inr (.inr pm)))]; exact e
      · rw [upd_ne fun z => ne (nodup_slot2 S.nd ht (z ▸ hq) h (by assumption))]; exact e
theorem SlR.mutOwn (S : SlR c σ H δ n) {i : Nat} {s s' : Option D} {p : Addr} {o : HO} (h : δ[i]? = some s) (e : addr1 s = [p]) (e' : addr1 s' = [p]) (hs : SlAt c.X.K (c.Av δ) c.pu (upd H p o) s' (σ[i]?)) : SlR c σ (upd H p o) (δ.set i s') n :=
  S.mutL h (by rw [e]; exact m1) (e.trans e'.symm) hs
theorem Bs.mutL (B : Bs c b H δ) {i : Nat} {s s' : Option D} {p : Addr} {o : HO} (h : δ[i]? = some s) (e : p ∈ addr1 s) (e' : addr1 s = addr1 s') : Bs c b (upd H p o) (δ.set i s') := by
  have pm := mem_addrs2 h e
  refine ⟨fun a u nb q => ?_, fun q m => ?_, B.pu⟩
  · have ne : a ≠ p := fun z => by
      subst z
      rcases B.fresh a pm with w | w
      · exact nb w
      · rw [w] at q; cases q
    rw [upd_ne ne]
    exact B.keep a u nb q
  · rw [addrs_set_same h e'] at m
    exact B.fresh q m
theorem Bs.mutOwn (B : Bs c b H δ) {i : Nat} {s s' : Option D} {p : Addr} {o : HO} (h : δ[i]? = some s) (e : addr1 s = [p]) (e' : addr1 s' = [p]) : Bs c b (upd H p o) (δ.set i s') :=
  B.mutL h (by rw [e]; exact m1) (e.trans e'.symm)
end
section
variable {c : Ctx} {δ : DE} {n : Nat} {a e t : Expr} {es : List Expr} {pos p : Pos} {D' : DEnds} {q : Addr} {xs : List D}
/-- x.append(e), x an own list -/
theorem ws_append (i : Nat) {x : Str} {px ap cp : Pos} (hd : δ[i]? = some (some (.own q xs))) (h : WE c e δ n fun d n1 => okEl d = true ∧ xs.length < 16000000 ∧ D'.nx (δ.set i (some (.own q (xs ++ [frz d])))) n1)
    (hN : c.X.N[i]? = some x := by rfl) (hv : Vis c.X.env.scope x := by first | exact Or.inl rfl | exact Or.inr (Or.inl rfl) | exact Or.inr (Or.inr rfl)) (h1 : (x == ("__debug__" : Str)) = false := by decide) (h2 : (x == ("__classdict__" : Str)) = false := by decide)
    (hbase : attributeBase (.Name x px) "append" c.X.env (eval (.Name x px) c.X.env) = eval (.Name x px) c.X.env := by rfl)
    (hfew : ((backTo cp (starEach [e] c.X.env)).all (fun x => !x.1) && (backToKw cp (keywordEach [] c.X.env)).all (fun x => x.1.isSome) && decide ([e].length + ([] : List Keyword).length + (if ([] : List Keyword).isEmpty then 0 else 1) < 30)) = true := by rfl)
    (hline : (ap.endLine == cp.line) = true := by rfl) (hs : starEach [e] c.X.env = (false, eval e c.X.env) :: starEach [] c.X.env := by rfl) (hpl : (backTo cp (starEach [] c.X.env)).any (·.1) = false := by rfl)
    (hsw : swapsWith (.Call (.Attribute (.Name x px) "append" ap) [e] [] cp) none pos.line c.X.env = pure false := by rfl) :
    WS c (.Expr (.Call (.Attribute (.Name x px) "append" ap) [e] [] cp) pos) δ n D' := ⟨fun b σ H DD S B E => by
  refine ps_to (ps_expr (pe_bm PySem.F.plainAttrs_list PySem.F.slot_list_append PySem.F.type_list_append mt_append (pe_var hN hv h1 h2) (pa_cons pe_w pa_nil hs) hbase hfew hline hs hpl) hsw) ?_
  obtain ⟨ev, vs, hl, hr⟩ := S.sl i _ hd
  refine ⟨.ref q, ev, .inl ⟨rfl, vs, .of hl⟩, ?_⟩
  refine h.run σ H _ S fun v H2 d n1 k1 S1 r1 ⟨o, l, f⟩ => ?_
  obtain ⟨ev2, vs2, hl2, hr2⟩ := S1.sl i _ hd
  refine ⟨q, vs2, v, rfl, rfl, hl2, Nat.lt_of_lt_of_le (by rw [← hr2.length]; exact l) (by decide : 16000000 ≤ sizeLine), ?_⟩
  have np : ¬ (False) := fun z => z
  have pm := mem_addrs hd rfl
  have mt4 : ∀ a o, ¬ c.Av δ a → H2 a = some o → upd H2 q (.lst (vs2 ++ [v])) a = some o := fun a o na e => by
    rw [upd_ne (ne_by (fun a => ¬ c.Av δ a) na fun w => w (.inr (.inr pm)))]; exact e
  have sl : SlAt c.X.K (c.Av δ) c.pu (upd H2 q (.lst (vs2 ++ [v]))) (some (.own q (xs ++ [frz d]))) (σ[i]?) := ⟨ev2, _, upd_same, (hr2.append (show Rps c.X.K (c.Av δ) H2 [frz d] [v] from ⟨v, [], rfl, r1.el o, rfl⟩)).mv (fun a z => .inl z) mt4⟩
  exact E.nx _ _ _ n1 (S1.mutOwn hd rfl rfl sl) ((B.kp k1).mutOwn hd rfl rfl) f⟩
/-- x[k] = e, x an own list -/
theorem ws_setix (i : Nat) {x : Str} {ix : Expr} {px sp : Pos} (hd : δ[i]? = some (some (.own q xs))) (h : WE c e δ n fun d n1 => okEl d = true ∧ WE c ix δ n1 fun y n2 => ∃ (k : Int) (j : Nat), y = .int k ∧ ixN xs.length k = some j ∧ D'.nx (δ.set i (some (.own q (xs.set j (frz d))))) n2)
    (hN : c.X.N[i]? = some x := by rfl) (hv : Vis c.X.env.scope x := by first | exact Or.inl rfl | exact Or.inr (Or.inl rfl) | exact Or.inr (Or.inr rfl)) (h1 : (x == ("__debug__" : Str)) = false := by decide) (h2 : (x == ("__classdict__" : Str)) = false := by decide)
    (ha : ∀ v, assign (.Subscript (.Name x px) ix sp) c.X.env v = (do
      let ov ← holding [v] (eval (.Name x px) c.X.env)
      let iv ← holding [v, ov] (eval ix c.X.env)
      standAt sp
      holding [v, ov, iv] (setItem ov iv v)
      release [v, ov, iv] []) := by intro _; rfl)
    (hs : swapsWithSole [.Subscript (.Name x px) ix sp] e pos.line c.X.env = pure false := by rfl) (hw : swappedStores [.Subscript (.Name x px) ix sp] e c.X.env = pure none := by rfl)
    (h3 : (assignEach [.Subscript (.Name x px) ix sp] c.X.env).map (·.2) = [assign (.Subscript (.Name x px) ix sp) c.X.env] := by rfl) :
    WS c (.Assign [.Subscript (.Name x px) ix sp] e pos) δ n D' := ⟨fun b σ H DD S B E => by
  refine ps_to (ps_asg pe_w (pg_sub (pe_var hN hv h1 h2) pe_w set_list ha) hs hw h3) ?_
  refine h.run σ H _ S fun v H2 d n1 k1 S1 r1 ⟨o, h4⟩ => ?_
  obtain ⟨ev, vs, hl, hr⟩ := S1.sl i _ hd
  refine ⟨.ref q, ev, ?_⟩
  refine h4.run σ H2 _ S1 fun u H3 y n2 k2 S2 r2 ⟨k, j, e1, hj, f⟩ => ?_
  subst e1
  have e1 : u = .int k := r2
  subst e1
  obtain ⟨ev2, vs2, hl2, hr2⟩ := S2.sl i _ hd
  have pm := mem_addrs hd rfl
  refine ⟨q, vs2, k, j, rfl, rfl, hl2, by rw [← hr2.length]; exact hj, ?_⟩
  have mt4 : ∀ a o, ¬ c.Av δ a → H3 a = some o → upd H3 q (.lst (vs2.set j v)) a = some o := fun a o na e => by
    rw [upd_ne (ne_by (fun a => ¬ c.Av δ a) na fun w => w (.inr (.inr pm)))]; exact e
  have sl : SlAt c.X.K (c.Av δ) c.pu (upd H3 q (.lst (vs2.set j v))) (some (.own q (xs.set j (frz d)))) (σ[i]?) := ⟨ev2, _, upd_same, (hr2.set j ((r1.el o).kp Ctx.puAv k2)).mv (fun a z => .inl z) mt4⟩
  exact E.nx _ _ _ n2 (S2.mutOwn hd rfl rfl sl) (((B.kp k1).kp k2).mutOwn hd rfl rfl) f⟩

/-! ### dicts whose keys are tuples, or ints and texts -/
def keyD : D → Option Key
  | .int i => some (.inl i)
  | .str x => some (.inr x)
  | _ => none
def keysD : List D → Option (List Key)
  | [] => some []
  | d :: ds => (keyD d).bind fun k => (keysD ds).map (k :: ·)
theorem keyD_rp {K : PySem.W.Frag} {Av : Addr → Prop} {H : Hp} {d : D} {v : V} {k : Key} (h : keyD d = some k) (r : Rp K Av H d v) : v = kV k := by
  cases d with
  | int i => cases h; exact r
  | str x => cases h; exact r
  | _ => cases h
theorem keysD_rp {K : PySem.W.Frag} {Av : Addr → Prop} {H : Hp} : ∀ {ds : List D} {vs : List V} {ks : List Key}, keysD ds = some ks → Rps K Av H ds vs → vs = ks.map kV
  | [], _, _, h, r => by cases h; exact r
  | d :: ds, _, ks, h, r => by
    obtain ⟨v, w, rfl, r1, r2⟩ := r
    unfold keysD at h
    cases e1 : keyD d with
    | none => rw [e1] at h; cases h
    | some k =>
      rw [e1] at h
      cases e2 : keysD ds with
      | none => rw [e2] at h; cases h
      | some ks' =>
        rw [e2] at h
        cases h
        rw [keyD_rp e1 r1, keysD_rp e2 r2]
        rfl
/-- what stands at a key -/
def getA {κ : Type} [DecidableEq κ] : List κ → List D → κ → Option D
  | k' :: ks, d :: ds, k => if k' = k then some d else getA ks ds k
  | _, _, _ => none
def setA {κ : Type} [DecidableEq κ] : List κ → List D → κ → D → List D
  | k' :: ks, d :: ds, k, v => (if k' = k then v else d) :: setA ks ds k v
  | _, ds, _, _ => ds
/-- the keys, the values behind d[k] = v -/
def putKs {κ : Type} [DecidableEq κ] (ks : List κ) (k : κ) : List κ := if k ∈ ks then ks else ks ++ [k]
def putDs {κ : Type} [DecidableEq κ] (ks : List κ) (ds : List D) (k : κ) (v : D) : List D := if k ∈ ks then setA ks ds k v else ds ++ [v]
theorem getA_some {κ : Type} [DecidableEq κ] {K : PySem.W.Frag} {Av : Addr → Prop} {H : Hp} : ∀ {kvs : List (κ × V)} {ks : List κ} {ds : List D} {k : κ} {d : D}, kvs.map (·.1) = ks → Rps K Av H ds (kvs.map (·.2)) → getA ks ds k = some d → ∃ v, valV kvs k = some v ∧ Rp K Av H d v
  | [], ks, ds, k, d, e, r, h => by
    have e : ks = [] := by simpa using e.symm
    subst e
    cases h
  | (k', v) :: kvs, ks, [], k, d, e, r, h => by
    cases ks with
    | nil => cases h
    | cons a b => cases h
  | (k', v) :: kvs, ks, d' :: ds, k, d, e, r, h => by
    cases ks with
    | nil => cases h
    | cons k2 ks =>
      have e1 : k' = k2 := (List.cons.inj e).1
      have e2 : kvs.map (·.1) = ks := (List.cons.inj e).2
      subst e1
      obtain ⟨v', w, ew, r1, r2⟩ := r
      have ev : v = v' := (List.cons.inj ew).1
      have ew2 : kvs.map (·.2) = w := (List.cons.inj ew).2
      subst ev ew2
      unfold getA at h
      by_cases hk : k' = k
      · rw [if_pos hk] at h
        cases h
        exact ⟨v, valV_pos hk, r1⟩
      · rw [if_neg hk] at h
        obtain ⟨u, h1, h2⟩ := getA_some e2 r2 h
        refine ⟨u, ?_, h2⟩
        rw [← h1]
        simp [valV, List.find?_cons, hk]
theorem getA_none {κ : Type} [DecidableEq κ] {K : PySem.W.Frag} {Av : Addr → Prop} {H : Hp} : ∀ {kvs : List (κ × V)} {ks : List κ} {ds : List D} {k : κ}, kvs.map (·.1) = ks → Rps K Av H ds (kvs.map (·.2)) → getA ks ds k = none → valV kvs k = none
  | [], ks, ds, k, e, r, h => rfl
  | (k', v) :: kvs, ks, [], k, e, r, h => by
    have z : _ = _ := r
    cases z
  | (k', v) :: kvs, ks, d' :: ds, k, e, r, h => by
    cases ks with
    | nil => cases e
    | cons k2 ks =>
      have e1 : k' = k2 := (List.cons.inj e).1
      have e2 : kvs.map (·.1) = ks := (List.cons.inj e).2
      subst e1
      obtain ⟨v', w, ew, r1, r2⟩ := r
      have ew : kvs.map (·.2) = w := (List.cons.inj ew).2
      subst ew
      unfold getA at h
      by_cases hk : k' = k
      · rw [if_pos hk] at h; cases h
      · rw [if_neg hk] at h
        have z := getA_none e2 r2 h
        rw [← z]
        simp [valV, List.find?_cons, hk]
theorem map_fst {κ : Type} [DecidableEq κ] (k : κ) (v : V) : ∀ kvs : List (κ × V), (kvs.map fun kv => if kv.1 = k then (kv.1, v) else kv).map (·.1) = kvs.map (·.1)
  | [] => rfl
  | p :: r => by
    rw [List.map_cons, List.map_cons, List.map_cons, map_fst k v r]
    by_cases h : p.1 = k
    · rw [if_pos h]
    · rw [if_neg h]
theorem setA_rps {κ : Type} [DecidableEq κ] {K : PySem.W.Frag} {Av : Addr → Prop} {H : Hp} {k : κ} {d : D} {v : V} (r : Rp K Av H d v) : ∀ {kvs : List (κ × V)} {ds : List D}, Rps K Av H ds (kvs.map (·.2)) → Rps K Av H (setA (kvs.map (·.1)) ds k d) ((kvs.map fun kv => if kv.1 = k then (kv.1, v) else kv).map (·.2))
  | [], [], _ => rfl
  | [], d' :: ds, h => by
    obtain ⟨v', w, e, _⟩ := h
    cases e
  | p :: kvs, [], h => by
    have z : _ = _ := h
    cases z
  | p :: kvs, d' :: ds, h => by
    obtain ⟨v', w, e, r1, r2⟩ := h
    have e1 : p.2 = v' := (List.cons.inj e).1
    have e2 : kvs.map (·.2) = w := (List.cons.inj e).2
    subst e1 e2
    have ih := setA_rps (k := k) r r2
    show Rps K Av H ((if p.1 = k then d else d') :: setA (kvs.map (·.1)) ds k d) _
    by_cases hk : p.1 = k
    · rw [if_pos hk, List.map_cons, if_pos hk]
      exact ⟨_, _, rfl, r, ih⟩
    · rw [if_neg hk, List.map_cons, if_neg hk]
      exact ⟨_, _, rfl, r1, ih⟩
theorem putK_rps {κ : Type} [DecidableEq κ] {K : PySem.W.Frag} {Av : Addr → Prop} {H : Hp} {kvs : List (κ × V)} {ks : List κ} {ds : List D} {k : κ} {d : D} {v : V} (e : kvs.map (·.1) = ks) (h : Rps K Av H ds (kvs.map (·.2))) (r : Rp K Av H d v) :
    (putK kvs k v).map (·.1) = putKs ks k ∧ Rps K Av H (putDs ks ds k d) ((putK kvs k v).map (·.2)) := by
  subst e
  have hm : (kvs.any fun kv => decide (kv.1 = k)) = decide (k ∈ kvs.map (·.1)) := by
    rw [Bool.eq_iff_iff]
    simp only [List.any_eq_true, decide_eq_true_eq, List.mem_map]
  unfold putK putKs putDs
  rw [hm]
  by_cases hk : k ∈ kvs.map (·.1)
  · rw [if_pos (decide_eq_true hk), if_pos hk, if_pos hk]
    exact ⟨map_fst k v kvs, setA_rps r h⟩
  · rw [if_neg (by simpa using hk), if_neg hk, if_neg hk, List.map_append, List.map_append]
    exact ⟨rfl, h.append ⟨v, [], rfl, r, rfl⟩⟩
/-- {} , keys to come: tuples; ints and texts -/
theorem we_newT {Φ : D → Nat → Prop} (h : Φ .newT n) : WE c (.Dict [] [] pos) δ n Φ := ⟨fun σ H Q S q => pe_to pe_dnewT fun a ha => q _ _ .newT n (Kp.new ha) (S.grow (same_new ha)) ⟨a, rfl, ha, S.off ha, S.npu ha, upd_same⟩ h⟩
theorem we_newK {Φ : D → Nat → Prop} (h : Φ .newK n) : WE c (.Dict [] [] pos) δ n Φ := ⟨fun σ H Q S q => pe_to pe_dnewK fun a ha => q _ _ .newK n (Kp.new ha) (S.grow (same_new ha)) ⟨a, rfl, ha, S.off ha, S.npu ha, upd_same⟩ h⟩
theorem SlR.setOwnG {σ : L2.St} {H H2 : Hp} {n2 : Nat} (S : SlR c σ H δ n) (S2 : SlR c σ H2 δ n2) (k : Kp c.pu H H2) (i : Nat) {p : Addr} {d : D} (hd : addr1 (some d) = [p]) (h0 : H p = none) (h1 : ¬ c.Av δ p) (h2 : c.pu ≠ some p) (h3 : ∀ x Av, x = some (some (.ref p)) → SlAt c.X.K Av c.pu H2 (some d) x) :
    SlR c (σ.set i (some (.ref p))) H2 (δ.set i (some d)) n2 := by
  obtain ⟨m1, m2⟩ := addrs_set_own (s := some d) (p := p) hd (δ := δ) (i := i)
  have np : p ∉ addrs δ := fun z => h1 (.inr (.inr z))
  have av : ∀ a, c.Av (δ.set i (some d)) a → c.Av δ a ∨ a = p := fun a z => by
    rcases z with z | z | z
    · exact .inl (.inl z)
    · exact .inl (.inr (.inl z))
    · rcases m1 a z with z | z
      · exact .inr z
      · exact .inl (.inr (.inr z))
  refine ⟨by simp [S2.len], S2.dom, S2.pur, m2 S2.nd np, fun q m => ?_, fun j s e => ?_⟩
  · rcases m1 q m with rfl | m
    · exact ⟨fun z => h1 (.inl z), h2⟩
    · exact S2.dis q m
  · rcases get_set e with ⟨rfl, rfl⟩ | ⟨ne, e⟩
    · have hj : j < σ.length := by
        rw [← S2.len]
        have := (List.getElem?_eq_some_iff.mp e).1
        simpa using this
      exact h3 _ _ (by rw [List.getElem?_set_self hj])
    · rw [List.getElem?_set_ne (Ne.symm ne)]
      refine (S.sl j s e).mv (fun a z => ?_) (fun a o na e => k a o (fun z => na (.inr (.inl z))) e) fun q hq u e' => k q u (S.dis q (mem_addrs2 e hq)).2 e'
      rcases av a z with z | rfl
      · exact .inl z
      · exact .inr h0
/-- x = {} -/
theorem ws_asgT (i : Nat) {x : Str} {p' : Pos} (hN : c.X.N.Nodup) (h : WE c e δ n fun d n1 => d = .newT ∧ ∀ q, D'.nx (δ.set i (some (.ownT q [] []))) n1) (hi : c.X.N[i]? = some x := by rfl) (hx : Loc c.X.env.scope x := by first | exact Or.inl rfl | exact Or.inr rfl)
    (hs : swapsWith e (some (.Name x p')) pos.line c.X.env = pure false := by rfl) (hf : c.X.fn x = true ∨ c.X.env.scope.names.lookup x = some .local := by first | exact .inl rfl | exact .inr rfl) : WS c (.Assign [.Name x p'] e pos) δ n D' := ⟨fun b σ H DD S B E => by
  refine ps_to (ps_set hN hi hx pe_w hs hf) ?_
  refine h.run σ H _ S fun v H2 d n1 k1 S1 r1 ⟨ed, f⟩ => ?_
  subst ed
  obtain ⟨q, rfl, h0, h1, h2, h3⟩ := r1
  refine E.nx _ H2 _ n1 (SlR.setOwnG S S1 k1 i (d := .ownT q [] []) rfl h0 h1 h2 fun x Av e => ⟨e, [], h3, rfl, rfl⟩) ((B.kp k1).set fun r m => ?_) (f q)
  rcases (addrs_set_own (s := some (.ownT q [] [])) (p := q) rfl).1 r m with rfl | m
  · exact .inr (B.back h0)
  · exact .inl m⟩
theorem ws_asgK (i : Nat) {x : Str} {p' : Pos} (hN : c.X.N.Nodup) (h : WE c e δ n fun d n1 => d = .newK ∧ ∀ q, D'.nx (δ.set i (some (.ownK q [] []))) n1) (hi : c.X.N[i]? = some x := by rfl) (hx : Loc c.X.env.scope x := by first | exact Or.inl rfl | exact Or.inr rfl)
    (hs : swapsWith e (some (.Name x p')) pos.line c.X.env = pure false := by rfl) (hf : c.X.fn x = true ∨ c.X.env.scope.names.lookup x = some .local := by first | exact .inl rfl | exact .inr rfl) : WS c (.Assign [.Name x p'] e pos) δ n D' := ⟨fun b σ H DD S B E => by
  refine ps_to (ps_set hN hi hx pe_w hs hf) ?_
  refine h.run σ H _ S fun v H2 d n1 k1 S1 r1 ⟨ed, f⟩ => ?_
  subst ed
  obtain ⟨q, rfl, h0, h1, h2, h3⟩ := r1
  refine E.nx _ H2 _ n1 (SlR.setOwnG S S1 k1 i (d := .ownK q [] []) rfl h0 h1 h2 fun x Av e => ⟨e, [], h3, rfl, rfl⟩) ((B.kp k1).set fun r m => ?_) (f q)
  rcases (addrs_set_own (s := some (.ownK q [] [])) (p := q) rfl).1 r m with rfl | m
  · exact .inr (B.back h0)
  · exact .inl m⟩
/-- x[k] = e, x an own dict; the value first, then the key -/
theorem ws_putT (i : Nat) {x : Str} {ix : Expr} {px sp : Pos} {ks : List (List Key)} (hu : c.X.A.units + 1 < cLine) (hd : δ[i]? = some (some (.ownT q ks xs))) (h : WE c e δ n fun d n1 => okEl d = true ∧ WE c ix δ n1 fun y n2 => ∃ es k, y = .tup es ∧ keysD es = some k ∧ ks.length < 16000000 ∧ D'.nx (δ.set i (some (.ownT q (putKs ks k) (putDs ks xs k (frz d))))) n2)
    (hN : c.X.N[i]? = some x := by rfl) (hv : Vis c.X.env.scope x := by first | exact Or.inl rfl | exact Or.inr (Or.inl rfl) | exact Or.inr (Or.inr rfl)) (h1 : (x == ("__debug__" : Str)) = false := by decide) (h2 : (x == ("__classdict__" : Str)) = false := by decide)
    (hs : swapsWith e (some (.Subscript (.Name x px) ix sp)) pos.line c.X.env = pure false := by rfl) : WS c (.Assign [.Subscript (.Name x px) ix sp] e pos) δ n D' := ⟨fun b σ H DD S B E => by
  refine ps_to (ps_dput hu (pe_var hN hv h1 h2) pe_w pe_w hs) ?_
  refine h.run σ H _ S fun v H2 d n1 k1 S1 r1 ⟨o, h4⟩ => ?_
  obtain ⟨ev, _⟩ := S1.sl i _ hd
  refine ⟨.ref q, ev, ?_⟩
  refine h4.run σ H2 _ S1 fun u H3 y n2 k2 S2 r2 ⟨es, k, e1, hk, l, f⟩ => ?_
  subst e1
  obtain ⟨ta, us, rfl, na, ht, hr⟩ := r2
  have eu := keysD_rp hk hr
  subst eu
  obtain ⟨ev2, kvs, hl2, e2, hr2⟩ := S2.sl i _ hd
  have pm := mem_addrs hd rfl
  have hlen : kvs.length = ks.length := by rw [← e2, List.length_map]
  refine ⟨q, _, rfl, DPut.t hl2 ht (Nat.lt_of_lt_of_le (by rw [hlen]; exact l) (by decide : 16000000 ≤ sizeLine)), ?_⟩
  obtain ⟨g1, g2⟩ := putK_rps (k := k) e2 hr2 ((r1.el o).kp Ctx.puAv k2)
  have mt4 : ∀ a o, ¬ c.Av δ a → H3 a = some o → upd H3 q (.dT (putK kvs k v)) a = some o := fun a o na e => by
    rw [upd_ne (ne_by (fun a => ¬ c.Av δ a) na fun w => w (.inr (.inr pm)))]; exact e
  have sl : SlAt c.X.K (c.Av δ) c.pu (upd H3 q (.dT (putK kvs k v))) (some (.ownT q (putKs ks k) (putDs ks xs k (frz d)))) (σ[i]?) := ⟨ev2, _, upd_same, g1, g2.mv (fun a z => .inl z) mt4⟩
  exact E.nx _ _ _ n2 (S2.mutOwn hd rfl rfl sl) (((B.kp k1).kp k2).mutOwn hd rfl rfl) f⟩
theorem ws_putK (i : Nat) {x : Str} {ix : Expr} {px sp : Pos} {ks : List Key} (hu : c.X.A.units + 1 < cLine) (hd : δ[i]? = some (some (.ownK q ks xs))) (h : WE c e δ n fun d n1 => okEl d = true ∧ WE c ix δ n1 fun y n2 => ∃ k, keyD y = some k ∧ ks.length < 16000000 ∧ D'.nx (δ.set i (some (.ownK q (putKs ks k) (putDs ks xs k (frz d))))) n2)
    (hN : c.X.N[i]? = some x := by rfl) (hv : Vis c.X.env.scope x := by first | exact Or.inl rfl | exact Or.inr (Or.inl rfl) | exact Or.inr (Or.inr rfl)) (h1 : (x == ("__debug__" : Str)) = false := by decide) (h2 : (x == ("__classdict__" : Str)) = false := by decide)
    (hs : swapsWith e (some (.Subscript (.Name x px) ix sp)) pos.line c.X.env = pure false := by rfl) : WS c (.Assign [.Subscript (.Name x px) ix sp] e pos) δ n D' := ⟨fun b σ H DD S B E => by
  refine ps_to (ps_dput hu (pe_var hN hv h1 h2) pe_w pe_w hs) ?_
  refine h.run σ H _ S fun v H2 d n1 k1 S1 r1 ⟨o, h4⟩ => ?_
  obtain ⟨ev, _⟩ := S1.sl i _ hd
  refine ⟨.ref q, ev, ?_⟩
  refine h4.run σ H2 _ S1 fun u H3 y n2 k2 S2 r2 ⟨k, hk, l, f⟩ => ?_
  have eu : u = kV k := keyD_rp hk (r2.pure (by cases y <;> first | rfl | cases hk))
  subst eu
  obtain ⟨ev2, kvs, hl2, e2, hr2⟩ := S2.sl i _ hd
  have pm := mem_addrs hd rfl
  have hlen : kvs.length = ks.length := by rw [← e2, List.length_map]
  refine ⟨q, _, rfl, DPut.k hl2 (Nat.lt_of_lt_of_le (by rw [hlen]; exact l) (by decide : 16000000 ≤ sizeLine)), ?_⟩
  obtain ⟨g1, g2⟩ := putK_rps (k := k) e2 hr2 ((r1.el o).kp Ctx.puAv k2)
  have mt4 : ∀ a o, ¬ c.Av δ a → H3 a = some o → upd H3 q (.dK (putK kvs k v)) a = some o := fun a o na e => by
    rw [upd_ne (ne_by (fun a => ¬ c.Av δ a) na fun w => w (.inr (.inr pm)))]; exact e
  have sl : SlAt c.X.K (c.Av δ) c.pu (upd H3 q (.dK (putK kvs k v))) (some (.ownK q (putKs ks k) (putDs ks xs k (frz d)))) (σ[i]?) := ⟨ev2, _, upd_same, g1, g2.mv (fun a z => .inl z) mt4⟩
  exact E.nx _ _ _ n2 (S2.mutOwn hd rfl rfl sl) (((B.kp k1).kp k2).mutOwn hd rfl rfl) f⟩
/-- what a dict gives at a key -/
def GetR (x y : D) (r : Option D) : Prop :=
  (∃ q ks ds es k, x = .ownT q ks ds ∧ y = .tup es ∧ keysD es = some k ∧ r = getA ks ds k) ∨ (∃ q ks ds k, x = .ownK q ks ds ∧ keyD y = some k ∧ r = getA ks ds k)
theorem getR_ok {σ : L2.St} {H Hs Hs' : Hp} {x y : D} {v u : V} {r : Option D} (h : GetR x y r) (rx : RpE c.X.K (c.Av δ) (c.Ow δ) c.pu Hs H x v) (ry : RpE c.X.K (c.Av δ) (c.Ow δ) c.pu Hs' H y u) :
    ∃ a o, v = .ref a ∧ DGet H a u o ∧ (∀ d, r = some d → ∃ w, o = some w ∧ Rp c.X.K (c.Av δ) H d w) ∧ (r = none → o = none) := by
  rcases h with ⟨q, ks, ds, es, k, rfl, rfl, hk, rfl⟩ | ⟨q, ks, ds, k, rfl, hk, rfl⟩
  · obtain ⟨rfl, _, kvs, h1, e, h2⟩ := rx
    obtain ⟨ta, us, rfl, na, ht, hr⟩ := ry
    have eu := keysD_rp hk hr
    subst eu
    exact ⟨q, _, rfl, DGet.t h1 ht, fun d e' => getA_some e h2 e', fun e' => getA_none e h2 e'⟩
  · obtain ⟨rfl, _, kvs, h1, e, h2⟩ := rx
    have eu : u = kV k := keyD_rp hk (ry.pure (by cases y <;> first | rfl | cases hk))
    subst eu
    exact ⟨q, _, rfl, DGet.k h1, fun d e' => getA_some e h2 e', fun e' => getA_none e h2 e'⟩
theorem we_dget {Φ : D → Nat → Prop} {b : Expr} (hu : c.X.A.units + 1 < cLine) (h : WE c a δ n fun x n1 => WE c b δ n1 fun y n2 => ∃ d, GetR x y (some d) ∧ Φ d n2) (hs : NoSl b := by exact fun _ _ => rfl) : WE c (.Subscript a b pos) δ n Φ := ⟨fun σ H Q S q => by
  refine pe_to (pe_dget hu pe_w pe_w hs) ?_
  refine h.run σ H _ S fun v H2 x n1 k1 S1 r1 h2 => ?_
  refine h2.run σ H2 _ S1 fun u H3 y n2 k2 S2 r2 ⟨d, g, f⟩ => ?_
  obtain ⟨a, o, rfl, g1, g2, _⟩ := getR_ok (σ := σ) g (r1.kp Ctx.puAv k2) r2
  obtain ⟨w, rfl, rw⟩ := g2 d rfl
  exact ⟨a, w, rfl, g1, q w H3 d n2 (k1.trans k2) S2 (RpE.of rw) f⟩⟩
theorem we_din {Φ : D → Nat → Prop} {b : Expr} (hu : c.X.A.units + 1 < cLine) (h : WE c a δ n fun y n1 => WE c b δ n1 fun x n2 => ∃ r, GetR x y r ∧ Φ (.bl r.isSome) n2) (hm : behindInMarks .In b = false := by rfl) : WE c (.Compare a [.In] [b] pos) δ n Φ := ⟨fun σ H Q S q => by
  refine pe_to (pe_cmp (pc_din hu pe_w pe_w) hm) ?_
  refine h.run σ H _ S fun v H2 y n1 k1 S1 r1 h2 => ?_
  refine h2.run σ H2 _ S1 fun u H3 x n2 k2 S2 r2 ⟨r, g, f⟩ => ?_
  obtain ⟨a, o, rfl, g1, g2, g3⟩ := getR_ok (σ := σ) g r2 (r1.kp Ctx.puAv k2)
  have e : o.isSome = r.isSome := by
    cases r with
    | none => rw [g3 rfl]; rfl
    | some d => obtain ⟨w, rfl, _⟩ := g2 d rfl; rfl
  exact ⟨a, o, rfl, g1, by rw [e]; exact q _ H3 (.bl r.isSome) n2 (k1.trans k2) S2 rfl f⟩⟩
theorem wt_din {Ψ : Bool → Nat → Prop} {b : Expr} (hu : c.X.A.units + 1 < cLine) (h : WE c a δ n fun y n1 => WE c b δ n1 fun x n2 => ∃ r : Option D, GetR x y r ∧ Ψ r.isSome n2) (hm : behindInMarks .In b = false := by rfl) : WT c (.Compare a [.In] [b] pos) δ n Ψ := ⟨fun σ H Q S q => by
  refine pt_to (pt_cmp (pc_din hu pe_w pe_w) hm) ?_
  refine h.run σ H _ S fun v H2 y n1 k1 S1 r1 h2 => ?_
  refine h2.run σ H2 _ S1 fun u H3 x n2 k2 S2 r2 ⟨r, g, f⟩ => ?_
  obtain ⟨a, o, rfl, g1, g2, g3⟩ := getR_ok (σ := σ) g r2 (r1.kp Ctx.puAv k2)
  have e : o.isSome = r.isSome := by
    cases r with
    | none => rw [g3 rfl]; rfl
    | some d => obtain ⟨w, rfl, _⟩ := g2 d rfl; rfl
  exact ⟨a, o, rfl, g1, o.isSome, rfl, by rw [e]; exact q _ H3 n2 (k1.trans k2) S2 f⟩⟩
end
end DL

/-! DLj: instances: fields, methods, properties, making; the purse made within a frame. -/
namespace DL
open PySem PySem.Spec PyProof.Rows L2
/-- the i-th field is f -/
def FldAt (ns : List Str) (f : Str) (i : Nat) : Prop := ∀ gs : List (Str × V), gs.map (·.1) = ns → gs.lookup f = (gs.map (·.2))[i]?
def fldIx (ns : List Str) (f : Str) (i : Nat) : Bool := match ns, i with
  | n :: _, 0 => n == f
  | n :: r, i + 1 => !(n == f) && fldIx r f i
  | [], _ => false
theorem fldAt_of : ∀ {ns : List Str} {f : Str} {i : Nat}, fldIx ns f i = true → FldAt ns f i
  | [], f, i, h => by cases i <;> cases h
  | n :: r, f, 0, h => fun gs e => by
    cases gs with
    | nil => cases e
    | cons g gs =>
      have e1 : g.1 = n := (List.cons.inj e).1
      have h' : n = f := by simpa [fldIx] using h
      obtain ⟨a, b⟩ := g
      simp only at e1
      subst e1 h'
      simp [List.lookup_cons]
  | n :: r, f, i + 1, h => fun gs e => by
    cases gs with
    | nil => cases e
    | cons g gs =>
      have e1 : g.1 = n := (List.cons.inj e).1
      have e2 : gs.map (·.1) = r := (List.cons.inj e).2
      have h' : ¬ n = f ∧ fldIx r f i = true := by simpa [fldIx] using h
      obtain ⟨a, b⟩ := g
      simp only at e1
      subst e1
      have q : (f == a) = false := by simpa using fun z : f = a => h'.1 z.symm
      rw [List.lookup_cons, q]
      show List.lookup f gs = _
      rw [fldAt_of h'.2 gs e2]
      simp
theorem fldNo {ns : List Str} {m : Str} (h : ns.contains m = false) {gs : List (Str × V)} (e : gs.map (·.1) = ns) : gs.lookup m = none := by
  induction gs generalizing ns with
  | nil => rfl
  | cons g gs ih =>
    subst e
    simp only [List.map_cons, List.contains_cons, Bool.or_eq_false_iff] at h
    obtain ⟨a, b⟩ := g
    rw [List.lookup_cons, h.1]
    exact ih h.2 rfl
theorem putF_new {f : Str} {v : V} : ∀ {gs : List (Str × V)}, (gs.map (·.1)).contains f = false → putF f v gs = gs ++ [(f, v)]
  | [], _ => rfl
  | (g, x) :: gs, h => by
    simp only [List.map_cons, List.contains_cons, Bool.or_eq_false_iff] at h
    have ne : ¬ g = f := fun z => by simp [z] at h
    show (if g = f then _ else (g, x) :: putF f v gs) = _
    rw [if_neg ne, putF_new h.2]
    rfl
section
variable {c : Ctx} {δ : DE} {n : Nat} {a e t o : Expr} {es : List Expr} {pos p : Pos} {D' : DEnds} {Φ : D → Nat → Prop} {C : Addr} {f : Str}
theorem we_fld (i : Nat) {ns : List Str} (hc : Cls c.X.K C) (hn : NoAttr c.X.K C f) (hf : fldIx ns f i = true) (h : WE c e δ n fun x n1 => ∃ ds d, x = .obj C ns ds ∧ ds[i]? = some d ∧ Φ d n1)
    (hb : attributeBase e f c.X.env (eval e c.X.env) = eval e c.X.env := by rfl) : WE c (.Attribute e f pos) δ n Φ := ⟨fun σ H Q S q => by
  refine pe_to (pe_fld pe_w hb) ?_
  refine h.run σ H _ S fun v H2 x n1 k1 S1 r1 ⟨ds, d, ex, hi, f'⟩ => ?_
  subst ex
  obtain ⟨a, dx, gs, rfl, na, h1, e1, h2⟩ := r1
  obtain ⟨w, hw, r⟩ := h2.get hi
  exact ⟨a, C, dx, gs, w, rfl, h1, hc, hn, by rw [fldAt_of hf gs e1]; exact hw, q w H2 d n1 k1 S1 (RpE.of r) f'⟩⟩
/-- a method of a class that keeps a promise -/
structure Mth (P : Program) (w : World) (K : PySem.W.Frag) (mg : Str → Option Value) (base : Heap) (C : Addr) (m : Str) (ps : List Str) (k : Nat) (sp : Sp) : Prop where
  ex : ∃ (f : Addr) (fd : FuncData), Meth K C m f ∧ Binds K fd ps [] ∧ FnOk P w K mg base CX0 k f fd ps sp
theorem we_meth {ns : List Str} {m : Str} {ap : Pos} {ps : List Str} {k : Nat} {sp : DSp} {pl : Sem Bool} (hc : Cls c.X.K C) (M : Mth c.X.prog c.X.w c.X.K c.X.mg c.X.base C m ps k (spD c.X.K sp)) (hr : Room k c.X.A) (hno : ns.contains m = false)
    (h : WE c o δ n fun x n1 => ∃ fs, x = .obj C ns fs ∧ WA c (e :: es) δ n1 fun ds n2 => ds.all okEl = true ∧ sp (.obj C ns fs :: ds.map frz) fun d => Φ d n2)
    (he : starEach (e :: es) c.X.env = (false, eval e c.X.env) :: starEach es c.X.env := by rfl) (hpl : (backTo pos (starEach es c.X.env)).any (·.1) = false := by rfl)
    (ht : eval (.Call (.Attribute o m ap) (e :: es) [] pos) c.X.env = (do
      let ov ← eval o c.X.env
      standAt ap.atName
      let (f, first) ← holding [ov] (getMethod ov m pl)
      callWith pos f first (backTo pos (starEach (e :: es) c.X.env)) (backToKw pos (keywordEach [] c.X.env))) := by rfl) : WE c (.Call (.Attribute o m ap) (e :: es) [] pos) δ n Φ := ⟨fun σ H Q S q => by
  obtain ⟨f, fd, hm, hb, F⟩ := M.ex
  refine pe_to (pe_meth (pl := pl) pe_w hc hm F hr hb .nil pass0 pa_w he hpl ht) ?_
  refine h.run σ H _ S fun v H2 x n1 k1 S1 r1 ⟨fs, ex, h2⟩ => ?_
  subst ex
  obtain ⟨a, dx, gs, rfl, na, h1, e1, h3⟩ := id r1
  refine ⟨a, dx, gs, rfl, h1, fldNo hno e1, ?_⟩
  refine h2.run σ H2 _ S1 fun vs H3 ds n2 k2 S2 r2 ⟨o', f'⟩ => ?_
  have r3 : Rp c.X.K (c.Av δ) H3 (.obj C ns fs) (.ref a) := (r1.pure rfl).kp Ctx.puAv k2
  refine ⟨c.Av δ, .obj C ns fs :: ds.map frz, _, fun a m => S2.av_nt m, ?_, f', fun d v H4 f sm rv => ?_⟩
  · rw [List.append_nil]
    exact ⟨_, _, rfl, r3, els_ok o' r2⟩
  · exact q v H4 d n2 ((k1.trans k2).trans (Kp.of sm)) (S2.grow sm) (rv.rpE (fun _ => Iff.rfl) (fun p z => Kp.back S S1 k1 (Kp.back S1 S2 k2 z)) S2) f⟩
theorem we_meth0 {ns : List Str} {m : Str} {ap : Pos} {ps : List Str} {k : Nat} {sp : DSp} {pl : Sem Bool} (hc : Cls c.X.K C) (M : Mth c.X.prog c.X.w c.X.K c.X.mg c.X.base C m ps k (spD c.X.K sp)) (hr : Room k c.X.A) (hno : ns.contains m = false)
    (h : WE c o δ n fun x n1 => ∃ fs, x = .obj C ns fs ∧ sp [.obj C ns fs] fun d => Φ d n1)
    (ht : eval (.Call (.Attribute o m ap) [] [] pos) c.X.env = (do
      let ov ← eval o c.X.env
      standAt ap.atName
      let (f, first) ← holding [ov] (getMethod ov m pl)
      callWith pos f first (backTo pos (starEach [] c.X.env)) (backToKw pos (keywordEach [] c.X.env))) := by rfl) : WE c (.Call (.Attribute o m ap) [] [] pos) δ n Φ := ⟨fun σ H Q S q => by
  obtain ⟨f, fd, hm, hb, F⟩ := M.ex
  refine pe_to (pe_meth0 (pl := pl) pe_w hc hm F hr hb .nil pass0 ht) ?_
  refine h.run σ H _ S fun v H2 x n1 k1 S1 r1 ⟨fs, ex, f'⟩ => ?_
  subst ex
  obtain ⟨a, dx, gs, rfl, na, h1, e1, h3⟩ := id r1
  refine ⟨a, dx, gs, rfl, h1, fldNo hno e1, ?_⟩
  refine ⟨c.Av δ, [.obj C ns fs], _, fun a m => S1.av_nt m, ⟨_, _, rfl, r1.pure rfl, rfl⟩, f', fun d v H4 f sm rv => ?_⟩
  exact q v H4 d n1 (k1.trans (Kp.of sm)) (S1.grow sm) (rv.rpE (fun _ => Iff.rfl) (fun p z => Kp.back S S1 k1 z) S1) f⟩
/-- a property -/
structure Prp (P : Program) (w : World) (K : PySem.W.Frag) (mg : Str → Option Value) (base : Heap) (C : Addr) (m : Str) (k : Nat) (sp : Sp) : Prop where
  ex : ∃ (p g : Addr) (fd : FuncData), PropOf K C m p g ∧ Binds K fd ["self"] [] ∧ FnOk P w K mg base CX0 k g fd ["self"] sp
theorem we_prop {ns : List Str} {k : Nat} {sp : DSp} (hc : Cls c.X.K C) (M : Prp c.X.prog c.X.w c.X.K c.X.mg c.X.base C f k (spD c.X.K sp)) (hr : Room (k + 1) c.X.A)
    (h : WE c e δ n fun x n1 => ∃ fs, x = .obj C ns fs ∧ sp [.obj C ns fs] fun d => Φ d n1)
    (hab : attributeBase e f c.X.env (eval e c.X.env) = eval e c.X.env := by rfl) : WE c (.Attribute e f pos) δ n Φ := ⟨fun σ H Q S q => by
  obtain ⟨p, g, fd, hm, hb, F⟩ := M.ex
  refine pe_to (pe_prop pe_w hc hm F hr hb .nil pass0 hab) ?_
  refine h.run σ H _ S fun v H2 x n1 k1 S1 r1 ⟨fs, ex, f'⟩ => ?_
  subst ex
  obtain ⟨a, dx, gs, rfl, na, h1, e1, h3⟩ := id r1
  refine ⟨a, dx, gs, rfl, h1, ?_⟩
  refine ⟨c.Av δ, [.obj C ns fs], _, fun a m => S1.av_nt m, ⟨_, _, rfl, r1.pure rfl, rfl⟩, f', fun d v H4 f sm rv => ?_⟩
  exact q v H4 d n1 (k1.trans (Kp.of sm)) (S1.grow sm) (rv.rpE (fun _ => Iff.rfl) (fun p z => Kp.back S S1 k1 z) S1) f⟩
abbrev ISp := List D → (List Str → List D → Prop) → Prop
/-- the promise of an __init__ -/
def spI (K : PySem.W.Frag) (C : Addr) (sp : ISp) : Sp := fun vs H Q _ => ∃ (M : Addr → Prop) (ds : List D) (x dx : Addr) (us : List V) (Φ : List Str → List D → Prop), vs = .ref x :: us ∧ (∀ a, M a → ∃ o, H a = some o ∧ NT o) ∧ H x = some (.ins C dx []) ∧ ¬ M x ∧ Rps K (fun a => M a ∨ a = x) H ds us ∧
  sp ds Φ ∧ ∀ ns fs gs H2, Φ ns fs → (∀ a o, a ≠ x → H a = some o → H2 a = some o) → H2 x = some (.ins C dx gs) → gs.map (·.1) = ns → Rps K (fun a => M a ∨ a = x) H2 fs (gs.map (·.2)) → Q .non H2
structure Mkr (P : Program) (w : World) (K : PySem.W.Frag) (mg : Str → Option Value) (base : Heap) (x : Str) (C : Addr) (ps : List Str) (k : Nat) (sp : Sp) : Prop where
  ex : ∃ (f : Addr) (fd : FuncData), mg x = some (.ref C) ∧ L2.Mk K C f ∧ Binds K fd ps [] ∧ FnOk P w K mg base CX0 k f fd ps sp
theorem we_make {x : Str} {ps : List Str} {k : Nat} {sp : ISp} (M : Mkr c.X.prog c.X.w c.X.K c.X.mg c.X.base x C ps k (spI c.X.K C sp)) (hr : Room (k + 1) c.X.A) (hg : Gl c.X x) (h : WA c (e :: es) δ n fun ds n1 => ds.all okEl = true ∧ sp (ds.map frz) fun ns fs => Φ (.obj C ns fs) n1)
    (hdb : (x == ("__debug__" : Str)) = false := by decide) (he : starEach (e :: es) c.X.env = (false, eval e c.X.env) :: starEach es c.X.env := by rfl) (hpl : (backTo pos (starEach es c.X.env)).any (·.1) = false := by rfl) : WE c (.Call (.Name x p) (e :: es) [] pos) δ n Φ := ⟨fun σ H Q S q => by
  obtain ⟨f, fd, hm, mk, hb, F⟩ := M.ex
  refine pe_to (pe_make mk F hr hg hm hb .nil pass0 pa_w hdb he hpl) ?_
  refine h.run σ H _ S fun vs H2 ds n1 k1 S1 r1 ⟨o, f'⟩ x dx hx hdx ne => ?_
  have nx := S1.off hx
  have g1 : Same H2 (upd (upd H2 dx (.own x)) x (.ins C dx [])) := fun a o e => by
    rw [upd_ne (ne_of_none e hx), upd_ne (ne_of_none e hdx)]; exact e
  refine ⟨c.Av δ, ds.map frz, x, dx, vs, _, by rw [List.append_nil], fun a m => ?_, upd_same, nx, ?_, f', fun ns fs gs H3 f2 keep h3 e3 r3 => ⟨rfl, ?_⟩⟩
  · obtain ⟨o, e, nt⟩ := S1.av_nt m
    exact ⟨o, g1 _ _ e, nt⟩
  · exact ((els_ok o r1).off hx fun a z => z).kp (ex := none) (fun _ z => nomatch z) (Kp.of g1)
  · have sm : Same H2 H3 := fun a o e => keep a o (ne_of_none e hx) (g1 _ _ e)
    exact q (.ref x) H3 (.obj C ns fs) n1 (k1.trans (Kp.of sm)) (S1.grow sm) ⟨x, dx, gs, rfl, nx, h3, e3, r3.wk (fun a z => .inl z) fun _ _ _ e => e⟩ f2⟩
/-- self.f = e, in an __init__ -/
theorem ws_init (i : Nat) {x : Str} {q dx : Addr} {ns : List Str} {fs : List D} {px ap : Pos} (hc : Cls c.X.K C) (hn : NoAttr c.X.K C f) (hno : ns.contains f = false) (hfew : ns.length < 1000) (hd : δ[i]? = some (some (.ins q dx C ns fs)))
    (h : WE c e δ n fun d n1 => okEl d = true ∧ D'.nx (δ.set i (some (.ins q dx C (ns ++ [f]) (fs ++ [frz d])))) n1)
    (hN : c.X.N[i]? = some x := by rfl) (hv : Vis c.X.env.scope x := by first | exact Or.inl rfl | exact Or.inr (Or.inl rfl) | exact Or.inr (Or.inr rfl)) (h1 : (x == ("__debug__" : Str)) = false := by decide) (h2 : (x == ("__classdict__" : Str)) = false := by decide)
    (hs : swapsWith e (some (.Attribute (.Name x px) f ap)) pos.line c.X.env = pure false := by rfl) : WS c (.Assign [.Attribute (.Name x px) f ap] e pos) δ n D' := ⟨fun b σ H DD S B E => by
  refine ps_to (ps_fld (pe_var hN hv h1 h2) pe_w hs) ?_
  refine h.run σ H _ S fun v H2 d n1 k1 S1 r1 ⟨o, f'⟩ => ?_
  obtain ⟨ev, gs, hl, e1, hr⟩ := S1.sl i _ hd
  have hlen : gs.length = ns.length := by rw [← e1, List.length_map]
  refine ⟨.ref q, ev, q, C, dx, gs, rfl, hl, hc, hn, by omega, ?_⟩
  have pm := mem_addrs hd rfl
  rw [putF_new (by rw [e1]; exact hno)]
  have mt4 : ∀ a o, ¬ c.Av δ a → H2 a = some o → upd H2 q (.ins C dx (gs ++ [(f, v)])) a = some o := fun a o na e => by
    rw [upd_ne (ne_by (fun a => ¬ c.Av δ a) na fun w => w (.inr (.inr pm)))]; exact e
  have sl : SlAt c.X.K (c.Av δ) c.pu (upd H2 q (.ins C dx (gs ++ [(f, v)]))) (some (.ins q dx C (ns ++ [f]) (fs ++ [frz d]))) (σ[i]?) := by
    refine ⟨ev, _, upd_same, by rw [List.map_append, e1]; rfl, ?_⟩
    rw [List.map_append]
    exact (hr.append (show Rps c.X.K (c.Av δ) H2 [frz d] [v] from ⟨v, [], rfl, r1.el o, rfl⟩)).mv (fun a z => .inl z) mt4
  exact E.nx _ _ _ n1 (S1.mutOwn hd rfl rfl sl) ((B.kp k1).mutOwn hd rfl rfl) f'⟩
end
section
variable {P : Program} {w : World} {K : PySem.W.Frag} {mg : Str → Option Value} {base : Heap}
theorem fnI {x qual : Str} {st : Stmt} {f C : Addr} {fd : FuncData} {N ps : List Str} {k : Nat} {sp : ISp} (F : FunV K x qual st f fd) (S : FnScope N ps (defScope st)) (hl : ∀ ds Φ, sp ds Φ → ds.length + 1 = ps.length)
    (body : ∀ (cdv : Value) (A : Around) (outer : List Env) (s : Shared) (H : Hp) (E : XK) (M : Addr → Prop) (q dx : Addr) (ds : List D) (Φ : List Str → List D → Prop), Room k (A.deeper (envOfC qual (defScope st) s.heap.objs.size f cdv)) → (∀ d ∈ ds, pureD d = true) → sp ds Φ →
      WB ⟨(cxOf CX0 P w K mg base N qual (defScope st) f cdv A outer s H E).nox, M, none⟩ (defBody st) (startD N (.ins q dx C [] [] :: ds)) 0 { nx := fun δ _ => ∃ ns fs, δ[0]? = some (some (.ins q dx C ns fs)) ∧ Φ ns fs, rt := fun _ _ => False }) : FnOk P w K mg base CX0 (k + 1) f fd ps (spI K C sp) := by
  refine F.ok S (fun vs H Q E h => ?_) (fun cdv A outer s H vs Q E hr h => ?_)
  · obtain ⟨M, ds, x, dx, us, Φ, rfl, _, _, _, h1, h2, _⟩ := h
    rw [List.length_cons, ← h1.length]; exact hl ds _ h2
  · obtain ⟨M, ds, x, dx, us, Φ, rfl, dom, hx, nx, h1, h2, h3⟩ := h
    have hp := rps_pure h1
    have ha : addrs (startD N (.ins x dx C [] [] :: ds)) = [x] := by
      show addrs (some (.ins x dx C [] []) :: (ds.map some ++ List.replicate (N.length - (ds.length + 1)) none)) = [x]
      rw [addrs_cons, addrs_pure hp]
      rfl
    refine ⟨_, pb_w, (body cdv A outer s H E M x dx ds Φ hr (rps_pure h1) h2).run ⟨H, fun a => a = x⟩ (L2.start N (.ref x :: us)) H _ ?_ ?_ ?_⟩
    · refine ⟨?_, dom, (fun p z => by cases z), by rw [ha]; simp, fun p z => by rw [ha] at z; (cases List.mem_singleton.mp z); exact ⟨nx, fun z => by cases z⟩, fun i s' e => ?_⟩
      · unfold startD L2.start
        rw [List.length_append, List.length_append, List.length_map, List.length_map, List.length_cons, List.length_cons, h1.length]
        simp
      · rcases start_get (vs := .ref x :: us) (by rw [List.length_cons, List.length_cons, h1.length]) e with ⟨d, e1, rfl, e2⟩ | rfl
        · rw [e2]
          cases i with
          | zero =>
            cases e1
            exact ⟨rfl, [], hx, rfl, rfl⟩
          | succ i =>
            obtain ⟨v, e3, r⟩ := h1.get (by simpa using e1)
            rw [show (V.ref x :: us)[i + 1]? = us[i]? from by simp, e3]
            refine slAt_pure (r.wk (fun a z => ?_) fun _ _ _ e => e) rfl
            rcases z with z | z | z
            · exact .inl z
            · cases z
            · rw [ha] at z; exact .inr (List.mem_singleton.mp z)
        · trivial
    · exact ⟨fun a o _ e => e, fun q z => by rw [ha] at z; exact .inl (List.mem_singleton.mp z), (fun q z => by cases z)⟩
    · refine ⟨fun σ' H' δ' n' S' B' z => ?_, fun _ _ _ _ _ _ z => z.elim, fun _ _ _ _ _ _ z => z.elim, fun v H' d n' R z => z.elim⟩
      obtain ⟨ns, fs, e0, f2⟩ := z
      obtain ⟨_, gs, g1, g2, g3⟩ := S'.sl 0 _ e0
      have pm := mem_addrs e0 rfl
      refine h3 ns fs gs H' f2 (fun a o ne e => B'.keep a o ne e) g1 g2 (g3.wk (fun a z => ?_) fun _ _ _ e => e)
      rcases z with z | rfl
      · exact .inl z
      · exact .inr (.inr pm)
end
/-! ### the purse, made within a frame -/
def unpu1 : Option D → Option D
  | some (.pur _) => none
  | s => s
def unpu (δ : DE) : DE := δ.map unpu1
theorem unpu_len (δ : DE) : (unpu δ).length = δ.length := by unfold unpu; rw [List.length_map]
theorem unpu1_cases (s : Option D) : unpu1 s = none ∨ (unpu1 s = s ∧ ∀ p, s ≠ some (.pur p)) := by
  cases s with
  | none => exact .inl rfl
  | some d =>
    cases d with
    | pur p => exact .inl rfl
    | _ => exact .inr ⟨rfl, fun p z => by cases z⟩
theorem unpu_get {δ : DE} {i : Nat} {s : Option D} (h : (unpu δ)[i]? = some s) : s = none ∨ (δ[i]? = some s ∧ ∀ p, s ≠ some (.pur p)) := by
  unfold unpu at h
  rw [List.getElem?_map] at h
  cases e : δ[i]? with
  | none => rw [e] at h; cases h
  | some t =>
    rw [e] at h
    have h : unpu1 t = s := Option.some.inj h
    rcases unpu1_cases t with z | ⟨z, np⟩
    · rw [z] at h; exact .inl h.symm
    · rw [z] at h; subst h; exact .inr ⟨rfl, np⟩
theorem unpu_addrs : ∀ δ : DE, addrs (unpu δ) = addrs δ
  | [] => rfl
  | s :: δ => by
    have ih := unpu_addrs δ
    show addrs (unpu1 s :: unpu δ) = _
    rw [addrs_cons, addrs_cons, ih]
    have e : addr1 (unpu1 s) = addr1 s := by
      cases s with
      | none => rfl
      | some d => cases d <;> rfl
    rw [e]
section
variable {c : Ctx} {δ : DE} {n : Nat} {e : Expr} {pos : Pos} {D' : DEnds} {rest : List Stmt}
theorem wb_purse (i : Nat) {x : Str} {p' : Pos} (m : Nat) (hpu : c.pu = none) (hN : c.X.N.Nodup)
    (h : WE c e δ n fun d n1 => ∃ x y z : Int, d = .new [.int x, .int y, .int z] ∧ (0 ≤ x ∧ x < 10 ^ 400 ∧ 0 ≤ y ∧ y < 2147483629 ∧ 0 ≤ z ∧ z + m ≤ 2 ^ 60) ∧ ∀ q, WB ⟨c.X, c.M, some q⟩ rest (δ.set i (some (.pur q))) m
      { nx := fun δ' _ => D'.nx (unpu δ') 0, rt := fun d _ => D'.rt d 0, bk := fun δ' _ => D'.bk (unpu δ') 0, ct := fun δ' _ => D'.ct (unpu δ') 0 })
    (hi : c.X.N[i]? = some x := by rfl) (hx : Loc c.X.env.scope x := by first | exact Or.inl rfl | exact Or.inr rfl)
    (hs : swapsWith e (some (.Name x p')) pos.line c.X.env = pure false := by rfl) (hf : c.X.fn x = true ∨ c.X.env.scope.names.lookup x = some .local := by first | exact .inl rfl | exact .inr rfl) : WB c (.Assign [.Name x p'] e pos :: rest) δ n D' := ⟨fun b σ H DD S B E => by
  refine pb_to (pss_cons (ps_set hN hi hx pe_w hs hf) pb_w) ?_
  refine h.run σ H _ S fun v H2 d n1 k1 S1 r1 ⟨x, y, z, ed, bd, f⟩ => ?_
  subst ed
  obtain ⟨q, vs, rfl, h0, h1, h2, h3, h4⟩ := r1
  have evs : vs = [V.int x, V.int y, V.int z] := Rps.ints (ns := [x, y, z]) h4
  subst evs
  have B1 := B.kp k1
  have sub : (addrs (δ.set i (some (.pur q)))).Sublist (addrs δ) := addrs_set_sub rfl
  have S3 : SlR ⟨c.X, c.M, some q⟩ (σ.set i (some (.ref q))) H2 (δ.set i (some (.pur q))) m := by
    refine ⟨by simp [S1.len], S1.dom, fun p e => ?_, S1.nd.sublist sub, fun p mm => ⟨(S1.dis p (sub.subset mm)).1, fun e => ?_⟩, fun j s e => ?_⟩
    · cases e
      exact ⟨⟨x, y, z, h3, bd⟩, fun w => h1 (.inl w)⟩
    · cases e
      exact h1 (.inr (.inr (sub.subset mm)))
    · rcases get_set e with ⟨rfl, rfl⟩ | ⟨ne, e⟩
      · have hj : j < σ.length := by
          rw [← S1.len]
          have := (List.getElem?_eq_some_iff.mp e).1
          simpa using this
        exact ⟨by rw [List.getElem?_set_self hj], rfl⟩
      · rw [List.getElem?_set_ne (Ne.symm ne)]
        have g := (S.sl j s e).mv (Av' := Ctx.Av ⟨c.X, c.M, some q⟩ (δ.set i (some (.pur q)))) (H' := H2) (fun a w => ?_) (fun a o na e => k1 a o (fun z => na (.inr (.inl z))) e) fun p hp u e' => k1 p u (S.dis p (mem_addrs2 e hp)).2 e'
        · cases s with
          | none => trivial
          | some d =>
            cases d with
            | pur p => obtain ⟨_, z⟩ := g; rw [hpu] at z; cases z
            | _ => exact g
        · rcases w with w | w | w
          · exact .inl (.inl w)
          · cases w; exact .inr h0
          · exact .inl (.inr (.inr (sub.subset w)))
  have Bq : Bs ⟨c.X, c.M, some q⟩ ⟨b.H0, fun a => b.B a ∨ a = q⟩ H2 (δ.set i (some (.pur q))) :=
    ⟨fun a o nb e => B1.keep a o (fun z => nb (.inl z)) e, fun p mm => (B1.fresh p (sub.subset mm)).imp .inl id, fun p e => by cases e; exact .inr rfl⟩
  have q0 := B.back h0
  have keepq : ∀ a o, ¬ b.B a → b.H0 a = some o → ¬ (b.B a ∨ a = q) := fun a o nb e => by
    rintro (z | rfl)
    · exact nb z
    · rcases q0 with z | z
      · exact nb z
      · rw [z] at e; cases e
  have S4 : ∀ σ' H' δ' n', SlR ⟨c.X, c.M, some q⟩ σ' H' δ' n' → SlR c σ' H' (unpu δ') 0 := fun σ' H' δ' n' S' => by
    refine ⟨by rw [unpu_len]; exact S'.len, S'.dom, (fun p e => by rw [hpu] at e; cases e), by rw [unpu_addrs]; exact S'.nd, fun p mm => by rw [unpu_addrs] at mm; exact ⟨(S'.dis p mm).1, by rw [hpu]; exact fun z => (by cases z)⟩, fun j s e => ?_⟩
    rcases unpu_get e with rfl | ⟨e, np⟩
    · trivial
    · have g := (S'.sl j s e).mv (Av' := c.Av (unpu δ')) (H' := H') (fun a w => ?_) (fun _ _ _ e => e) fun _ _ _ e => e
      · cases s with
        | none => trivial
        | some d =>
          cases d with
          | pur p => exact absurd rfl (np p)
          | _ => exact g
      · rcases w with w | w | w
        · exact .inl (.inl w)
        · rw [hpu] at w; cases w
        · rw [unpu_addrs] at w; exact .inl (.inr (.inr w))
  have B4 : ∀ σ' H' δ' n', SlR ⟨c.X, c.M, some q⟩ σ' H' δ' n' → Bs ⟨c.X, c.M, some q⟩ ⟨b.H0, fun a => b.B a ∨ a = q⟩ H' δ' → Bs c b H' (unpu δ') := fun σ' H' δ' n' S' B' => by
    refine ⟨fun a o nb e => B'.keep a o (keepq a o nb e) e, fun p mm => ?_, (fun p e => by rw [hpu] at e; cases e)⟩
    rw [unpu_addrs] at mm
    rcases B'.fresh p mm with (z | rfl) | z
    · exact .inl z
    · exact absurd rfl (S'.dis p mm).2
    · exact .inr z
  refine (f q).run ⟨b.H0, fun a => b.B a ∨ a = q⟩ _ H2 DD S3 Bq ⟨fun σ' H' δ' n' S' B' z => E.nx _ _ _ _ (S4 _ _ _ _ S') (B4 _ _ _ _ S' B') z, fun σ' H' δ' n' S' B' z => E.bk _ _ _ _ (S4 _ _ _ _ S') (B4 _ _ _ _ S' B') z, fun σ' H' δ' n' S' B' z => E.ct _ _ _ _ (S4 _ _ _ _ S') (B4 _ _ _ _ S' B') z, fun v H' d n' R z => ?_⟩
  have av0 : ∀ a, c.Av [] a → Ctx.Av ⟨c.X, c.M, some q⟩ [] a := fun a w => by
    rcases w with w | w | w
    · exact .inl w
    · rw [hpu] at w; cases w
    · cases w
  refine E.rt v H' d 0 ⟨fun a o nb e => R.keep a o (keepq a o nb e) e, (fun p e => by rw [hpu] at e; cases e), ?_⟩ z
  refine R.rp.to av0 fun p e4 e3 => ?_
  rcases e3 with (w | rfl) | w
  · exact .inl w
  · exact absurd (.inr (.inl rfl)) e4
  · exact .inr w⟩
end
/-! ### the law -/
def spLaw (K : PySem.W.Frag) : Sp := fun vs H Q _ => ∃ (a : Addr) (ns : List Int), vs = [.ref a] ∧ SqL K H a (ns.map V.int) ∧ ns.length ≤ 63 ∧ ∀ H', Q (.bl true) H'
theorem fnL {P : Program} {w : World} {K : PySem.W.Frag} {mg : Str → Option Value} {base : Heap} {x qual : Str} {st : Stmt} {f : Addr} {fd : FuncData} {N : List Str} {a0 : Str} {k : Nat} (F : FunV K x qual st f fd) (S : FnScope N [a0] (defScope st))
    (body : ∀ (cdv : Value) (A : Around) (outer : List Env) (s : Shared) (H : Hp) (E : XK) (M : Addr → Prop) (ns : List Int), Room k (A.deeper (envOfC qual (defScope st) s.heap.objs.size f cdv)) → ns.length ≤ 63 →
      WB ⟨(cxOf CX0 P w K mg base N qual (defScope st) f cdv A outer s H E).nox, M, none⟩ (defBody st) (startD N [.slst (ns.map .int)]) 0 { nx := fun _ _ => False, rt := fun d _ => d = .bl true }) : FnOk P w K mg base CX0 (k + 1) f fd [a0] (spLaw K) := by
  have key : FnOk P w K mg base CX0 (k + 1) f fd [a0] (spD K fun ds Φ => ∃ ns : List Int, ds = [.slst (ns.map .int)] ∧ ns.length ≤ 63 ∧ Φ (.bl true)) := by
    refine fnD F S (fun ds Φ h => by obtain ⟨ns, rfl, _⟩ := h; rfl) fun cdv A outer s H E M ds Φ hr _ h => ?_
    obtain ⟨ns, rfl, hl, f⟩ := h
    exact (body cdv A outer s H E M ns hr hl).imp (fun _ _ z => z.elim) (fun d _ z => by rw [z]; exact f) (fun _ _ z => z) fun _ _ z => z
  refine key.imp fun vs H Q E h => ?_
  obtain ⟨a, ns, rfl, h1, h2, h3⟩ := h
  refine ⟨fun _ => False, [.slst (ns.map .int)], fun d => d = .bl true, fun _ z => z.elim, ⟨.ref a, [], rfl, ⟨a, _, rfl, ?_, Rps.of_ints ns⟩, rfl⟩, ⟨ns, rfl, h2, rfl⟩, fun d v H2 e _ r => ?_⟩
  · rcases h1 with h1 | ⟨o, its, n, h1⟩
    · exact .inl ⟨id, h1⟩
    · exact .inr ⟨o, its, n, h1⟩
  · subst e
    rcases r with ⟨_, r⟩ | ⟨ds, p, us, e, _⟩ | ⟨_, _, _, _, e, _⟩ | ⟨_, _, _, _, _, _, e, _⟩
    · have e : v = .bl true := r
      rw [e]
      exact h3 H2
    · cases e
    · cases e
    · cases e
end DL

/-! DLk: joined tests, cuts, pure comprehensions, small words. -/
namespace DL
open PySem PySem.Spec PyProof.Rows L2
section
variable {c : Ctx} {δ : DE} {n : Nat} {a b e tg iter elt : Expr} {es rest : List Expr} {pos : Pos} {Φ : D → Nat → Prop} {Ψ : Bool → Nat → Prop} {D' : DEnds} {st : Stmt} {sts : List Stmt}
/-- the rest of an and, told once: k2 where it is asked -/
theorem ww_andJ (h : WT c a δ n fun k n1 => ∃ k2, (k = true → WW c (.BoolOp .And (b :: rest) pos) δ n1 fun k' n2 => k' = k2 ∧ n2 = n1) ∧ Ψ (k && k2) n1) : WW c (.BoolOp .And (a :: b :: rest) pos) δ n Ψ :=
  ww_and ⟨fun σ H Q S q => h.run σ H Q S fun k H2 n1 k1 S1 ⟨k2, h1, h2⟩ => q k H2 n1 k1 S1 ⟨fun e => ⟨fun σ' H' Q' S' q' => (h1 e).run σ' H' Q' S' fun b' H3 n3 k3 S3 ⟨e1, e2⟩ => q' b' H3 n3 k3 S3 (by subst e1 e2; rw [e] at h2; simpa using h2)⟩, fun e => by rw [e] at h2; simpa using h2⟩⟩
theorem ww_orJ (h : WT c a δ n fun k n1 => ∃ k2, (k = false → WW c (.BoolOp .Or (b :: rest) pos) δ n1 fun k' n2 => k' = k2 ∧ n2 = n1) ∧ Ψ (k || k2) n1) : WW c (.BoolOp .Or (a :: b :: rest) pos) δ n Ψ :=
  ww_or ⟨fun σ H Q S q => h.run σ H Q S fun k H2 n1 k1 S1 ⟨k2, h1, h2⟩ => q k H2 n1 k1 S1 ⟨fun e => ⟨fun σ' H' Q' S' q' => (h1 e).run σ' H' Q' S' fun b' H3 n3 k3 S3 ⟨e1, e2⟩ => q' b' H3 n3 k3 S3 (by subst e1 e2; rw [e] at h2; simpa using h2)⟩, fun e => by rw [e] at h2; simpa using h2⟩⟩
/-- as values -/
theorem we_andJ (h : WE c a δ n fun x n1 => ∃ k k2, x = .bl k ∧ (k = true → WE c (.BoolOp .And (b :: rest) pos) δ n1 fun y n2 => y = .bl k2 ∧ n2 = n1) ∧ Φ (.bl (k && k2)) n1) : WE c (.BoolOp .And (a :: b :: rest) pos) δ n Φ :=
  we_and ⟨fun σ H Q S q => h.run σ H Q S fun v H2 x n1 k1 S1 r ⟨k, k2, e0, h1, h2⟩ => q v H2 x n1 k1 S1 r ⟨k, e0, fun e => ⟨fun σ' H' Q' S' q' => (h1 e).run σ' H' Q' S' fun b' H3 y n3 k3 S3 r3 ⟨e1, e2⟩ => q' b' H3 y n3 k3 S3 r3 (by subst e1 e2; rw [e] at h2; simpa using h2)⟩, fun e => by rw [e] at h2; simpa using h2⟩⟩
theorem we_orJ (h : WE c a δ n fun x n1 => ∃ k k2, x = .bl k ∧ (k = false → WE c (.BoolOp .Or (b :: rest) pos) δ n1 fun y n2 => y = .bl k2 ∧ n2 = n1) ∧ Φ (.bl (k || k2)) n1) : WE c (.BoolOp .Or (a :: b :: rest) pos) δ n Φ :=
  we_or ⟨fun σ H Q S q => h.run σ H Q S fun v H2 x n1 k1 S1 r ⟨k, k2, e0, h1, h2⟩ => q v H2 x n1 k1 S1 r ⟨k, e0, fun e => ⟨fun σ' H' Q' S' q' => (h1 e).run σ' H' Q' S' fun b' H3 y n3 k3 S3 r3 ⟨e1, e2⟩ => q' b' H3 y n3 k3 S3 r3 (by subst e1 e2; rw [e] at h2; simpa using h2)⟩, fun e => by rw [e] at h2; simpa using h2⟩⟩
/-- a statement, then what follows, with a word between them -/
theorem wb_cut (Mid : DE → Nat → Prop) (h : WS c st δ n { D' with nx := Mid }) (k : ∀ δ' n', Mid δ' n' → WB c sts δ' n' D') : WB c (st :: sts) δ n D' :=
  wb_cons ⟨fun b σ H DD S B E => h.run b σ H DD S B ⟨fun σ' H' δ' n' S' B' m => E.nx σ' H' δ' n' S' B' (k δ' n' m), E.bk, E.ct, E.rt⟩⟩
theorem ws_expr (h : WE c e δ n fun _ n1 => D'.nx δ n1) (hs : swapsWith e none pos.line c.X.env = pure false := by rfl) : WS c (.Expr e pos) δ n D' := ⟨fun b σ H DD S B E => by
  refine ps_to (ps_expr pe_w hs) ?_
  exact h.run σ H _ S fun v H2 d n1 k1 S1 _ f => E.nx σ H2 δ n1 S1 (B.kp k1) f⟩
theorem wt_dnotin (hu : c.X.A.units + 1 < cLine) (h : WE c a δ n fun y n1 => WE c b δ n1 fun x n2 => ∃ r : Option D, GetR x y r ∧ Ψ (!r.isSome) n2) (hm : behindInMarks .NotIn b = false := by rfl) : WT c (.Compare a [.NotIn] [b] pos) δ n Ψ := ⟨fun σ H Q S q => by
  refine pt_to (pt_cmp (pc_dnotin hu pe_w pe_w) hm) ?_
  refine h.run σ H _ S fun v H2 y n1 k1 S1 r1 h2 => ?_
  refine h2.run σ H2 _ S1 fun u H3 x n2 k2 S2 r2 ⟨r, g, f⟩ => ?_
  obtain ⟨a, o, rfl, g1, g2, g3⟩ := getR_ok (σ := σ) g r2 (r1.kp Ctx.puAv k2)
  have e : o.isSome = r.isSome := by
    cases r with
    | none => rw [g3 rfl]; rfl
    | some d => obtain ⟨w, rfl, _⟩ := g2 d rfl; rfl
  exact ⟨a, o, rfl, g1, !o.isSome, rfl, by rw [e]; exact q _ H3 n2 (k1.trans k2) S2 f⟩⟩
theorem joinV {R S : Bool → Bool → Prop} {k k2 : Bool} (h1 : R k k2) (h2 : S k k2) : ∃ k' k2', D.bl k = .bl k' ∧ R k' k2' ∧ S k' k2' := ⟨k, k2, rfl, h1, h2⟩
theorem joinT {R S : Bool → Prop} {k2 : Bool} (h1 : R k2) (h2 : S k2) : ∃ k2', R k2' ∧ S k2' := ⟨k2, h1, h2⟩
/-- a comprehension that maps and filters -/
theorem lcPure {ifs : List Expr} {scope : Scope} {is vs : List Nat} (t : D → Bool) (f : D → D)
    (h : WI c tg iter δ n fun items n1 => items.length ≤ 16000000 ∧ (∀ (i : Nat) (d : D), items[i]? = some d → ∀ s H0 C cl fp M, WG (blkC c scope s H0 C cl fp M) tg is d (wipeD δ vs) n1 fun δ2 n2 => n2 = n1 ∧
      ∀ s H0 C cl fp M, WTs (blkC c scope s H0 C cl fp M) ifs δ2 n1 fun b n3 => n3 = n1 ∧ b = t d ∧ (b = true → ∀ s H0 C cl fp M, WE (blkC c scope s H0 C cl fp M) elt δ2 n1 fun y n4 => n4 = n1 ∧ okEl y = true ∧ frz y = f d)) ∧
      Φ (.new ((items.filter t).map f)) n1) : LcOk c elt tg iter ifs scope is vs δ n Φ := by
  refine ⟨fun σ H R S q => h.run σ H R S fun J H2 items n1 k1 S1 it ⟨hl, hi, he⟩ => q J H2 items n1 k1 S1 it ⟨fun i acc m => acc = ((items.take i).filter t).map f ∧ m = n1, ⟨by simp, rfl⟩, ?_, ?_⟩⟩
  · rintro i d acc m hd ⟨rfl, rfl⟩ s H0 C cl fp M
    have ht : items.take (i + 1) = items.take i ++ [d] := by rw [List.take_succ, hd]; rfl
    refine ⟨fun σ H v Q S r q => (hi i d hd s H0 C cl fp M).run σ H v Q S r fun σ' δ' n' S' sb ag ⟨e1, h2⟩ => q σ' δ' n' S' sb ag ?_⟩
    subst e1
    intro s H0 C cl fp M
    refine ⟨fun σ H Q S q => (h2 s H0 C cl fp M).run σ H Q S fun b H3 n3 k3 S3 ⟨e3, e4, h4⟩ => q b H3 n3 k3 S3 ⟨fun eb s H0 C cl fp M => ?_, fun eb => ?_⟩⟩
    · subst e3
      refine ⟨fun σ H Q S q => (h4 eb s H0 C cl fp M).run σ H Q S fun v H5 y n5 k5 S5 r5 ⟨e5, o5, f5⟩ => q v H5 y n5 k5 S5 r5 ⟨o5, ?_, ?_, e5⟩⟩
      · have z : i < items.length := (List.getElem?_eq_some_iff.mp hd).1
        rw [List.length_map]
        refine Nat.lt_of_le_of_lt (List.length_filter_le _ _) ?_
        rw [List.length_take]
        omega
      · rw [ht, List.filter_append, List.map_append, f5]
        have z : t d = true := e4.symm.trans eb
        simp [List.filter_cons, z]
    · refine ⟨?_, e3⟩
      have z : t d = false := e4.symm.trans eb
      rw [ht, List.filter_append]
      simp [List.filter_cons, z]
  · rintro acc m ⟨rfl, rfl⟩
    rw [List.take_length]
    exact he
end
/-- an item's place -/
theorem ixN_lt {n i : Nat} (h : i < n) : ixN n (i : Int) = some i := by
  unfold ixN
  rw [if_pos (by omega), if_pos (by omega)]
  simp
theorem atI_of {α : Type} {xs : List α} {i : Int} {x : α} (h0 : 0 ≤ i) (h : xs[i.toNat]? = some x) : atI xs i = some x := by
  have e : i = (i.toNat : Int) := by omega
  rw [e]
  exact atI_nat (by simpa using h)
end DL

/-! DLl: constants of a module, len(set(..)). -/
namespace DL
open PySem PySem.Spec PyProof.Rows L2
/-- a module's constant that stands for d -/
structure GK (K : PySem.W.Frag) (mg : Str → Option Value) (x : Str) (d : D) : Prop where
  ex : ∃ (u : Value) (v : V), mg x = some u ∧ RelV v u ∧ ∀ (Av : Addr → Prop) (H : Hp), Rp K Av H d v
section
variable {c : Ctx} {δ : DE} {n : Nat} {a b e tg iter elt : Expr} {es rest : List Expr} {pos : Pos} {Φ : D → Nat → Prop} {Ψ : Bool → Nat → Prop} {D' : DEnds} {st : Stmt} {sts : List Stmt}
theorem we_glob {x : Str} {d : D} (G : GK c.X.K c.X.mg x d) (hg : Gl c.X x) (h : Φ d n) (hd : (x == ("__debug__" : Str)) = false := by decide) : WE c (.Name x pos) δ n Φ := ⟨fun σ H Q S q => by
  obtain ⟨u, v, hm, r, hr⟩ := G.ex
  refine pe_to (pe_glob hg hm r hd) ?_
  exact q v H d n Kp.refl S (RpE.of (hr _ _)) h⟩
theorem we_lenSet {p p2 q' : Pos} (hm : c.X.mg "len" = none) (hm2 : c.X.mg "set" = none) (hg : Gl c.X "len") (hg2 : Gl c.X "set") (hc : c.X.calm = true)
    (h : WE c e δ n fun x n1 => ∃ ns : List Int, lstOf x = some (ns.map D.int) ∧ ns.Nodup ∧ ns.length ≤ 4000 ∧ Φ (.int (ns.length : Nat)) n1)
    (na : starEach [e] c.X.env = (false, eval e c.X.env) :: starEach [] c.X.env := by rfl) : WE c (.Call (.Name "len" p) [.Call (.Name "set" p2) [e] [] q'] [] pos) δ n Φ := ⟨fun σ H Q S q => by
  refine pe_to (RZ.pe_lenSetI hg hm hg2 hm2 pe_w hc na) ?_
  refine h.run σ H _ S fun v H2 x n1 k1 S1 r1 ⟨ns, e1, nd, hl, f⟩ => ?_
  obtain ⟨p, vs, rfl, h3, h4⟩ := r1.lstOf e1
  have h5 := h4.ints
  subst h5
  exact ⟨p, ns, rfl, .of h3, nd, hl, q _ H2 (.int (ns.length : Nat)) n1 k1 S1 rfl f⟩⟩
end
end DL

/-! DLm: the purse read and written. -/
namespace DL
open PySem PySem.Spec PyProof.Rows L2
/-- what the purse's number at j is known to be; n draws left -/
def PurB (j : Int) (n : Nat) (v : Int) : Prop :=
  (j = 0 ∧ 0 ≤ v ∧ v < 10 ^ 400) ∨ (j = 1 ∧ 0 ≤ v ∧ v < 2147483629) ∨ (j = 2 ∧ 0 ≤ v ∧ v + n ≤ 2 ^ 60)
theorem PurB.p0 {n : Nat} {v : Int} (h : PurB 0 n v) : 0 ≤ v ∧ v < 10 ^ 400 := by
  rcases h with ⟨_, h⟩ | ⟨e, _⟩ | ⟨e, _⟩
  · exact h
  · cases e
  · cases e
theorem PurB.p1 {n : Nat} {v : Int} (h : PurB 1 n v) : 0 ≤ v ∧ v < 2147483629 := by
  rcases h with ⟨e, _⟩ | ⟨_, h⟩ | ⟨e, _⟩
  · cases e
  · exact h
  · cases e
theorem PurB.p2 {n : Nat} {v : Int} (h : PurB 2 n v) : 0 ≤ v ∧ v + n ≤ 2 ^ 60 := by
  rcases h with ⟨e, _⟩ | ⟨e, _⟩ | ⟨_, h⟩
  · cases e
  · cases e
  · exact h
section
variable {c : Ctx} {δ : DE} {n : Nat} {a b e : Expr} {pos : Pos} {Φ : D → Nat → Prop} {D' : DEnds} {q : Addr}
theorem we_pix (h : WE c a δ n fun x n1 => WE c b δ n1 fun y n2 => ∃ p j, x = .pur p ∧ y = .int j ∧ (0 ≤ j ∧ j ≤ 2) ∧ ∀ v, PurB j n2 v → Φ (.int v) n2) (hs : PlainIx b := by exact fun _ _ => rfl) : WE c (.Subscript a b pos) δ n Φ := ⟨fun σ H Q S q => by
  refine pe_to (pe_ix ix_list pe_w pe_w hs) ?_
  refine h.run σ H _ S fun v H2 x n1 k1 S1 r1 h2 => ?_
  refine h2.run σ H2 _ S1 fun u H3 y n2 k2 S2 r2 ⟨p, j, e1, e2, ⟨j0, j2⟩, f⟩ => ?_
  subst e1 e2
  obtain ⟨rfl, hp⟩ := r1
  have e3 : u = .int j := r2
  subst e3
  obtain ⟨x, y, z, h0, hb⟩ := (S2.pur p hp).1
  have g : ∀ v, PurB j n2 v → Q (.int v) H3 := fun v hv => q (.int v) H3 (.int v) n2 (k1.trans k2) S2 rfl (f v hv)
  have sq : SqL c.X.K H3 p [.int x, .int y, .int z] := .of h0
  rcases (show j = 0 ∨ j = 1 ∨ j = 2 by omega) with rfl | rfl | rfl
  · exact ⟨p, _, 0, .int x, rfl, rfl, sq, rfl, g x (.inl ⟨rfl, hb.1, hb.2.1⟩)⟩
  · exact ⟨p, _, 1, .int y, rfl, rfl, sq, rfl, g y (.inr (.inl ⟨rfl, hb.2.2.1, hb.2.2.2.1⟩))⟩
  · exact ⟨p, _, 2, .int z, rfl, rfl, sq, rfl, g z (.inr (.inr ⟨rfl, hb.2.2.2.2.1, hb.2.2.2.2.2⟩))⟩⟩
/-- purse[j] = e: the first number, or the last one for a draw -/
theorem ws_pset (i : Nat) {x : Str} {ix : Expr} {px sp : Pos} (hd : δ[i]? = some (some (.pur q))) (h : WE c e δ n fun d n1 => ∃ w, d = .int w ∧ WE c ix δ n1 fun y n2 => ∃ (j : Int) (m : Nat), y = .int j ∧ m ≤ n2 ∧ ((j = 0 ∧ 0 ≤ w ∧ w < 10 ^ 400) ∨ (j = 2 ∧ 0 ≤ w ∧ w + m ≤ 2 ^ 60)) ∧ D'.nx δ m)
    (hN : c.X.N[i]? = some x := by rfl) (hv : Vis c.X.env.scope x := by first | exact Or.inl rfl | exact Or.inr (Or.inl rfl) | exact Or.inr (Or.inr rfl)) (h1 : (x == ("__debug__" : Str)) = false := by decide) (h2 : (x == ("__classdict__" : Str)) = false := by decide)
    (ha : ∀ v, assign (.Subscript (.Name x px) ix sp) c.X.env v = (do
      let ov ← holding [v] (eval (.Name x px) c.X.env)
      let iv ← holding [v, ov] (eval ix c.X.env)
      standAt sp
      holding [v, ov, iv] (setItem ov iv v)
      release [v, ov, iv] []) := by intro _; rfl)
    (hs : swapsWithSole [.Subscript (.Name x px) ix sp] e pos.line c.X.env = pure false := by rfl) (hw : swappedStores [.Subscript (.Name x px) ix sp] e c.X.env = pure none := by rfl)
    (h3 : (assignEach [.Subscript (.Name x px) ix sp] c.X.env).map (·.2) = [assign (.Subscript (.Name x px) ix sp) c.X.env] := by rfl) :
    WS c (.Assign [.Subscript (.Name x px) ix sp] e pos) δ n D' := ⟨fun b σ H DD S B E => by
  refine ps_to (ps_asg pe_w (pg_sub (pe_var hN hv h1 h2) pe_w set_list ha) hs hw h3) ?_
  refine h.run σ H _ S fun v H2 d n1 k1 S1 r1 ⟨w, e0, h4⟩ => ?_
  subst e0
  have e0 : v = .int w := r1
  subst e0
  obtain ⟨ev, hp⟩ := S1.sl i _ hd
  refine ⟨.ref q, ev, ?_⟩
  refine h4.run σ H2 _ S1 fun u H3 y n2 k2 S2 r2 ⟨j, m, e1, hm, hj, f⟩ => ?_
  subst e1
  have e1 : u = .int j := r2
  subst e1
  obtain ⟨⟨x0, y0, z0, h0, hb⟩, nM⟩ := S2.pur q hp
  have kq : ∀ o, Kp c.pu H3 (upd H3 q o) := fun o p o' ne e => by
    have hne : p ≠ q := fun z => ne (by rw [z]; exact hp)
    rw [upd_ne hne]; exact e
  have fin : ∀ x1 z1 : Int, (0 ≤ x1 ∧ x1 < 10 ^ 400 ∧ 0 ≤ z1 ∧ z1 + m ≤ 2 ^ 60) → SlR c σ (upd H3 q (.lst [.int x1, .int y0, .int z1])) δ m ∧ Bs c b (upd H3 q (.lst [.int x1, .int y0, .int z1])) δ := fun x1 z1 g =>
    ⟨S2.kp (kq _) fun p e => by
      obtain rfl : q = p := Option.some.inj (hp.symm.trans e)
      exact ⟨x1, y0, z1, upd_same, g.1, g.2.1, hb.2.2.1, hb.2.2.2.1, g.2.2.1, g.2.2.2⟩, ((B.kp k1).kp k2).kp (kq _)⟩
  rcases hj with ⟨rfl, g1, g2⟩ | ⟨rfl, g1, g2⟩
  · obtain ⟨S', B'⟩ := fin w z0 ⟨g1, g2, hb.2.2.2.2.1, by have := hb.2.2.2.2.2; omega⟩
    exact ⟨q, _, 0, 0, rfl, rfl, h0, rfl, E.nx _ _ _ m S' B' f⟩
  · obtain ⟨S', B'⟩ := fin x0 w ⟨hb.1, hb.2.1, g1, g2⟩
    exact ⟨q, _, 2, 2, rfl, rfl, h0, rfl, E.nx _ _ _ m S' B' f⟩⟩
end
end DL

/-! DLn: loops that change a few slots only. -/
namespace DL
open PySem PySem.Spec PyProof.Rows L2
def setS : DE → List Nat → List (Option D) → DE
  | δ, j :: js, s :: ss => setS (δ.set j s) js ss
  | δ, _, _ => δ
section
variable {c : Ctx} {δ : DE} {n : Nat} {t tg iter : Expr} {pos : Pos} {D' : DEnds} {body : List Stmt}
theorem ws_forK (js : List Nat) {is : List Nat} (hp : PassesOwn (model c.X.prog c.X.w) c.X.A c.X.env c.X.xe) (hc : c.X.calm = true)
    (h : WI c tg iter δ n fun items n1 => ∃ (Iv : Nat → List (Option D) → Nat → Prop) (s0 : List (Option D)), (δ = setS δ js s0 ∧ Iv 0 s0 n1) ∧
      (∀ i d ss n', items[i]? = some d → Iv i ss n' → WG c tg is d (setS δ js ss) n' fun δ2 n2 => WB c body δ2 n2 { D' with nx := fun δ3 n3 => ∃ s1, δ3 = setS δ js s1 ∧ Iv (i + 1) s1 n3, ct := fun δ3 n3 => ∃ s1, δ3 = setS δ js s1 ∧ Iv (i + 1) s1 n3, bk := D'.nx }) ∧
      ∀ ss n', Iv items.length ss n' → D'.nx (setS δ js ss) n')
    (hs : ∀ x, foldedSetIterable iter c.X.env x = pure x := by intro _; rfl) : WS c (.For tg iter body [] pos) δ n D' :=
  ws_for hp hc ⟨fun σ H R S q => h.run σ H R S fun J H2 items n1 k1 S1 it ⟨Iv, s0, ⟨e0, h0⟩, h1, h2⟩ => q J H2 items n1 k1 S1 it ⟨fun i δ' n' => ∃ ss, δ' = setS δ js ss ∧ Iv i ss n', ⟨s0, e0, h0⟩, fun i d δ' n' hd ⟨ss, e, g⟩ => by subst e; exact h1 i d ss n' hd g, fun δ' n' ⟨ss, e, g⟩ => by subst e; exact h2 ss n' g⟩⟩ hs
theorem ws_whileK (js : List Nat) (hp : PassesOwn (model c.X.prog c.X.w) c.X.A c.X.env c.X.xe) (Iv : Nat → List (Option D) → Nat → Prop) (m0 : Nat) (s0 : List (Option D)) (h0 : δ = setS δ js s0 ∧ Iv m0 s0 n)
    (h : ∀ m ss n', Iv m ss n' → WT c t (setS δ js ss) n' fun k n1 => (k = true → WB c body (setS δ js ss) n1 { D' with nx := fun δ2 n2 => ∃ s1, δ2 = setS δ js s1 ∧ ∃ m', m' < m ∧ Iv m' s1 n2, ct := fun δ2 n2 => ∃ s1, δ2 = setS δ js s1 ∧ ∃ m', m' < m ∧ Iv m' s1 n2, bk := D'.nx }) ∧ (k = false → D'.nx (setS δ js ss) n1)) : WS c (.While t body [] pos) δ n D' :=
  ws_while hp (fun m δ' n' => ∃ ss, δ' = setS δ js ss ∧ Iv m ss n') m0 ⟨s0, h0.1, h0.2⟩ fun m δ' n' ⟨ss, e, g⟩ => by
    subst e
    refine ⟨fun σ H Q S q => (h m ss n' g).run σ H Q S fun b H2 n2 k2 S2 ⟨f1, f2⟩ => q b H2 n2 k2 S2 ⟨fun z => (f1 z).imp ?_ (fun _ _ z => z) (fun _ _ z => z) ?_, f2⟩⟩
    · rintro δ2 n3 ⟨s1, e1, m', lt, g'⟩
      exact ⟨m', lt, s1, e1, g'⟩
    · rintro δ2 n3 ⟨s1, e1, m', lt, g'⟩
      exact ⟨m', lt, s1, e1, g'⟩
/-- the slots written out -/
theorem wb_norm {sts : List Stmt} {δ' : DE} (e : δ = δ') (h : WB c sts δ' n D') : WB c sts δ n D' := by rw [e]; exact h
end
end DL

/-! DLo: max, min, sum of a list of ints. -/
namespace DL
open PySem PySem.Spec PyProof.Rows L2
section
variable {c : Ctx} {δ : DE} {n : Nat} {e : Expr} {pos : Pos} {Φ : D → Nat → Prop}
def MaxL : List D → (D → Prop) → Prop := fun ds Φ => ∃ (x : D) (ns : List Int), ds = [x] ∧ lstOf x = some (ns.map D.int) ∧ ns ≠ [] ∧ ∀ m, m ∈ ns → (∀ y ∈ ns, y ≤ m) → Φ (.int m)
def MinL : List D → (D → Prop) → Prop := fun ds Φ => ∃ (x : D) (ns : List Int), ds = [x] ∧ lstOf x = some (ns.map D.int) ∧ ns ≠ [] ∧ ∀ m, m ∈ ns → (∀ y ∈ ns, m ≤ y) → Φ (.int m)
def SumL : List D → (D → Prop) → Prop := fun ds Φ => ∃ (x : D) (ns : List Int), ds = [x] ∧ lstOf x = some (ns.map D.int) ∧ Φ (.int ns.sum)
theorem maxL_ok : RCok c δ (rMax c.X.K) MaxL := by
  intro σ H Hs n ds vs Φ Q S hs r h q
  obtain ⟨x, ns, rfl, e, ne, f⟩ := h
  obtain ⟨v, rfl, r1⟩ := paired1 r
  obtain ⟨p, us, rfl, h1, h2⟩ := r1.lstOf e
  have h3 := h2.ints
  subst h3
  exact ⟨p, ns, rfl, .of h1, List.length_pos_iff.mpr ne, fun m m1 m2 => q _ H (.int m) (Same.refl H) rfl (f m m1 m2)⟩
theorem minL_ok : RCok c δ (rMin c.X.K) MinL := by
  intro σ H Hs n ds vs Φ Q S hs r h q
  obtain ⟨x, ns, rfl, e, ne, f⟩ := h
  obtain ⟨v, rfl, r1⟩ := paired1 r
  obtain ⟨p, us, rfl, h1, h2⟩ := r1.lstOf e
  have h3 := h2.ints
  subst h3
  exact ⟨p, ns, rfl, .of h1, List.length_pos_iff.mpr ne, fun m m1 m2 => q _ H (.int m) (Same.refl H) rfl (f m m1 m2)⟩
theorem sumL_ok : RCok c δ (rSum c.X.K) SumL := by
  intro σ H Hs n ds vs Φ Q S hs r h q
  obtain ⟨x, ns, rfl, e, f⟩ := h
  obtain ⟨v, rfl, r1⟩ := paired1 r
  obtain ⟨p, us, rfl, h1, h2⟩ := r1.lstOf e
  have h3 := h2.ints
  subst h3
  exact ⟨p, ns, rfl, .of h1, q _ H (.int ns.sum) (Same.refl H) rfl f⟩
theorem we_maxL {p : Pos} (hc : c.X.calm = true) (hm : c.X.mg "max" = none) (hg : Gl c.X "max") (h : WA c [e] δ n fun ds n1 => MaxL ds fun z => Φ z n1) (he : starEach [e] c.X.env = (false, eval e c.X.env) :: starEach [] c.X.env := by rfl) (hpl : (backTo pos (starEach [] c.X.env)).any (·.1) = false := by rfl) :
    WE c (.Call (.Name "max" p) [e] [] pos) δ n Φ := we_callB (cr_max hc) maxL_ok hm hg (by decide +kernel) h (he := he) (hpl := hpl)
theorem we_minL {p : Pos} (hc : c.X.calm = true) (hm : c.X.mg "min" = none) (hg : Gl c.X "min") (h : WA c [e] δ n fun ds n1 => MinL ds fun z => Φ z n1) (he : starEach [e] c.X.env = (false, eval e c.X.env) :: starEach [] c.X.env := by rfl) (hpl : (backTo pos (starEach [] c.X.env)).any (·.1) = false := by rfl) :
    WE c (.Call (.Name "min" p) [e] [] pos) δ n Φ := we_callB (cr_min hc) minL_ok hm hg (by decide +kernel) h (he := he) (hpl := hpl)
theorem we_sumL {p : Pos} (hc : c.X.calm = true) (hm : c.X.mg "sum" = none) (hg : Gl c.X "sum") (h : WA c [e] δ n fun ds n1 => SumL ds fun z => Φ z n1) (he : starEach [e] c.X.env = (false, eval e c.X.env) :: starEach [] c.X.env := by rfl) (hpl : (backTo pos (starEach [] c.X.env)).any (·.1) = false := by rfl) :
    WE c (.Call (.Name "sum" p) [e] [] pos) δ n Φ := we_callB (cr_sum hc) sumL_ok hm hg (by decide +kernel) h (he := he) (hpl := hpl)
variable {a b e3 : Expr} {Ψ : Bool → Nat → Prop} {op op' : CmpOp} {p p' : Int → Int → Bool}
/-- a op b op' c of ints; the third is told apart: it is pure -/
theorem chain_in (h : WE c a δ n fun x n1 => WE c b δ n1 fun y n2 => ∃ i j k, x = .int i ∧ y = .int j ∧ WE c e3 δ n2 (fun z n3 => z = .int k ∧ n3 = n2) ∧ Φ (.bl (p i j && p' j k)) n2)
    {σ : L2.St} {H : Hp} {Q : VK} (S : SlR c σ H δ n) (q : ∀ v H2 d n2, Kp c.pu H H2 → SlR c σ H2 δ n2 → RpE c.X.K (c.Av δ) (c.Ow δ) c.pu H H2 d v → Φ d n2 → Q v H2) :
    tChain (rI0 fun i j => .bl (p i j)) (rI0 fun i j => .bl (p' i j)) (wE c.X a) (wE c.X b) (wE c.X e3) σ H Q := by
  refine h.run σ H _ S fun v H2 x n1 k1 S1 r1 h2 => ?_
  refine h2.run σ H2 _ S1 fun u H3 y n2 k2 S2 r2 ⟨i, j, k, e1, e2, h3, f⟩ => ?_
  subst e1 e2
  have e1 : v = .int i := r1
  have e2 : u = .int j := r2
  subst e1 e2
  refine ⟨i, j, rfl, rfl, p i j, rfl, ?_⟩
  by_cases hp : p i j = true
  · rw [if_pos hp]
    refine h3.run σ H3 _ S2 fun w H4 z n3 k3 S3 r3 ⟨e4, e5⟩ => ?_
    subst e4 e5
    have e6 : w = .int k := r3
    subst e6
    refine ⟨j, k, rfl, rfl, q _ H4 (.bl (p' j k)) n3 ((k1.trans k2).trans k3) S3 rfl ?_⟩
    rw [hp, Bool.true_and] at f
    exact f
  · rw [if_neg hp]
    refine q _ H3 (.bl false) n2 (k1.trans k2) S2 rfl ?_
    rw [Bool.eq_false_iff.mpr hp, Bool.false_and] at f
    exact f
theorem we_chainI (ho : OpR c.X (compareOp op) (rI0 fun i j => .bl (p i j))) (ho' : OpR c.X (compareOp op') (rI0 fun i j => .bl (p' i j)))
    (h : WE c a δ n fun x n1 => WE c b δ n1 fun y n2 => ∃ i j k, x = .int i ∧ y = .int j ∧ WE c e3 δ n2 (fun z n3 => z = .int k ∧ n3 = n2) ∧ Φ (.bl (p i j && p' j k)) n2)
    (hm : lastMarks [op, op'] [b, e3] = false := by with_unfolding_all rfl) : WE c (.Compare a [op, op'] [b, e3] pos) δ n Φ :=
  ⟨fun σ H Q S q => pe_to (pe_chain ho ho' pe_w pe_w pe_w hm) (chain_in h S q)⟩
theorem wt_chainI (ho : OpR c.X (compareOp op) (rI0 fun i j => .bl (p i j))) (ho' : OpR c.X (compareOp op') (rI0 fun i j => .bl (p' i j)))
    (h : WE c a δ n fun x n1 => WE c b δ n1 fun y n2 => ∃ i j k, x = .int i ∧ y = .int j ∧ WE c e3 δ n2 (fun z n3 => z = .int k ∧ n3 = n2) ∧ Ψ (p i j && p' j k) n2)
    (hm : lastMarks [op, op'] [b, e3] = false := by with_unfolding_all rfl) : WT c (.Compare a [op, op'] [b, e3] pos) δ n Ψ :=
  ⟨fun σ H Q S q => pt_to (pt_chain ho ho' pe_w pe_w pe_w hm) (chain_in (Φ := fun z m => ∃ k, z = .bl k ∧ Ψ k m) (p := p) (p' := p')
    ⟨fun σ H Q S q => h.run σ H Q S fun v H2 x n1 k1 S1 r1 h2 => q v H2 x n1 k1 S1 r1 ⟨fun σ H Q S q => h2.run σ H Q S fun v H2 y n2 k2 S2 r2 ⟨i, j, k, e1, e2, h3, f⟩ => q v H2 y n2 k2 S2 r2 ⟨i, j, k, e1, e2, h3, _, rfl, f⟩⟩⟩ S
    fun v H2 d n2 k2 S2 r2 ⟨k, e, f⟩ => by subst e; exact ⟨k, r2, q k H2 n2 k2 S2 f⟩)⟩
theorem chain3 {R : Int → Prop} {S : Int → Int → Int → Prop} {i j k : Int} (h : R k) (g : S i j k) : ∃ i' j' k' : Int, D.int i = .int i' ∧ D.int j = .int j' ∧ R k' ∧ S i' j' k' := ⟨i, j, k, rfl, rfl, h, g⟩
end
/-- the scope of a comprehension that a statement assigns -/
def lcScope : Expr → Scope
  | .ListComp _ _ sc _ => sc
  | _ => default
def asgE : Stmt → Expr
  | .Assign _ e _ => e
  | .Return (some e) _ => e
  | _ => .Constant .none 0 ⟨0, 0, 0, 0⟩
end DL

/-! DLp: defs that are known to run with no repr open (guards []), so that repr of nested data is exact; is True, is False. -/
namespace DL
open PySem PySem.Spec PyProof.Rows L2

/-! ### promises that hold where no repr is open -/
structure GOk (P : Program) (w : World) (K : PySem.W.Frag) (mg : Str → Option Value) (base : Heap) (CX : CXT) (k : Nat) (f : Addr) (fd : FuncData) (ps : List Str) (sp : Sp) : Prop where
  gl : ∀ vs H Q E, sp vs H Q E → vs.length = ps.length
  go : ∀ (A : Around) (outer : List Env) (s : Shared) (H : Hp) (ag : Args) (us : List Value) (vs : List V) (Q : VK) (E : XK), A.guards = some [] → Room k A → Env0 P w K mg base A outer s H →
    BindsTo s fd ag (ps.zip us) → Vals vs us → sp vs H Q E → codeAny (model P w) A (.call (.ref f) ag) (CR CX outer P w H s Q E) s
section
variable {P : Program} {w : World} {K : PySem.W.Frag} {mg : Str → Option Value} {base : Heap} {CX : CXT} {k : Nat} {f : Addr} {fd : FuncData} {ps : List Str} {sp : Sp}
theorem GOk.imp {sp' : Sp} (G : GOk P w K mg base CX k f fd ps sp) (h : ∀ vs H Q E, sp' vs H Q E → sp vs H Q E) : GOk P w K mg base CX k f fd ps sp' where
  gl := fun vs H Q E z => G.gl vs H Q E (h vs H Q E z)
  go := fun A l s H ag us vs Q E g r e b v z => G.go A l s H ag us vs Q E g r e b v (h vs H Q E z)
theorem goBody {x qual : Str} {st : Stmt} {N : List Str} (F : FunV K x qual st f fd) (S : FnScope N ps (defScope st)) (gl : ∀ vs H Q E, sp vs H Q E → vs.length = ps.length)
    (hb : ∀ (cdv : Value) (A : Around) (outer : List Env) (s : Shared) (H : Hp) (vs : List V) (Q : VK) (E : XK), A.guards = some [] → Room k (A.deeper (envOfC qual (defScope st) s.heap.objs.size f cdv)) → sp vs H Q E →
      ∃ t, PSs (cxOf CX P w K mg base N qual (defScope st) f cdv A outer s H E) (defBody st) t ∧ t { nx := fun _ H' => Q .non H', rt := Q } (L2.start N vs) H) : GOk P w K mg base CX (k + 1) f fd ps sp := by
  obtain ⟨oc, od, dV, kV, dc, pm, an, cdv, ct, osl, rfl, lk, hcode⟩ := F.ex
  refine ⟨gl, fun A l s H ag us vs Q E g room e0 bnd rv z => ?_⟩
  have hlen := gl _ _ _ _ z
  have inK : K.In s.heap := e0.mod.kin.keeps fun a o h => (e0.bs a o h).1
  have nolim : s.heap.NoLimit := e0.mod.nolimit.keeps fun a o h => (e0.bs a o h).1
  have kinds : ∀ y ∈ ps.zip us, (defScope st).names.lookup y.1 = some .local ∨ ((defScope st).names.lookup y.1 = some .cell ∧ ((cellsFrom (s.heap.objs.size + 1) (defScope st).names []).lookup y.1).isSome = true) := by
    rintro ⟨n, v⟩ hm
    have hp := S.par n (List.of_mem_zip hm).1
    exact hp.imp id fun z => ⟨z, PySem.W.cellsFrom_some _ _ _ (.inl z)⟩
  refine codeAny_call_function room.depth (inK _ _ lk) rfl S.co S.gen rfl (PySem.W.codeRec_of inK hcode) (bnd _ _ _ _ (wpAny_newFunctionEnv_cells S.kind kinds fun env henv s2 inC => ?_))
  subst henv
  refine ⟨nolim.keeps inC.toInCall.keep, codeAny_func ?_⟩
  obtain ⟨t, pt, tq⟩ := hb cdv A l s H vs Q E g (room.deeper _) z
  have J := inv_start (CX := CX) (P := P) (w := w) (mg := mg) (base := base) (E := E) S room.hd e0 hlen rv inC
  have done : ∀ {σ2 : L2.St} {H2 : Hp} {v : V} {u : Value} {s3 : Shared}, Inv (cxOf CX P w K mg base N qual (defScope st) f cdv A l s H E) [] σ2 H2 s3 → RelV v u → Q v H2 → CE l P w H s Q u s3 :=
    fun {σ2 H2 v u s3} J2 r q => ⟨v, H2, J2.os, J2.bare, J2.base, J2.hok, r, q⟩
  refine wpAny_mono (pt.run [] s2 _ H _ J tq) (fun fl s3 h3 => ?_) fun _ _ h3 => h3
  cases fl with
  | next => obtain ⟨σ2, H2, J2, q⟩ := h3; exact done (v := V.non) (u := Value.none) J2 rfl q
  | brk => obtain ⟨_, _, _, q⟩ := h3; exact q.elim
  | cont => obtain ⟨_, _, _, q⟩ := h3; exact q.elim
  | ret u => obtain ⟨v, σ2, H2, J2, r, q⟩ := h3; exact done J2 r q
end
/-- a guarded def under its name -/
structure GFn (P : Program) (w : World) (K : PySem.W.Frag) (mg : Str → Option Value) (base : Heap) (x : Str) (ps : List Str) (k : Nat) (sp : Sp) : Prop where
  ex : ∃ (f : Addr) (fd : FuncData), mg x = some (.ref f) ∧ PySem.W.keepIn K (.ref f) = true ∧ Binds K fd ps [] ∧ GOk P w K mg base CX0 k f fd ps sp
theorem goCall {X : Cx} {CX : CXT} {k : Nat} {f : Addr} {fd : FuncData} {ps : List Str} {sp : Sp} {E : XK} {x : Str} {p pos : Pos} {e : Expr} {es : List Expr} {t : TA} (G : GOk X.prog X.w X.K X.mg X.base CX k f fd ps sp) (hgd : X.A.guards = some []) (hr : Room k X.A) (hg : Gl X x)
    (hm : X.mg x = some (.ref f)) (hk : PySem.W.keepIn X.K (.ref f) = true) (hb : Binds X.K fd ps []) (hx : Passes CX X E) (ha : PA X (e :: es) t) (hdb : (x == ("__debug__" : Str)) = false)
    (he : starEach (e :: es) X.env = (false, eval e X.env) :: starEach es X.env) (hpl : (backTo pos (starEach es X.env)).any (·.1) = false) : PE X (.Call (.Name x p) (e :: es) [] pos) (fun σ H Q => t σ H fun vs H1 => sp vs H1 Q E) := by
  refine ⟨fun pins s σ H Q I h => wpAny_Call_Name_kw (ld_glob I hg hm (PySem.W.callWith_K (h₀ := X.base) I.ok.mod.kin hk (thn (ha.run pos pins s σ H _ I h) fun us s2 hz => ?_) he hpl) hdb)⟩
  obtain ⟨vs, H2, J, rv, q⟩ := hz
  refine ⟨J.kIn, wpAny_call (codeAny_mono (G.go X.A X.stack s2 H2 ⟨us, []⟩ us vs Q E hgd hr J.env0 ?_ rv q) fun r s3 hq => ?_)⟩
  · have := hb s2 us J.kIn (by rw [List.append_nil, ← rv.length]; exact G.gl _ _ _ _ q)
    rwa [List.append_nil] at this
  · cases r with
    | error u => exact hx pins σ H2 s2 u s3 J hq
    | ok fl => cases fl <;> first | exact J.after hq | exact False.elim hq
section
variable {c : Ctx} {δ : DE} {n : Nat} {e : Expr} {es : List Expr} {pos p : Pos} {Φ : D → Nat → Prop} {x : Str} {ps : List Str} {k : Nat}
theorem we_callG {sp : DSp} (F : GFn c.X.prog c.X.w c.X.K c.X.mg c.X.base x ps k (spD c.X.K sp)) (hgd : c.X.A.guards = some []) (hr : Room k c.X.A) (hg : Gl c.X x) (h : WA c (e :: es) δ n fun ds n1 => ds.all okEl = true ∧ sp (ds.map frz) fun d => Φ d n1)
    (hdb : (x == ("__debug__" : Str)) = false := by decide) (he : starEach (e :: es) c.X.env = (false, eval e c.X.env) :: starEach es c.X.env := by rfl) (hpl : (backTo pos (starEach es c.X.env)).any (·.1) = false := by rfl) :
    WE c (.Call (.Name x p) (e :: es) [] pos) δ n Φ := ⟨fun σ H Q S q => by
  obtain ⟨f, fd, hm, hk, hb, F⟩ := F.ex
  refine pe_to (goCall F hgd hr hg hm hk hb pass0 pa_w hdb he hpl) ?_
  refine h.run σ H _ S fun vs H2 ds n1 k1 S1 r1 ⟨o, f⟩ => ?_
  refine ⟨c.Av δ, ds.map frz, _, fun a m => S1.av_nt m, els_ok o r1, f, fun d v H3 f sm rv => ?_⟩
  exact q v H3 d n1 (k1.trans (Kp.of sm)) (S1.grow sm) (rv.rpE (fun _ => Iff.rfl) (fun p z => Kp.back S S1 k1 z) S1) f⟩
end
section
variable {c : Ctx} {δ : DE} {n : Nat} {e : Expr} {es : List Expr} {pos p : Pos} {Φ : D → Nat → Prop} {x : Str} {ps : List Str} {k : Nat}
theorem we_callPG {sp : PSp} (F : GFn c.X.prog c.X.w c.X.K c.X.mg c.X.base x ps k (spP c.X.K sp)) (hgd : c.X.A.guards = some []) (hr : Room k c.X.A) (hg : Gl c.X x) (h : WA c (e :: es) δ n fun ds n1 => ∃ p ds', ds = .pur p :: ds' ∧ ds'.all okEl = true ∧ sp (ds'.map frz) n1 Φ)
    (hdb : (x == ("__debug__" : Str)) = false := by decide) (he : starEach (e :: es) c.X.env = (false, eval e c.X.env) :: starEach es c.X.env := by rfl) (hpl : (backTo pos (starEach es c.X.env)).any (·.1) = false := by rfl) :
    WE c (.Call (.Name x p) (e :: es) [] pos) δ n Φ := ⟨fun σ H Q S q => by
  obtain ⟨f, fd, hm, hk, hb, F⟩ := F.ex
  refine pe_to (goCall F hgd hr hg hm hk hb pass0 pa_w hdb he hpl) ?_
  refine h.run σ H _ S fun vs H2 ds n1 k1 S1 r1 ⟨p, ds', e, o, f⟩ => ?_
  subst e
  cases r1 with
  | cons r t =>
    obtain ⟨rfl, hp⟩ := r
    have hM : ∀ a, c.Av δ a ↔ ((c.M a ∨ a ∈ addrs δ) ∨ a = p) := fun a => by
      constructor
      · rintro (z | z | z)
        · exact .inl (.inl z)
        · rw [hp] at z; exact .inr (Option.some.inj z).symm
        · exact .inl (.inr z)
      · rintro ((z | z) | z)
        · exact .inl z
        · exact .inr (.inr z)
        · subst z; exact .inr (.inl hp)
    have eM : (fun a => (c.M a ∨ a ∈ addrs δ) ∨ a = p) = c.Av δ := by
      funext a
      exact propext (hM a).symm
    refine ⟨fun a => c.M a ∨ a ∈ addrs δ, p, n1, ds'.map frz, _, _, rfl, fun a m => S1.av_nt ((hM a).mpr (.inl m)), ?_, (S1.pur p hp).1, ?_, f, fun d m v H3 f sm pa rv => ?_⟩
    · rintro (z | z)
      · exact (S1.pur p hp).2 z
      · exact (S1.dis p z).2 hp
    · rw [eM]; exact els_ok o t
    · have sm' : Kp c.pu H2 H3 := by rw [hp]; exact sm
      refine q v H3 d m (k1.trans sm') (S1.kp sm' fun p' e => ?_) (rv.rpE hM (fun p z => Kp.back S S1 k1 z) S1) f
      rw [hp] at e
      cases e
      exact pa⟩
end
section
variable {P : Program} {w : World} {K : PySem.W.Frag} {mg : Str → Option Value} {base : Heap}
theorem fnDG {x qual : Str} {st : Stmt} {f : Addr} {fd : FuncData} {N ps : List Str} {k : Nat} {sp : DSp} (F : FunV K x qual st f fd) (S : FnScope N ps (defScope st)) (hl : ∀ ds Φ, sp ds Φ → ds.length = ps.length)
    (body : ∀ (cdv : Value) (A : Around) (outer : List Env) (s : Shared) (H : Hp) (E : XK) (M : Addr → Prop) (ds : List D) (Φ : D → Prop), A.guards = some [] → Room k (A.deeper (envOfC qual (defScope st) s.heap.objs.size f cdv)) → (∀ d ∈ ds, pureD d = true) → sp ds Φ →
      WB ⟨(cxOf CX0 P w K mg base N qual (defScope st) f cdv A outer s H E).nox, M, none⟩ (defBody st) (startD N ds) 0 { nx := fun _ _ => Φ .non, rt := fun d _ => Φ d }) : GOk P w K mg base CX0 (k + 1) f fd ps (spD K sp) := by
  refine goBody F S (fun vs H Q E h => ?_) (fun cdv A outer s H vs Q E hgd hr h => ?_)
  · obtain ⟨M, ds, Φ, _, h1, h2, _⟩ := h
    rw [← h1.length]; exact hl ds _ h2
  · obtain ⟨M, ds, Φ, dom, h1, h2, h3⟩ := h
    refine ⟨_, PSs.nox pb_w, (body cdv A outer s H E M ds Φ hgd hr (rps_pure h1) h2).run ⟨H, fun _ => False⟩ (L2.start N vs) H _ ?_ ?_ ?_⟩
    · have hp := rps_pure h1
      have ha : addrs (startD N ds) = [] := addrs_pure hp _
      refine ⟨?_, dom, (fun p z => by cases z), by rw [ha]; exact List.nodup_nil, fun p z => by rw [ha] at z; (cases z), fun i s' e => ?_⟩
      · unfold startD L2.start
        rw [List.length_append, List.length_append, List.length_map, List.length_map, h1.length]
        simp
      · rcases start_get h1.length e with ⟨d, e1, rfl, e2⟩ | rfl
        · obtain ⟨v, e3, r⟩ := h1.get e1
          rw [e2, e3]
          refine slAt_pure (r.wk (fun a z => ?_) fun _ _ _ e => e) rfl
          rcases z with z | z | z
          · exact z
          · cases z
          · rw [ha] at z; cases z
        · trivial
    · exact ⟨fun a o _ e => e, fun p z => .inr (by rw [show addrs (startD N ds) = [] from addrs_pure (rps_pure h1) _] at z; cases z), (fun p z => by cases z)⟩
    · refine ⟨fun σ' H' δ' n' S' B' z => ?_, fun _ _ _ _ _ _ z => z.elim, fun _ _ _ _ _ _ z => z.elim, fun v H' d n' R z => ?_⟩
      · exact h3 .non .non H' z (fun a o e => B'.keep a o (fun z => z) e) (.inl ⟨rfl, rfl⟩)
      · refine h3 d v H' z (fun a o e => R.keep a o (fun z => z) e) ?_
        have hav : ∀ a, M a → Ctx.Av ⟨(cxOf CX0 P w K mg base N qual (defScope st) f cdv A outer s H E).nox, M, none⟩ [] a := fun a z => .inl z
        exact R.rp.to hav fun p _ z => z.elim (fun z => z.elim) (fun z => z)
theorem fnPG {x qual : Str} {st : Stmt} {f : Addr} {fd : FuncData} {N ps : List Str} {k : Nat} {sp : PSp} (F : FunV K x qual st f fd) (S : FnScope N ps (defScope st)) (hl : ∀ ds n Φ, sp ds n Φ → ds.length + 1 = ps.length)
    (body : ∀ (cdv : Value) (A : Around) (outer : List Env) (s : Shared) (H : Hp) (E : XK) (M : Addr → Prop) (p : Addr) (n : Nat) (ds : List D) (Φ : D → Nat → Prop), A.guards = some [] → Room k (A.deeper (envOfC qual (defScope st) s.heap.objs.size f cdv)) → (∀ d ∈ ds, pureD d = true) → sp ds n Φ →
      WB ⟨(cxOf CX0 P w K mg base N qual (defScope st) f cdv A outer s H E).nox, M, some p⟩ (defBody st) (startD N (.pur p :: ds)) n { nx := fun _ m => Φ .non m, rt := fun d m => Φ d m }) : GOk P w K mg base CX0 (k + 1) f fd ps (spP K sp) := by
  refine goBody F S (fun vs H Q E h => ?_) (fun cdv A outer s H vs Q E hgd hr h => ?_)
  · obtain ⟨M, p, n, ds, us, Φ, rfl, _, _, _, h1, h2, _⟩ := h
    rw [List.length_cons, ← h1.length]; exact hl ds n _ h2
  · obtain ⟨M, p, n, ds, us, Φ, rfl, dom, np, pa, h1, h2, h3⟩ := h
    refine ⟨_, PSs.nox pb_w, (body cdv A outer s H E M p n ds Φ hgd hr (rps_pure h1) h2).run ⟨H, fun a => a = p⟩ (L2.start N (.ref p :: us)) H _ ?_ ?_ ?_⟩
    · have hp := rps_pure h1
      have ha : addrs (startD N (.pur p :: ds)) = [] := addrs_pure (ds := ds) hp (N.length - (ds.length + 1))
      refine ⟨?_, dom, fun p' z => by cases z; exact ⟨pa, np⟩, by rw [ha]; exact List.nodup_nil, fun p z => by rw [ha] at z; (cases z), fun i s' e => ?_⟩
      · unfold startD L2.start
        rw [List.length_append, List.length_append, List.length_map, List.length_map, List.length_cons, List.length_cons, h1.length]
        simp
      · rcases start_get (vs := .ref p :: us) (by rw [List.length_cons, List.length_cons, h1.length]) e with ⟨d, e1, rfl, e2⟩ | rfl
        · rw [e2]
          cases i with
          | zero =>
            cases e1
            exact ⟨rfl, rfl⟩
          | succ i =>
            obtain ⟨v, e3, r⟩ := h1.get (by simpa using e1)
            rw [show (V.ref p :: us)[i + 1]? = us[i]? from by simp, e3]
            refine slAt_pure (r.wk (fun a z => ?_) fun _ _ _ e => e) rfl
            rcases z with z | z | z
            · exact .inl z
            · exact .inr (Option.some.inj z).symm
            · rw [ha] at z; cases z
        · trivial
    · exact ⟨fun a o _ e => e, fun q z => .inr (by rw [show addrs (startD N (.pur p :: ds)) = [] from addrs_pure (ds := ds) (rps_pure h1) (N.length - (ds.length + 1))] at z; cases z), fun q z => by cases z; rfl⟩
    · refine ⟨fun σ' H' δ' n' S' B' z => ?_, fun _ _ _ _ _ _ z => z.elim, fun _ _ _ _ _ _ z => z.elim, fun v H' d n' R z => ?_⟩
      · exact h3 .non n' .non H' z (fun a o ne e => B'.keep a o (fun z => ne (by rw [z])) e) (S'.pur p rfl).1 (.inl ⟨rfl, rfl⟩)
      · refine h3 d n' v H' z (fun a o ne e => R.keep a o (fun z => ne (by rw [z])) e) (R.pur p rfl) ?_
        have hav : ∀ a, M a ∨ a = p → Ctx.Av ⟨(cxOf CX0 P w K mg base N qual (defScope st) f cdv A outer s H E).nox, M, some p⟩ [] a := fun a z => by
          rcases z with z | rfl
          · exact .inl z
          · exact .inr (.inl rfl)
        exact R.rp.to hav fun p' e4 e3 => e3.elim (fun z => absurd (hav p' (.inr z)) e4) (fun z => z)
theorem gfn_is {x qual : Str} {st : Stmt} {f : Addr} {fd : FuncData} {ps : List Str} {k : Nat} {sp : Sp} (F : FunV K x qual st f fd) (hm : mg x = some (.ref f)) (hb : Binds K fd ps []) (ok : GOk P w K mg base CX0 k f fd ps sp) : GFn P w K mg base x ps k sp := ⟨⟨f, fd, hm, F.kp, hb, ok⟩⟩
end
theorem fnLG {P : Program} {w : World} {K : PySem.W.Frag} {mg : Str → Option Value} {base : Heap} {x qual : Str} {st : Stmt} {f : Addr} {fd : FuncData} {N : List Str} {a0 : Str} {k : Nat} (F : FunV K x qual st f fd) (S : FnScope N [a0] (defScope st))
    (body : ∀ (cdv : Value) (A : Around) (outer : List Env) (s : Shared) (H : Hp) (E : XK) (M : Addr → Prop) (ns : List Int), A.guards = some [] → Room k (A.deeper (envOfC qual (defScope st) s.heap.objs.size f cdv)) → ns.length ≤ 63 →
      WB ⟨(cxOf CX0 P w K mg base N qual (defScope st) f cdv A outer s H E).nox, M, none⟩ (defBody st) (startD N [.slst (ns.map .int)]) 0 { nx := fun _ _ => False, rt := fun d _ => d = .bl true }) : GOk P w K mg base CX0 (k + 1) f fd [a0] (spLaw K) := by
  have key : GOk P w K mg base CX0 (k + 1) f fd [a0] (spD K fun ds Φ => ∃ ns : List Int, ds = [.slst (ns.map .int)] ∧ ns.length ≤ 63 ∧ Φ (.bl true)) := by
    refine fnDG F S (fun ds Φ h => by obtain ⟨ns, rfl, _⟩ := h; rfl) fun cdv A outer s H E M ds Φ hgd hr _ h => ?_
    obtain ⟨ns, rfl, hl, f⟩ := h
    exact (body cdv A outer s H E M ns hgd hr hl).imp (fun _ _ z => z.elim) (fun d _ z => by rw [z]; exact f) (fun _ _ z => z) fun _ _ z => z
  refine key.imp fun vs H Q E h => ?_
  obtain ⟨a, ns, rfl, h1, h2, h3⟩ := h
  refine ⟨fun _ => False, [.slst (ns.map .int)], fun d => d = .bl true, fun _ z => z.elim, ⟨.ref a, [], rfl, ⟨a, _, rfl, ?_, Rps.of_ints ns⟩, rfl⟩, ⟨ns, rfl, h2, rfl⟩, fun d v H2 e _ r => ?_⟩
  · rcases h1 with h1 | ⟨o, its, n, h1⟩
    · exact .inl ⟨id, h1⟩
    · exact .inr ⟨o, its, n, h1⟩
  · subst e
    rcases r with ⟨_, r⟩ | ⟨ds, p, us, e, _⟩ | ⟨_, _, _, _, e, _⟩ | ⟨_, _, _, _, _, _, e, _⟩
    · have e : v = .bl true := r
      rw [e]
      exact h3 H2
    · cases e
    · cases e
    · cases e

/-! ### the head of a law whose def runs guarded -/
theorem headG {P : Program} {w : World} {K : PySem.W.Frag} {mg mb : Str → Option Value} {CX : CXT} {k : Nat} {fa a : Addr} {fd : FuncData} {x : Str} {sp : Sp} {s : Shared} {vs : List Value} {ns : List Int}
    (inK : K.In s.heap) (glo : s.heap.Ns mainGlobals mg) (blt : s.heap.Ns builtinsNs mb) (boot : ∀ y : Str, y ≠ "__name__" → mb y = bootBuiltins y) (nl : s.heap.NoLimit) (gens : s.gens = #[])
    (scr : s.heap.get? a = some { cls := .type "list", data := .seq vs.toArray }) (numsI : IntsAre vs ns) (few : ns.length ≤ sizeLine) (room : Room k callerA)
    (F : ∀ base : Heap, K.In base → base.Ns mainGlobals mg → GOk P w K mg base CX k fa fd [x] sp) (bnd : ∀ (s : Shared) (u : Value), BindsTo s fd ⟨[u], []⟩ [(x, u)])
    (wish : ∀ H : Hp, Only H → SqL K H a (ns.map V.int) → sp [.ref a] H (fun v _ => v = .bl true) fun _ _ _ => False) (calm : ∀ H e s', CX [] H s (fun _ _ _ => False) e s' → False) :
    codeAny (model P w) callerA (.call (.ref fa) ⟨[.ref a], []⟩) (fun r s' => r = .ok (.ret (.bool true)) ∧ OldK s.heap s'.heap ∧ s'.os = s.os ∧ AllBare s'.gens) s := by
  have rvs := vals_ints numsI
  -- at an abstract heap that knows of the script at most
  have step : ∀ H : Hp, Only H → SqL K H a (ns.map V.int) → HOk P w H s.heap → (∀ b, H b ≠ none → b = a) → (H a ≠ none → K.lookup a = none) →
      codeAny (model P w) callerA (.call (.ref fa) ⟨[.ref a], []⟩) (fun r s' => r = .ok (.ret (.bool true)) ∧ OldK s.heap s'.heap ∧ s'.os = s.os ∧ AllBare s'.gens) s := by
    intro H only sq ok one away
    have seen : ∀ {b : Addr} {o : Obj}, s.heap.get? b = some o → (b = a → H a = none) → (hidT s.heap H).get? b = some o := fun {b o} e ha => hidT_get e (by
      cases hb : H b with
      | none => rfl
      | some u =>
        have eb := one b (by rw [hb]; exact Option.some_ne_none u)
        subst eb
        rw [ha rfl] at hb
        cases hb)
    have spaces : ∀ {b : Addr} {m : Str → Option Value}, s.heap.Ns b m → (hidT s.heap H).Ns b m := fun {b m} ⟨o, es, ep, e, d, r⟩ => ⟨o, es, ep, seen e (fun eb => by
      subst eb
      rw [scr] at e
      cases e
      have d2 : Data.seq vs.toArray _ = Data.dict es ep := d
      cases d2), d, r⟩
    have inB : K.In (hidT s.heap H) := fun b o e => seen (inK b o e) fun eb => by
      subst eb
      cases hb : H b with
      | none => rfl
      | some u =>
        have := away (by rw [hb]; exact Option.some_ne_none u)
        rw [e] at this
        cases this
    obtain ⟨mc, n1, n2⟩ := nl
    have M : Mod K mg (hidT s.heap H) := ⟨inB, spaces glo, ⟨mb, spaces blt, boot⟩, ⟨mc, spaces n1, n2⟩⟩
    have E0 : Env0 P w K mg (hidT s.heap H) callerA [] s H :=
      ⟨rfl, M, fun b o e => of_hidT e, by rw [hidT_size]; exact Nat.le_refl _, trivial, fun b hb => (nomatch hb), ok, .of_eq gens⟩
    have run := (F _ inB (spaces glo)).go callerA [] s H ⟨[.ref a], []⟩ [.ref a] [.ref a] _ _ rfl room E0 (bnd s (.ref a)) (.cons rfl .nil) (wish H only sq)
    refine codeAny_mono run fun r s' h => ?_
    match r, h with
    | .error e, h => exact (calm H e s' h).elim
    | .ok .next, h => exact h.elim
    | .ok .brk, h => exact h.elim
    | .ok .cont, h => exact h.elim
    | .ok (.ret u), ⟨v, H2, os, bare, un, ok2, rel, q⟩ =>
      have ev : v = .bl true := q
      subst ev
      have eu : u = Value.bool true := rel
      subst eu
      refine ⟨rfl, OldK.of_keep fun b o e => ?_, os, bare⟩
      rcases only b with z | ⟨ob, xs, z⟩
      · exact un.keep b o e z (fun z => nomatch z) (fun z => nomatch z)
      · have e1 := (ok b _ z).1
        have e2 := (ok2 b _ (un.frzs b ob _ z)).1
        rw [e] at e1
        cases e1
        exact e2
  cases kn : K.lookup a with
  | some o =>
    have e := (inK a o kn).symm.trans scr
    cases e
    refine step (fun _ => none) (fun _ => .inl rfl) (.inr ⟨_, vs.toArray, _, kn, rfl, rfl, rfl, ?_, by simpa using rvs⟩) (fun b u z => by cases (show (none : Option HO) = some u from z)) (fun b z => absurd rfl z) fun z => absurd rfl z
    rw [List.size_toArray, numsI.length]
    exact few
  | none =>
    let hp : Hp := fun b => if b = a then some (.frz { cls := .type "list", data := .seq vs.toArray } (.lst (ns.map V.int))) else none
    have at_a : hp a = some (.frz { cls := .type "list", data := .seq vs.toArray } (.lst (ns.map V.int))) := if_pos rfl
    have other : ∀ b, b ≠ a → hp b = none := fun b hb => if_neg hb
    refine step hp (fun b => ?_) (.inl (.inr ⟨_, at_a⟩)) (fun b u z => ?_) (fun b z => ?_) fun _ => kn
    · rcases Decidable.em (b = a) with eb | nb
      · subst eb; exact .inr ⟨_, _, at_a⟩
      · exact .inl (other b nb)
    · rcases Decidable.em (b = a) with eb | nb
      · subst eb
        have := at_a.symm.trans z
        cases this
        exact ⟨scr, by rw [List.length_map]; exact few, vs, _, rvs, scr⟩
      · rw [other b nb] at z; cases z
    · rcases Decidable.em (b = a) with eb | nb
      · exact eb
      · exact absurd (other b nb) z
theorem walkG {l : PySem.W.OpenLaw} {n k : Nat} {q : Program} {loose : List Str} {XP : (Str → Option Value) → Heap → Prop} {YP : World → Heap → Prop} {d : DefRec} {K : Params → PySem.W.Frag} {CX : World → CXT} {sp : World → Sp} {x : Str}
    (most : l.most = some n) (small : n ≤ sizeLine) (nodef : d.params.defaults = []) (room : Room k callerA) (part : ∀ (w : World) (h : Heap), YP w h → (K w.params).In h)
    (F : ∀ (w : World) (mg : Str → Option Value) (fa : Addr) (h : Heap), (K w.params).In h → h.Ns mainGlobals mg → mg d.name = some (.ref fa) → ∃ fd : FuncData, (∀ (s : Shared) (u : Value), BindsTo s fd ⟨[u], []⟩ [(x, u)]) ∧
      ∀ base : Heap, (K w.params).In base → base.Ns mainGlobals mg → GOk l.prog w (K w.params) mg base (CX w) k fa fd [x] (sp w))
    (wish : ∀ (w : World) (H : Hp) (a : Addr) (ns : List Int), ns.length ≤ n → Only H → SqL (K w.params) H a (ns.map V.int) → sp w [.ref a] H (fun v _ => v = .bl true) fun _ _ _ => False)
    (calm : ∀ (w : World) (H : Hp) (s : Shared) (e : Value) (s' : Shared), CX w [] H s (fun _ _ _ => False) e s' → False) : PySem.W.WalkO q loose XP YP l.row.toRowW d [] (fun f vs => PySem.call f vs) := by
  refine Att.attach_call most nodef fun w s0 s mg mb fa o pm cd doc a vs ns G Y ho hd hcd hmg scr numsI few gens => ?_
  have inK := part w _ Y
  obtain ⟨fd, bnd, go⟩ := F w mg fa _ inK G.T.g hmg
  exact headG inK G.T.g G.T.b G.T.builtins G.T.nolimit gens scr numsI (Nat.le_trans few small) room go bnd (fun H o sq => wish w H a ns few o sq) fun H e s' => calm w H s e s'

/-! ### repr -/
section
variable {c : Ctx} {δ : DE} {n : Nat} {e : Expr} {pos p : Pos} {Φ : D → Nat → Prop}
def repOk (t : PyData) : Prop := t.showable = true ∧ t.hasDict = false ∧ t.depth ≤ 20 ∧ t.shown.length ≤ sizeLine
theorem call_reprD {X : Cx} (hgd : X.A.guards = some []) (hu : X.A.units + 64 < cLine) : CallR X (.builtin "repr") (fun xs H Q => ∃ a t, xs = [.ref a] ∧ Dp X.K H (.ref a) t ∧ repOk t ∧ Q (.str t.shown) H) := by
  rintro pins s σ H xs us Q I r ⟨a, t, rfl, dp, ⟨h1, h2, h3, h4⟩, q⟩
  obtain ⟨u, rfl, ru⟩ := vals1 r
  obtain ⟨as, rd⟩ := Dp.reads I t _ u dp ru
  obtain rfl : u = Value.ref a := ru
  exact repr_of_reads' rd h1 (PyData.noDict_hsm h2) hgd (by omega) (fun _ _ z => z) (fun h' u tk hk => ⟨.str _, H, I.kept hk, ⟨_, rfl⟩, q⟩) h4
theorem call_reprA {X : Cx} (hgd : X.A.guards = some []) (hu : X.A.units + 64 < cLine) : CallR X (.builtin "repr") (fun xs H Q => (∃ i, xs = [.int i] ∧ i.natAbs.log2 < 1920 ∧ Q (.str (PyData.shown (.int i))) H) ∨ ∃ a t, xs = [.ref a] ∧ Dp X.K H (.ref a) t ∧ repOk t ∧ Q (.str t.shown) H) := by
  intro pins s σ H xs us Q I r h
  rcases h with h | h
  · exact SkE.call_repr_int pins s σ H xs us Q I r h
  · exact call_reprD hgd hu pins s σ H xs us Q I r h
def RepD (ds : List D) (Φ : D → Prop) : Prop := ∃ d, ds = [d] ∧ ((∃ i, d = .int i ∧ i.natAbs.log2 < 1920) ∨ ((seqOf d).isSome = true ∧ isPy d = true ∧ repOk (toPy d))) ∧ Φ (.str (toPy d).shown)
theorem rp_ref {K : PySem.W.Frag} {Av Ow : Addr → Prop} {pu : Option Addr} {Hs H : Hp} {d : D} {v : V} (h : RpE K Av Ow pu Hs H d v) (o : (seqOf d).isSome = true) : ∃ a, v = .ref a := by
  obtain ⟨ds, e⟩ := Option.isSome_iff_exists.mp o
  obtain ⟨a, vs, rfl, _⟩ := h.seqOf e
  exact ⟨a, rfl⟩
theorem we_repr (hgd : c.X.A.guards = some []) (hu : c.X.A.units + 64 < cLine) (hm : c.X.mg "repr" = none) (hg : Gl c.X "repr") (h : WA c [e] δ n fun ds n1 => RepD ds fun z => Φ z n1)
    (he : starEach [e] c.X.env = (false, eval e c.X.env) :: starEach [] c.X.env := by rfl) (hpl : (backTo pos (starEach [] c.X.env)).any (·.1) = false := by rfl) : WE c (.Call (.Name "repr" p) [e] [] pos) δ n Φ := ⟨fun σ H Q S q => by
  refine pe_to (pe_callB (call_reprA hgd hu) hg hm (by decide +kernel) pa_w (by decide) (by decide) he hpl) ?_
  refine h.run σ H _ S fun vs H2 ds n1 k1 S1 r1 z => ?_
  obtain ⟨d, rfl, k, f⟩ := z
  cases r1 with
  | cons r t =>
    cases t
    rcases k with ⟨i, rfl, hi⟩ | ⟨ho, hp, hr⟩
    · have e : _ = V.int i := r
      subst e
      exact .inl ⟨i, rfl, hi, q _ H2 (.str _) n1 k1 S1 rfl f⟩
    · have dp := r.dp hp
      obtain ⟨a, rfl⟩ := rp_ref r ho
      exact .inr ⟨a, _, rfl, dp, hr, q _ H2 (.str _) n1 k1 S1 rfl f⟩⟩
/-! ### is True, is not True -/
theorem isB_ok : R2ok c δ (fun x y H Q => ∃ a b, x = .bl a ∧ y = .bl b ∧ Q (.bl (decide (a = b))) H) (fun x y Φ => ∃ a b, x = .bl a ∧ y = .bl b ∧ Φ (.bl (decide (a = b)))) := by
  rintro σ H Hs n x y v u Φ Q S hs rx ry ⟨a, b, rfl, rfl, f⟩ q
  have e1 : v = .bl a := rx
  have e2 : u = .bl b := ry
  exact ⟨a, b, e1, e2, q _ H (.bl _) (Same.refl H) rfl f⟩
theorem isnB_ok : R2ok c δ (fun x y H Q => ∃ a b, x = .bl a ∧ y = .bl b ∧ Q (.bl (!decide (a = b))) H) (fun x y Φ => ∃ a b, x = .bl a ∧ y = .bl b ∧ Φ (.bl (!decide (a = b)))) := by
  rintro σ H Hs n x y v u Φ Q S hs rx ry ⟨a, b, rfl, rfl, f⟩ q
  have e1 : v = .bl a := rx
  have e2 : u = .bl b := ry
  exact ⟨a, b, e1, e2, q _ H (.bl _) (Same.refl H) rfl f⟩
variable {a b : Expr} {Ψ : Bool → Nat → Prop}
theorem we_isB (h : WE c a δ n fun x n1 => WE c b δ n1 fun y n2 => ∃ i j, x = .bl i ∧ y = .bl j ∧ Φ (.bl (decide (i = j))) n2) : WE c (.Compare a [.Is] [b] pos) δ n Φ := we_cmp1 op_is_bl (nomark _) isB_ok h
theorem we_isnotB (h : WE c a δ n fun x n1 => WE c b δ n1 fun y n2 => ∃ i j, x = .bl i ∧ y = .bl j ∧ Φ (.bl (!decide (i = j))) n2) : WE c (.Compare a [.IsNot] [b] pos) δ n Φ := we_cmp1 op_isnot_bl (nomark _) isnB_ok h
theorem wt_isB (h : WE c a δ n fun x n1 => WE c b δ n1 fun y n2 => ∃ i j, x = .bl i ∧ y = .bl j ∧ asB Ψ n2 (.bl (decide (i = j)))) : WT c (.Compare a [.Is] [b] pos) δ n Ψ := wt_cmp1 op_is_bl (nomark _) isB_ok h
theorem wt_isnotB (h : WE c a δ n fun x n1 => WE c b δ n1 fun y n2 => ∃ i j, x = .bl i ∧ y = .bl j ∧ asB Ψ n2 (.bl (!decide (i = j)))) : WT c (.Compare a [.IsNot] [b] pos) δ n Ψ := wt_cmp1 op_isnot_bl (nomark _) isnB_ok h
end
end DL

/-! DLq: which data may be shown: a bound of its text. -/
namespace DL
open PySem PySem.Spec PyProof.Rows L2
mutual
/-- data that may be shown -/
def Shw : PyData → Prop
  | .none => True | .bool _ => True | .str _ => True | .int i => i.natAbs < 2 ^ 1900
  | .list xs => Shws xs | .tuple xs => Shws xs | .dict _ => False
def Shws : List PyData → Prop
  | [] => True
  | x :: xs => Shw x ∧ Shws xs
end
mutual
def rcost : PyData → Nat
  | .none => 4 | .bool _ => 5 | .int _ => 1921 | .str x => (reprText x).length
  | .list xs => rcosts xs + 2 | .tuple xs => rcosts xs + 2 | .dict _ => 0
def rcosts : List PyData → Nat
  | [] => 0
  | x :: xs => rcost x + 2 + rcosts xs
end
theorem log2_lt {n : Nat} (h : n < 2 ^ 1900) : n.log2 < 1920 := by
  rcases Nat.eq_zero_or_pos n with e | e
  · subst e; decide
  · have := (Nat.log2_lt (by omega)).mpr h
    omega
theorem listText_le (ts : List Str) : (listText ts).length ≤ piled ts + 2 := by
  cases ts with
  | nil => decide
  | cons t r =>
    have h := textFrom_length_pos r 1 (("[" : Str) ++ (if (0 : Nat) > 0 then ", " else "" : String) ++ t) (by decide)
    have e : ((("[" : Str) ++ (if (0 : Nat) > 0 then ", " else "" : String) ++ t)).length = 1 + t.length := by rw [strLen_append, strLen_append]; rfl
    have e2 : (listText (t :: r)).length = (textFrom 1 (("[" : Str) ++ (if (0 : Nat) > 0 then ", " else "" : String) ++ t) r).length + 1 := by
      show (textFrom 1 (("[" : Str) ++ (if (0 : Nat) > 0 then ", " else "" : String) ++ t) r ++ "]").length = _
      rw [strLen_append]; rfl
    rw [e2, h, e, piled_cons]
    omega
mutual
theorem shw_ok : ∀ t : PyData, Shw t → t.showable = true ∧ t.hasDict = false ∧ t.shown.length ≤ rcost t
  | .none, _ => by simp only [PyData.showable, PyData.hasDict, PyData.shown, rcost]; decide
  | .bool b, _ => by cases b <;> (simp only [PyData.showable, PyData.hasDict, PyData.shown, rcost]; decide)
  | .int i, h => by
    simp only [Shw] at h
    have hl := log2_lt h
    refine ⟨by simp only [PyData.showable]; exact decide_eq_true hl, by simp only [PyData.hasDict], ?_⟩
    simp only [PyData.shown, rcost]
    exact int_text_len_1921 hl
  | .str x, _ => by simp only [PyData.showable, PyData.hasDict, PyData.shown, rcost]; exact ⟨trivial, trivial, Nat.le_refl _⟩
  | .list xs, h => by
    simp only [Shw] at h
    obtain ⟨h1, h2, h3⟩ := shws_ok xs h
    simp only [PyData.showable, PyData.hasDict, PyData.shown, rcost]
    exact ⟨h1, h2, by have := listText_le (PyData.shownAll xs); omega⟩
  | .tuple xs, h => by
    simp only [Shw] at h
    obtain ⟨h1, h2, h3⟩ := shws_ok xs h
    simp only [PyData.showable, PyData.hasDict, PyData.shown, rcost]
    exact ⟨h1, h2, by have := fmt_text (PyData.shownAll xs); omega⟩
  | .dict _, h => by simp only [Shw] at h
theorem shws_ok : ∀ xs : List PyData, Shws xs → PyData.showableAll xs = true ∧ PyData.hasDictAll xs = false ∧ piled (PyData.shownAll xs) ≤ rcosts xs
  | [], _ => by simp only [PyData.showableAll, PyData.hasDictAll, PyData.shownAll, piled_nil, rcosts]; exact ⟨trivial, trivial, Nat.le_refl _⟩
  | x :: xs, h => by
    simp only [Shws] at h
    obtain ⟨h1, h2, h3⟩ := shw_ok x h.1
    obtain ⟨g1, g2, g3⟩ := shws_ok xs h.2
    simp only [PyData.showableAll, PyData.hasDictAll, PyData.shownAll, piled_cons, rcosts, h1, h2, g1, g2]
    exact ⟨rfl, rfl, by omega⟩
end
theorem repOk_of {t : PyData} (h : Shw t) (hc : rcost t ≤ 16777216) (hd : t.depth ≤ 20) : repOk t := by
  obtain ⟨h1, h2, h3⟩ := shw_ok t h
  exact ⟨h1, h2, hd, by rw [sizeLine_eq]; omega⟩
end DL

/-! AxSpec: what the defs of checks and steps compute, over plain numbers; their promises. -/
namespace Ax
open PySem PySem.Spec PyProof.Rows L2 DL

/-! ### sizes of numbers -/
def Bd (k : Nat) (x : Int) : Prop := x.natAbs < 2 ^ k
theorem Bd.mono {j k : Nat} {x : Int} (h : Bd j x) (l : j ≤ k) : Bd k x := Nat.lt_of_lt_of_le h (Nat.pow_le_pow_right (by omega) l)
theorem Bd.mul {j k : Nat} {x y : Int} (h : Bd j x) (g : Bd k y) : Bd (j + k) (x * y) := wide_lt h g
theorem Bd.neg {k : Nat} {x : Int} (h : Bd k x) : Bd k (-x) := by unfold Bd at *; rw [Int.natAbs_neg]; exact h
theorem Bd.add {k : Nat} {x y : Int} (h : Bd k x) (g : Bd k y) : Bd (k + 1) (x + y) := by
  unfold Bd at *
  have := Int.natAbs_add_le x y
  rw [Nat.pow_succ]
  omega
theorem Bd.sub {k : Nat} {x y : Int} (h : Bd k x) (g : Bd k y) : Bd (k + 1) (x - y) := by
  unfold Bd at *
  have := Int.natAbs_sub_le x y
  rw [Nat.pow_succ]
  omega
theorem Bd.cmul {j k : Nat} {x y : Int} (h : Bd j x) (g : Bd k y) (l : j + k ≤ 999998) : CMulW x y := wide_mul (h.mono (Nat.le_succ j)) (g.mono (Nat.le_succ k)) (by omega) (by omega) (by omega)
theorem Bd.cdiv {k : Nat} {x y : Int} (h0 : 0 < y) (g : Bd k y) (l : k ≤ 8999) : CDivW x y := wide_div h0 (g.mono (Nat.le_succ k)) (by omega) (by omega)
theorem Bd.small {x : Int} {k : Nat} (n : Nat) (h : x.natAbs < n) (g : n ≤ 2 ^ k) : Bd k x := Nat.lt_of_lt_of_le h g
theorem Bd.between {x y z : Int} {k : Nat} (h1 : x ≤ y) (h2 : y ≤ z) (g1 : Bd k x) (g2 : Bd k z) : Bd k y := by
  unfold Bd at *
  omega
theorem Bd.pow {b : Int} (h0 : 0 ≤ b) (h : b ≤ 16) : ∀ n : Nat, Bd (4 * n + 1) (b ^ n)
  | 0 => by unfold Bd; simp
  | n + 1 => by
    have ih := Bd.pow h0 h n
    unfold Bd at *
    rw [Int.pow_succ, Int.natAbs_mul]
    have e : 2 ^ (4 * (n + 1) + 1) = 2 ^ (4 * n + 1) * 16 := by rw [show 4 * (n + 1) + 1 = (4 * n + 1) + 4 by omega, Nat.pow_add]
    rw [e]
    have hb : b.natAbs ≤ 16 := by omega
    exact Nat.lt_of_le_of_lt (Nat.mul_le_mul_left _ hb) (Nat.mul_lt_mul_of_pos_right ih (by omega))
theorem Bd.div {k : Nat} {x y : Int} (h : Bd k x) (hy : 0 < y) : Bd k (x / y) := by
  unfold Bd at *
  have : (x / y).natAbs ≤ x.natAbs := by
    rcases Int.le_total 0 x with hx | hx
    · have h1 := Int.ediv_nonneg hx (Int.le_of_lt hy)
      have h2 := Int.ediv_le_self y hx
      omega
    · have h1 : x ≤ x / y := by
        have := Int.ediv_mul_le x (Int.ne_of_gt hy)
        have q : x / y ≤ 0 := Int.ediv_nonpos_of_nonpos_of_neg hx hy
        have e := Int.lt_ediv_add_one_mul_self x hy
        by_cases z : x ≤ x / y
        · exact z
        · have hq : x / y + 1 ≤ x := by omega
          have h3 : (x / y + 1) * y ≤ x * y := Int.mul_le_mul_of_nonneg_right hq (Int.le_of_lt hy)
          have h4 : x * y ≤ x * 1 := Int.mul_le_mul_of_nonpos_left hx (by omega)
          omega
      have q : x / y ≤ 0 := Int.ediv_nonpos_of_nonpos_of_neg hx hy
      omega
  omega

/-! ### the program's data -/
structure RD where
  b : Int
  way : Str
  hs : List Int
  lim : Int
def nsR : List Str := ["ground", "way", "heads", "limit"]
abbrev RD.d (C : Addr) (r : RD) : D := .obj C nsR [.int r.b, .str r.way, .tup (r.hs.map D.int), .int r.lim]
structure ROk (r : RD) : Prop where
  b2 : 2 ≤ r.b
  b16 : r.b ≤ 16
  way : r.way = "inside" ∨ r.way = "cover" ∨ r.way = "length"
  ne : r.hs ≠ []
  len : r.hs.length ≤ 16
  hs : ∀ h ∈ r.hs, 1 ≤ h ∧ h ≤ 1000
  l1 : 1 ≤ r.lim
  l100 : r.lim ≤ 100
  cov : r.way = "cover" → 2 ≤ r.lim
  nd : r.hs.Nodup
  prim : ∀ h ∈ r.hs, h % r.b ≠ 0
abbrev stD (s : Int × Int) : D := .tup [.int s.1, .int s.2]
def whole : D → Bool
  | .int _ => true
  | _ => false
def atLeast (j : Int) : D → Bool
  | .int i => decide (j ≤ i)
  | _ => false
def cdiv (a s : Int) : Int := 0 - (0 - a) / s
def num (b m p : Int) : Int := if 0 ≤ p then m * b ^ p.toNat else m
def den (b p : Int) : Int := if 0 ≤ p then 1 else b ^ (0 - p).toNat
def less (b : Int) (s t : Int × Int) : Prop := num b s.1 s.2 * den b t.2 < num b t.1 t.2 * den b s.2
instance (b : Int) (s t : Int × Int) : Decidable (less b s t) := by unfold less; exact inferInstance
def mayFit (r : RD) (s : Int × Int) (L : Int) : Bool :=
  if r.way = "inside" then decide (L * den r.b s.2 < (r.lim + 1) * num r.b s.1 s.2) else decide (L * den r.b s.2 ≤ r.lim * num r.b s.1 s.2)
def surely (r : RD) (s : Int × Int) (L : Int) : Bool :=
  if r.way = "inside" then decide (L * den r.b s.2 < r.lim * num r.b s.1 s.2)
  else if r.way = "cover" then decide (L * den r.b s.2 ≤ (r.lim - 1) * num r.b s.1 s.2)
  else decide (L * den r.b s.2 ≤ r.lim * num r.b s.1 s.2)
def isFit (r : RD) (s : Int × Int) (lo hi : Int) : Bool :=
  if r.way = "inside" then decide (hi * den r.b s.2 / num r.b s.1 s.2 - cdiv (lo * den r.b s.2) (num r.b s.1 s.2) + 1 ≤ r.lim)
  else if r.way = "cover" then decide (cdiv (hi * den r.b s.2) (num r.b s.1 s.2) - lo * den r.b s.2 / num r.b s.1 s.2 ≤ r.lim)
  else surely r s (hi - lo)
/-- a step that may be handed about: its mantissa, its power bounded -/
structure SOk (s : Int × Int) : Prop where
  m1 : 1 ≤ s.1
  m2 : s.1 ≤ 1000
  p1 : -100 ≤ s.2
  p2 : s.2 ≤ 1100
theorem num_bd {b m p : Int} (b0 : 0 ≤ b) (b16 : b ≤ 16) (m0 : 0 ≤ m) (m1 : m ≤ 1000) (hp : p ≤ 1100) : Bd 4412 (num b m p) := by
  unfold num
  split
  · have h1 : Bd 10 m := Bd.small 1001 (by omega) (by decide)
    have h2 := (Bd.pow b0 b16 p.toNat).mono (k := 4401) (by omega)
    exact (h1.mul h2).mono (by omega)
  · exact Bd.mono (Bd.small (k := 10) 1001 (by omega) (by decide)) (by omega)
theorem den_bd {b p : Int} (b0 : 0 ≤ b) (b16 : b ≤ 16) (hp : -100 ≤ p) : Bd 402 (den b p) := by
  unfold den
  split
  · exact Bd.mono (Bd.small (k := 2) 2 (by decide) (by decide)) (by omega)
  · exact (Bd.pow b0 b16 (0 - p).toNat).mono (by omega)
theorem pow_pos {b : Int} (h : 0 < b) (n : Nat) : 0 < b ^ n := Int.pow_pos h
theorem num_pos {b m p : Int} (hb : 0 < b) (hm : 0 < m) : 0 < num b m p := by
  unfold num
  split
  · exact Int.mul_pos hm (pow_pos hb _)
  · exact hm
theorem den_pos {b p : Int} (hb : 0 < b) : 0 < den b p := by
  unfold den
  split
  · decide
  · exact pow_pos hb _

/-! ### promises -/
def sp_is_whole : DSp := fun ds Φ => ∃ d, ds = [d] ∧ (∃ k1, isTy "int" d = some k1) ∧ Φ (.bl (whole d))
def sp_is_base : DSp := fun ds Φ => ∃ d, ds = [d] ∧ (∃ k1, isTy "int" d = some k1) ∧ ∀ b, (b = true ↔ ∃ i, d = .int i ∧ 2 ≤ i) → Φ (.bl b)
/-- a proper range -/
def sp_is_range : DSp := fun ds Φ => ∃ lo hi dg : Int, ds = [.tup [.int lo, .int hi, .int dg]] ∧ lo < hi ∧ 0 ≤ dg ∧ Φ (.bl true)
def sp_check_range : DSp := fun ds Φ => ∃ lo hi dg : Int, ds = [.tup [.int lo, .int hi, .int dg]] ∧ lo < hi ∧ 0 ≤ dg ∧ Φ .non
def sp_power_of : DSp := fun ds Φ => ∃ b m : Int, ds = [.int b, .int m] ∧ (0 ≤ b ∧ b ≤ 16) ∧ (0 ≤ m ∧ m ≤ 5000) ∧ Φ (.int (b ^ m.toNat))
def sp_divided_up : DSp := fun ds Φ => ∃ a b : Int, ds = [.int a, .int b] ∧ (0 < b ∧ Bd 8999 b) ∧ Φ (.int (cdiv a b))
def sp_scaled : DSp := fun ds Φ => ∃ (s : Int × Int) (b : Int), ds = [stD s, .int b] ∧ (2 ≤ b ∧ b ≤ 16) ∧ SOk s ∧ Φ (.tup [.int (num b s.1 s.2), .int (den b s.2)])
def sp_is_less : DSp := fun ds Φ => ∃ (s t : Int × Int) (b : Int), ds = [stD s, stD t, .int b] ∧ (2 ≤ b ∧ b ≤ 16) ∧ SOk s ∧ SOk t ∧ Φ (.bl (decide (less b s t)))
def sp_may_fit (C : Addr) : DSp := fun ds Φ => ∃ (r : RD) (s : Int × Int) (L : Int), ds = [r.d C, stD s, .int L] ∧ ROk r ∧ SOk s ∧ Bd 4000 L ∧ Φ (.bl (mayFit r s L))
def sp_surely_fits (C : Addr) : DSp := fun ds Φ => ∃ (r : RD) (s : Int × Int) (L : Int), ds = [r.d C, stD s, .int L] ∧ ROk r ∧ SOk s ∧ Bd 4000 L ∧ Φ (.bl (surely r s L))
def sp_multiples_around : DSp := fun ds Φ => ∃ (s : Int × Int) (lo hi b : Int), ds = [stD s, .int lo, .int hi, .int b] ∧ (2 ≤ b ∧ b ≤ 16) ∧ SOk s ∧ Bd 3998 lo ∧ Bd 3998 hi ∧
  Φ (.tup [.int (lo * den b s.2 / num b s.1 s.2), .int (cdiv (lo * den b s.2) (num b s.1 s.2)), .int (hi * den b s.2 / num b s.1 s.2), .int (cdiv (hi * den b s.2) (num b s.1 s.2))])
def sp_is_fitting (C : Addr) : DSp := fun ds Φ => ∃ (r : RD) (s : Int × Int) (lo hi : Int), ds = [r.d C, stD s, .int lo, .int hi] ∧ ROk r ∧ SOk s ∧ Bd 3998 lo ∧ Bd 3998 hi ∧ Φ (.bl (isFit r s lo hi))
/-- what the walk asks of the classes -/
structure ClR (K : PySem.W.Frag) (C : Addr) : Prop where
  cl : Cls K C
  n_ground : NoAttr K C "ground"
  n_way : NoAttr K C "way"
  n_heads : NoAttr K C "heads"
  n_limit : NoAttr K C "limit"
end Ax
namespace Ax
open PySem PySem.Spec PyProof.Rows L2 DL
theorem isTy_bool {d : D} {k1 : Bool} (h : isTy "int" d = some k1) : ∃ k2, isTy "bool" d = some k2 := by
  cases d <;> first | exact ⟨_, rfl⟩ | cases h
theorem whole_eq {d : D} {k1 k2 : Bool} (h : isTy "int" d = some k1) (g : isTy "bool" d = some k2) : whole d = (k1 && !k2) := by
  cases d <;> first | (cases h; cases g; rfl) | cases h
theorem whole_int {d : D} (h : whole d = true) : ∃ i, d = .int i := by cases d <;> first | exact ⟨_, rfl⟩ | cases h
theorem of_str_eq {a b : Str} (h : (a == b) = true) : a = b := eq_of_beq h
theorem of_str_ne {a b : Str} (h : (a == b) = false) : ¬ a = b := fun e => by rw [e, beq_self_eq_true] at h; cases h
theorem rangeD_at {lo : Int} {m i : Nat} {d : D} (h : (rangeD lo m)[i]? = some d) : i < m ∧ d = .int (lo + (i : Int)) := by
  have hi : i < m := by
    have := (List.getElem?_eq_some_iff.mp h).1
    rwa [rangeD_len] at this
  refine ⟨hi, ?_⟩
  rw [rangeD_get hi] at h
  exact (Option.some.inj h).symm
/-- names that stay the built-ins' -/
structure Bi (mg : Str → Option Value) : Prop where
  range : mg "range" = none
  len : mg "len" = none
  int : mg "int" = none
  bool : mg "bool" = none
  str : mg "str" = none
  list : mg "list" = none
  tuple : mg "tuple" = none
  set : mg "set" = none
  isinstance : mg "isinstance" = none
  max : mg "max" = none
  min : mg "min" = none
  sorted : mg "sorted" = none
  zip : mg "zip" = none
  enumerate : mg "enumerate" = none
  repr : mg "repr" = none
  sum : mg "sum" = none
  abs : mg "abs" = none
structure Txt (K : PySem.W.Frag) (mg : Str → Option Value) (CR : Addr) : Prop where
  Rule : ClR K CR
  KINDS : GK K mg "KINDS" (.ktup [.str "inside", .str "cover", .str "length"])
/-- mantissas that are let in -/
structure MsOk (b : Int) (ms : List Int) : Prop where
  b2 : 2 ≤ b
  b16 : b ≤ 16
  ne : ms ≠ []
  len : ms.length ≤ 16
  hs : ∀ h ∈ ms, 1 ≤ h ∧ h ≤ 1000
  nd : ms.Nodup
  prim : ∀ h ∈ ms, h % b ≠ 0
structure FOk (b : Int) (way : Str) (ms : List Int) (lim : Int) : Prop where
  ms : MsOk b ms
  wk : way = "inside" ∨ way = "cover" ∨ way = "length"
  l1 : 1 ≤ lim
  l100 : lim ≤ 100
  cov : way = "cover" → 2 ≤ lim
theorem FOk.r {b lim : Int} {way : Str} {ms ns : List Int} (h : FOk b way ms lim) (p : ns.Perm ms) : ROk ⟨b, way, ns, lim⟩ :=
  ⟨h.ms.b2, h.ms.b16, h.wk, fun e => h.ms.ne (by simp only at e; subst e; exact p.nil_eq.symm), by simp only; rw [p.length_eq]; exact h.ms.len, fun x m => h.ms.hs x (p.mem_iff.mp m), h.l1, h.l100, h.cov, p.nodup_iff.mpr h.ms.nd, fun x m => h.ms.prim x (p.mem_iff.mp m)⟩
def sp_are_mantissas : DSp := fun ds Φ => ∃ (b : Int) (ms : List Int), ds = [.int b, .lst (ms.map D.int)] ∧ MsOk b ms ∧ Φ (.bl true)
def sp_are_fields : DSp := fun ds Φ => ∃ (b : Int) (way : Str) (ms : List Int) (lim : Int), ds = [.int b, .str way, .lst (ms.map D.int), .int lim] ∧ FOk b way ms lim ∧ Φ (.bl true)
def sp_Rule___init__ : ISp := fun ds Φ => ∃ (b : Int) (way : Str) (ms : List Int) (lim : Int), ds = [.int b, .str way, .lst (ms.map D.int), .int lim] ∧ FOk b way ms lim ∧ ∀ ns : List Int, ns.Perm ms → ns.Pairwise (· ≤ ·) → Φ nsR [.int b, .str way, .tup (ns.map D.int), .int lim]
theorem ints_at {ns : List Int} {i : Nat} {d : D} (h : (ns.map D.int)[i]? = some d) : ∃ m, m ∈ ns ∧ d = .int m := by
  rw [List.getElem?_map] at h
  cases e : ns[i]? with
  | none => rw [e] at h; cases h
  | some x => rw [e] at h; exact ⟨x, List.mem_of_getElem? e, (Option.some.inj h).symm⟩
theorem none_left {l : List D} {t : D → Bool} {f : D → D} (h : ∀ d ∈ l, t d = false) : (l.filter t).map f = [] := by
  rw [List.filter_eq_nil_iff.mpr (fun d m => by rw [h d m]; decide)]; rfl
theorem none_ints {ns : List Int} {t : D → Bool} {f : D → D} (h : ∀ m ∈ ns, t (.int m) = false) : ((ns.map D.int).filter t).map f = [] :=
  none_left fun d m => by obtain ⟨x, mx, rfl⟩ := List.mem_map.mp m; exact h x mx
theorem all_ints {ns : List Int} {f : D → D} (h : ∀ m : Int, f (.int m) = .int m) : ((ns.map D.int).filter fun _ => true).map f = ns.map D.int := by
  rw [List.filter_eq_self.mpr (fun _ _ => rfl), List.map_map]
  exact List.map_congr_left fun m _ => h m
end Ax

/-! AxMath: steps as whole numbers of one scale; what fits; the first step, the least one. -/
namespace Ax
open PySem PySem.Spec PyProof.Rows L2 DL
/-- a step in a common scale -/
def V (b : Int) (s : Int × Int) : Int := s.1 * b ^ (s.2 + 200).toNat
theorem V_num {b m p : Int} (hp : -200 ≤ p) : num b m p * b ^ 200 = V b (m, p) * den b p := by
  unfold num den V
  split
  · next h =>
    rw [Int.mul_one, Int.mul_assoc, ← Int.pow_add]
    congr 2
    simp only
    omega
  · next h =>
    rw [Int.mul_assoc, ← Int.pow_add]
    congr 2
    simp only
    omega
theorem V_pos {b : Int} {s : Int × Int} (hb : 0 < b) (hm : 0 < s.1) : 0 < V b s := Int.mul_pos hm (pow_pos hb _)
theorem cmp_le {b m p a c : Int} (hb : 0 < b) (hp : -200 ≤ p) : a * den b p ≤ c * num b m p ↔ a * b ^ 200 ≤ c * V b (m, p) := by
  have hB := pow_pos hb 200
  have hd := den_pos (p := p) hb
  have e := V_num (b := b) (m := m) hp
  rw [← Int.mul_le_mul_right (a := b ^ 200) hB, Int.mul_assoc c, e, Int.mul_assoc a, Int.mul_comm (den b p), ← Int.mul_assoc a, ← Int.mul_assoc c, Int.mul_le_mul_right hd]
theorem cmp_lt {b m p a c : Int} (hb : 0 < b) (hp : -200 ≤ p) : a * den b p < c * num b m p ↔ a * b ^ 200 < c * V b (m, p) := by
  have hB := pow_pos hb 200
  have hd := den_pos (p := p) hb
  have e := V_num (b := b) (m := m) hp
  rw [← Int.mul_lt_mul_right (a := b ^ 200) hB, Int.mul_assoc c, e, Int.mul_assoc a, Int.mul_comm (den b p), ← Int.mul_assoc a, ← Int.mul_assoc c, Int.mul_lt_mul_right hd]
theorem floor_V {b m p a : Int} (hb : 0 < b) (hp : -200 ≤ p) : a * den b p / num b m p = a * b ^ 200 / V b (m, p) := by
  have hB := pow_pos hb 200
  have hd := den_pos (p := p) hb
  have e := V_num (b := b) (m := m) hp
  rw [← Int.mul_ediv_mul_of_pos_left (a * den b p) (num b m p) hB, e, Int.mul_assoc a, Int.mul_comm (den b p), ← Int.mul_assoc a, Int.mul_ediv_mul_of_pos_left _ _ hd]
theorem ceil_V {b m p a : Int} (hb : 0 < b) (hp : -200 ≤ p) : cdiv (a * den b p) (num b m p) = cdiv (a * b ^ 200) (V b (m, p)) := by
  unfold cdiv
  have e1 : (0 - a * den b p) = (0 - a) * den b p := by rw [Int.sub_mul, Int.zero_mul]
  have e2 : (0 - a * b ^ 200) = (0 - a) * b ^ 200 := by rw [Int.sub_mul, Int.zero_mul]
  rw [e1, e2, floor_V hb hp]
theorem less_V {b : Int} {s t : Int × Int} (hb : 0 < b) (hs : -200 ≤ s.2) (ht : -200 ≤ t.2) : less b s t ↔ V b s < V b t := by
  have hB := pow_pos hb 200
  have hd := den_pos (p := t.2) hb
  have hd2 := den_pos (p := s.2) hb
  have e1 := V_num (b := b) (m := s.1) hs
  have e2 := V_num (b := b) (m := t.1) ht
  unfold less
  rw [← Int.mul_lt_mul_right (a := b ^ 200) hB]
  have a1 : num b s.1 s.2 * den b t.2 * b ^ 200 = V b s * (den b s.2 * den b t.2) := by
    rw [Int.mul_assoc, Int.mul_comm (den b t.2), ← Int.mul_assoc, e1, Int.mul_assoc]
  have a2 : num b t.1 t.2 * den b s.2 * b ^ 200 = V b t * (den b s.2 * den b t.2) := by
    rw [Int.mul_assoc, Int.mul_comm (den b s.2) (b ^ 200), ← Int.mul_assoc, e2, Int.mul_assoc, Int.mul_comm (den b t.2)]
  rw [a1, a2, Int.mul_lt_mul_right (Int.mul_pos hd2 hd)]
/-! floors and ceilings -/
theorem fl1 {a v : Int} (hv : 0 < v) : a / v * v ≤ a := Int.ediv_mul_le a (Int.ne_of_gt hv)
theorem fl2 {a v : Int} (hv : 0 < v) : a < a / v * v + v := by
  have := Int.lt_ediv_add_one_mul_self a hv
  rwa [Int.add_mul, Int.one_mul] at this
theorem fl_ge {a v k : Int} (hv : 0 < v) (h : k * v ≤ a) : k ≤ a / v := (Int.le_ediv_iff_mul_le hv).mpr h
theorem fl_lt {a v k : Int} (hv : 0 < v) (h : a < k * v) : a / v < k := (Int.ediv_lt_iff_lt_mul hv).mpr h
theorem cd1 {a v : Int} (hv : 0 < v) : a ≤ cdiv a v * v := by
  have h := fl1 (a := 0 - a) hv
  unfold cdiv
  rw [Int.sub_mul, Int.zero_mul]
  omega
theorem cd2 {a v : Int} (hv : 0 < v) : cdiv a v * v < a + v := by
  have h := fl2 (a := 0 - a) hv
  unfold cdiv
  rw [Int.sub_mul, Int.zero_mul]
  omega
theorem cd_le {a v k : Int} (hv : 0 < v) (h : a ≤ k * v) : cdiv a v ≤ k := by
  have := fl_ge (a := 0 - a) (k := 0 - k) hv (by rw [Int.sub_mul, Int.zero_mul]; omega)
  unfold cdiv
  omega
theorem cd_gt {a v k : Int} (hv : 0 < v) (h : k * v < a) : k < cdiv a v := by
  have := fl_lt (a := 0 - a) (k := 0 - k) hv (by rw [Int.sub_mul, Int.zero_mul]; omega)
  unfold cdiv
  omega
theorem mul_lt_cancel {a b v : Int} (hv : 0 < v) (h : a * v < b * v) : a < b := (Int.mul_lt_mul_right hv).mp h

/-! what fits, over the scale -/
def fitV (way : Str) (lim v l h : Int) : Prop :=
  if way = "inside" then h / v - cdiv l v + 1 ≤ lim else if way = "cover" then cdiv h v - l / v ≤ lim else h - l ≤ lim * v
def mayV (way : Str) (lim v d : Int) : Prop := if way = "inside" then d < (lim + 1) * v else d ≤ lim * v
def sureV (way : Str) (lim v d : Int) : Prop := if way = "inside" then d < lim * v else if way = "cover" then d ≤ (lim - 1) * v else d ≤ lim * v
variable {r : RD} {s t : Int × Int} {L lo hi : Int}
theorem mayFit_V (ro : ROk r) (hs : -200 ≤ s.2) : mayFit r s L = true ↔ mayV r.way r.lim (V r.b s) (L * r.b ^ 200) := by
  have hb : 0 < r.b := by have := ro.b2; omega
  unfold mayFit mayV
  split
  · rw [decide_eq_true_iff, cmp_lt hb hs]
  · rw [decide_eq_true_iff, cmp_le hb hs]
theorem surely_V (ro : ROk r) (hs : -200 ≤ s.2) : surely r s L = true ↔ sureV r.way r.lim (V r.b s) (L * r.b ^ 200) := by
  have hb : 0 < r.b := by have := ro.b2; omega
  unfold surely sureV
  split
  · rw [decide_eq_true_iff, cmp_lt hb hs]
  · split
    · rw [decide_eq_true_iff, cmp_le hb hs]
    · rw [decide_eq_true_iff, cmp_le hb hs]
theorem isFit_V (ro : ROk r) (hs : -200 ≤ s.2) : isFit r s lo hi = true ↔ fitV r.way r.lim (V r.b s) (lo * r.b ^ 200) (hi * r.b ^ 200) := by
  have hb : 0 < r.b := by have := ro.b2; omega
  unfold isFit fitV
  split
  · rw [decide_eq_true_iff, floor_V hb hs, ceil_V hb hs]
  · next h1 =>
    split
    · rw [decide_eq_true_iff, floor_V hb hs, ceil_V hb hs]
    · next h2 =>
      rw [surely_V ro hs]
      unfold sureV
      rw [if_neg h1, if_neg h2, Int.sub_mul]
theorem may_mono {way : Str} {lim v w d : Int} (hl : 0 ≤ lim) (hv : v ≤ w) (h : mayV way lim v d) : mayV way lim w d := by
  have h1 : (lim + 1) * v ≤ (lim + 1) * w := Int.mul_le_mul_of_nonneg_left hv (by omega)
  have h2 : lim * v ≤ lim * w := Int.mul_le_mul_of_nonneg_left hv hl
  unfold mayV at *
  split
  · next e => rw [if_pos e] at h; omega
  · next e => rw [if_neg e] at h; omega
theorem sure_mono {way : Str} {lim v w d : Int} (hl : 1 ≤ lim) (hv : v ≤ w) (h : sureV way lim v d) : sureV way lim w d := by
  have h1 : (lim - 1) * v ≤ (lim - 1) * w := Int.mul_le_mul_of_nonneg_left hv (by omega)
  have h2 : lim * v ≤ lim * w := Int.mul_le_mul_of_nonneg_left hv (by omega)
  unfold sureV at *
  split
  · next e => rw [if_pos e] at h; omega
  · next e =>
    rw [if_neg e] at h
    split
    · next e2 => rw [if_pos e2] at h; omega
    · next e2 => rw [if_neg e2] at h; omega
theorem fit_may {way : Str} {lim v l h : Int} (hv : 0 < v) (g : fitV way lim v l h) : mayV way lim v (h - l) := by
  unfold fitV at g
  unfold mayV
  have a1 := fl1 (a := l) hv
  have a2 := fl2 (a := h) hv
  have a3 := cd1 (a := h) hv
  have a4 := cd2 (a := l) hv
  split
  · next e =>
    rw [if_pos e] at g
    have g2 : (h / v - cdiv l v + 1) * v ≤ lim * v := Int.mul_le_mul_of_nonneg_right g (by omega)
    rw [Int.add_mul, Int.one_mul] at g2 ⊢
    rw [Int.sub_mul] at g2
    omega
  · next e =>
    rw [if_neg e] at g
    split at g
    · have g2 : (cdiv h v - l / v) * v ≤ lim * v := Int.mul_le_mul_of_nonneg_right g (by omega)
      rw [Int.sub_mul] at g2
      omega
    · exact g
theorem sure_fit {way : Str} {lim v l h : Int} (hv : 0 < v) (g : sureV way lim v (h - l)) : fitV way lim v l h := by
  unfold sureV at g
  unfold fitV
  have a1 := fl1 (a := h) hv
  have a2 := fl2 (a := l) hv
  have a3 := cd1 (a := l) hv
  have a4 := cd2 (a := h) hv
  split
  · next e =>
    rw [if_pos e] at g
    have g2 : (h / v - cdiv l v) * v < lim * v := by rw [Int.sub_mul]; omega
    have := mul_lt_cancel hv g2
    omega
  · next e =>
    rw [if_neg e] at g
    split
    · next e2 =>
      rw [if_pos e2] at g
      have g2 : (cdiv h v - l / v) * v < (lim + 1) * v := by
        rw [Int.sub_mul] at g
        rw [Int.sub_mul, Int.add_mul]
        omega
      have := mul_lt_cancel hv g2
      omega
    · next e2 => rw [if_neg e2] at g; exact g
/-! powers -/
theorem pow_mono {b : Int} (hb : 1 ≤ b) {m n : Nat} (h : m ≤ n) : b ^ m ≤ b ^ n := by
  obtain ⟨k, rfl⟩ := Nat.le.dest h
  rw [Int.pow_add]
  have h1 := pow_pos (b := b) (by omega) m
  have h2 := pow_pos (b := b) (by omega) k
  have h3 : b ^ m * 1 ≤ b ^ m * b ^ k := Int.mul_le_mul_of_nonneg_left (by omega) (by omega)
  omega
theorem two_pow_le {b : Int} (hb : 2 ≤ b) : ∀ n : Nat, (2 : Int) ^ n ≤ b ^ n
  | 0 => by simp
  | n + 1 => by
    have ih := two_pow_le hb n
    rw [Int.pow_succ, Int.pow_succ]
    exact Int.mul_le_mul ih hb (by decide) (by have := pow_pos (b := b) (by omega) n; omega)
theorem V_mono {b m p q : Int} (hb : 1 ≤ b) (hm : 0 ≤ m) (h : p ≤ q) : V b (m, p) ≤ V b (m, q) :=
  Int.mul_le_mul_of_nonneg_left (pow_mono hb (by simp only; omega)) hm
theorem V_succ {b m p : Int} (hp : -200 ≤ p) : V b (m, p + 1) = V b (m, p) * b := by
  unfold V
  simp only
  rw [show (p + 1 + 200).toNat = (p + 200).toNat + 1 by omega, Int.pow_succ, Int.mul_assoc]
/-- low steps never may fit -/
theorem low_not (ro : ROk r) {m p : Int} (hm : 1 ≤ m ∧ m ≤ 1000) (hL : 1 ≤ L) (hp : -200 ≤ p) (hp2 : p ≤ -18) : mayFit r (m, p) L = false := by
  cases e : mayFit r (m, p) L with
  | false => rfl
  | true =>
    exfalso
    rw [mayFit_V ro hp] at e
    have b2 := ro.b2
    have l1 := ro.l1
    have l2 := ro.l100
    have hv : 0 < V r.b (m, p) := V_pos (by omega) (by simp only; omega)
    have e1 : L * r.b ^ 200 ≤ (r.lim + 1) * V r.b (m, p) := by
      unfold mayV at e
      split at e
      · omega
      · rw [Int.add_mul]; omega
    have e2 : V r.b (m, p) ≤ 1000 * r.b ^ 182 := by
      have h1 := V_mono (b := r.b) (m := m) (by omega) (by omega) hp2
      have h2 : V r.b (m, -18) = m * r.b ^ 182 := rfl
      have h3 : m * r.b ^ 182 ≤ 1000 * r.b ^ 182 := Int.mul_le_mul_of_nonneg_right hm.2 (by have := pow_pos (b := r.b) (by omega) 182; omega)
      omega
    have e3 : (r.lim + 1) * V r.b (m, p) ≤ 101 * V r.b (m, p) := Int.mul_le_mul_of_nonneg_right (by omega) (by omega)
    have e4 : 1 * r.b ^ 200 ≤ L * r.b ^ 200 := Int.mul_le_mul_of_nonneg_right hL (by have := pow_pos (b := r.b) (by omega) 200; omega)
    rw [Int.one_mul] at e4
    have e5 : r.b ^ 200 = r.b ^ 182 * r.b ^ 18 := by rw [← Int.pow_add]
    have e6 := two_pow_le b2 18
    have e7 : r.b ^ 182 * 262144 ≤ r.b ^ 182 * r.b ^ 18 := Int.mul_le_mul_of_nonneg_left (by simpa using e6) (by have := pow_pos (b := r.b) (by omega) 182; omega)
    have e8 := pow_pos (b := r.b) (by omega) 182
    omega
/-- high ones surely do -/
theorem high_sure (ro : ROk r) {m p : Int} (hm : 1 ≤ m) (hL : L < 2 ^ 1000) (hp : 1001 ≤ p) : surely r (m, p) L = true := by
  have b2 := ro.b2
  rw [surely_V ro (by simp only; omega)]
  have hB := pow_pos (b := r.b) (by omega) 200
  have hv : L * r.b ^ 200 < V r.b (m, p) := by
    have h1 := V_mono (b := r.b) (m := m) (by omega) (by omega) hp
    have h2 : V r.b (m, 1001) = m * r.b ^ 1201 := rfl
    have h3 : 1 * r.b ^ 1201 ≤ m * r.b ^ 1201 := Int.mul_le_mul_of_nonneg_right hm (by have := pow_pos (b := r.b) (by omega) 1201; omega)
    have h4 : r.b ^ 1201 = r.b ^ 1001 * r.b ^ 200 := by rw [← Int.pow_add]
    have h5 := two_pow_le b2 1001
    have h6 : (2 : Int) ^ 1000 < 2 ^ 1001 := by decide +kernel
    have h7 : L * r.b ^ 200 < r.b ^ 1001 * r.b ^ 200 := (Int.mul_lt_mul_right hB).mpr (by omega)
    omega
  have l1 := ro.l1
  have hv0 : 0 < V r.b (m, p) := V_pos (by omega) (by simp only; omega)
  unfold sureV
  split
  · have : 1 * V r.b (m, p) ≤ r.lim * V r.b (m, p) := Int.mul_le_mul_of_nonneg_right l1 (by omega)
    omega
  · split
    · next e =>
      have := ro.cov e
      have : 1 * V r.b (m, p) ≤ (r.lim - 1) * V r.b (m, p) := Int.mul_le_mul_of_nonneg_right (by omega) (by omega)
      omega
    · have : 1 * V r.b (m, p) ≤ r.lim * V r.b (m, p) := Int.mul_le_mul_of_nonneg_right l1 (by omega)
      omega
theorem sure_may (ro : ROk r) (hs : -200 ≤ s.2) (hm : 1 ≤ s.1) (h : surely r s L = true) : mayFit r s L = true := by
  have b2 := ro.b2
  rw [surely_V ro hs] at h
  rw [mayFit_V ro hs]
  have hv : 0 < V r.b s := V_pos (by omega) (by omega)
  have := fit_may (l := 0) (h := L * r.b ^ 200) hv (sure_fit hv (by simpa using h))
  simpa using this
theorem sure_is (ro : ROk r) (hs : -200 ≤ s.2) (hm : 1 ≤ s.1) (h : surely r s (hi - lo) = true) : isFit r s lo hi = true := by
  have b2 := ro.b2
  rw [surely_V ro hs, Int.sub_mul] at h
  rw [isFit_V ro hs]
  exact sure_fit (V_pos (by omega) (by omega)) h
theorem is_may (ro : ROk r) (hs : -200 ≤ s.2) (hm : 1 ≤ s.1) (h : isFit r s lo hi = true) : mayFit r s (hi - lo) = true := by
  have b2 := ro.b2
  rw [isFit_V ro hs] at h
  rw [mayFit_V ro hs, Int.sub_mul]
  exact fit_may (V_pos (by omega) (by omega)) h
theorem mayFit_mono (ro : ROk r) (hs : -200 ≤ s.2) (ht : -200 ≤ t.2) (hv : V r.b s ≤ V r.b t) (h : mayFit r s L = true) : mayFit r t L = true := by
  rw [mayFit_V ro hs] at h
  rw [mayFit_V ro ht]
  exact may_mono (by have := ro.l1; omega) hv h
theorem surely_mono (ro : ROk r) (hs : -200 ≤ s.2) (ht : -200 ≤ t.2) (hv : V r.b s ≤ V r.b t) (h : surely r s L = true) : surely r t L = true := by
  rw [surely_V ro hs] at h
  rw [surely_V ro ht]
  exact sure_mono ro.l1 hv h

/-! the first step of a mantissa -/
structure IsFirst (r : RD) (m L p : Int) : Prop where
  lo : -17 ≤ p
  hi : p ≤ 1001
  yes : mayFit r (m, p) L = true
  no : mayFit r (m, p - 1) L = false
theorem IsFirst.below {m p q : Int} (ro : ROk r) (hm : 1 ≤ m) (h : IsFirst r m L p) (hq : -200 ≤ q) (hqp : q < p) : mayFit r (m, q) L = false := by
  cases e : mayFit r (m, q) L with
  | false => rfl
  | true =>
    have b2 := ro.b2
    have h2 := h.no
    have := h.lo
    rw [mayFit_mono ro (s := (m, q)) (t := (m, p - 1)) hq (by simp only; omega) (V_mono (by omega) (by omega) (by omega)) e] at h2
    cases h2
theorem IsFirst.uniq {m p q : Int} (ro : ROk r) (hm : 1 ≤ m) (h : IsFirst r m L p) (g : IsFirst r m L q) : p = q := by
  have h1 := h.lo
  have g1 := g.lo
  rcases Int.lt_trichotomy p q with e | e | e
  · have := g.below ro hm (by omega) e
    rw [h.yes] at this
    cases this
  · exact e
  · have := h.below ro hm (by omega) e
    rw [g.yes] at this
    cases this
open Classical in
noncomputable def firstP (r : RD) (L m : Int) : Int := if h : ∃ p, IsFirst r m L p then Classical.choose h else 0
theorem firstP_eq {m p : Int} (ro : ROk r) (hm : 1 ≤ m) (h : IsFirst r m L p) : p = firstP r L m := by
  have e : ∃ p, IsFirst r m L p := ⟨p, h⟩
  unfold firstP
  rw [dif_pos e]
  exact h.uniq ro hm (Classical.choose_spec e)
end Ax

/-! AxSteps: the least of some steps, the list of steps, the step taken. -/
namespace Ax
open PySem PySem.Spec PyProof.Rows L2 DL
/-! shapes -/
def shp (k : Nat) (d : D) : Bool := isPy d && (toPy d).canLay0 && decide ((toPy d).depth ≤ k)
theorem shp_all {k : Nat} : ∀ {ds : List D}, (∀ d ∈ ds, shp k d = true) → isPys ds = true ∧ PyData.canLayAll0 (toPys ds) = true ∧ PyData.depthAll (toPys ds) ≤ k
  | [], _ => ⟨rfl, rfl, Nat.zero_le _⟩
  | d :: ds, h => by
    obtain ⟨a, b, c⟩ := shp_all (k := k) fun x m => h x (List.mem_cons_of_mem _ m)
    have h1 := h d List.mem_cons_self
    simp only [shp, Bool.and_eq_true, decide_eq_true_eq] at h1
    refine ⟨?_, ?_, ?_⟩
    · simp only [isPys, h1.1.1, a]; rfl
    · simp only [toPys, PyData.canLayAll0, h1.1.2, b]; rfl
    · simp only [toPys, PyData.depthAll]; exact Nat.max_le.mpr ⟨h1.2, c⟩
theorem shaped_own {p : Addr} {ds : List D} (h : ∀ d ∈ ds, shp 63 d = true) : shapedD (.own p ds) = true := by
  obtain ⟨a, b, c⟩ := shp_all h
  simp only [shapedD, isPy, SeqAt.shaped, toPy, PyData.canLay0, PyData.depth, a, b]
  simp only [Bool.true_and, decide_eq_true_eq]
  omega
theorem shaped_new {ds : List D} (h : ∀ d ∈ ds, shp 63 d = true) : shapedD (.new ds) = true := shaped_own (p := 0) h
theorem shaped_lst {ds : List D} (h : ∀ d ∈ ds, shp 63 d = true) : shapedD (.lst ds) = true := shaped_own (p := 0) h
theorem shaped_tup {ds : List D} (h : ∀ d ∈ ds, shp 63 d = true) : shapedD (.tup ds) = true := shaped_own (p := 0) h
theorem shp_int (i : Int) (k : Nat) : shp k (.int i) = true := by simp [shp, isPy, toPy, PyData.canLay0, PyData.depth]
theorem shp_st (s : Int × Int) : shp 63 (stD s) = true := by simp [shp, isPy, isPys, toPy, toPys, PyData.canLay0, PyData.canLayAll0, PyData.depth, PyData.depthAll]
theorem shp_sts {fs : List (Int × Int)} : ∀ d ∈ fs.map stD, shp 63 d = true := by
  intro d m
  obtain ⟨s, _, rfl⟩ := List.mem_map.mp m
  exact shp_st s
theorem shp_ints {fs : List Int} : ∀ d ∈ fs.map D.int, shp 63 d = true := by
  intro d m
  obtain ⟨s, _, rfl⟩ := List.mem_map.mp m
  exact shp_int s _
/-- == with the empty list -/
theorem eqv_nil {ds : List D} : PyData.eqv (.list (toPys ds)) (.list (toPys [])) = decide (ds = []) := by
  cases ds with
  | nil => rfl
  | cons d ds => rfl
theorem atI_last {α : Type} {xs : List α} {x : α} (h : xs.getLast? = some x) : atI xs (-1) = some x := by
  cases xs with
  | nil => cases h
  | cons a as =>
    have e : ixN (a :: as).length (-1) = some as.length := by
      unfold ixN
      simp
      omega
    unfold atI
    rw [e]
    rw [List.getLast?_eq_getElem?] at h
    simpa using h
/-! the least of some steps -/
def LeastAt (b : Int) (xs : List (Int × Int)) (n i : Nat) : Prop := ∃ x, xs[i]? = some x ∧ ∀ j y, j < n → xs[j]? = some y → V b x ≤ V b y
def sp_least_of : DSp := fun ds Φ => ∃ (xs : List (Int × Int)) (b : Int), ds = [.lst (xs.map stD), .int b] ∧ (2 ≤ b ∧ b ≤ 16) ∧ xs ≠ [] ∧ xs.length ≤ 1000 ∧ (∀ x ∈ xs, SOk x) ∧ ∀ i, LeastAt b xs xs.length i → Φ (.int (i : Nat))
def sp_first_step (C : Addr) : DSp := fun ds Φ => ∃ (r : RD) (m L : Int), ds = [r.d C, .int m, .int L] ∧ ROk r ∧ (1 ≤ m ∧ m ≤ 1000) ∧ (1 ≤ L ∧ L < 2 ^ 1000) ∧ ∀ p, IsFirst r m L p → Φ (stD (m, p))
structure StepsOf (r : RD) (L : Int) (fs : List (Int × Int)) : Prop where
  len : fs.length ≤ 20000
  ne : fs ≠ []
  asc : fs.Pairwise fun x y => V r.b x ≤ V r.b y
  mem : ∀ x ∈ fs, x.1 ∈ r.hs ∧ -17 ≤ x.2 ∧ x.2 ≤ 1001 ∧ mayFit r x L = true
  all : ∀ t : Int × Int, t.1 ∈ r.hs → -200 ≤ t.2 → mayFit r t L = true → t ∈ fs ∨ ∀ x ∈ fs, V r.b x ≤ V r.b t
  only : ∀ x ∈ fs, surely r x L = true → fs.getLast? = some x
  last : ∃ x, fs.getLast? = some x ∧ surely r x L = true
def sp_steps_at (C : Addr) : DSp := fun ds Φ => ∃ (r : RD) (L : Int), ds = [r.d C, .int L] ∧ ROk r ∧ (1 ≤ L ∧ L < 2 ^ 1000) ∧ ∀ fs, StepsOf r L fs → Φ (.new (fs.map stD))
structure LeastFit (r : RD) (lo hi : Int) (s : Int × Int) : Prop where
  mem : s.1 ∈ r.hs
  p1 : -17 ≤ s.2
  p2 : s.2 ≤ 1001
  fit : isFit r s lo hi = true
  least : ∀ t : Int × Int, t.1 ∈ r.hs → -200 ≤ t.2 → isFit r t lo hi = true → V r.b s ≤ V r.b t
def FirstIn (r : RD) (fs : List (Int × Int)) (lo hi : Int) (s : Int × Int) : Prop := ∃ i : Nat, fs[i]? = some s ∧ isFit r s lo hi = true ∧ ∀ (j : Nat) (t : Int × Int), j < i → fs[j]? = some t → isFit r t lo hi = false
def sp_first_fitting (C : Addr) : DSp := fun ds Φ => ∃ (r : RD) (fs : List (Int × Int)) (lo hi : Int), ds = [r.d C, .lst (fs.map stD), .int lo, .int hi] ∧ ROk r ∧ (∀ x ∈ fs, SOk x) ∧ Bd 3998 lo ∧ Bd 3998 hi ∧ (∃ s ∈ fs, isFit r s lo hi = true) ∧ ∀ s, FirstIn r fs lo hi s → Φ (stD s)
structure Rng (lo hi : Int) : Prop where
  b1 : Bd 3998 lo
  b2 : Bd 3998 hi
  lt : lo < hi
  len : hi - lo < 2 ^ 1000
def sp_taken_step (C : Addr) : DSp := fun ds Φ => ∃ (r : RD) (lo hi : Int), ds = [r.d C, .int lo, .int hi] ∧ ROk r ∧ Rng lo hi ∧ ∀ s, LeastFit r lo hi s → Φ (stD s)

/-! the loop of steps_at -/
def meas (xs : List (Int × Int)) : Nat := (xs.map fun x => (1003 - x.2).toNat).sum
theorem sum_set {f : Int × Int → Nat} : ∀ {xs : List (Int × Int)} {i : Nat} {x y : Int × Int}, xs[i]? = some x → ((xs.set i y).map f).sum + f x = (xs.map f).sum + f y
  | [], i, x, y, h => by cases i <;> cases h
  | a :: as, 0, x, y, h => by
    cases h
    simp only [List.set_cons_zero, List.map_cons, List.sum_cons]
    omega
  | a :: as, i + 1, x, y, h => by
    have := sum_set (f := f) (y := y) (xs := as) (i := i) (x := x) (by simpa using h)
    simp only [List.set_cons_succ, List.map_cons, List.sum_cons]
    omega
variable {r : RD} {L : Int} {xs fs : List (Int × Int)}
structure SInv (r : RD) (L : Int) (xs fs : List (Int × Int)) : Prop where
  heads : xs.map Prod.fst = r.hs
  first : ∀ h ∈ r.hs, IsFirst r h L (firstP r L h)
  rng : ∀ x ∈ xs, firstP r L x.1 ≤ x.2 ∧ x.2 ≤ 1002
  asc : fs.Pairwise fun x y => V r.b x ≤ V r.b y
  le : ∀ f ∈ fs, ∀ x ∈ xs, V r.b f ≤ V r.b x
  mem : ∀ x ∈ fs, x.1 ∈ r.hs ∧ -17 ≤ x.2 ∧ x.2 ≤ 1001 ∧ mayFit r x L = true
  got : ∀ x ∈ xs, ∀ p, firstP r L x.1 ≤ p → p < x.2 → (x.1, p) ∈ fs
  len : fs.length + meas xs ≤ 20000
  old : ∀ x ∈ fs, surely r x L = true → fs.getLast? = some x
theorem SInv.mh (h : SInv r L xs fs) {x : Int × Int} (m : x ∈ xs) : x.1 ∈ r.hs := by rw [← h.heads]; exact List.mem_map_of_mem m
theorem SInv.ok (ro : ROk r) (h : SInv r L xs fs) : ∀ x ∈ xs, SOk x := fun x m => by
  have h1 := ro.hs _ (h.mh m)
  have h2 := h.rng x m
  have h3 := (h.first _ (h.mh m)).lo
  exact ⟨h1.1, h1.2, by omega, by omega⟩
theorem SInv.okf (ro : ROk r) (h : SInv r L xs fs) : ∀ x ∈ fs, SOk x := fun x m => by
  have h1 := h.mem x m
  have h2 := ro.hs _ h1.1
  exact ⟨h2.1, h2.2, by omega, by omega⟩
theorem asc_last {b : Int} : ∀ {fs : List (Int × Int)} {l : Int × Int}, fs.Pairwise (fun x y => V b x ≤ V b y) → fs.getLast? = some l → ∀ x ∈ fs, V b x ≤ V b l := by
  intro fs l ha hl x hx
  obtain ⟨ys, rfl⟩ := List.getLast?_eq_some_iff.mp hl
  rw [List.pairwise_append] at ha
  rcases List.mem_append.mp hx with m | m
  · exact ha.2.2 x m l (by simp)
  · simp at m; subst m; exact Int.le_refl _
theorem SInv.step (ro : ROk r) (hL : L < 2 ^ 1000) (h : SInv r L xs fs) {i : Nat} {x : Int × Int} (hx : xs[i]? = some x) (hl : ∀ j y, j < xs.length → xs[j]? = some y → V r.b x ≤ V r.b y)
    (hc : ∀ f, fs.getLast? = some f → surely r f L = false) : SInv r L (xs.set i (x.1, x.2 + 1)) (fs ++ [x]) ∧ meas (xs.set i (x.1, x.2 + 1)) < meas xs := by
  have mx : x ∈ xs := List.mem_of_getElem? hx
  have hh := h.mh mx
  have hf := h.first _ hh
  have b2 := ro.b2
  have hm := ro.hs _ hh
  have hr := h.rng x mx
  have hlo := hf.lo
  have hhi := hf.hi
  have x2 : x.2 ≤ 1001 := by
    rcases Int.lt_or_le 1001 x.2 with g | g
    · have m1 := h.got x mx 1001 hhi g
      have ne : fs ≠ [] := by intro e; rw [e] at m1; cases m1
      obtain ⟨l, el⟩ : ∃ l, fs.getLast? = some l := ⟨_, List.getLast?_eq_some_getLast ne⟩
      have s1 := high_sure (L := L) ro (m := x.1) (p := 1001) (by omega) hL (by omega)
      have ml : l ∈ fs := List.mem_of_getLast? el
      have l1 := h.mem l ml
      have s2 := surely_mono ro (s := (x.1, 1001)) (t := l) (by simp only; omega) (by omega) (asc_last h.asc el _ m1) s1
      rw [hc l el] at s2
      cases s2
    · exact g
  have hV : V r.b x ≤ V r.b (x.1, x.2 + 1) := V_mono (by omega) (by omega) (by omega)
  have lx : ∀ y ∈ xs, V r.b x ≤ V r.b y := fun y m => by
    obtain ⟨j, hj, e⟩ := List.mem_iff_getElem.mp m
    exact hl j y hj (by rw [List.getElem?_eq_getElem hj, e])
  have hmeas := sum_set (f := fun x => (1003 - x.2).toNat) (y := (x.1, x.2 + 1)) hx
  have hlt : meas (xs.set i (x.1, x.2 + 1)) + 1 = meas xs := by
    unfold meas
    simp only at hmeas
    omega
  refine ⟨?_, by omega⟩
  have inset : ∀ y ∈ xs.set i (x.1, x.2 + 1), y ∈ xs ∨ y = (x.1, x.2 + 1) := fun y m => List.mem_or_eq_of_mem_set m
  constructor
  · rw [List.map_set, h.heads]
    have e1 : r.hs[i]? = some x.1 := by rw [← h.heads, List.getElem?_map, hx]; rfl
    have : i < r.hs.length := (List.getElem?_eq_some_iff.mp e1).1
    have e2 : r.hs[i] = x.1 := (List.getElem?_eq_some_iff.mp e1).2
    rw [← e2]
    exact List.set_getElem_self this
  · exact h.first
  · intro y m
    rcases inset y m with m | rfl
    · exact h.rng y m
    · exact ⟨by simp only; omega, by simp only; omega⟩
  · rw [List.pairwise_append]
    exact ⟨h.asc, List.pairwise_singleton _ _, fun f m y n => by simp at n; subst n; exact h.le f m y mx⟩
  · intro f m y n
    rcases List.mem_append.mp m with m | m
    · rcases inset y n with n | rfl
      · exact h.le f m y n
      · exact Int.le_trans (h.le f m x mx) hV
    · simp at m
      subst m
      rcases inset y n with n | rfl
      · exact lx y n
      · exact hV
  · intro y m
    rcases List.mem_append.mp m with m | m
    · exact h.mem y m
    · simp at m
      subst m
      refine ⟨hh, by omega, by omega, ?_⟩
      exact mayFit_mono ro (s := (y.1, firstP r L y.1)) (by simp only; omega) (by omega) (V_mono (by omega) (by omega) hr.1) hf.yes
  · intro y m p h1 h2
    rcases inset y m with m | rfl
    · exact List.mem_append_left _ (h.got y m p h1 h2)
    · simp only at h1 h2 ⊢
      by_cases e : p < x.2
      · exact List.mem_append_left _ (h.got x mx p h1 e)
      · have : p = x.2 := by omega
        subst this
        exact List.mem_append_right _ (by simp)
  · rw [List.length_append, List.length_singleton]
    have := h.len
    omega
  · intro y m e
    rcases List.mem_append.mp m with m | m
    · rw [hc y (h.old y m e)] at e; cases e
    · simp at m; subst m; simp
theorem SInv.done (ro : ROk r) (h : SInv r L xs fs) {l : Int × Int} (hl : fs.getLast? = some l) (hs : surely r l L = true) : StepsOf r L fs := by
  have b2 := ro.b2
  refine ⟨by have := h.len; omega, (by intro e; rw [e] at hl; cases hl), h.asc, h.mem, fun t ht tp tm => ?_, h.old, l, hl, hs⟩
  rw [← h.heads] at ht
  obtain ⟨x, mx, e⟩ := List.mem_map.mp ht
  have hh := h.mh mx
  have hm := ro.hs _ hh
  have hf := h.first _ hh
  have g1 : firstP r L x.1 ≤ t.2 := by
    rcases Int.lt_or_le t.2 (firstP r L x.1) with g | g
    · have := hf.below ro (by omega) tp g
      rw [e] at this
      rw [show ((t.1, t.2) : Int × Int) = t from rfl, tm] at this
      cases this
    · exact g
  by_cases g : t.2 < x.2
  · left
    have := h.got x mx t.2 g1 g
    rw [e] at this
    exact this
  · right
    intro f m
    refine Int.le_trans (h.le f m x mx) ?_
    have := V_mono (b := r.b) (m := x.1) (p := x.2) (q := t.2) (by omega) (by omega) (by omega)
    rw [e] at this
    rw [show (t.1, x.2) = x from by rw [← e]] at this
    exact this
theorem SInv.init (ro : ROk r) (hf : ∀ h ∈ r.hs, IsFirst r h L (firstP r L h)) : SInv r L (r.hs.map fun m => (m, firstP r L m)) [] := by
  refine ⟨?_, hf, ?_, List.Pairwise.nil, fun f m => (nomatch m), fun f m => (nomatch m), ?_, ?_, fun f m => (nomatch m)⟩
  · rw [List.map_map]
    exact List.map_id' _
  · intro x m
    obtain ⟨h, mh, rfl⟩ := List.mem_map.mp m
    have := (hf h mh).hi
    exact ⟨Int.le_refl _, by simp only; omega⟩
  · intro x m p h1 h2
    obtain ⟨h, mh, rfl⟩ := List.mem_map.mp m
    simp only at h1 h2
    omega
  · have key : ∀ l : List Int, (∀ h ∈ l, -17 ≤ firstP r L h) → meas (l.map fun m => (m, firstP r L m)) ≤ l.length * 1020 := by
      intro l
      induction l with
      | nil => intro _; exact Nat.zero_le _
      | cons a as ih =>
        intro hl
        have h1 := hl a List.mem_cons_self
        have h2 := ih fun h m => hl h (List.mem_cons_of_mem _ m)
        unfold meas at *
        simp only [List.map_cons, List.sum_cons, List.length_cons]
        omega
    have h1 := key r.hs fun h m => (hf h m).lo
    have h2 := ro.len
    simp only [List.length_nil]
    omega
theorem FirstIn.least {lo hi : Int} {s : Int × Int} (ro : ROk r) (hs : StepsOf r (hi - lo) fs) (h : FirstIn r fs lo hi s) : LeastFit r lo hi s := by
  obtain ⟨i, hi1, hf, hb⟩ := h
  have ms : s ∈ fs := List.mem_of_getElem? hi1
  have m1 := hs.mem s ms
  refine ⟨m1.1, m1.2.1, m1.2.2.1, hf, fun t ht tp tf => ?_⟩
  have tm := is_may ro tp (ro.hs _ ht).1 tf
  rcases hs.all t ht tp tm with m | m
  · obtain ⟨j, hj, e⟩ := List.mem_iff_getElem.mp m
    have ej : fs[j]? = some t := by rw [List.getElem?_eq_getElem hj, e]
    rcases Nat.lt_trichotomy j i with g | g | g
    · have := hb j t g ej
      rw [tf] at this
      cases this
    · subst g
      rw [ej] at hi1
      cases hi1
      exact Int.le_refl _
    · have hi2 : i < fs.length := (List.getElem?_eq_some_iff.mp hi1).1
      have := List.pairwise_iff_getElem.mp hs.asc i j hi2 hj g
      rw [e, (List.getElem?_eq_some_iff.mp hi1).2] at this
      exact this
  · exact m s ms
theorem StepsOf.okf (ro : ROk r) (h : StepsOf r L fs) : ∀ x ∈ fs, SOk x := fun x m => by
  have h1 := h.mem x m
  have h2 := ro.hs _ h1.1
  exact ⟨h2.1, h2.2, by omega, by omega⟩
theorem StepsOf.some {lo hi : Int} (ro : ROk r) (h : StepsOf r (hi - lo) fs) : ∃ s ∈ fs, isFit r s lo hi = true := by
  obtain ⟨l, hl, hs⟩ := h.last
  have ml : l ∈ fs := List.mem_of_getLast? hl
  have l1 := h.mem l ml
  exact ⟨l, ml, sure_is ro (by omega) (ro.hs _ l1.1).1 hs⟩
theorem atI_map {α β : Type} {f : α → β} {xs : List α} {k : Nat} {i : Int} {x : α} (h : xs[k]? = some x) (e : i = (k : Int)) : atI (xs.map f) i = some (f x) := by
  subst e
  exact atI_of (by omega) (by rw [List.getElem?_map]; simp [h])
theorem map_at {α β : Type} {f : α → β} {xs : List α} {k : Nat} {d : β} (h : (xs.map f)[k]? = some d) : ∃ x, xs[k]? = some x ∧ d = f x := by
  rw [List.getElem?_map] at h
  cases e : xs[k]? with
  | none => rw [e] at h; cases h
  | some x => rw [e] at h; exact ⟨x, rfl, (Option.some.inj h).symm⟩
theorem some_at {α : Type} {xs : List α} {k : Nat} (h : k < xs.length) : ∃ x, xs[k]? = some x := ⟨_, List.getElem?_eq_getElem h⟩
theorem LeastAt.one {b : Int} {xs : List (Int × Int)} (h : xs ≠ []) : LeastAt b xs 1 0 := by
  cases xs with
  | nil => exact absurd rfl h
  | cons a as => exact ⟨a, rfl, fun j y hj hy => by
      have : j = 0 := by omega
      subst this
      cases hy
      exact Int.le_refl _⟩
theorem LeastAt.take {b : Int} {xs : List (Int × Int)} {n i : Nat} {x y : Int × Int} (h : LeastAt b xs n i) (hy : xs[i]? = some y) (hx : xs[n]? = some x) (hl : V b x < V b y) : LeastAt b xs (n + 1) n := by
  obtain ⟨z, hz, a⟩ := h
  rw [hy] at hz
  cases hz
  refine ⟨x, hx, fun j w hj hw => ?_⟩
  by_cases e : j = n
  · subst e; rw [hx] at hw; cases hw; exact Int.le_refl _
  · exact Int.le_trans (Int.le_of_lt hl) (a j w (by omega) hw)
theorem LeastAt.keep {b : Int} {xs : List (Int × Int)} {n i : Nat} {x y : Int × Int} (h : LeastAt b xs n i) (hy : xs[i]? = some y) (hx : xs[n]? = some x) (hl : ¬ V b x < V b y) : LeastAt b xs (n + 1) i := by
  obtain ⟨z, hz, a⟩ := h
  rw [hy] at hz
  cases hz
  refine ⟨y, hy, fun j w hj hw => ?_⟩
  by_cases e : j = n
  · subst e; rw [hx] at hw; cases hw; omega
  · exact a j w (by omega) hw
theorem turn_at (P : Int → Bool) : ∀ (n : Nat) (a : Int), P a = false → P (a + n) = true → ∃ p, a < p ∧ p ≤ a + n ∧ P p = true ∧ P (p - 1) = false
  | 0, a, h0, h1 => by rw [show a + ((0 : Nat) : Int) = a by omega, h0] at h1; cases h1
  | n + 1, a, h0, h1 => by
    cases e : P (a + 1) with
    | true => exact ⟨a + 1, by omega, by omega, e, by rw [show a + 1 - 1 = a by omega]; exact h0⟩
    | false =>
      obtain ⟨p, g1, g2, g3, g4⟩ := turn_at P n (a + 1) e (by rw [show a + 1 + (n : Int) = a + ((n + 1 : Nat) : Int) by omega]; exact h1)
      exact ⟨p, by omega, by omega, g3, g4⟩
theorem first_is {r : RD} {L m : Int} (ro : ROk r) (hm : 1 ≤ m ∧ m ≤ 1000) (L1 : 1 ≤ L) (L2 : L < 2 ^ 1000) : IsFirst r m L (firstP r L m) := by
  obtain ⟨p, g1, g2, g3, g4⟩ := turn_at (fun p => mayFit r (m, p) L) 1019 (-18) (low_not ro hm L1 (by omega) (by omega)) (sure_may ro (by simp only; omega) hm.1 (high_sure ro hm.1 L2 (by omega)))
  have h : IsFirst r m L p := ⟨by omega, by omega, g3, g4⟩
  rwa [firstP_eq ro hm.1 h] at h
theorem firsts_eq {r : RD} {L : Int} {f : D → D} (hf : ∀ m, f (.int m) = stD (m, firstP r L m)) : ((r.hs.map D.int).filter fun _ => true).map f = (r.hs.map fun m => (m, firstP r L m)).map stD := by
  rw [List.filter_eq_self.mpr (fun _ _ => rfl), List.map_map, List.map_map]
  exact List.map_congr_left fun m _ => hf m
theorem app_map {xs : List (Int × Int)} {x : Int × Int} : xs.map stD ++ [stD x] = (xs ++ [x]).map stD := by rw [List.map_append]; rfl
theorem set_map {xs : List (Int × Int)} {x : Int × Int} {i : Nat} : (xs.map stD).set i (stD x) = (xs.set i x).map stD := by rw [List.map_set]
theorem last_map {xs : List (Int × Int)} {l : Int × Int} (h : xs.getLast? = some l) : (xs.map stD).getLast? = some (stD l) := by rw [List.getLast?_map, h]; rfl
theorem lst_nil {ns : List Int} : PyData.eqv (toPy (.lst (ns.map D.int))) (toPy (.new [])) = decide (ns = []) := by
  cases ns <;> rfl
theorem own_nil {p : Addr} {fs : List (Int × Int)} : PyData.eqv (toPy (.own p (fs.map stD))) (toPy (.new [])) = decide (fs = []) := by
  cases fs <;> rfl
def sp_Rule_step (C : Addr) : DSp := fun ds Φ => ∃ (r : RD) (lo hi dg : Int), ds = [r.d C, .tup [.int lo, .int hi, .int dg]] ∧ ROk r ∧ Rng lo hi ∧ 0 ≤ dg ∧ ∀ s, LeastFit r lo hi s → Φ (.tup [.int s.1, .int (s.2 - dg)])
end Ax

/-! LwSpec: what the laws' own helpers promise. -/
namespace Ax
open PySem PySem.Spec PyProof.Rows L2 DL
theorem retD_pure {d : D} (h : pureD d = true) : retD d = d := by cases d <;> first | rfl | cases h
theorem retOk_pure {d : D} (h : pureD d = true) : retOk d = true := by cases d <;> first | rfl | cases h
def sp__law_purse : DSp := fun ds Φ => ∃ (ns : List Int) (at_ : Int), ds = [.slst (ns.map D.int), .int at_] ∧ 0 ≤ at_ ∧ ∀ x y, (0 ≤ x ∧ x < 10 ^ 400) → (0 ≤ y ∧ y < 2147483629) → Φ (.new [.int x, .int y, .int 0])
def sp__law_draw : PSp := fun ds n Φ => ∃ (many : Int) (m : Nat), ds = [.int many] ∧ (1 ≤ many ∧ Bd 8000 many) ∧ n = m + 1 ∧ ∀ r, 0 ≤ r → r < many → Φ (.int r) m
def sp__law_pick : PSp := fun ds n Φ => ∃ (xs : List D) (m : Nat), ds = [.lst xs] ∧ xs ≠ [] ∧ xs.length ≤ 1000 ∧ xs.all pureD = true ∧ n = m + 1 ∧ ∀ x ∈ xs, Φ x m
theorem pick_ints {l : List D} {x : D} (ns : List Int) (h : x ∈ l) (e : l = ns.map D.int) : ∃ b ∈ ns, x = .int b := by
  subst e
  obtain ⟨b, hb, e⟩ := List.mem_map.mp h
  exact ⟨b, hb, e.symm⟩
theorem pick_strs {l : List D} {x : D} (ns : List Str) (h : x ∈ l) (e : l = ns.map D.str) : ∃ b ∈ ns, x = .str b := by
  subst e
  obtain ⟨b, hb, e⟩ := List.mem_map.mp h
  exact ⟨b, hb, e.symm⟩
theorem pick_lists {l : List D} {x : D} (ns : List (List Int)) (h : x ∈ l) (e : l = ns.map fun a => D.lst (a.map D.int)) : ∃ b ∈ ns, x = .lst (b.map D.int) := by
  subst e
  obtain ⟨b, hb, e⟩ := List.mem_map.mp h
  exact ⟨b, hb, e.symm⟩
theorem filter_ints {ns : List Int} {t : D → Bool} {f : D → D} (p : Int → Bool) (h1 : ∀ m, t (.int m) = p m) (h2 : ∀ m, f (.int m) = .int m) : ((ns.map D.int).filter t).map f = (ns.filter p).map D.int := by
  induction ns with
  | nil => rfl
  | cons a as ih =>
    rw [List.map_cons, List.filter_cons, List.filter_cons, h1]
    split
    · rw [List.map_cons, List.map_cons, ih, h2]
    · exact ih
/-- mantissas of a drawn family -/
structure Fam (b : Int) (fs : List Int) : Prop where
  ms : MsOk b fs
  small : ∀ h ∈ fs, h ≤ 25
  dv : ∀ h ∈ fs, (300300 : Int) % h = 0
theorem Fam.one {b : Int} (b2 : 2 ≤ b) (b16 : b ≤ 16) : Fam b [1] :=
  ⟨⟨b2, b16, (by decide), by decide, by simp, by simp, fun h m => by simp at m; subst m; rw [Int.emod_eq_of_lt (by decide) (by omega)]; decide⟩, by simp, by simp⟩
theorem Fam.some {b h : Int} {fs : List Int} (F : Fam b fs) (m : h ∈ fs) : Fam b [h] :=
  ⟨⟨F.ms.b2, F.ms.b16, (by simp), by simp, fun x hx => by simp at hx; subst hx; exact F.ms.hs _ m, by simp, fun x hx => by simp at hx; subst hx; exact F.ms.prim _ m⟩, fun x hx => by simp at hx; subst hx; exact F.small _ m, fun x hx => by simp at hx; subst hx; exact F.dv _ m⟩
theorem Fam.sub {b : Int} {fs gs : List Int} (F : Fam b fs) (s : gs.Sublist fs) (ne : gs ≠ []) : Fam b gs :=
  ⟨⟨F.ms.b2, F.ms.b16, ne, Nat.le_trans s.length_le F.ms.len, fun x hx => F.ms.hs x (s.subset hx), F.ms.nd.sublist s, fun x hx => F.ms.prim x (s.subset hx)⟩, fun x hx => F.small x (s.subset hx), fun x hx => F.dv x (s.subset hx)⟩
def FAMS : List (List Int) := [[1, 2, 5], [1, 2, 3, 6], [1, 3, 5, 15], [2, 3, 5], [1, 3], [2, 3, 4], [1, 25], [1, 4, 12], [1, 2, 4], [1, 7], [1, 11], [2, 13]]
theorem fams_ok : ∀ fs ∈ FAMS, fs.Nodup ∧ fs.length ≤ 16 ∧ ∀ h ∈ fs, 1 ≤ h ∧ h ≤ 25 ∧ (300300 : Int) % h = 0 := by decide
theorem Fam.of {b : Int} {fs : List Int} (b2 : 2 ≤ b) (b16 : b ≤ 16) (m : fs ∈ FAMS) (ne : (fs.filter fun h => decide (0 < h % b)) ≠ []) : Fam b (fs.filter fun h => decide (0 < h % b)) := by
  obtain ⟨h1, h2, h3⟩ := fams_ok fs m
  refine ⟨⟨b2, b16, ne, Nat.le_trans (List.length_filter_le _ _) h2, fun h m => ?_, h1.sublist List.filter_sublist, fun h m => ?_⟩, fun h m => ?_, fun h m => (h3 h (List.mem_filter.mp m).1).2.2⟩
  · have := h3 h (List.mem_filter.mp m).1; omega
  · have := of_decide_eq_true (List.mem_filter.mp m).2; omega
  · exact (h3 h (List.mem_filter.mp m).1).2.1
def sp__law_family : PSp := fun ds n Φ => ∃ m : Nat, ds = [] ∧ n = m + 2 ∧ ∀ b fs, Fam b fs → Φ (.tup [.int b, .lst (fs.map D.int)]) m
/-- a drawn rule's fields -/
structure RFam (b : Int) (way : Str) (ms : List Int) (lim : Int) : Prop where
  fo : FOk b way ms lim
  small : ∀ h ∈ ms, h ≤ 25
  dv : ∀ h ∈ ms, (300300 : Int) % h = 0
  lim6 : lim ≤ 6
abbrev ruD (b : Int) (way : Str) (ms : List Int) (lim : Int) : D := .tup [.int b, .str way, .lst (ms.map D.int), .int lim]
def sp__law_rule : PSp := fun ds n Φ => ∃ (b : Int) (fs : List Int) (m : Nat), ds = [.tup [.int b, .lst (fs.map D.int)]] ∧ Fam b fs ∧ n = m + 19 ∧ ∀ way ms lim, RFam b way ms lim → (∀ h ∈ ms, h ∈ fs) → Φ (ruD b way ms lim) m
def sp__law_times : DSp := sp_power_of
def sp__law_number : PSp := fun ds n Φ => ∃ m : Nat, ds = [] ∧ n = m + 27 ∧ ∀ x, Bd 140 x → Φ (.int x) m
structure Rng2 (lo hi : Int) : Prop where
  b1 : Bd 200 lo
  b2 : Bd 200 hi
  lt : lo < hi
theorem Rng2.rng {lo hi : Int} (h : Rng2 lo hi) : Rng lo hi :=
  ⟨h.b1.mono (by decide), h.b2.mono (by decide), h.lt, by
    have h1 := h.b1
    have h2 := h.b2
    unfold Bd at h1 h2
    have e : (2 : Nat) ^ 200 + 2 ^ 200 ≤ 2 ^ 1000 := by decide +kernel
    have e2 : ((2 ^ 1000 : Nat) : Int) = 2 ^ 1000 := by norm_cast
    rw [← e2]
    generalize (2 : Nat) ^ 1000 = y at *
    generalize (2 : Nat) ^ 200 = x at *
    omega⟩
def sp__law_range : PSp := fun ds n Φ => ∃ (b : Int) (way : Str) (ms : List Int) (lim : Int) (m : Nat), ds = [ruD b way ms lim] ∧ RFam b way ms lim ∧ n = m + 54 ∧ ∀ lo hi dg, Rng2 lo hi → (0 ≤ dg ∧ dg ≤ 5) → Φ (.tup [.int lo, .int hi, .int dg]) m
theorem times_bd {x : Int} {k : Nat} (h : x < 60 * 1000 ^ k) (h0 : 0 ≤ x) (hk : k ≤ 12) : Bd 139 x := by
  have e : (1000 : Int) ^ k ≤ 1000 ^ 12 := pow_mono (by decide) hk
  have e2 : (60 : Int) * 1000 ^ 12 < 2 ^ 139 := by decide +kernel
  unfold Bd
  have e3 : ((2 ^ 139 : Nat) : Int) = 2 ^ 139 := by norm_cast
  rw [← e3] at e2
  generalize (2 : Nat) ^ 139 = y at *
  omega
theorem bd_mod {x y : Int} {k : Nat} (h0 : 0 < y) (h : y ≤ 2 ^ k) : Bd k (x % y) := by
  have h1 := Int.emod_nonneg x (show y ≠ 0 by omega)
  have h2 := Int.emod_lt_of_pos x h0
  have e : ((2 ^ k : Nat) : Int) = 2 ^ k := by norm_cast
  unfold Bd
  rw [← e] at h
  omega
theorem bd_turn {v : Int} {m : Nat} (h : 0 ≤ v ∧ v + (m : Int) ≤ 2 ^ 60) : Bd 61 (v + 1) := by
  unfold Bd
  omega
theorem bd_num {v t : Int} (hv : 0 ≤ v ∧ v < 2147483629) (ht : Bd 61 t) : CMulW (v + 104729 * t) (t * t + 7919) := by
  have h1 : Bd 31 v := Bd.small 2147483629 (by omega) (by decide)
  have h2 : Bd 78 (104729 * t) := (Bd.small (k := 17) 104730 (by decide) (by decide) : Bd 17 (104729 : Int)).mul ht
  have h3 : Bd 122 (t * t) := ht.mul ht
  have h4 : Bd 122 (7919 : Int) := Bd.mono (Bd.small (k := 13) 7920 (by decide) (by decide)) (by decide)
  exact ((h1.mono (k := 78) (by decide)).add h2).cmul (h3.add h4) (by decide)
theorem RFam.of {b l : Int} {way : Str} {ms : List Int} (F : Fam b ms) (hw : way = "inside" ∨ way = "cover" ∨ way = "length") (hl : 1 ≤ l ∧ l ≤ 5) : RFam b way ms (l + if decide (way = "cover") = true then 1 else 0) := by
  by_cases c : way = "cover"
  · refine ⟨⟨F.ms, hw, ?_, ?_, fun _ => ?_⟩, F.small, F.dv, ?_⟩ <;> simp [c] <;> omega
  · refine ⟨⟨F.ms, hw, ?_, ?_, fun e => absurd e c⟩, F.small, F.dv, ?_⟩ <;> simp [c] <;> omega
theorem ways_ok {w : Str} (h : w ∈ (["inside", "cover", "length", "inside", "cover"] : List Str)) : w = "inside" ∨ w = "cover" ∨ w = "length" := by
  simp only [List.mem_cons, List.not_mem_nil, or_false] at h
  rcases h with e | e | e | e | e <;> simp [e]
theorem sub_app {fs ms : List Int} {i : Nat} {x : Int} (h : ms.Sublist (fs.take i)) (hx : fs[i]? = some x) : (ms ++ [x]).Sublist (fs.take (i + 1)) := by
  rw [List.take_add_one, hx]
  exact h.append (List.Sublist.refl _)
theorem sub_skip {fs ms : List Int} {i : Nat} {x : Int} (h : ms.Sublist (fs.take i)) (hx : fs[i]? = some x) : ms.Sublist (fs.take (i + 1)) := by
  rw [List.take_add_one, hx]
  exact h.trans (List.sublist_append_left _ _)
theorem num_step {x f r : Int} {i : Nat} (h0 : 0 ≤ x) (h1 : x < 60 * 1000 ^ i) (hf : 0 ≤ f ∧ f ≤ 997) (hr : 0 ≤ r ∧ r < 61) : 0 ≤ x * f + r ∧ x * f + r < 60 * 1000 ^ (i + 1) := by
  have h2 : 0 ≤ x * f := Int.mul_nonneg h0 hf.1
  have h3 : x * f ≤ x * 997 := Int.mul_le_mul_of_nonneg_left hf.2 h0
  rw [Int.pow_succ]
  generalize (1000 : Int) ^ i = y at *
  omega
theorem len_step {x f : Int} {i : Nat} (h0 : 1 ≤ x) (h1 : x ≤ 100 * 25 ^ i) (hf : 1 ≤ f ∧ f ≤ 25) : 1 ≤ x * f ∧ x * f ≤ 100 * 25 ^ (i + 1) := by
  have h2 : x * 1 ≤ x * f := Int.mul_le_mul_of_nonneg_left hf.1 (by omega)
  have h3 : x * f ≤ x * 25 := Int.mul_le_mul_of_nonneg_left hf.2 (by omega)
  rw [Int.pow_succ]
  generalize (25 : Int) ^ i = y at *
  omega
theorem len_bd {x : Int} {i : Nat} (h0 : 1 ≤ x) (h1 : x ≤ 100 * 25 ^ i) (hi : i ≤ 20) : x < 2 ^ 105 := by
  have e : (25 : Int) ^ i ≤ 25 ^ 20 := pow_mono (by decide) hi
  have e2 : (100 : Int) * 25 ^ 20 < 2 ^ 105 := by decide +kernel
  generalize (2 : Int) ^ 105 = y at *
  generalize (25 : Int) ^ 20 = z at *
  omega
theorem len_mod {x : Int} (h0 : 1 ≤ x) (h : x < 2 ^ 105) : x % (10 : Int) ^ (36 : Int).toNat = x :=
  Int.emod_eq_of_lt (by omega) (Int.lt_of_lt_of_le h (by decide +kernel))
theorem bd_of {x : Int} {k : Nat} (h0 : 0 ≤ x) (h : x < 2 ^ k) : Bd k x := by
  have e : ((2 ^ k : Nat) : Int) = 2 ^ k := by norm_cast
  unfold Bd
  rw [← e] at h
  omega
theorem len_add {x c : Int} (h0 : 1 ≤ x) (h : x < 2 ^ 105) (hc : 0 ≤ c ∧ c ≤ 1) : 1 ≤ x + c ∧ x + c < 2 ^ 106 := by
  have e : (2 : Int) ^ 106 = 2 ^ 105 * 2 := by decide +kernel
  rw [e]
  generalize (2 : Int) ^ 105 = y at *
  omega
theorem rng_of {low Ln : Int} (hl : Bd 198 low) (h1 : 1 ≤ Ln) (h2 : Ln < 2 ^ 106) : Rng2 low (low + if (1 : Int) > Ln then 1 else Ln) := by
  rw [if_neg (by omega)]
  exact ⟨hl.mono (by decide), (hl.add ((bd_of (by omega) h2).mono (by decide))).mono (by decide), by omega⟩
def sp__law_size : DSp := fun ds Φ => ∃ b m p : Int, ds = [.int b, .tup [.int m, .int p]] ∧ (0 ≤ b ∧ b ≤ 16) ∧ (1 ≤ m ∧ m ≤ 1000) ∧ (-60 ≤ p ∧ p ≤ 1100) ∧ Φ (.int (m * b ^ (p + 60).toNat))
theorem low_half {Ln : Int} (h1 : 1 ≤ Ln) (h2 : Ln < 2 ^ 106) : Bd 198 (0 - Ln / 2) := by
  have h : Bd 106 (Ln / 2) := (bd_of (by omega) h2).div (by decide)
  rw [Int.zero_sub]
  exact h.neg.mono (by decide)
theorem low_mul {x Ln : Int} (hx : Bd 140 x) (h1 : 1 ≤ Ln) (h2 : Ln < 2 ^ 106) : Bd 198 (x / Ln * Ln) := by
  have h3 := fl1 (a := x) (show 0 < Ln by omega)
  have h4 := fl2 (a := x) (show 0 < Ln by omega)
  have h5 : Bd 140 Ln := (bd_of (by omega) h2).mono (by decide)
  have h6 : Bd 141 (x - Ln) := hx.sub h5
  exact (Bd.between (by omega) h3 h6 (hx.mono (by decide))).mono (by decide)
end Ax

/-! AxMore: steps are told apart by their size; marks; ranges within ranges, upside down, scaled, moved. -/
namespace Ax
open PySem PySem.Spec PyProof.Rows L2 DL
/-- two steps of one size are the same -/
theorem V_inj_lt {b : Int} {s t : Int × Int} (hb : 2 ≤ b) (hs : -200 ≤ s.2) (ht : -200 ≤ t.2) (ps : s.1 % b ≠ 0) (h : V b s = V b t) : ¬ t.2 > s.2 := by
  intro g
  apply ps
  have hB := pow_pos (b := b) (by omega) (s.2 + 200).toNat
  have e : V b t = t.1 * b ^ (t.2 - s.2).toNat * b ^ (s.2 + 200).toNat := by
    unfold V
    rw [Int.mul_assoc, ← Int.pow_add]
    congr 2
    omega
  have h2 : s.1 * b ^ (s.2 + 200).toNat = t.1 * b ^ (t.2 - s.2).toNat * b ^ (s.2 + 200).toNat := by rw [← e]; exact h
  have h3 : s.1 = t.1 * b ^ (t.2 - s.2).toNat := Int.eq_of_mul_eq_mul_right (Int.ne_of_gt hB) h2
  have h4 : (t.2 - s.2).toNat = (t.2 - s.2 - 1).toNat + 1 := by omega
  rw [h3, h4, Int.pow_succ, ← Int.mul_assoc]
  exact Int.mul_emod_left _ _
theorem V_inj {b : Int} {s t : Int × Int} (hb : 2 ≤ b) (hs : -200 ≤ s.2) (ht : -200 ≤ t.2) (ps : s.1 % b ≠ 0) (pt : t.1 % b ≠ 0) (h : V b s = V b t) : s = t := by
  have h1 := V_inj_lt hb hs ht ps h
  have h2 := V_inj_lt hb ht hs pt h.symm
  have e : s.2 = t.2 := by omega
  have hB := pow_pos (b := b) (by omega) (t.2 + 200).toNat
  unfold V at h
  rw [e] at h
  have h3 := Int.eq_of_mul_eq_mul_right (Int.ne_of_gt hB) h
  exact Prod.ext h3 e
theorem LeastFit.uniq {r : RD} {lo hi : Int} {s t : Int × Int} (ro : ROk r) (h : LeastFit r lo hi s) (g : LeastFit r lo hi t) : s = t := by
  have h1 := h.p1
  have g1 := g.p1
  have e1 := h.least t g.mem (by omega) g.fit
  have e2 := g.least s h.mem (by omega) h.fit
  exact V_inj ro.b2 (by omega) (by omega) (ro.prim _ h.mem) (ro.prim _ g.mem) (Int.le_antisymm e1 e2)
/-! marks -/
def mk1 (r : RD) (s : Int × Int) (lo : Int) : Int := if r.way = "cover" then lo * den r.b s.2 / num r.b s.1 s.2 else cdiv (lo * den r.b s.2) (num r.b s.1 s.2)
def mk2 (r : RD) (s : Int × Int) (hi : Int) : Int := if r.way = "cover" then cdiv (hi * den r.b s.2) (num r.b s.1 s.2) else hi * den r.b s.2 / num r.b s.1 s.2
def sp_marks_of (C : Addr) : DSp := fun ds Φ => ∃ (r : RD) (s : Int × Int) (lo hi : Int), ds = [r.d C, stD s, .int lo, .int hi] ∧ ROk r ∧ SOk s ∧ Bd 3998 lo ∧ Bd 3998 hi ∧ Φ (.tup [.int (mk1 r s lo), .int (mk2 r s hi)])
def sp_Rule_marks (C : Addr) : DSp := fun ds Φ => ∃ (r : RD) (lo hi dg : Int), ds = [r.d C, .tup [.int lo, .int hi, .int dg]] ∧ ROk r ∧ Rng lo hi ∧ 0 ≤ dg ∧ ∀ s, LeastFit r lo hi s → Φ (.tup [.int (mk1 r s lo), .int (mk2 r s hi)])
def sp_Rule_count (C : Addr) : DSp := fun ds Φ => ∃ (r : RD) (lo hi dg : Int), ds = [r.d C, .tup [.int lo, .int hi, .int dg]] ∧ ROk r ∧ Rng lo hi ∧ 0 ≤ dg ∧ ∀ s, LeastFit r lo hi s → Φ (.int (mk2 r s hi - mk1 r s lo + 1))
def sp__law_made (C : Addr) : DSp := fun ds Φ => ∃ (b : Int) (way : Str) (ms : List Int) (lim : Int), ds = [ruD b way ms lim] ∧ FOk b way ms lim ∧ ∀ ns : List Int, ns.Perm ms → ns.Pairwise (· ≤ ·) → Φ (RD.d C ⟨b, way, ns, lim⟩)
theorem LeastFit.sok {r : RD} {lo hi : Int} {s : Int × Int} (ro : ROk r) (h : LeastFit r lo hi s) : SOk s :=
  ⟨(ro.hs _ h.mem).1, (ro.hs _ h.mem).2, by have := h.p1; omega, by have := h.p2; omega⟩
theorem mk1_V {r : RD} {s : Int × Int} {lo : Int} (ro : ROk r) (hs : -200 ≤ s.2) : mk1 r s lo = if r.way = "cover" then lo * r.b ^ 200 / V r.b s else cdiv (lo * r.b ^ 200) (V r.b s) := by
  have hb : 0 < r.b := by have := ro.b2; omega
  unfold mk1
  rw [floor_V hb hs, ceil_V hb hs]
theorem mk2_V {r : RD} {s : Int × Int} {hi : Int} (ro : ROk r) (hs : -200 ≤ s.2) : mk2 r s hi = if r.way = "cover" then cdiv (hi * r.b ^ 200) (V r.b s) else hi * r.b ^ 200 / V r.b s := by
  have hb : 0 < r.b := by have := ro.b2; omega
  unfold mk2
  rw [floor_V hb hs, ceil_V hb hs]
/-! ### fits of other ranges, over the scale -/
/-- within -/
theorem fit_within {way : Str} {lim v l h l2 h2 : Int} (hv : 0 < v) (h1 : l ≤ l2) (h3 : h2 ≤ h) (g : fitV way lim v l h) : fitV way lim v l2 h2 := by
  unfold fitV at *
  have f1 : h2 / v ≤ h / v := Int.ediv_le_ediv hv h3
  have f2 : l / v ≤ l2 / v := Int.ediv_le_ediv hv h1
  have c1 : cdiv h2 v ≤ cdiv h v := by unfold cdiv; have := Int.ediv_le_ediv hv (show 0 - h ≤ 0 - h2 by omega); omega
  have c2 : cdiv l v ≤ cdiv l2 v := by unfold cdiv; have := Int.ediv_le_ediv hv (show 0 - l2 ≤ 0 - l by omega); omega
  split
  · next e => rw [if_pos e] at g; omega
  · next e =>
    rw [if_neg e] at g
    split
    · next e2 => rw [if_pos e2] at g; omega
    · next e2 => rw [if_neg e2] at g; omega
/-- a greater limit -/
theorem fit_more {way : Str} {lim lim2 v l h : Int} (hv : 0 < v) (hl : lim ≤ lim2) (g : fitV way lim v l h) : fitV way lim2 v l h := by
  unfold fitV at *
  have := Int.mul_le_mul_of_nonneg_right hl (Int.le_of_lt hv)
  split
  · next e => rw [if_pos e] at g; omega
  · next e =>
    rw [if_neg e] at g
    split
    · next e2 => rw [if_pos e2] at g; omega
    · next e2 => rw [if_neg e2] at g; omega
theorem cdiv_neg {a v : Int} : cdiv (-a) v = -(a / v) := by
  unfold cdiv
  rw [show (0 : Int) - -a = a by omega]
  omega
theorem ediv_neg' {a v : Int} : (-a) / v = -(cdiv a v) := by
  unfold cdiv
  rw [show (0 : Int) - a = -a by omega]
  omega
/-- upside down -/
theorem fit_mirror {way : Str} {lim v l h : Int} : fitV way lim v (-h) (-l) ↔ fitV way lim v l h := by
  unfold fitV
  rw [cdiv_neg, cdiv_neg, ediv_neg', ediv_neg']
  split
  · constructor <;> intro g <;> omega
  · split
    · constructor <;> intro g <;> omega
    · constructor <;> intro g <;> omega
/-- times a number -/
theorem fit_times {way : Str} {lim v l h k : Int} (hk : 0 < k) : fitV way lim (v * k) (l * k) (h * k) ↔ fitV way lim v l h := by
  unfold fitV cdiv
  have e1 : ∀ a : Int, (0 - a * k) = (0 - a) * k := fun a => by rw [Int.sub_mul, Int.zero_mul]
  rw [e1, e1, Int.mul_ediv_mul_of_pos_left _ _ hk, Int.mul_ediv_mul_of_pos_left _ _ hk, Int.mul_ediv_mul_of_pos_left _ _ hk, Int.mul_ediv_mul_of_pos_left _ _ hk]
  have e2 : (h * k - l * k ≤ lim * (v * k)) ↔ (h - l ≤ lim * v) := by
    rw [← Int.sub_mul, ← Int.mul_assoc]
    exact Int.mul_le_mul_right hk
  rw [e2]
/-- moved by a multiple -/
theorem fl_move {a v c : Int} (hv : 0 < v) : (a + c * v) / v = a / v + c := Int.add_mul_ediv_right a c (Int.ne_of_gt hv)
theorem cd_move {a v c : Int} (hv : 0 < v) : cdiv (a + c * v) v = cdiv a v + c := by
  unfold cdiv
  have e : (0 - (a + c * v)) = (0 - a) + (-c) * v := by rw [Int.neg_mul]; omega
  rw [e, fl_move hv]
  omega
theorem fit_move {way : Str} {lim v l h c : Int} (hv : 0 < v) : fitV way lim v (l + c * v) (h + c * v) ↔ fitV way lim v l h := by
  unfold fitV
  rw [fl_move hv, cd_move hv, fl_move hv, cd_move hv]
  split
  · constructor <;> intro g <;> omega
  · split
    · constructor <;> intro g <;> omega
    · constructor <;> intro g <;> omega
/-- a step at most so great fits surely: the taken one is below the length times the base -/
theorem V_split {b m p q : Int} (hp : -200 ≤ p) (hq : p ≤ q) : V b (m, q) = V b (m, p) * b ^ (q - p).toNat := by
  unfold V
  rw [Int.mul_assoc, ← Int.pow_add]
  congr 2
  simp only
  omega
end Ax

/-! Lw05: ranges within ranges, upside down, scaled, moved. -/
namespace Ax
open PySem PySem.Spec PyProof.Rows L2 DL
variable {r : RD} {lo hi lo2 hi2 : Int} {s t : Int × Int}
theorem LeastFit.within (ro : ROk r) (h : LeastFit r lo hi s) (g : LeastFit r lo2 hi2 t) (h1 : lo ≤ lo2) (h2 : hi2 ≤ hi) : V r.b t ≤ V r.b s := by
  have b2 := ro.b2
  have p1 := h.p1
  refine g.least s h.mem (by omega) ?_
  have hf := h.fit
  have hB := pow_pos (b := r.b) (by omega) 200
  rw [isFit_V ro (by omega)] at hf ⊢
  exact fit_within (V_pos (by omega) (by have := ro.hs _ h.mem; omega)) (Int.mul_le_mul_of_nonneg_right h1 (by omega)) (Int.mul_le_mul_of_nonneg_right h2 (by omega)) hf
theorem LeastFit.mirror (ro : ROk r) (h : LeastFit r lo hi s) (g : LeastFit r (-hi) (-lo) t) : t = s := by
  have key : ∀ u : Int × Int, -200 ≤ u.2 → (isFit r u (-hi) (-lo) = true ↔ isFit r u lo hi = true) := fun u hu => by
    rw [isFit_V ro hu, isFit_V ro hu, Int.neg_mul, Int.neg_mul]
    exact fit_mirror
  have h1 := h.p1
  have g1 := g.p1
  refine (LeastFit.uniq ro h ⟨g.mem, g.p1, g.p2, (key t (by omega)).mp g.fit, fun u m l f => g.least u m l ((key u l).mpr f)⟩).symm
theorem LeastFit.scaled (ro : ROk r) (h : LeastFit r lo hi s) (g : LeastFit r (lo * r.b) (hi * r.b) t) : t = (s.1, s.2 + 1) := by
  have b2 := ro.b2
  have h1 := h.p1
  have g1 := g.p1
  have key : ∀ u : Int × Int, -200 ≤ u.2 → (isFit r (u.1, u.2 + 1) (lo * r.b) (hi * r.b) = true ↔ isFit r u lo hi = true) := fun u hu => by
    rw [isFit_V ro (s := (u.1, u.2 + 1)) (by simp only; omega), isFit_V ro hu, V_succ (m := u.1) hu, Int.mul_right_comm lo, Int.mul_right_comm hi]
    exact fit_times (by omega)
  have hs := (key s (by omega)).mpr h.fit
  have e1 := g.least (s.1, s.2 + 1) h.mem (by simp only; omega) hs
  have ht : isFit r (t.1, t.2 - 1) lo hi = true := by
    rw [← key (t.1, t.2 - 1) (by simp only; omega)]
    rw [show ((t.1, t.2 - 1).1, (t.1, t.2 - 1).2 + 1) = t from Prod.ext rfl (by simp only; omega)]
    exact g.fit
  have e2 := h.least (t.1, t.2 - 1) g.mem (by simp only; omega) ht
  have e3 : V r.b t = V r.b (t.1, t.2 - 1) * r.b := by
    rw [← V_succ (m := t.1) (by omega), show t.2 - 1 + 1 = t.2 by omega]
  have e4 : V r.b (s.1, s.2 + 1) = V r.b s * r.b := V_succ (m := s.1) (by omega)
  have e5 : V r.b s * r.b ≤ V r.b (t.1, t.2 - 1) * r.b := Int.mul_le_mul_of_nonneg_right e2 (by omega)
  exact V_inj b2 (by omega) (by simp only; omega) (ro.prim _ g.mem) (ro.prim _ h.mem) (by omega)
/-- with more marks, or more mantissas -/
theorem LeastFit.more {b lim lim2 : Int} {way : Str} {ns ms : List Int} (f1 : ROk ⟨b, way, ns, lim⟩) (f2 : ROk ⟨b, way, ms, lim2⟩) (hl : lim ≤ lim2) (hm : ∀ h ∈ ns, h ∈ ms) (h : LeastFit ⟨b, way, ns, lim⟩ lo hi s) (g : LeastFit ⟨b, way, ms, lim2⟩ lo hi t) : V b t ≤ V b s := by
  have b2 := f1.b2
  have p1 := h.p1
  refine g.least s (hm _ h.mem) (by omega) ?_
  have hf := h.fit
  rw [isFit_V f1 (by omega)] at hf
  rw [isFit_V f2 (by omega)]
  exact fit_more (V_pos (by simp only at b2 ⊢; omega) (by have := f1.hs _ h.mem; omega)) hl hf
/-- the taken step's power where the length is told -/
theorem LeastFit.power (ro : ROk r) {k : Nat} (h : LeastFit r lo hi s) (hL : lo < hi) (hk : (hi - lo) * r.b * 9 * r.b ≤ r.b ^ k) : s.2 ≤ k := by
  rcases Int.lt_or_le (k : Int) s.2 with g | g
  · exfalso
    have b2 := ro.b2
    have m1 := (ro.hs _ h.mem).1
    have hV : V r.b s = V r.b (s.1, s.2 - 1) * r.b := by rw [← V_succ (m := s.1) (by omega), show s.2 - 1 + 1 = s.2 by omega]
    have v0 : 0 < V r.b (s.1, s.2 - 1) := V_pos (by omega) (by simp only; omega)
    have big : (hi - lo) * r.b ^ 200 < V r.b (s.1, s.2 - 1) := by
      have h1 := V_mono (b := r.b) (m := s.1) (p := k) (q := s.2 - 1) (by omega) (by omega) (by omega)
      have h2 : V r.b (s.1, (k : Int)) = s.1 * (r.b ^ k * r.b ^ 200) := by
        unfold V
        rw [← Int.pow_add]
        congr 2
      have hB := pow_pos (b := r.b) (by omega) 200
      have hK := pow_pos (b := r.b) (by omega) k
      have h3 : 1 * (r.b ^ k * r.b ^ 200) ≤ s.1 * (r.b ^ k * r.b ^ 200) := Int.mul_le_mul_of_nonneg_right m1 (Int.le_of_lt (Int.mul_pos hK hB))
      have h4 : (hi - lo) < r.b ^ k := by
        have a1 : (hi - lo) * 1 ≤ (hi - lo) * r.b := Int.mul_le_mul_of_nonneg_left (by omega) (by omega)
        have a2 : (hi - lo) * r.b * 9 * 1 ≤ (hi - lo) * r.b * 9 * r.b := Int.mul_le_mul_of_nonneg_left (by omega) (by omega)
        omega
      have h5 : (hi - lo) * r.b ^ 200 < r.b ^ k * r.b ^ 200 := (Int.mul_lt_mul_right hB).mpr h4
      omega
    have sf : surely r (s.1, s.2 - 1) (hi - lo) = true := by
      rw [surely_V ro (by simp only; omega)]
      have l1 := ro.l1
      unfold sureV
      split
      · have : 1 * V r.b (s.1, s.2 - 1) ≤ r.lim * V r.b (s.1, s.2 - 1) := Int.mul_le_mul_of_nonneg_right l1 (by omega)
        omega
      · split
        · next e =>
          have := ro.cov e
          have : 1 * V r.b (s.1, s.2 - 1) ≤ (r.lim - 1) * V r.b (s.1, s.2 - 1) := Int.mul_le_mul_of_nonneg_right (by omega) (by omega)
          omega
        · have : 1 * V r.b (s.1, s.2 - 1) ≤ r.lim * V r.b (s.1, s.2 - 1) := Int.mul_le_mul_of_nonneg_right l1 (by omega)
          omega
    have ff := sure_is ro (s := (s.1, s.2 - 1)) (by simp only; omega) (by simp only; omega) sf
    have le := h.least (s.1, s.2 - 1) h.mem (by simp only; omega) ff
    have : V r.b (s.1, s.2 - 1) * 2 ≤ V r.b (s.1, s.2 - 1) * r.b := Int.mul_le_mul_of_nonneg_left b2 (by omega)
    omega
  · exact g
/-- a common multiple in the scale -/
theorem shift_V {b m p z : Int} {k : Nat} (hp : -200 ≤ p) (hk : p ≤ k) (hd : 300300 % m = 0) : ∃ c, b ^ k * 300300 * z * b ^ 200 = c * V b (m, p) := by
  obtain ⟨q, hq⟩ := Int.dvd_of_emod_eq_zero hd
  refine ⟨b ^ ((k : Int) - p).toNat * q * z, ?_⟩
  have e : b ^ k * b ^ 200 = b ^ ((k : Int) - p).toNat * b ^ (p + 200).toNat := by
    rw [← Int.pow_add, ← Int.pow_add]
    congr 1
    omega
  unfold V
  simp only
  calc b ^ k * 300300 * z * b ^ 200 = (b ^ k * b ^ 200) * 300300 * z := by ac_rfl
    _ = (b ^ ((k : Int) - p).toNat * b ^ (p + 200).toNat) * (m * q) * z := by rw [e, hq]
    _ = b ^ ((k : Int) - p).toNat * q * z * (m * b ^ (p + 200).toNat) := by ac_rfl
theorem LeastFit.moved (ro : ROk r) (hdv : ∀ h ∈ r.hs, (300300 : Int) % h = 0) {k : Nat} {z : Int} (h : LeastFit r lo hi s) (g : LeastFit r (lo + r.b ^ k * 300300 * z) (hi + r.b ^ k * 300300 * z) t) (hL : lo < hi) (hk : (hi - lo) * r.b * 9 * r.b ≤ r.b ^ k) :
    t = s ∧ mk2 r s (hi + r.b ^ k * 300300 * z) - mk1 r s (lo + r.b ^ k * 300300 * z) = mk2 r s hi - mk1 r s lo := by
  have b2 := ro.b2
  have h1 := h.p1
  have g1 := g.p1
  have hp := h.power ro hL hk
  have gp := g.power (k := k) ro (by omega) (by rw [show hi + r.b ^ k * 300300 * z - (lo + r.b ^ k * 300300 * z) = hi - lo by omega]; exact hk)
  have key : ∀ u : Int × Int, u.1 ∈ r.hs → -200 ≤ u.2 → u.2 ≤ k → (isFit r u (lo + r.b ^ k * 300300 * z) (hi + r.b ^ k * 300300 * z) = true ↔ isFit r u lo hi = true) := fun u m l l2 => by
    obtain ⟨c, e⟩ := shift_V (b := r.b) (z := z) l l2 (hdv _ m)
    rw [isFit_V ro l, isFit_V ro l, Int.add_mul, Int.add_mul, e]
    exact fit_move (V_pos (by omega) (by have := ro.hs _ m; omega))
  have e1 := g.least s h.mem (by omega) ((key s h.mem (by omega) hp).mpr h.fit)
  have e2 := h.least t g.mem (by omega) ((key t g.mem (by omega) gp).mp g.fit)
  have e : t = s := V_inj b2 (by omega) (by omega) (ro.prim _ g.mem) (ro.prim _ h.mem) (Int.le_antisymm e1 e2)
  refine ⟨e, ?_⟩
  obtain ⟨c, ec⟩ := shift_V (b := r.b) (z := z) (show -200 ≤ s.2 by omega) hp (hdv _ h.mem)
  have hv : 0 < V r.b s := V_pos (by omega) (by have := ro.hs _ h.mem; omega)
  have ec2 : r.b ^ k * 300300 * z * r.b ^ 200 = c * V r.b s := ec
  rw [mk1_V ro (by omega), mk1_V ro (by omega), mk2_V ro (by omega), mk2_V ro (by omega), Int.add_mul, Int.add_mul, ec2]
  split
  · rw [fl_move hv, cd_move hv]; omega
  · rw [fl_move hv, cd_move hv]; omega
/-! promises -/
def sp__law_is_more : DSp := fun ds Φ => ∃ (b : Int) (way : Str) (ms : List Int) (lim : Int) (s t : Int × Int), ds = [ruD b way ms lim, stD s, stD t] ∧ (2 ≤ b ∧ b ≤ 16) ∧ SOk s ∧ SOk t ∧ Φ (.bl (decide (V b t < V b s)))
theorem more_V {b l : Int} (hb : 2 ≤ b) (h1 : -200 ≤ l) (h2 : l ≤ s.2) (h3 : l ≤ t.2) : decide (t.1 * b ^ (t.2 - l).toNat < s.1 * b ^ (s.2 - l).toNat) = decide (V b t < V b s) := by
  have e : ∀ u : Int × Int, l ≤ u.2 → V b u = u.1 * b ^ (u.2 - l).toNat * b ^ (l + 200).toNat := fun u hu => by
    unfold V
    rw [Int.mul_assoc, ← Int.pow_add]
    congr 2
    omega
  rw [e s h2, e t h3]
  have := Int.mul_lt_mul_right (a := b ^ (l + 200).toNat) (b := t.1 * b ^ (t.2 - l).toNat) (c := s.1 * b ^ (s.2 - l).toNat) (pow_pos (by omega) _)
  exact (decide_eq_decide.mpr this).symm
def sp__law_moved_right (C : Addr) : PSp := fun ds n Φ => ∃ (b : Int) (way : Str) (ms ns : List Int) (lim lo hi dg : Int) (m : Nat), ds = [ruD b way ms lim, RD.d C ⟨b, way, ns, lim⟩, .tup [.int lo, .int hi, .int dg]] ∧ RFam b way ms lim ∧ ns.Perm ms ∧ Rng2 lo hi ∧ (0 ≤ dg ∧ dg ≤ 5) ∧ n = m + 2 ∧ Φ (.bl true) m
def sp__law_right05 : PSp := fun ds n Φ => ∃ (b : Int) (way : Str) (fs ms : List Int) (lim : Int) (m : Nat), ds = [.tup [.int b, .lst (fs.map D.int)], ruD b way ms lim] ∧ Fam b fs ∧ RFam b way ms lim ∧ (∀ h ∈ ms, h ∈ fs) ∧ n = m + 62 ∧ Φ (.bl true) m
theorem eqv_pair {a b c d : Int} : PyData.eqv (toPy (.tup [.int a, .int b])) (toPy (.tup [.int c, .int d])) = (decide (a = c) && decide (b = d)) := by
  show ((a == c) && ((b == d) && true)) = _
  rw [Bool.and_true]
  rfl
theorem Rng2.of {lo hi : Int} (h1 : Bd 200 lo) (h2 : Bd 200 hi) (h : lo < hi) : Rng2 lo hi := ⟨h1, h2, h⟩
theorem Rng.big {lo hi : Int} (h1 : Bd 400 lo) (h2 : Bd 400 hi) (h : lo < hi) : Rng lo hi :=
  ⟨h1.mono (by decide), h2.mono (by decide), h, by
    unfold Bd at h1 h2
    have e : (2 : Nat) ^ 400 + 2 ^ 400 ≤ 2 ^ 1000 := by decide +kernel
    have e2 : ((2 ^ 1000 : Nat) : Int) = 2 ^ 1000 := by norm_cast
    rw [← e2]
    generalize (2 : Nat) ^ 1000 = y at *
    generalize (2 : Nat) ^ 400 = x at *
    omega⟩
theorem sq_lt {b : Int} (h1 : 2 ≤ b) (h2 : b ≤ 16) : b * b < 2 ^ 100 := by
  have h : b * b ≤ 16 * 16 := Int.mul_le_mul h2 h2 (by omega) (by decide)
  have : (16 : Int) * 16 < 2 ^ 100 := by decide +kernel
  omega
theorem len24 {L b : Int} (h0 : 0 < L) (h : L ≤ 10 ^ (24 : Int).toNat) (h1 : 2 ≤ b) (h2 : b ≤ 16) : Bd 80 L ∧ L * b * 9 * b ≤ 2 ^ 96 ∧ 0 < L * b * 9 * b := by
  have a1 : L * b ≤ 10 ^ (24 : Int).toNat * 16 := Int.mul_le_mul h h2 (by omega) (by decide +kernel)
  have a0 : 0 < L * b := Int.mul_pos h0 (by omega)
  have a2 : L * b * 9 * b ≤ 10 ^ (24 : Int).toNat * 16 * 9 * 16 := Int.mul_le_mul (by omega) h2 (by omega) (by decide +kernel)
  have a3 : (10 : Int) ^ (24 : Int).toNat * 16 * 9 * 16 ≤ 2 ^ 96 := by decide +kernel
  refine ⟨bd_of (by omega) (Int.lt_of_le_of_lt h (by decide +kernel)), Int.le_trans a2 a3, Int.mul_pos (by omega) (by omega)⟩
theorem grow96 {w b T : Int} (h1 : 2 ≤ b) (h2 : b ≤ 16) (hw : w < T) (hT : T ≤ 2 ^ 96) : w * b < 2 ^ 100 := by
  by_cases h0 : 0 ≤ w
  · have a : w * b ≤ w * 16 := Int.mul_le_mul_of_nonneg_left h2 h0
    have e : (2 : Int) ^ 100 = 2 ^ 96 * 16 := by decide +kernel
    rw [e]
    generalize (2 : Int) ^ 96 = y at *
    omega
  · have a : w * b ≤ 0 := Int.mul_nonpos_of_nonpos_of_nonneg (by omega) (by omega)
    have : (0 : Int) < 2 ^ 100 := by decide +kernel
    omega
theorem pow_lt_100 {b : Int} {k : Nat} (hb : 2 ≤ b) (h : b ^ k < 2 ^ 100) : k < 100 := by
  rcases Nat.lt_or_ge k 100 with g | g
  · exact g
  · have h1 := two_pow_le hb k
    have h2 := pow_mono (b := (2 : Int)) (by decide) g
    omega
theorem V_down {b d : Int} {s t : Int × Int} (hb : 2 ≤ b) (hd : 0 ≤ d ∧ d ≤ 20) (hs : -17 ≤ s.2) (ht : -17 ≤ t.2) (h : V b s ≤ V b t) : V b (s.1, s.2 - d) ≤ V b (t.1, t.2 - d) := by
  have e : ∀ u : Int × Int, -17 ≤ u.2 → V b u = V b (u.1, u.2 - d) * b ^ d.toNat := fun u hu => by
    have := V_split (b := b) (m := u.1) (p := u.2 - d) (q := u.2) (by omega) (by omega)
    rw [show u.2 - (u.2 - d) = d by omega] at this
    exact this
  rw [e s hs, e t ht] at h
  exact (Int.mul_le_mul_right (pow_pos (by omega) _)).mp h
theorem LeastFit.down {r : RD} {lo hi d : Int} {s : Int × Int} (ro : ROk r) (h : LeastFit r lo hi s) (hd : 0 ≤ d ∧ d ≤ 20) : SOk (s.1, s.2 - d) :=
  ⟨(ro.hs _ h.mem).1, (ro.hs _ h.mem).2, by have := h.p1; simp only; omega, by have := h.p2; simp only; omega⟩
theorem pow3 {b r : Int} (h1 : 2 ≤ b) (h2 : b ≤ 16) (hr : 0 ≤ r ∧ r < 3) : 1 ≤ b ^ r.toNat ∧ b ^ r.toNat ≤ 256 := by
  have a := pow_pos (b := b) (by omega) r.toNat
  have c := pow_mono (b := b) (by omega) (show r.toNat ≤ 2 by omega)
  have e : b ^ 2 = b * b := by rw [Int.pow_succ, Int.pow_succ, Int.pow_zero, Int.one_mul]
  have h : b * b ≤ 16 * 16 := Int.mul_le_mul h2 h2 (by omega) (by decide)
  omega
theorem part_of {a c d : Int} (ha : 0 ≤ a ∧ a < 2) (hc : 0 ≤ c ∧ c < d) : 0 ≤ a * c ∧ a * c < d := by
  rcases (show a = 0 ∨ a = 1 by omega) with rfl | rfl
  · rw [Int.zero_mul]; omega
  · rw [Int.one_mul]; exact hc
theorem wide_of {lo hi M : Int} (rg : Rng2 lo hi) (h1 : 1 ≤ M) (h2 : M ≤ 256) : Bd 210 (lo * M) ∧ Bd 210 (hi * M) ∧ lo * M < hi * M := by
  have hM : Bd 9 M := Bd.small 257 (by omega) (by decide)
  exact ⟨(rg.b1.mul hM).mono (by decide), (rg.b2.mul hM).mono (by decide), Int.mul_lt_mul_of_pos_right rg.lt (by omega)⟩
theorem bd_mid {k : Nat} {a x c : Int} (h1 : Bd k a) (h2 : Bd k c) (l1 : a ≤ x) (l2 : x ≤ c) : Bd k x := Bd.between l1 l2 h1 h2
end Ax

/-! AxGen: comprehensions over mapped lists, least and greatest, nested scopes. -/
namespace DL
open PySem PySem.Spec PyProof.Rows L2
def subE : Expr → Expr
  | .Subscript a _ _ => a
  | e => e
end DL
namespace Ax
open PySem PySem.Spec PyProof.Rows L2 DL
theorem lc_map {α β : Type} {E : α → D} {F : β → D} {xs : List α} (g : α → β) (p : α → Bool) {t : D → Bool} {f : D → D} (ht : ∀ a, t (E a) = p a) (hf : ∀ a, f (E a) = F (g a)) : ((xs.map E).filter t).map f = ((xs.filter p).map g).map F := by
  induction xs with
  | nil => rfl
  | cons a as ih =>
    rw [List.map_cons, List.filter_cons, List.filter_cons, ht]
    split
    · rw [List.map_cons, List.map_cons, List.map_cons, ih, hf]
    · exact ih
theorem lc_same {α : Type} {E : α → D} {xs : List α} (p : α → Bool) {t : D → Bool} {f : D → D} (ht : ∀ a, t (E a) = p a) (hf : ∀ a, f (E a) = E a) : ((xs.map E).filter t).map f = (xs.filter p).map E := by
  rw [lc_map (F := E) id p ht hf, List.map_id]
theorem lc_all {α β : Type} {E : α → D} {F : β → D} {xs : List α} (g : α → β) {f : D → D} (hf : ∀ a, f (E a) = F (g a)) : ((xs.map E).filter fun _ => true).map f = (xs.map g).map F := by
  rw [lc_map (F := F) g (fun _ => true) (fun _ => rfl) hf, List.filter_eq_self.mpr (fun _ _ => rfl)]
theorem max_of : ∀ {l : List Int}, l ≠ [] → ∃ M, M ∈ l ∧ ∀ y ∈ l, y ≤ M
  | [], h => absurd rfl h
  | [a], _ => ⟨a, List.mem_cons_self, fun y m => by simp at m; subst m; exact Int.le_refl _⟩
  | a :: b :: as, _ => by
    obtain ⟨M, m1, m2⟩ := max_of (l := b :: as) (by simp)
    by_cases h : M ≤ a
    · exact ⟨a, List.mem_cons_self, fun y m => by
        rcases List.mem_cons.mp m with e | e
        · subst e; exact Int.le_refl _
        · exact Int.le_trans (m2 y e) h⟩
    · exact ⟨M, List.mem_cons_of_mem _ m1, fun y m => by
        rcases List.mem_cons.mp m with e | e
        · subst e; omega
        · exact m2 y e⟩
/-- one of the greatest of a measured list -/
theorem greatest_of {α : Type} {xs : List α} (v : α → Int) (h : xs ≠ []) : ∃ M, M ∈ xs.map v ∧ (∀ y ∈ xs.map v, y ≤ M) ∧ ∃ g gs, (xs.filter fun x => decide (v x = M)) = g :: gs ∧ g ∈ xs ∧ v g = M := by
  obtain ⟨M, h1, h2⟩ := max_of (l := xs.map v) (by simpa using h)
  obtain ⟨x, hx, e⟩ := List.mem_map.mp h1
  have hm : x ∈ xs.filter fun x => decide (v x = M) := List.mem_filter.mpr ⟨hx, decide_eq_true e⟩
  obtain ⟨g, gs, e2⟩ := List.exists_cons_of_ne_nil (List.ne_nil_of_mem hm)
  have hg : g ∈ xs.filter fun x => decide (v x = M) := by rw [e2]; exact List.mem_cons_self
  have hg2 := List.mem_filter.mp hg
  exact ⟨M, h1, h2, g, gs, e2, hg2.1, of_decide_eq_true hg2.2⟩
end Ax

/-! DLr: isinstance of a class of the program, of data of any kind. -/
namespace DL
open PySem PySem.Spec PyProof.Rows L2
/-- what isinstance asks of an instance's class -/
structure ObC (K : PySem.W.Frag) (C : Addr) : Prop where
  cl : Cls K C
  ha : PySem.W.findIn K (.ref C) "__class__" = some (some (.builtin "object.__class__"))
  hn : PySem.W.specialIn K (.builtin "object.__class__") "__get__" = some (some (.builtin "getset_descriptor.__get__"))
  htk : PySem.W.takesIn K (.builtin "object.__class__") = some true
  hm : PySem.W.mroIn K C (.type "object") = some true
/-- a datum's class -/
def TyD (K : PySem.W.Frag) : D → Value → Prop
  | .non, t => t = .type "NoneType" | .bl _, t => t = .type "bool" | .int _, t => t = .type "int" | .str _, t => t = .type "str"
  | .tup _, t => t = .type "tuple" | .ktup _, t => t = .type "tuple" | .lst _, t => t = .type "list" | .own _ _, t => t = .type "list" | .new _, t => t = .type "list"
  | .ownK _ _ _, t => t = .type "dict" | .ownT _ _ _, t => t = .type "dict" | .newK, t => t = .type "dict" | .newT, t => t = .type "dict"
  | .obj C _ _, t => t = .ref C ∧ ObC K C
  | _, _ => False
theorem TyD.ty {K : PySem.W.Frag} {Av Ow : Addr → Prop} {pu : Option Addr} {Hs H : Hp} {d : D} {v : V} {t : Value} (h : TyD K d t) (r : RpE K Av Ow pu Hs H d v) : TyX K H v t := by
  cases d with
  | non => cases h; cases (show v = .non from r); exact .base .non
  | bl b => cases h; cases (show v = .bl b from r); exact .base (.bl b)
  | int i => cases h; cases (show v = .int i from r); exact .base (.int i)
  | str i => cases h; cases (show v = .str i from r); exact .base (.str i)
  | tup ds => cases h; obtain ⟨a, vs, rfl, _, h1, _⟩ := r; exact .base (.tup h1)
  | ktup ds => cases h; obtain ⟨a, vs, rfl, h1, _⟩ := r; exact h1.elim (fun h1 => .base (.tup h1.2)) fun ⟨o, its, m, h1, h2, _⟩ => .kTuple h1 h2
  | lst ds => cases h; obtain ⟨a, vs, rfl, h1, _⟩ := r.lstOf rfl; exact .base (.lst h1)
  | own p ds => cases h; obtain ⟨a, vs, rfl, h1, _⟩ := r.lstOf rfl; exact .base (.lst h1)
  | new ds => cases h; obtain ⟨a, vs, rfl, h1, _⟩ := r.lstOf rfl; exact .base (.lst h1)
  | ownK p ks ds => cases h; obtain ⟨rfl, n, kvs, h1, _⟩ := r; exact .base (.dK h1)
  | ownT p ks ds => cases h; obtain ⟨rfl, n, kvs, h1, _⟩ := r; exact .base (.dT h1)
  | newK => cases h; obtain ⟨p, rfl, _, _, _, h1⟩ := r; exact .base (.dK h1)
  | newT => cases h; obtain ⟨p, rfl, _, _, _, h1⟩ := r; exact .base (.dT h1)
  | obj C ns ds => obtain ⟨rfl, o⟩ := h; obtain ⟨a, dx, gs, rfl, _, h1, _⟩ := r; exact .base (.ins h1 o.cl o.ha o.hn o.htk o.hm)
  | _ => exact h.elim
section
variable {c : Ctx} {δ : DE} {n : Nat} {e : Expr} {pos p p2 : Pos} {Φ : D → Nat → Prop} {x : Str} {C : Addr}
theorem we_isC (C : Addr) (hmC : c.X.mg x = some (.ref C)) (hgC : Gl c.X x) (hm : c.X.mg "isinstance" = none) (hg : Gl c.X "isinstance")
    (h : WE c e δ n fun d n1 => ∃ t k, TyD c.X.K d t ∧ PySem.W.kitOne c.X.K t (.ref C) = some k ∧ Φ (.bl k) n1) (hd : (x == ("__debug__" : Str)) = false := by decide)
    (he : starEach [e, .Name x p2] c.X.env = (false, eval e c.X.env) :: starEach [.Name x p2] c.X.env := by rfl) (he2 : starEach [.Name x p2] c.X.env = (false, eval (.Name x p2) c.X.env) :: starEach [] c.X.env := by rfl)
    (hpl : (backTo pos (starEach [.Name x p2] c.X.env)).any (·.1) = false := by rfl) : WE c (.Call (.Name "isinstance" p) [e, .Name x p2] [] pos) δ n Φ := ⟨fun σ H Q S q => by
  refine pe_to (pe_callB call_isi hg hm (by decide +kernel) (pa_cons pe_w (pa_cons (pe_glob (v := .ref C) hgC hmC rfl hd) pa_nil he2) he) (by decide) (by decide) he hpl) ?_
  refine h.run σ H _ S fun v H2 d n1 k1 S1 r1 ⟨t, k, ht, hk, f⟩ => ?_
  exact ⟨v, .ref C, _, _, k, rfl, .own C, ht.ty r1, hk, q _ H2 (.bl k) n1 k1 S1 rfl f⟩⟩
end

/-! ### an expression that looks at an own list as if it were never changed -/
mutual
/-- no list within -/
def nol : D → Bool
  | .lst _ => false | .slst _ => false
  | .tup ds => nols ds | .ktup ds => nols ds | .obj _ _ ds => nols ds | .exc _ _ => false | .dik _ _ _ _ => false | .lkK _ _ => false | .lkT _ _ => false
  | _ => true
def nols : List D → Bool
  | [] => true
  | d :: ds => nol d && nols ds
end
mutual
theorem Rp.thaw {K : PySem.W.Frag} {Av Av' : Addr → Prop} {H : Hp} {p : Addr} {us : List V} (hp : H p = some (.lst us)) (s : ∀ a, Av a → Av' a ∨ a = p) : ∀ {d : D} {v : V}, Rp K Av' H d v → nol d = true → Rp K Av H d v
  | .non, _, h, _ => h
  | .bl _, _, h, _ => h
  | .int _, _, h, _ => h
  | .str _, _, h, _ => h
  | .tup ds, v, h, o => by
    obtain ⟨a, vs, e, n, h1, h2⟩ := h
    refine ⟨a, vs, e, fun z => ?_, h1, Rps.thaw hp s h2 o⟩
    rcases s a z with z | z
    · exact n z
    · subst z; rw [hp] at h1; cases h1
  | .ktup ds, v, h, o => by
    obtain ⟨a, vs, e, h1, h2⟩ := h
    refine ⟨a, vs, e, h1.imp (fun ⟨n, h1⟩ => ⟨fun z => ?_, h1⟩) id, Rps.thaw hp s h2 o⟩
    rcases s a z with z | z
    · exact n z
    · subst z; rw [hp] at h1; cases h1
  | .slst _, _, _, o => by cases o
  | .lst _, _, _, o => by cases o
  | .obj C ns ds, v, h, o => by
    obtain ⟨a, dx, gs, e, n, h1, e2, h2⟩ := h
    refine ⟨a, dx, gs, e, fun z => ?_, h1, e2, Rps.thaw hp s h2 o⟩
    rcases s a z with z | z
    · exact n z
    · subst z; rw [hp] at h1; cases h1
  | .raw _, _, h, _ => h
  | .own _ _, _, h, _ => h.elim
  | .new _, _, h, _ => h.elim
  | .pur _, _, h, _ => h.elim
  | .ownK _ _ _, _, h, _ => h.elim
  | .newK, _, h, _ => h.elim
  | .ownT _ _ _, _, h, _ => h.elim
  | .newT, _, h, _ => h.elim
  | .ownN _ _ _ _, _, h, _ => h.elim
  | .newN _ _, _, h, _ => h.elim
  | .newP _ _, _, h, _ => h.elim
  | .newD _ _, _, h, _ => h.elim
  | .ins _ _ _ _ _, _, h, _ => h.elim
  | .exc _ _, _, _, o => by cases o
  | .dik _ _ _ _, _, _, o => by cases o
  | .lkK _ _, _, _, o => by cases o
  | .lkT _ _, _, _, o => by cases o
theorem Rps.thaw {K : PySem.W.Frag} {Av Av' : Addr → Prop} {H : Hp} {p : Addr} {us : List V} (hp : H p = some (.lst us)) (s : ∀ a, Av a → Av' a ∨ a = p) : ∀ {ds : List D} {vs : List V}, Rps K Av' H ds vs → nols ds = true → Rps K Av H ds vs
  | [], _, h, _ => h
  | _ :: _, _, h, o => by
    obtain ⟨v, r, e, h1, h2⟩ := h
    simp only [nols, Bool.and_eq_true] at o
    exact ⟨v, r, e, Rp.thaw hp s h1 o.1, Rps.thaw hp s h2 o.2⟩
end
def thawOk : D → Bool
  | .non => true | .bl _ => true | .int _ => true | .str _ => true | .tup ds => nols ds | .new ds => nols ds | _ => false
theorem addrs_freeze {p : Addr} {ds : List D} : ∀ {δ : DE} {i : Nat}, δ[i]? = some (some (.own p ds)) → ∀ a ∈ addrs δ, a ∈ addrs (δ.set i (some (.lst ds))) ∨ a = p
  | [], _, h, _, _ => by simp at h
  | x :: δ, 0, h, a, m => by
    simp at h
    subst h
    rw [addrs_cons] at m
    rw [List.set_cons_zero, addrs_cons]
    rcases List.mem_cons.mp m with z | z
    · exact .inr z
    · exact .inl z
  | x :: δ, i + 1, h, a, m => by
    rw [List.set_cons_succ, addrs_cons]
    rw [addrs_cons] at m
    have h' : δ[i]? = some (some (.own p ds)) := by simpa using h
    rcases List.mem_append.mp m with z | z
    · exact .inl (List.mem_append_left _ z)
    · exact (addrs_freeze h' a z).imp (fun w => List.mem_append_right _ w) id
theorem we_frz {c : Ctx} {δ : DE} {n : Nat} {e : Expr} {Φ : D → Nat → Prop} (i : Nat) {q : Addr} {ds : List D} (hi : δ[i]? = some (some (.own q ds))) (h : WE c e (δ.set i (some (.lst ds))) n fun d n1 => thawOk d = true ∧ Φ d n1) : WE c e δ n Φ := ⟨fun σ H Q S k => by
  refine h.run σ H Q (S.freeze hi) fun v H2 d n2 k1 S1 r ⟨o, f⟩ => ?_
  have S2 : SlR c σ H2 δ n2 := S.kp k1 fun p z => (S1.pur p z).1
  obtain ⟨_, us, h1, _⟩ := S2.sl i _ hi
  have sub : ∀ a, c.Av δ a → c.Av (δ.set i (some (.lst ds))) a ∨ a = q := fun a z => by
    rcases z with z | z | z
    · exact .inl (.inl z)
    · exact .inl (.inr (.inl z))
    · exact (addrs_freeze hi a z).imp (fun w => .inr (.inr w)) id
  refine k v H2 d n2 k1 S2 ?_ f
  cases d with
  | non => exact r
  | bl b => exact r
  | int j => exact r
  | str x => exact r
  | tup es => exact Rp.thaw (d := .tup es) h1 sub r o
  | new es =>
    obtain ⟨p, vs, e, h0, n1, np, h2, h3⟩ := r
    have off : ¬ c.Av δ p := S.off h0
    refine ⟨p, vs, e, h0, off, np, h2, Rps.thaw (Av' := fun a => c.Av (δ.set i (some (.lst ds))) a ∨ a = p) h1 (fun a z => ?_) h3 o⟩
    rcases z with z | z
    · exact (sub a z).imp (fun w => .inl w) id
    · exact .inl (.inr z)
  | _ => cases o⟩
end DL

/-! DLs: min of three ints. -/
namespace DL
open PySem PySem.Spec PyProof.Rows L2
section
variable {c : Ctx} {δ : DE} {n : Nat} {a b e3 : Expr} {pos p : Pos} {Φ : D → Nat → Prop}
def min3 (i j k : Int) : Int := if k < (if j < i then j else i) then k else (if j < i then j else i)
def Three (g : Int → Int → Int → Int) : List D → (D → Prop) → Prop := fun ds Φ => ∃ i j k, ds = [.int i, .int j, .int k] ∧ Φ (.int (g i j k))
theorem paired3 {α β : Type} {F : α → β → Prop} {x y z : α} {vs : List β} (h : Paired F [x, y, z] vs) : ∃ u v w, vs = [u, v, w] ∧ F x u ∧ F y v ∧ F z w := by
  cases h with
  | cons r1 h => cases h with
    | cons r2 h => cases h with
      | cons r3 h => cases h; exact ⟨_, _, _, rfl, r1, r2, r3⟩
theorem min3_ok : RCok c δ (rNuC3 nuMin3) (Three min3) := by
  intro σ H Hs n ds vs Φ Q S hs r h q
  obtain ⟨i, j, k, rfl, f⟩ := h
  obtain ⟨u, v, w, rfl, r1, r2, r3⟩ := paired3 r
  have e1 : u = _ := r1
  have e2 : v = _ := r2
  have e3 : w = _ := r3
  subst e1 e2 e3
  refine ⟨_, _, _, .int (min3 i j k), rfl, ?_, q _ H (.int _) (Same.refl H) rfl f⟩
  show (Option.bind (Option.map (fun c : Bool => if c = true then V.int j else V.int i) (some (decide (j < i)))) fun m => Option.map (fun c : Bool => if c = true then V.int k else m) (nuLt (V.int k) m)) = _
  unfold min3
  by_cases h1 : j < i
  · simp only [Option.map_some, Option.bind_some, decide_eq_true h1, if_true, if_pos h1]
    show Option.map (fun c : Bool => if c = true then V.int k else V.int j) (some (decide (k < j))) = _
    by_cases h2 : k < j <;> simp [h2]
  · simp only [Option.map_some, Option.bind_some, decide_eq_false h1, if_neg h1, Bool.false_eq_true, if_false]
    show Option.map (fun c : Bool => if c = true then V.int k else V.int i) (some (decide (k < i))) = _
    by_cases h2 : k < i <;> simp [h2]
theorem we_min3 (hc : c.X.calm = true) (hm : c.X.mg "min" = none) (hg : Gl c.X "min") (h : WA c [a, b, e3] δ n fun ds n1 => Three min3 ds fun z => Φ z n1)
    (he : starEach [a, b, e3] c.X.env = (false, eval a c.X.env) :: starEach [b, e3] c.X.env := by rfl) (hpl : (backTo pos (starEach [b, e3] c.X.env)).any (·.1) = false := by rfl) :
    WE c (.Call (.Name "min" p) [a, b, e3] [] pos) δ n Φ := we_callB (call_min3Nu hc) min3_ok hm hg (by decide +kernel) h (he := he) (hpl := hpl)
end
end DL

/-! DLt: == and != of lists of unlike length; != of lists of objects by the class's own ==. -/
namespace GQ
open PySem PySem.SeqAt
open AutoSeq1 (wpAny_loadPart')
open MeetsSeq MeetsSeq2 MeetsSeq3 SeqRoads2
section
variable {prog : Program} {w : World} {A : Around} {R : Result → Shared → Prop}
theorem ne_loopG (l b : Addr) (N : Nat) (I : Nat → Shared → Prop) (hl : ListI prog w A (fun e s' => R (.error e) s') l b N I)
    (fin : ∀ s, I N s → R (.ok (.ret (.bool false))) s) (k : Nat) :
    ∀ i : Nat, N - i = k → i ≤ N → ∀ s, I i s →
      wpAny (model prog w) A.in1 (Builtin.«list.__eq__.loop» ⟨[.ref l, .ref b, rawInt i, rawInt 3], []⟩) (FinOf prog w A R) (fun e s' => R (.error e) s') s := by
  induction k with
  | zero =>
    intro i hk hi s h
    obtain ⟨items, items2, n, n2, hl1, hb1, hs1, hs2, _⟩ := hl _ _ h
    have hi' : i = N := by omega
    have hR : R (.ok (.ret (.bool false))) s := fin s (hi' ▸ h)
    obtain ⟨hp, g, d, tk, os⟩ := s
    wp_walk using wpAny_loadPart' hl1, wpAny_loadPart' hb1
    have hi1 : items[((i : Nat) : Int).toNat]? = none := by simp; omega
    have hi2 : items2[((i : Nat) : Int).toNat]? = none := by simp; omega
    rw [hi1, hi2]
    wp_walk using wpAny_loadPart' hl1, wpAny_loadPart' hb1
    show R (.ok (.ret (.bool (items.size != items2.size)))) _
    rw [hs1, hs2]
    simpa using hR
  | succ k ih =>
    intro i hk hi s h
    obtain ⟨items, items2, n, n2, hl1, hb1, hs1, hs2, turn⟩ := hl _ _ h
    have hlt : i < items.size := by omega
    have hlt2 : i < items2.size := by omega
    have ht := turn hlt hlt2
    obtain ⟨hp, g, d, tk, os⟩ := s
    wp_walk using wpAny_loadPart' hl1, wpAny_loadPart' hb1
    have hi1 : items[((i : Nat) : Int).toNat]? = some items[i] := by simp [hlt]
    have hi2 : items2[((i : Nat) : Int).toNat]? = some items2[i] := by simp [hlt2]
    have hc : ((i : Int) + 1) = ((i + 1 : Nat) : Int) := by omega
    rw [hi1, hi2]
    refine wpAny_bind (wpAny_mono ht (fun r s2 h2 => ?_) fun _ _ x => x)
    obtain ⟨hr, h2⟩ := h2
    subst hr
    have hrec := ih (i + 1) (by omega) (by omega) s2 h2
    obtain ⟨hp2, g2, d2, tk2, os2⟩ := s2
    wp_walk
    rw [hc]
    exact ⟨plainId_quiet plain_eq_loop _, codeAny_builtin entry_eq_loop (by
      rw [Around.under_plainId plain_eq_loop _]
      exact hrec)⟩
theorem list_neG (l b : Addr) (N : Nat) (I : Nat → Shared → Prop) (hl : ListI prog w A (fun e s' => R (.error e) s') l b N I)
    (fin : ∀ s, I N s → R (.ok (.ret (.bool false))) s) {s : Shared} (h : I 0 s) :
    wpAny (model prog w) A.in1 (Builtin.«list.__ne__» ⟨[.ref l, .ref b], []⟩) (FinOf prog w A R) (fun e s' => R (.error e) s') s := by
  obtain ⟨items, items2, n, n2, hl1, hb1, hs1, hs2, _⟩ := hl _ _ h
  have hrec := ne_loopG (A := A) (R := R) l b N I hl fin _ 0 rfl (Nat.zero_le _) s h
  obtain ⟨hp, g, d, tk, os⟩ := s
  have f3 := AutoSeq1.sub_list_list
  have hne : ¬ (items.size != items2.size) = true := by simp [hs1, hs2]
  wp_walk using wpAny_loadPart' hl1, wpAny_loadPart' hb1
  exact ⟨plainId_quiet plain_eq_loop _, codeAny_builtin entry_eq_loop (by
    rw [Around.under_plainId plain_eq_loop _]
    exact hrec)⟩
end
section
variable {prog : Program} {w : World} {A : Around} {E : Value → Shared → Prop} {s : Shared}
theorem rc_listNG {l b : Addr} {N : Nat} {Q : Value → Shared → Prop} (hu : A.units < cLine) (I : Nat → Shared → Prop) (hl : ListI prog w A E l b N I)
    (fin : ∀ s, I N s → Q (.bool false) s) (h : I 0 s) : wpAny (model prog w) A (richCompare .NotEq (.ref l) (.ref b)) Q E s := by
  obtain ⟨items, items2, n, n2, hl1, hb1, _, _, _⟩ := hl _ _ h
  refine wpAny_richCompare_same_room (op := .NotEq) ⟨_, hl1, rfl⟩ ⟨_, hb1, rfl⟩ F.slot_list_ne (call_here F.slot_list_ne ⟨_, hl1, rfl⟩ F.entry_list_ne (F.args_list_ne_2 _ _) ?_) hu
  exact list_neG (R := wants (fun v s' => v ≠ .notImplemented ∧ Q v s') E) l b N I hl (fun s' q => ⟨(fun x => nomatch x), fin s' q⟩) h
end
end GQ
namespace L2
open PySem PySem.Spec PyProof.Rows
def RcNG (X : Cx) (n : Nat) (D : Eqv) : Prop :=
  ∀ (A : Around) (pins : List (Addr × Obj)) (s : Shared) (σ : St) (H : Hp) (x y : V) (u v : Value), Sub X n A → Inv X pins σ H s → RelV x u → RelV y v → D x y H →
    wpAny (model X.prog X.w) A (richCompare .NotEq u v) (fun r s' => r = .bool false ∧ ∃ H', Inv X pins σ H' s' ∧ Ext H H') X.xe s
section
variable {X : Cx} {n : Nat} {D : Eqv}
theorem rcNG_list (hD : Mon D) (h : EqG X n D) : RcNG X (n + 1) (DList D) := by
  intro A pins s σ H x y u v sb I rx ry d
  obtain ⟨a, b, xs, ys, rfl, rfl, ha, hb, p⟩ := d
  cases rx
  cases ry
  refine GQ.rc_listNG (N := xs.length) sb.room.units0 (fun _ s' => LoopI X pins σ H s') (fun i s' q => ?_) (fun s' q => ⟨rfl, q⟩) ⟨H, I, Ext.rfl'⟩
  obtain ⟨H1, I1, e1⟩ := id q
  obtain ⟨z, its, k, r, e⟩ := I1.hok a _ (e1 _ _ ha)
  obtain ⟨z2, its2, k2, r2, e2⟩ := I1.hok b _ (e1 _ _ hb)
  refine ⟨its.toArray, its2.toArray, k, k2, e, e2, by rw [List.size_toArray, ← r.length], by rw [List.size_toArray, ← r2.length, ← p.1], fun h1 h2 => ?_⟩
  exact turnG hD h sb p r r2 i h1 h2 s' q
/-- x != y as an expression: False -/
def rNeG (D : Eqv) : R2 := fun x y H Q => D x y H ∧ ∀ H', Ext H H' → Q (.bl false) H'
theorem op_neG (h : RcNG X n D) (hr : Room n X.A) : OpR X (compareOp .NotEq) (rNeG D) := by
  intro pins s σ H x y v u Q I rx ry hq
  obtain ⟨d, q⟩ := hq
  show wpAny (model X.prog X.w) X.A (richCompare .NotEq v u) (EP X pins σ Q) X.xe s
  refine wpAny_mono (h X.A pins s σ H x y v u ⟨hr, rfl⟩ I rx ry d) (fun r s' z => ?_) fun _ _ x => x
  obtain ⟨hr', H', I', e⟩ := z
  subst hr'
  exact ⟨.bl false, H', I', rfl, q H' e⟩
/-- lists of unlike length -/
def rLenD (b : Bool) : R2 := fun x y H Q => ∃ p p' xs ys, x = .ref p ∧ y = .ref p' ∧ H p = some (.lst xs) ∧ H p' = some (.lst ys) ∧ xs.length ≠ ys.length ∧ Q (.bl b) H
theorem op_eqLen (hu : X.A.units < cLine) : OpR X (compareOp .Eq) (rLenD false) := by
  intro pins s σ H x y v u Q I rx ry hq
  obtain ⟨p, p', xs, ys, rfl, rfl, h1, h2, hl, q⟩ := hq
  cases rx
  cases ry
  obtain ⟨z, its, k, r, e⟩ := I.hok p _ h1
  obtain ⟨z2, its2, k2, r2, e2⟩ := I.hok p' _ h2
  exact SeqAt.RcAt.lists_lengths ⟨_, e, rfl, _, rfl⟩ ⟨_, e2, rfl, _, rfl⟩ (by simp only [List.size_toArray, bne_iff_ne]; rw [← r.length, ← r2.length]; exact hl) hu X.prog X.w X.xe _ ⟨.bl false, H, I, rfl, q⟩
theorem op_neLen (hu : X.A.units < cLine) : OpR X (compareOp .NotEq) (rLenD true) := by
  intro pins s σ H x y v u Q I rx ry hq
  obtain ⟨p, p', xs, ys, rfl, rfl, h1, h2, hl, q⟩ := hq
  cases rx
  cases ry
  obtain ⟨z, its, k, r, e⟩ := I.hok p _ h1
  obtain ⟨z2, its2, k2, r2, e2⟩ := I.hok p' _ h2
  exact SeqAt.RcNeAt.lists_lengths ⟨_, e, rfl, _, rfl⟩ ⟨_, e2, rfl, _, rfl⟩ (by simp only [List.size_toArray, bne_iff_ne]; rw [← r.length, ← r2.length]; exact hl) hu X.prog X.w X.xe _ ⟨.bl true, H, I, rfl, q⟩
end
end L2
namespace DL
open PySem PySem.Spec PyProof.Rows L2
def LenNeR (b : Bool) : D → D → (D → Prop) → Prop := fun x y Φ => ∃ xs ys, lstOf x = some xs ∧ lstOf y = some ys ∧ xs.length ≠ ys.length ∧ Φ (.bl b)
theorem lenNeR_ok {c : Ctx} {δ : DE} {b : Bool} : R2ok c δ (rLenD b) (LenNeR b) := by
  intro σ H Hs n x y v u Φ Q S hs rx ry h q
  obtain ⟨xs, ys, e1, e2, hl, f⟩ := h
  obtain ⟨p, vs, rfl, h1, h2⟩ := rx.lstOf e1
  obtain ⟨p', vs', rfl, h1', h2'⟩ := ry.lstOf e2
  exact ⟨p, p', vs, vs', rfl, rfl, h1, h1', by rw [← h2.length, ← h2'.length]; exact hl, q _ H (.bl b) (Same.refl H) rfl f⟩
/-- two objects that the class's own == finds equal -/
def EqO (C : Addr) (ns : List Str) (sp : DSp) (u v : D) : Prop := (∃ fs gs, u = .obj C ns fs ∧ v = .obj C ns gs) ∧ sp [u, v] fun d => d = .bl true
def NeOwnR (C : Addr) (ns : List Str) (sp : DSp) : D → D → (D → Prop) → Prop := fun x y Φ => ∃ xs ys, lstOf x = some xs ∧ lstOf y = some ys ∧ xs.length = ys.length ∧ (∀ (i : Nat) u v, xs[i]? = some u → ys[i]? = some v → EqO C ns sp u v) ∧ Φ (.bl false)
/-- what the heap must hold for it -/
def EqRel (K : PySem.W.Frag) (sp : DSp) (a b : Addr) (H : Hp) : Prop := ∃ u v, Rps K (fun _ => False) H [u, v] [.ref a, .ref b] ∧ sp [u, v] fun d => d = .bl true
theorem eqRel_mon {K : PySem.W.Frag} {sp : DSp} : ∀ a b H H', Ext H H' → EqRel K sp a b H → EqRel K sp a b H' := fun a b H H' e ⟨u, v, r, h⟩ =>
  ⟨u, v, r.kp (ex := none) (fun _ z => nomatch z) (fun x o _ w => e x o w), h⟩
theorem spEq_of {K : PySem.W.Frag} {sp : DSp} : ∀ vs H Q E, spEq (EqRel K sp) vs H Q E → spD K sp vs H Q E := fun vs H Q E h => by
  obtain ⟨a, b, rfl, ⟨u, v, r, hs⟩, q⟩ := h
  refine ⟨fun _ => False, [u, v], _, fun a z => z.elim, r, hs, fun d v H2 e sm rv => ?_⟩
  subst e
  rcases rv with ⟨_, rv⟩ | ⟨ds, p, vs, e, _⟩ | ⟨_, _, _, _, e, _⟩ | ⟨_, _, _, _, _, _, e, _⟩
  · have e2 : v = .bl true := rv
    subst e2
    exact q H2 sm
  · cases e
  · cases e
  · cases e
theorem neOwnR_ok {c : Ctx} {δ : DE} {C : Addr} {ns : List Str} {sp : DSp} : R2ok c δ (rNeG (DList (DIns C (EqRel c.X.K sp)))) (NeOwnR C ns sp) := by
  intro σ H Hs n x y v u Φ Q S hs rx ry h q
  obtain ⟨xs, ys, e1, e2, hl, hp, f⟩ := h
  obtain ⟨p, vs, rfl, h1, h2⟩ := rx.lstOf e1
  obtain ⟨p', vs', rfl, h1', h2'⟩ := ry.lstOf e2
  refine ⟨⟨p, p', vs, vs', rfl, rfl, h1, h1', by rw [← h2.length, ← h2'.length]; exact hl, fun i v v' g1 g2 => ?_⟩, fun H' e => q _ H' (.bl false) e rfl f⟩
  obtain ⟨d, k1, r1⟩ := h2.get' g1
  obtain ⟨d', k2, r2⟩ := h2'.get' g2
  obtain ⟨⟨fs, gs, rfl, rfl⟩, hsp⟩ := hp i d d' k1 k2
  obtain ⟨a, dx, hs1, rfl, n1, i1, i2, i3⟩ := id r1
  obtain ⟨a', dx', hs1', rfl, n1', i1', i2', i3'⟩ := id r2
  exact ⟨a, a', dx, dx', _, _, rfl, rfl, i1, i1', _, _, ⟨_, _, rfl, r1.wk (fun _ z => z.elim) (fun _ _ _ e => e), ⟨_, _, rfl, r2.wk (fun _ z => z.elim) (fun _ _ _ e => e), rfl⟩⟩, hsp⟩
section
variable {c : Ctx} {δ : DE} {n : Nat} {a b : Expr} {pos : Pos} {Φ : D → Nat → Prop} {Ψ : Bool → Nat → Prop} {C : Addr} {ns : List Str} {sp : DSp} {ps : List Str} {k : Nat}
theorem we_eqLen (hu : c.X.A.units + 64 < cLine) (h : WE c a δ n fun x n1 => WE c b δ n1 fun y n2 => LenNeR false x y fun z => Φ z n2) : WE c (.Compare a [.Eq] [b] pos) δ n Φ := we_cmp1 (op_eqLen (by omega)) (nomark _) lenNeR_ok h
theorem we_neLen (hu : c.X.A.units + 64 < cLine) (h : WE c a δ n fun x n1 => WE c b δ n1 fun y n2 => LenNeR true x y fun z => Φ z n2) : WE c (.Compare a [.NotEq] [b] pos) δ n Φ := we_cmp1 (op_neLen (by omega)) (nomark _) lenNeR_ok h
theorem wt_eqLen (hu : c.X.A.units + 64 < cLine) (h : WE c a δ n fun x n1 => WE c b δ n1 fun y n2 => LenNeR false x y (asB Ψ n2)) : WT c (.Compare a [.Eq] [b] pos) δ n Ψ := wt_cmp1 (op_eqLen (by omega)) (nomark _) lenNeR_ok h
theorem wt_neLen (hu : c.X.A.units + 64 < cLine) (h : WE c a δ n fun x n1 => WE c b δ n1 fun y n2 => LenNeR true x y (asB Ψ n2)) : WT c (.Compare a [.NotEq] [b] pos) δ n Ψ := wt_cmp1 (op_neLen (by omega)) (nomark _) lenNeR_ok h
theorem op_neOwn (M : Mth c.X.prog c.X.w c.X.K c.X.mg c.X.base C "__eq__" ps k (spD c.X.K sp)) (hr : Room (k + 1) c.X.A) : OpR c.X (compareOp .NotEq) (rNeG (DList (DIns C (EqRel c.X.K sp)))) := by
  obtain ⟨f, fd, hm, hb, F⟩ := M.ex
  exact op_neG (rcNG_list (mon_ins eqRel_mon) (eqG_ins (E := fun _ _ _ => False) (F.imp spEq_of) hm.at_ hm.fn hb pass0)) hr
theorem wt_neOwn (M : Mth c.X.prog c.X.w c.X.K c.X.mg c.X.base C "__eq__" ps k (spD c.X.K sp)) (hr : Room (k + 1) c.X.A) (h : WE c a δ n fun x n1 => WE c b δ n1 fun y n2 => NeOwnR C ns sp x y (asB Ψ n2)) : WT c (.Compare a [.NotEq] [b] pos) δ n Ψ :=
  wt_cmp1 (op_neOwn M hr) (nomark _) neOwnR_ok h
end
section
variable {c : Ctx} {δ : DE} {n : Nat} {pos : Pos} {D' : DEnds}
theorem el_pure {d : D} (o : okEl d = true) : pureD (frz d) = true := by cases d <;> first | rfl | cases o
/-- a, b = e1, e2, fresh lists frozen -/
theorem ws_parE (i j : Nat) {x y : Str} {ea eb : Expr} {px py pt : Pos} {kt k2 pt2} (hc : c.X.calm = true) (hN : c.X.N.Nodup) (hij : i ≠ j)
    (h : WA c [ea, eb] δ n fun ds n1 => ∃ d1 d2, ds = [d1, d2] ∧ okEl d1 = true ∧ okEl d2 = true ∧ D'.nx ((δ.set i (some (frz d1))).set j (some (frz d2))) n1)
    (hi : c.X.N[i]? = some x := by rfl) (hj : c.X.N[j]? = some y := by rfl) (hx : c.X.env.scope.names.lookup x = some .local := by rfl) (hy : c.X.env.scope.names.lookup y = some .local := by rfl)
    (hw : swappedStores [.Tuple [.Name x px, .Name y py] kt pt] (.Tuple [ea, eb] k2 pt2) c.X.env = pure (some [x, y]) := by rfl)
    (hs : swapsWithSole [.Tuple [.Name x px, .Name y py] kt pt] (.Tuple [ea, eb] k2 pt2) pos.line c.X.env = pure false := by rfl) :
    WS c (.Assign [.Tuple [.Name x px, .Name y py] kt pt] (.Tuple [ea, eb] k2 pt2) pos) δ n D' := ⟨fun b σ H DD S B E => by
  refine ps_to (ps_par hc hN hi hj hij hx hy pa_w hw hs) ?_
  refine h.run σ H _ S fun vs H2 ds n1 k1 S1 r1 ⟨d1, d2, e, o1, o2, f⟩ => ?_
  subst e
  obtain ⟨v, w', rfl, r1, r2⟩ := paired2 r1
  have r1 := r1.el o1
  have r2 := r2.el o2
  have p1 := pure_addr (el_pure o1)
  have p2 := pure_addr (el_pure o2)
  refine ⟨v, w', rfl, ?_⟩
  have S2 := S1.set i r1
  have S3 := S2.set j (r2.wk (fun a z => z.imp id (Or.imp id fun z => (addrs_set_sub p1).subset z)) fun _ _ _ e => e)
  exact E.nx _ H2 _ n1 S3 (((B.kp k1).set1 p1).set1 p2) f⟩
/-- a, b, c = e1, e2, e3 -/
theorem ws_par3 (i j l : Nat) {x y z : Str} {ea eb ec : Expr} {px py pz pt : Pos} {kt k2 pt2} (hc : c.X.calm = true) (hN : c.X.N.Nodup) (hij : i ≠ j) (hil : i ≠ l) (hjl : j ≠ l)
    (h : WA c [ea, eb, ec] δ n fun ds n1 => ∃ d1 d2 d3, ds = [d1, d2, d3] ∧ okEl d1 = true ∧ okEl d2 = true ∧ okEl d3 = true ∧ D'.nx (((δ.set i (some (frz d1))).set j (some (frz d2))).set l (some (frz d3))) n1)
    (hi : c.X.N[i]? = some x := by rfl) (hj : c.X.N[j]? = some y := by rfl) (hl : c.X.N[l]? = some z := by rfl) (hx : c.X.env.scope.names.lookup x = some .local := by rfl) (hy : c.X.env.scope.names.lookup y = some .local := by rfl) (hz : c.X.env.scope.names.lookup z = some .local := by rfl)
    (hw : swappedStores [.Tuple [.Name x px, .Name y py, .Name z pz] kt pt] (.Tuple [ea, eb, ec] k2 pt2) c.X.env = pure (some [x, y, z]) := by rfl)
    (hs : swapsWithSole [.Tuple [.Name x px, .Name y py, .Name z pz] kt pt] (.Tuple [ea, eb, ec] k2 pt2) pos.line c.X.env = pure false := by rfl) :
    WS c (.Assign [.Tuple [.Name x px, .Name y py, .Name z pz] kt pt] (.Tuple [ea, eb, ec] k2 pt2) pos) δ n D' := ⟨fun b σ H DD S B E => by
  refine ps_to (ps_par3 hc hN hi hj hl hij hil hjl hx hy hz pa_w hw hs) ?_
  refine h.run σ H _ S fun vs H2 ds n1 k1 S1 r1 ⟨d1, d2, d3, e, o1, o2, o3, f⟩ => ?_
  subst e
  obtain ⟨v, w', w'', rfl, r1, r2, r3⟩ := paired3 r1
  have r1 := r1.el o1
  have r2 := r2.el o2
  have r3 := r3.el o3
  have p1 := pure_addr (el_pure o1)
  have p2 := pure_addr (el_pure o2)
  have p3 := pure_addr (el_pure o3)
  refine ⟨v, w', w'', rfl, ?_⟩
  have S2 := S1.set i r1
  have S3 := S2.set j (r2.wk (fun a z => z.imp id (Or.imp id fun z => (addrs_set_sub p1).subset z)) fun _ _ _ e => e)
  have S4 := S3.set l (r3.wk (fun a z => z.imp id (Or.imp id fun z => (addrs_set_sub p1).subset ((addrs_set_sub p2).subset z))) fun _ _ _ e => e)
  exact E.nx _ H2 _ n1 S4 ((((B.kp k1).set1 p1).set1 p2).set1 p3) f⟩
end
end DL

/-! DLu: the __init__ of an own exception over ValueError that says super().__init__(value). -/
namespace PySem
namespace EVX
open PySem.W PySem.Calls
section
variable {M : Model} {A : Around} {E : Value → Shared → Prop} {h : Heap} {g : Array GenState} {d : Drawn} {t : Nat} {os : OsState}
variable {prog : Program} {w : World} {nm q : Str} {C N : Addr} {bs bm : List Value} {hdct : Bool} {sn : List Str} {sub : List Value} {ab : Bool} {col : Option Bool} {dd : Option Addr} {k0 k1 k2 k3 k5 : Option Value}
/-- ValueError.__init__ bound to the exception, called -/
theorem call_mw {u e t0 : Addr} {rest : List Value} {Q : Value → Shared → Prop}
    (hC : h.get? C = some (excClassObj nm q C N bs bm hdct sn sub ab col dd k0 k1 k2 k3 k5 "ValueError.__new__")) (he : h.get? e = some (HandSPX.excO C t0)) (hu : h.get? u = some (kxs_mw "ValueError.__init__" e)) (hrest : rest.length ≤ sizeLine)
    (hq : ∀ h' t1, (∀ b o, b ≠ e → h.get? b = some o → h'.get? b = some o) → h'.get? e = some (HandSPX.excO C t1) → Q .none ⟨h', g, d, t, os⟩) :
    wpAny (model prog w) A (call (.ref u) rest) Q E ⟨h, g, d, t, os⟩ := by
  refine wpAny_call (codeAny_of_tree ?_)
  show wpAny _ A.in1 (callAny (.ref u) ⟨rest, []⟩) _ _ _
  simp only [callAny]
  refine wpAny_bind (wpAny_load hu ?_)
  simp only [kxs_mw, show (Value.type "method-wrapper" == Value.type "method" || Value.type "method-wrapper" == Value.type "builtin_function_or_method" || Value.type "method-wrapper" == Value.type "method-wrapper") = true by decide, if_true]
  refine W.KFB.if_so (by decide) ?_
  refine wpAny_bind (ESX.check_bound F.excBase_ValueError hC he rfl ?_)
  refine wpAny_bind (wpAny_pure (wpAny_pure ?_))
  refine ⟨Code.quiet_builtin _ (by decide +kernel), codeAny_builtin F.excBase_ValueError.initEntry ?_⟩
  rw [Around.under_plainId F.excBase_ValueError.init.plain _]
  wp_walk
  refine hq _ h.objs.size (fun b o hb ho => ?_) ?_
  · rw [Heap.get?_update_other _ _ (Ne.symm hb)]
    exact Heap.get?_push_of_some _ ho
  · rw [Heap.get?_update_self _ (Heap.get?_push_of_some _ he) rfl]
    rfl
end
end EVX
end PySem
namespace L2
open PySem PySem.Spec PyProof.Rows
/-- the two statements -/
def iniBody (p0 p1 p2 p3 p4 p5 p6 p7 p8 p9 : Pos) : List Stmt :=
  [.Expr (.Call (.Attribute (.Call (.Name "super" p0) [] [] p1) "__init__" p2) [.Name "value" p3] [] p4) p5, .Assign [.Attribute (.Name "self" p6) "value" p7] (.Name "value" p8) p9]
/-- the scope's names -/
structure IniSc (sc : Scope) : Prop where
  kind : sc.kind = .function
  co : sc.isCoroutine = false
  gen : sc.isGenerator = false
  self : sc.names.lookup ("self" : Str) = some .local
  value : sc.names.lookup ("value" : Str) = some .local
  super : sc.names.lookup ("super" : Str) = some .globalImplicit
  cls : sc.names.lookup ("__class__" : Str) = some .free
  nocell : ∀ y ∈ sc.names, y.2 ≠ .cell
  free : ∀ y ∈ sc.names, y.2 = .free → y.1 = "__class__"
/-- what K says of it -/
structure IniK (P : Program) (K : PySem.W.Frag) (f C : Addr) (fd : FuncData) : Prop where
  ex : ∃ (name qual : Str) (params : Arguments) (scope : Scope) (dV kV doc pm ct oc ccl cl : Value) (an od cdd cld : Option Addr) (osl ccs csl : Array (Option Value)) (cda cc : Addr) (vs : Array Value) (file : Str) (tf : Tok) (ar : Arg) (p0 p1 p2 p3 p4 p5 p6 p7 p8 p9 : Pos),
    fd = PySem.W.ksFn name qual params (iniBody p0 p1 p2 p3 p4 p5 p6 p7 p8 p9) scope dV kV doc pm an (.ref cda) ct cc ∧ K.lookup f = some ⟨oc, od, .func fd, osl⟩ ∧ PySem.W.codeIn K (.ref cda) qual = true ∧ IniSc scope ∧
    (params.posonlyargs ++ params.args).head? = some ar ∧ ar.arg = "self" ∧ (p2.endLine == p4.line) = true ∧ K.lookup cda = some ⟨ccl, cdd, .fields vs, ccs⟩ ∧ vs[2]? = some (.str file tf) ∧ ((P.main.file : Str) == file) = true ∧
    K.lookup cc = some ⟨cl, cld, .cell (some (.ref C)), csl⟩
  htop : (P.main.scope.names.lookup ("super" : Str)).isSome = false
  T : OexC K C
  hsub : PySem.W.mroIn K C (.ref C) = some true
  hm : PySem.W.ks_superIn K C C "__init__" = some (some (.builtin "ValueError.__init__"))
  hB : PySem.W.subIn K (.ref C) (.type "ValueError") = some true
  ho : PySem.W.nsIn K cStatics "thirdparty.any" = some none
  hno : PySem.W.findIn K (.ref C) "value" = some none
def spIni (C : Addr) : Sp := fun vs H Q _ => ∃ (a : Addr) (v : V), vs = [.ref a, v] ∧ H a = some (exo a C none) ∧ ∀ dx, H dx = none → dx ≠ a → Q .non (upd (upd H dx (exd dx [("value", v)])) a (exo a C (some dx)))
theorem cell1 {cc c : Addr} {x : Str} (h : ([("__class__", cc)] : List (Str × Addr)).lookup x = some c) : x = "__class__" ∧ c = cc := by
  rw [List.lookup_cons] at h
  cases e : (x == ("__class__" : Str)) with
  | true => rw [e] at h; cases h; exact ⟨eq_of_beq e, rfl⟩
  | false => rw [e] at h; cases h
abbrev cxE (P : Program) (w : World) (K : PySem.W.Frag) (mg : Str → Option Value) (base : Heap) (qual : Str) (scope : Scope) (f cc : Addr) (cdv : Value) (A : Around) (outer : List Env) (s : Shared) (H : Hp) : Cx where
  prog := P
  w := w
  K := K
  mg := mg
  base := base
  A := A.deeper (PySem.W.ksEnv qual scope s.heap.objs.size f cdv cc)
  N := ["self", "value"]
  s_0 := s
  H_0 := H
  env := PySem.W.ksEnv qual scope s.heap.objs.size f cdv cc
  outer := outer
  stack := PySem.W.ksEnv qual scope s.heap.objs.size f cdv cc :: outer
  ex := []
  calm := true
  fn := fun _ => false
  pn := []
  xe := fun _ _ => False
section
variable {P : Program} {w : World} {K : PySem.W.Frag} {mg : Str → Option Value} {base : Heap}
theorem inv_ini {qual : Str} {scope : Scope} {f cc a C : Addr} {cdv : Value} {A : Around} {outer : List Env} {s : Shared} {H : Hp} {h₁ : Heap} {v : V} {u1 : Value} {k tk : Nat} {cl : Value} {cld : Option Addr} {csl : Array (Option Value)}
    (S : IniSc scope) (hr : Room (k + 1) A) (e0 : Env0 P w K mg base A outer s H) (hcell : K.lookup cc = some ⟨cl, cld, .cell (some (.ref C)), csl⟩) (rv : RelV v u1)
    (hns : h₁.Ns s.heap.objs.size (fun x => (([("self", .ref a), ("value", u1)] : List (Str × Value)).reverse).lookup x)) (hk : ∀ b o, s.heap.get? b = some o → h₁.get? b = some o) :
    Inv (cxE P w K mg base qual scope f cc cdv A outer s H) [] [some (.ref a), some v] H { s with heap := h₁, toks := tk } := by
  have KB : base.get? cc = some ⟨cl, cld, .cell (some (.ref C)), csl⟩ := e0.mod.kin _ _ hcell
  refine ⟨⟨e0.mod, S.kind, rfl, rfl, Nat.le_refl _, fun x y c h1 h2 => ?_, fun x hx => ?_, (fun _ _ z => nomatch z), fun _ => hr.hd, Around.frames_deeper e0.frames, .inr ⟨rfl, rfl⟩, (fun b z => absurd (show b ∈ ([] : List Addr) from z) List.not_mem_nil), e0.bs, e0.bsz, (fun b _ _ z => absurd (show b ∈ ([] : List Addr) from z) List.not_mem_nil), (fun b z => absurd (show b ∈ ([] : List Addr) from z) List.not_mem_nil), e0.funs, e0.frf⟩,
    rfl, e0.bare, Un.kept hk, ⟨_, hns, fun i y v' h1 h2 h3 => ?_⟩, fun x c h => ?_, e0.hok.fresh (Nat.le_refl _), fun x c h => ?_, (fun p hp => absurd (show p ∈ ([] : List (Addr × Obj)) from hp) List.not_mem_nil), e0.hok.kept hk, rfl⟩
  · exact (cell1 h1).1.trans (cell1 h2).1.symm
  · have hx : scope.names.lookup x = some .cell ∨ scope.names.lookup x = some .free := hx
    rcases hx with hx | hx
    · exact absurd rfl (S.nocell _ (PySem.mem_of_lookup hx))
    · have e := S.free _ (PySem.mem_of_lookup hx) rfl
      simp only at e
      subst e
      exact ⟨cc, rfl⟩
  · rcases i with _ | _ | i
    · cases h1; cases h2
      exact ⟨.ref a, rfl, .inl ⟨S.self, rfl⟩⟩
    · cases h1; cases h2
      exact ⟨u1, rv, .inl ⟨S.value, rfl⟩⟩
    · cases h1
  · obtain ⟨_, rfl⟩ := cell1 h
    exact ⟨some (.ref C), ⟨_, hk _ _ (e0.bs _ _ KB).1, rfl⟩⟩
  · obtain ⟨_, rfl⟩ := cell1 h
    exact (e0.bs _ _ KB).2
theorem ini_call {env : Env} {p0 p1 p2 p3 p4 : Pos} (hpos : (p2.endLine == p4.line) = true) : eval (.Call (.Attribute (.Call (.Name "super" p0) [] [] p1) "__init__" p2) [.Name "value" p3] [] p4) env = (do
    let ov ← attributeBase (.Call (.Name "super" p0) [] [] p1) "__init__" env (eval (.Call (.Name "super" p0) [] [] p1) env)
    standAt p2.atName
    let (f, first) ← holding [ov] (getMethod ov "__init__" (do return (← importBound (.Call (.Name "super" p0) [] [] p1) env).getD true))
    callWith p4 f first (backTo p4 (starEach [.Name "value" p3] env)) []) := by
  show (attributeBase (.Call (.Name "super" p0) [] [] p1) "__init__" env (eval (.Call (.Name "super" p0) [] [] p1) env) >>= fun ov => standAt p2.atName >>= fun _ => methodCall (.Call (.Name "super" p0) [] [] p1) "__init__" p2 p4 env ov 1 (backTo p4 (starEach [.Name "value" p3] env)) []) = _
  refine congrArg _ (funext fun ov => congrArg _ (funext fun _ => ?_))
  unfold methodCall methodCallPos
  rw [hpos, Bool.or_true, if_pos rfl]
  rfl
theorem ini_ok {f C : Addr} {fd : FuncData} {k : Nat} (T : IniK P K f C fd) (hsup : mg "super" = none) : FnOk P w K mg base CX0 (k + 1) f fd ["self", "value"] (spIni C) := by
  obtain ⟨name, qual, params, scope, dV, kV, doc, pm, ct, oc, ccl, cl, an, od, cdd, cld, osl, ccs, csl, cda, cc, vs, file, tf, ar, p0, p1, p2, p3, p4, p5, p6, p7, p8, p9, rfl, lk, hcd, S, hpar, har, hpos, hcode, hvs, hfile, hcell⟩ := T.ex
  refine ⟨fun vs H Q E h => by obtain ⟨a, v, rfl, _⟩ := h; rfl, fun A outer s H args us vs' Q E hr e0 hb r hsp => ?_⟩
  obtain ⟨a, v, rfl, ea, q⟩ := hsp
  cases r with
  | cons ra r =>
  rename_i u0 us
  cases r with
  | cons rv r =>
  rename_i u1 us
  cases r
  obtain rfl : u0 = Value.ref a := ra
  have KX : K.In s.heap := e0.mod.kin.keeps fun b o e => (e0.bs b o e).1
  have lim : s.heap.NoLimit := e0.mod.nolimit.keeps fun b o e => (e0.bs b o e).1
  refine ks_codeAny_call_defAt (body := iniBody p0 p1 p2 p3 p4 p5 p6 p7 p8 p9) hr.depth (KX _ _ lk) rfl lim (PySem.W.codeRec_of KX hcd) rfl hb S.nocell (fun y hy => ?_) (fun h₁ hns hk => ?_) S.co S.gen S.kind
  · simp only [List.zip_cons_cons, List.zip_nil_right, List.mem_cons, List.not_mem_nil, or_false] at hy
    rcases hy with rfl | rfl
    · exact S.self
    · exact S.value
  have I : Inv (cxE P w K mg base qual scope f cc (.ref cda) A outer s H) [] [some (.ref a), some v] H { s with heap := h₁, toks := s.toks + 2 } := inv_ini S hr e0 hcell rv hns hk
  obtain ⟨nm, q', N', bs, bm, sn, sub, ab, col, dd, k0, k1, k2, k3, k5, hC, hbm⟩ := T.T.cls
  have hcl : PySem.W.clsIn K C = some { name := nm, bases := bs, mro := .ref C :: bm, ns := N', qualname := q', hasDict := true, slotNames := sn, subclasses := sub, abstract := ab, collection := col, hasDel := false } := by unfold PySem.W.clsIn; rw [hC] <;> rfl
  obtain ⟨t1, hea⟩ := exo_at I.hok ea
  have hmro := T.hm
  unfold PySem.W.ks_superIn at hmro
  rw [hcl, Option.bind_some] at hmro
  show PyProof.Rows.wpAt (model P w) (A.deeper (PySem.W.ksEnv qual scope s.heap.objs.size f (.ref cda) cc)) (.func _ (PySem.W.ksEnv qual scope s.heap.objs.size f (.ref cda) cc)) (execs _ (PySem.W.ksEnv qual scope s.heap.objs.size f (.ref cda) cc)) _ _ _
  refine ks_wpAt_mono (Q := SP (cxE P w K mg base qual scope f cc (.ref cda) A outer s H) [] { nx := fun _ H' => Q .non H', rt := fun v H' => Q v H' }) (E := fun _ _ => False) ?_ (fun fl s' hs => ?_) fun _ _ z => z.elim
  · have hC1 : h₁.get? C = some _ := I.kIn _ _ hC
    refine ks_wpAt_execs_cons (ks_wpAt_Expr_any (hi := by show interactive _ = false; unfold interactive; rw [S.kind]; rfl) (ks_wpAt_MethodCall (pl := (do return (← importBound (.Call (.Name "super" p0) [] [] p1) (PySem.W.ksEnv qual scope s.heap.objs.size f (.ref cda) cc)).getD true)) ?_ (ini_call hpos)))
    refine ks_wpAt_super_base S.super S.cls (by decide) rfl (I.kIn _ _ lk) rfl hpar rfl (I.kIn _ _ hcode) rfl hvs hfile T.htop ?_
    obtain ⟨mb, b1, b2⟩ := I.mod.blt
    refine PySem.W.ks_loadName_global S.kind S.super (Calls.loadGlobal_builtin (by rw [I.ok.glob]; exact I.mod.glob.keeps I.bk) hsup (by rw [I.ok.blt]; exact b1.keeps I.bk) ((b2 "super" (by decide)).trans (by decide +kernel : bootBuiltins "super" = some (.type "super"))) ⟨rfl, ?_⟩)
    refine wpAny_loadName_free S.kind S.cls rfl ⟨_, I.kIn _ _ hcell, rfl⟩ ?_
    refine wpAny_loadName_local S.kind (by rw [har]; exact S.self) hns (v := .ref a) (by rw [har]; rfl) ?_
    refine ks_wpAny_isType_cls hC1 rfl ⟨rfl, ?_⟩
    refine ks_wpAny_call_super hC1 rfl hea rfl (fun c z => nomatch z) (PySem.W.looks_mroIn I.kIn T.hsub) (fun h2 e2 k2 => ?_)
    have I2 : Inv (cxE P w K mg base qual scope f cc (.ref cda) A outer s H) [] [some (.ref a), some v] H { s with heap := h2, toks := s.toks + 2 } := I.kept k2
    have L2 : PySem.W.InstAt h2 a _ C none := ⟨k2 _ _ hea, rfl, rfl, trivial⟩
    have ne : a ≠ C := PySem.W.ks_ne I2.kIn L2 hcl
    refine PySem.W.kxs_getMethod PySem.W.kxs_ValueError e2 (PySem.W.looks_opaque I2.kIn T.ho) (l₀ := .ref C :: bm) (fun A Q E s k q => wpAny_bind ((PySem.W.looks_clsIn I2.kIn hcl) A _ E s k (wpAny_pure q))) rfl I2.kIn hmro (L2.type.andThen (PySem.W.looks_subIn I2.kIn T.hB)) ne (by decide) ?_
    have k3 : ∀ b o, h2.get? b = some o → (h2.push (PySem.W.kxs_mw "ValueError.__init__" a)).get? b = some o := fun b o e => Heap.get?_push_of_some _ e
    have I3 : Inv (cxE P w K mg base qual scope f cc (.ref cda) A outer s H) [] [some (.ref a), some v] H { s with heap := h2.push (PySem.W.kxs_mw "ValueError.__init__" a), toks := s.toks + 2 + 1 } := I2.kept k3
    have hu3 : (h2.push (PySem.W.kxs_mw "ValueError.__init__" a)).get? h2.objs.size = some (PySem.W.kxs_mw "ValueError.__init__" a) := Heap.get?_push_at rfl rfl
    have hns3 := hns.keeps fun b o e => k3 b o (k2 b o e)
    refine PySem.W.kxs_callWith (i := "ValueError.__init__") (x := a) rfl (Calls.evalArgs_plain ?_)
    show wpAny _ _ (spliced ((false, eval (.Name "value" p3) _) :: backTo p4 (starEach [] _))) _ _ _
    refine Calls.spliced_cons (wpAny_Name (wpAny_loadName_local S.kind S.value hns3 (v := u1) rfl (Calls.spliced_nil ⟨hu3, ?_⟩)) (by decide))
    refine PySem.EVX.call_mw (I3.kIn _ _ hC) (k3 _ _ (k2 _ _ hea)) hu3 (by show 1 ≤ sizeLine; rw [sizeLine_eq]; omega) (fun h4 t4 k4 e4 => ?_)
    have J := I3.write (t' := s.toks + 2 + 1) (x := a) (e := a) (o := exo a C none) (by rw [ea]; exact True.intro) (.inl rfl) k4 ⟨_, e4⟩ (exo_ok e4)
    have eu : upd H a (exo a C none) = H := by
      funext b
      by_cases hb : b = a
      · rw [hb, upd_same, ea]
      · rw [upd_ne hb]
    rw [eu] at J
    refine wpAt_of_wpAny ?_
    refine (pss_one (ps_ost (pv 0 (hv := .inl S.self)) (pv 1 (hv := .inl S.value)))).run [] _ _ H _ J ?_
    exact ⟨v, rfl, .ref a, rfl, a, C, rfl, T.T, T.hno, .inl ⟨ea, q⟩⟩
  · have fin : ∀ {σ' : St} {H' : Hp} {v : V} {u : Value}, Inv (cxE P w K mg base qual scope f cc (.ref cda) A outer s H) [] σ' H' s' → RelV v u → Q v H' → CE outer P w H s Q u s' :=
      fun {σ' H' v u} J rv q => ⟨v, H', J.os, J.bare, J.base, J.hok, rv, q⟩
    cases fl with
    | ret u =>
      obtain ⟨v, σ', H', J, rv, q⟩ := hs
      exact fin J rv q
    | next =>
      obtain ⟨σ', H', J, q⟩ := hs
      exact fin (v := V.non) (u := Value.none) J rfl q
    | brk =>
      obtain ⟨_, _, _, q⟩ := hs
      exact False.elim q
    | cont =>
      obtain ⟨_, _, _, q⟩ := hs
      exact False.elim q
end
end L2

/-! DLv: defs that raise an own exception; try .. except A as n: m = n, the exception kept. -/
namespace L2
open PySem PySem.Spec PyProof.Rows
section
variable {X : Cx} {pins : List (Addr × Obj)} {σ : St} {H : Hp} {s : Shared}
/-- an object of ours that stands in the heap is tracked from here on -/
theorem Inv.track {a : Addr} {oe : Obj} {o : HO} (I : Inv X pins σ H s) (hget : s.heap.get? a = some oe) (na : H a = none) (nL : a ≠ X.env.locals) (nc : ∀ v, oe.data ≠ .cell v) (n0 : X.s_0.heap.get? a = none) (np : ∀ p ∈ X.pn ++ pins, p.1 ≠ a)
    (new : ObjOk X.prog X.w (upd H a o) s.heap a o) : Inv X pins σ (upd H a o) s := by
  refine ⟨I.ok, I.os, I.bare, ⟨I.base.keep, I.base.slot, fun b u e n hx => ?_, I.base.there, fun b xs e => ?_, fun b u xs e => ?_, fun b ps e => ?_⟩, I.loc, I.cell, ?_, fun x c e => ?_, fun p hp => ?_, I.hok.laidN (fun _ _ e => e) na new, I.len⟩
  · rw [upd_ne (fun z => by rw [z, n0] at e; cases e)]
    exact I.base.free b u e n hx
  · have q := I.base.tups b xs e
    rw [upd_ne (ne_of_none q na)]
    exact q
  · have q := I.base.frzs b u xs e
    rw [upd_ne (ne_of_none q na)]
    exact q
  · obtain ⟨m, q⟩ := I.base.tbls b ps e
    exact ⟨m, by rw [upd_ne (ne_of_none q na)]; exact q⟩
  · rw [upd_ne (Ne.symm nL)]
    exact I.free
  · obtain ⟨v, ob, h1, h2⟩ := I.cell x c e
    rw [upd_ne (fun z => by rw [z, hget] at h1; cases h1; exact nc _ h2)]
    exact I.freeC x c e
  · obtain ⟨h1, h2, h3, h4, h5⟩ := I.pin p hp
    exact ⟨h1, by rw [upd_ne (np p hp)]; exact h2, h3, h4, h5⟩
end
theorem exq_ok {P : Program} {w : World} {H : Hp} {h : Heap} {a C dx : Addr} {oe : Obj} {vs : Array Value} (e : h.get? a = some oe) (z : Zc (.ref C) (some dx) oe) (d : oe.data = .fields vs) : ObjOk P w H h a (DL.exq a C dx) :=
  ⟨⟨oe, vs, e, z, d⟩, ⟨oe, e⟩, fun h1 h2 ⟨o, v, q, r⟩ k => ⟨o, v, k o q, r⟩⟩
/-- what 'except x as n: m = n' wishes of an exception of the body -/
def wKeep (K : PySem.W.Frag) (c : Value) (i j : Nat) (D : Ends) : WX := fun cls d σ H => PySem.W.exmOne K cls c = some true ∧ ∃ C dx, cls = .ref C ∧ d = some dx ∧
  ∀ a, H a = none → D.nx (((σ.set i (some (.ref a))).set j (some (.ref a))).set i none) (upd H a (DL.exq a C dx))
section
variable {X : Cx} {x n m : Str} {c : Value} {i j : Nat} {body : List Stmt} {np p1 p2 p3 pos pos' : Pos} {tb : WX → TS}
theorem ps_try_keep (hs : X.stack = X.env :: X.outer) (hf : X.env.frame = some X.env.locals) (hex : X.ex = []) (hN : X.N.Nodup) (hi : X.N[i]? = some n) (hln : X.env.kindOf n = some .local) (hj : X.N[j]? = some m) (hlm : X.env.kindOf m = some .local) (hc : Names X x c)
    (hnd : (n == ("__debug__" : Str)) = false) (hncd : (n == ("__classdict__" : Str)) = false)
    (hb : ∀ (W : WX) (pn : List (Addr × Obj)) (xe : Value → Shared → Prop), Takes (X.tr pn xe) W → PassesOwn (model X.prog X.w) X.A X.env xe → PSs (X.tr pn xe) body (tb W)) :
    PS X (.Try body [.ExceptHandler (some (.Name x np)) (some n) [.Assign [.Name m p1] (.Name n p2) p3] pos'] [] [] pos) (fun D σ H => tb (wKeep X.K c i j D) D σ H) := by
  refine ⟨fun pins s σ H D I h => ?_⟩
  have ok := I.ok
  have hfr : X.A.frames = some (X.env :: X.outer) := by rw [ok.frames, hs]
  have hloc : Loc X.env.scope n := .inl hln
  refine wpAny_Try_except ?_
  refine wpAny_mono ((hb (wKeep X.K c i j D) (X.pn ++ pins) (fun e s₁ => wpAny (model X.prog X.w) X.A (noteFrame e X.env) (fun _ s₂ => wpAny (model X.prog X.w) X.A (setFlight e none) (fun _ s₃ =>
    wpAny (model X.prog X.w) X.A (handleBy e X.env [.ExceptHandler (some (.Name x np)) (some n) [.Assign [.Name m p1] (.Name n p2) p3] pos']) (SP X pins D) X.xe s₃) X.xe s₂) X.xe s₁) (fun u s' xx => ?_) PassesOwn.looking).run [] s σ H D (I.toTry _) h) (fun f s1 hsp => ?_) (fun e s1 he => he)
  · obtain ⟨a, B, sI, pins', σ', H', cls, d, rfl, J', nb, up, sky, na, os, ag, hb1, C, dx, rfl, rfl, hyes⟩ := xx
    have J : Inv X pins σ' H' sI := J'.ofTry ok
    have sky' : Sky B (X.env :: X.outer) a (Zc (.ref C) (some dx)) X.env.locals s'.heap := by rw [← hs]; exact sky
    show wpAny (model X.prog X.w) X.A (noteFrame (.ref a) X.env) _ _ _
    refine Sky.land Zc.steady hfr hf sky' fun h3 fl3 up3 => ?_
    have J3 : Inv X pins σ' H' { s' with heap := h3 } := J.landed nb fl3.1 (up.trans up3) os ag
    obtain ⟨oe3, vs3, he3, hz3, hd3⟩ := fl3.there
    have notFr : ∀ {h : Heap} {o : Obj} {vs : Array Value}, h.FunFrames B (X.env :: X.outer) → h.get? a = some o → o.data = .fields vs → a ∉ frs (X.env :: X.outer) := fun {h o vs} ff e dd hm => by
      obtain ⟨_, o', e', hnf⟩ := ff.mem hm
      rw [e] at e'; cases e'
      exact hnf _ dd
    have nfr := notFr fl3.2.2.1 he3 hd3
    have nst : a ∉ frs X.stack := by rw [hs]; exact nfr
    have nL : a ≠ X.env.locals := fun z => nfr (List.mem_filterMap.mpr ⟨X.env, List.mem_cons_self, by rw [hf, z]⟩)
    have nF : a ∉ X.fs := fun hm => by
      obtain ⟨e, he, q⟩ := List.mem_filterMap.mp hm
      exact nfr (List.mem_filterMap.mpr ⟨e, List.mem_cons_of_mem _ he, q⟩)
    have nI : sI.heap.get? a = none := by
      cases e : sI.heap.get? a with
      | none => rfl
      | some o =>
        have z := nb a o e nst
        rw [fl3.2.1] at z
        cases z
    have n0 : X.s_0.heap.get? a = none := by
      cases e : X.s_0.heap.get? a with
      | none => rfl
      | some o =>
        obtain ⟨o', z⟩ := J.base.there a o e (by rw [hex]; exact List.not_mem_nil)
        rw [nI] at z
        cases z
    have npn : ∀ p ∈ X.pn ++ pins, p.1 ≠ a := fun p hp z => by
      have q := (J.pin p hp).1
      rw [z, nI] at q
      cases q
    have S3 := J3.suite he3 hd3 na nL nF
    refine wpAny_handleBy_cons (codeAny_handlers_test ?_) (by intro q; cases q)
    have LT : PySem.W.Looks (model X.prog X.w) h3 (typeOf (.ref a)) (.ref C) := fun A Q E s k q => wpAny_typeOf_ref (k _ _ he3) (by rw [hz3.1]; exact q)
    have LM := PySem.W.exm_one (M := model X.prog X.w) (J3.kIn) LT hb1
    have test : ∀ {Q : Value → Shared → Prop} {E : Value → Shared → Prop}, Q c { s' with heap := h3 } → wpAny (model X.prog X.w) (X.A.mark (some (.ref a))) (eval (.Name x np) X.env) Q E { s' with heap := h3 } := fun {Q E} q => by
      obtain ⟨hg, hdbg, hm | ⟨hm, hv, hnn⟩⟩ := hc
      · exact ld_glob (X := X.suite a ((a, oe3) :: (X.pn ++ pins))) S3 hg hm q hdbg
      · exact ld_blt (X := X.suite a ((a, oe3) :: (X.pn ++ pins))) S3 hg hm hv q hnn hdbg
    refine test (LM.here ?_)
    refine codeAny_handlers_suite_as ?_
    refine HandSPX.lands_againZ fl3 fun h4 fl4 up4 => ?_
    have J4 : Inv X pins σ' H' { s' with heap := h4 } := J.landed nb fl4.1 ((up.trans up3).trans up4) os ag
    obtain ⟨oe4, vs4, he4, hz4, hd4⟩ := fl4.there
    have S4 := J4.suite he4 hd4 na nL nF
    refine store_ok (X := X.suite a ((a, oe4) :: (X.pn ++ pins))) (v := .ref a) S4 hN hi hloc rfl (fun s5 S5 => ?_) (.inr hln)
    have li : i < σ'.length := by rw [J.len]; exact (List.getElem?_eq_some_iff.mp hi).1
    have gi : (σ'.set i (some (V.ref a)))[i]? = some (some (V.ref a)) := by rw [List.getElem?_set_self li]
    refine wpAny_mono ((pss_one (ps_set (X := X.suite a ((a, oe4) :: (X.pn ++ pins))) hN hj (.inl hlm) (pe_var (i := i) hi (.inl hln) hnd hncd) (hf := .inr hlm))).run [] s5 _ H' { nx := fun σ6 H6 => σ6 = (σ'.set i (some (.ref a))).set j (some (.ref a)) ∧ H6 = H', rt := fun _ _ => False } S5 ⟨_, gi, rfl, rfl⟩) (fun f s6 hsp => ?_) (fun _ _ z => False.elim z)
    cases f with
    | next =>
      obtain ⟨σ6, H6, S6, rfl, rfl⟩ := hsp
      refine gone_ok (X := X.suite a ((a, oe4) :: (X.pn ++ pins))) S6 hN hi hln fun s7 S7 => ?_
      have J7 : Inv X pins _ H6 s7 := S7.unsuite ok
      obtain ⟨g7, _, _, _, _⟩ := S7.pin (a, oe4) (List.mem_append_left _ List.mem_cons_self)
      exact ⟨_, _, J7.track (o := DL.exq a C dx) g7 na nL (fun v z => by rw [hd4] at z; cases z) n0 npn (exq_ok g7 hz4 hd4), hyes a na⟩
    | brk => obtain ⟨_, _, _, z⟩ := hsp; exact z.elim
    | cont => obtain ⟨_, _, _, z⟩ := hsp; exact z.elim
    | ret u => obtain ⟨_, _, _, _, _, z⟩ := hsp; exact z.elim
  · cases f with
    | next =>
      obtain ⟨σ', H', J', q⟩ := hsp
      exact wpAny_execs_nil ⟨σ', H', J'.ofTry ok, q⟩
    | brk =>
      obtain ⟨σ', H', J', q⟩ := hsp
      exact ⟨σ', H', J'.ofTry ok, q⟩
    | cont =>
      obtain ⟨σ', H', J', q⟩ := hsp
      exact ⟨σ', H', J'.ofTry ok, q⟩
    | ret u =>
      obtain ⟨v, σ', H', J', r, q⟩ := hsp
      exact ⟨v, σ', H', J'.ofTry ok, r, q⟩
end
end L2
namespace DL
open PySem PySem.Spec PyProof.Rows L2
/-! ### defs that raise -/
abbrev XSp := List D → (Addr → D → Prop) → Prop
/-- the promise of a def that raises an own exception with a field -/
def spX (K : PySem.W.Frag) (sp : XSp) : Sp := fun vs H _ E => ∃ (M : Addr → Prop) (ds : List D) (Ψ : Addr → D → Prop), (∀ a, M a → ∃ o, H a = some o ∧ NT o) ∧ Rps K M H ds vs ∧ sp ds Ψ ∧
  ∀ (C dx : Addr) (fs : List (Str × V)) (u : V) (x : D) (H2 : Hp), Ψ C x → Same H H2 → ¬ M dx → H2 dx = some (.xd fs) → fs.lookup ("value" : Str) = some u → Rp K M H2 x u → E (.ref C) (some dx) H2
structure XFn (P : Program) (w : World) (K : PySem.W.Frag) (mg : Str → Option Value) (base : Heap) (x : Str) (ps : List Str) (k : Nat) (sp : Sp) : Prop where
  ex : ∃ (f : Addr) (fd : FuncData), mg x = some (.ref f) ∧ PySem.W.keepIn K (.ref f) = true ∧ Binds K fd ps [] ∧ FnOk P w K mg base (L2.CX P w) k f fd ps sp
/-- an own exception class that makes its instances by ini_ok -/
structure ExM (P : Program) (w : World) (K : PySem.W.Frag) (mg : Str → Option Value) (base : Heap) (x : Str) (C : Addr) (k : Nat) : Prop where
  ex : ∃ (fI : Addr) (fd : FuncData), OexC K C ∧ PySem.W.findIn K (.ref C) "__init__" = some (some (.ref fI)) ∧ PySem.W.typeIn K (.ref fI) = some (.type "function") ∧ FnOk P w K mg base CX0 k fI fd ["self", "value"] (spIni C) ∧ Binds K fd ["self", "value"] [] ∧ mg x = some (.ref C)
def wx (c : Ctx) (b : Base) (Ψ : Addr → D → Prop) : WX := fun cls d _ H => ∃ (C dx : Addr) (fs : List (Str × V)) (u : V) (x : D), cls = .ref C ∧ d = some dx ∧ Ψ C x ∧ (∀ a o, ¬ b.B a → b.H0 a = some o → H a = some o) ∧ ¬ c.Av [] dx ∧ H dx = some (.xd fs) ∧ fs.lookup ("value" : Str) = some u ∧ Rp c.X.K (c.Av []) H x u
/-- a block that raises -/
structure RB (c : Ctx) (sts : List Stmt) (δ : DE) (n : Nat) (Ψ : Addr → D → Prop) : Prop where
  run : ∀ b σ H DD, SlR c σ H δ n → Bs c b H δ → Takes c.X (wx c b Ψ) → wB c.X sts DD σ H
theorem av0 {c : Ctx} {δ : DE} : ∀ a, c.Av [] a → c.Av δ a := fun a z => by
  rcases z with z | z | z
  · exact .inl z
  · exact .inr (.inl z)
  · cases z
section
variable {c : Ctx} {δ : DE} {n : Nat} {st : Stmt} {rest sts : List Stmt} {e : Expr} {es : List Expr} {pos pos2 p : Pos} {x : Str} {ps : List Str} {k : Nat} {Ψ : Addr → D → Prop} {C : Addr}
theorem rb_cons (h : WS c st δ n { nx := fun δ' n' => RB c rest δ' n' Ψ, rt := fun _ _ => False }) : RB c (st :: rest) δ n Ψ := ⟨fun b σ H DD S B tk => by
  refine pb_to (pss_cons ps_w pb_w) ?_
  exact h.run b σ H _ S B ⟨fun σ' H' δ' n' S' B' q => q.run b σ' H' DD S' B' tk, fun _ _ _ _ _ _ z => z.elim, fun _ _ _ _ _ _ z => z.elim, fun _ _ _ _ _ z => z.elim⟩⟩
theorem rb_if {t : Expr} (h : WT c t δ n fun k n1 => (k = true → RB c sts δ n1 Ψ) ∧ (k = false → RB c rest δ n1 Ψ)) : RB c (.If t sts [] pos :: rest) δ n Ψ := ⟨fun b σ H DD S B tk => by
  refine pb_to (pss_cons (ps_if pt_w pb_w pb_w) pb_w) ?_
  refine h.run σ H _ S fun k H2 n1 k1 S1 ⟨h1, h2⟩ => ?_
  cases k with
  | true => exact iteT ((h1 rfl).run b σ H2 _ S1 (B.kp k1) tk)
  | false => exact iteF (pb_to pss_nil ((h2 rfl).run b σ H2 DD S1 (B.kp k1) tk))⟩
theorem rb_raise (M : ExM c.X.prog c.X.w c.X.K c.X.mg c.X.base x C k) (hcm : c.X.calm = true) (hr : Room (k + 1) c.X.A) (hg : Gl c.X x) (h : WE c e δ n fun d n1 => okEl d = true ∧ Ψ C (frz d))
    (hdb : (x == ("__debug__" : Str)) = false := by decide) (he : starEach [e] c.X.env = (false, eval e c.X.env) :: starEach [] c.X.env := by rfl) : RB c (.Raise (some (.Call (.Name x p) [e] [] pos)) none pos2 :: rest) δ n Ψ := ⟨fun b σ H DD S B tk => by
  obtain ⟨fI, fd, T, iC, tI, F1, hb, hm⟩ := M.ex
  refine pb_to (pss_cons (ps_raise hcm tk (pmk_oex T iC tI F1 hr hb .nil pass0 hg hm (pa_cons pe_w pa_nil he) hdb he)) pb_w) ?_
  refine h.run σ H _ S fun v H2 d n1 k1 S1 r1 ⟨o, px⟩ => ?_
  refine ⟨(by show 1 ≤ 1000; decide), fun a ha => ⟨a, v, rfl, upd_same, fun dx hdx ne => ?_⟩⟩
  have hd2 : H2 dx = none := by rwa [upd_ne ne] at hdx
  have B2 := B.kp k1
  have same : ∀ y u, H2 y = some u → L2.upd (L2.del (L2.upd (L2.upd (L2.upd H2 a (exo a C none)) dx (exd dx [("value", v)])) a (exo a C (some dx))) a) dx (.xd [("value", v)]) y = some u := fun y u e => by
    have n1 : y ≠ dx := ne_of_none e hd2
    have n2 : y ≠ a := ne_of_none e ha
    rw [upd_ne n1, del_ne n2, upd_ne n2, upd_ne n1, upd_ne n2]
    exact e
  refine ⟨rfl, dx, [("value", v)], upd_same, by rw [upd_ne ne]; exact upd_same, hd2, C, dx, [("value", v)], v, frz d, rfl, rfl, px, fun y u nb q => same y u (B2.keep y u nb q), fun z => S1.off hd2 (av0 _ z), upd_same, rfl, (r1.el o).wk av0 fun y u _ q => same y u q⟩⟩
theorem rb_call {sp : XSp} (F : XFn c.X.prog c.X.w c.X.K c.X.mg c.X.base x ps k (spX c.X.K sp)) (hr : Room k c.X.A) (hg : Gl c.X x) (h : WA c (e :: es) δ n fun ds n1 => ds.all okEl = true ∧ sp (ds.map frz) Ψ)
    (hdb : (x == ("__debug__" : Str)) = false := by decide) (he : starEach (e :: es) c.X.env = (false, eval e c.X.env) :: starEach es c.X.env := by rfl) (hpl : (backTo pos (starEach es c.X.env)).any (·.1) = false := by rfl) :
    RB c (.Expr (.Call (.Name x p) (e :: es) [] pos) pos2 :: rest) δ n Ψ := ⟨fun b σ H DD S B tk => by
  obtain ⟨f, fd, hm, hk, hb, F⟩ := F.ex
  refine pb_to (pss_cons (ps_expr (pe_callS (E := L2.WE (wx c b Ψ)) F hr hg hm hk hb (fun σ => passAt tk σ) pa_w hdb he hpl)) pb_w) ?_
  refine h.run σ H _ S fun vs H2 ds n1 k1 S1 r1 ⟨o, f⟩ => ?_
  exact ⟨c.Av δ, ds.map frz, Ψ, fun a m => S1.av_nt m, els_ok o r1, f, fun C dx fs u y H3 px sm nm hx hl rx => ⟨C, dx, fs, u, y, rfl, rfl, px, fun a u nb q => sm _ _ ((B.kp k1).keep a u nb q), fun z => nm (av0 _ z), hx, hl, rx.wk av0 fun _ _ _ q => q⟩⟩⟩
theorem set3 {α : Type} {l : List α} {i j : Nat} {x y z : α} (hij : i ≠ j) : ((l.set i x).set j y).set i z = (l.set j y).set i z := by
  rw [List.set_comm _ _ hij, List.set_set]
/-- try: f(..), f refusing, except A as n: m = n -/
theorem ws_try {D' : DEnds} {sp : XSp} {a nE m : Str} {A : Addr} {np p1 p2 p3 pos1 pos' : Pos} (i j : Nat) (F : XFn c.X.prog c.X.w c.X.K c.X.mg c.X.base x ps k (spX c.X.K sp)) (hr : Room k c.X.A) (hg : Gl c.X x) (hA : c.X.mg a = some (.ref A)) (hgA : Gl c.X a)
    (hs : c.X.stack = c.X.env :: c.X.outer) (hf : c.X.env.frame = some c.X.env.locals) (hex : c.X.ex = []) (hN : c.X.N.Nodup) (hij : i ≠ j)
    (h : ∀ pn xe, WA ⟨c.X.tr pn xe, c.M, c.pu⟩ (e :: es) δ n fun ds n1 => ds.all okEl = true ∧ sp (ds.map frz) fun C y => PySem.W.exmOne c.X.K (.ref C) (.ref A) = some true ∧ D'.nx ((δ.set j (some (.exc C y))).set i none) n1)
    (hi : c.X.N[i]? = some nE := by rfl) (hln : c.X.env.kindOf nE = some .local := by rfl) (hj : c.X.N[j]? = some m := by rfl) (hlm : c.X.env.kindOf m = some .local := by rfl)
    (hda : (a == ("__debug__" : Str)) = false := by decide) (hnd : (nE == ("__debug__" : Str)) = false := by decide) (hncd : (nE == ("__classdict__" : Str)) = false := by decide)
    (hdb : (x == ("__debug__" : Str)) = false := by decide) (he : starEach (e :: es) c.X.env = (false, eval e c.X.env) :: starEach es c.X.env := by rfl) (hpl : (backTo pos (starEach es c.X.env)).any (·.1) = false := by rfl) :
    WS c (.Try [.Expr (.Call (.Name x p) (e :: es) [] pos) pos2] [.ExceptHandler (some (.Name a np)) (some nE) [.Assign [.Name m p1] (.Name nE p2) p3] pos'] [] [] pos1) δ n D' := ⟨fun b σ H DD S B E => by
  obtain ⟨f, fd, hm, hk, hb, F⟩ := F.ex
  let tA : TA := fun σ H Q => ∀ pn xe, wA (c.X.tr pn xe) (e :: es) σ H Q
  refine ps_to (ps_try_keep (tb := fun W => tDrop (tCallS (spX c.X.K sp) (L2.WE W) tA)) hs hf hex hN hi hln hj hlm (c := .ref A) ⟨hgA, hda, .inl hA⟩ hnd hncd fun W pn xe tk _ => pss_one (ps_expr (pe_callS (X := c.X.tr pn xe) (E := L2.WE W) F hr hg hm hk hb (fun σ => passAt tk σ) ⟨fun pos pins s σ H Q I q => q pn xe pos pins s I⟩ hdb he hpl))) ?_
  intro pn xe
  refine (h pn xe).run σ H _ (S.conv rfl) fun vs H2 ds n1 k1 S1' r1 ⟨o, f⟩ => ?_
  have S1 : SlR c σ H2 δ n1 := S1'.conv rfl
  refine ⟨c.Av δ, ds.map frz, _, fun a m => S1.av_nt m, els_ok o r1, f, fun C dx fs u y H3 px sm nm hx hl rx => ?_⟩
  refine ⟨px.1, C, dx, rfl, rfl, fun a2 ha2 => ?_⟩
  rw [set3 hij]
  have S3 := S1.grow sm
  have g4 : Same H3 (L2.upd H3 a2 (exq a2 C dx)) := same_new ha2
  have S4 := S3.grow g4
  have r4 : Rp c.X.K (c.Av δ) (L2.upd H3 a2 (exq a2 C dx)) (.exc C y) (.ref a2) := ⟨a2, dx, fs, u, rfl, S3.off ha2, nm, upd_same, g4 _ _ hx, hl, rx.kp (ex := none) (fun _ z => nomatch z) (Kp.of g4)⟩
  exact E.nx _ _ _ n1 ((S4.set j r4).unset i none) (((((B.kp k1).kp (Kp.of sm)).kp (Kp.of g4)).set1 rfl).set1 rfl) px.2⟩
end
end DL

/-! DLw: dict keys (x, (y, ..), z): a tuple with one tuple within. -/
namespace PySem
open Sem (wp)
section
variable {prog : Program} {w : World} {K : Type} [DecidableEq K] (knd : KeyKind prog w K)
/-- the tuple at a is (x, ks, y), ks a tuple itself -/
def IsNest (h : Heap) (k : K × List K × K) (a : Addr) : Prop := ∃ (o : Obj) (items : Array Value) (n : Nat) (u v : Value) (b : Addr), h.get? a = some o ∧ o.cls = .type "tuple" ∧ o.data = .seq items n ∧ items.toList = [u, .ref b, v] ∧ knd.is k.1 u = true ∧ IsTupleKey knd h k.2.1 b ∧ knd.is k.2.2 v = true
variable {knd}
theorem IsNest.typeIs {s : Shared} {k : K × List K × K} {a : Addr} (x : IsNest knd s.heap k a) : s.TypeIs (.ref a) "tuple" := let ⟨o, _, _, _, _, _, ho, hc, _⟩ := x; ⟨o, ho, hc⟩
theorem IsNest.inj {h : Heap} {a : Addr} {x y : K × List K × K} (hx : IsNest knd h x a) (hy : IsNest knd h y a) : x = y := by
  obtain ⟨o, items, n, u, v, b, ho, _, hd, hl, h1, h2, h3⟩ := hx
  obtain ⟨o', items', n', u', v', b', ho', _, hd', hl', h1', h2', h3'⟩ := hy
  obtain rfl : o = o' := Option.some.inj (ho.symm.trans ho')
  rw [hd] at hd'
  injection hd' with e _
  subst e
  rw [hl] at hl'
  simp only [List.cons.injEq, Value.ref.injEq, and_true] at hl'
  obtain ⟨rfl, rfl, rfl⟩ := hl'
  exact Prod.ext (knd.inj _ _ _ h1 h1') (Prod.ext (h2.inj h2') (knd.inj _ _ _ h3 h3'))
theorem IsNest.keeps {h h' : Heap} {k : K × List K × K} {a d : Addr} {o : Obj} {es ep} (x : IsNest knd h k a) (ho : h.get? d = some o) (hd : o.data = .dict es ep) (hs : Heap.SameBut d h h') : IsNest knd h' k a := by
  obtain ⟨o', items, n, u, v, b, ho', hc, hd', r1, r2, r3, r4⟩ := x
  have hne : a ≠ d := by
    rintro rfl
    obtain rfl : o' = o := Option.some.inj (ho'.symm.trans ho)
    rw [hd] at hd'; exact nomatch hd'
  exact ⟨o', items, n, u, v, b, (hs.2 a hne).trans ho', hc, hd', r1, r2, r3.keeps ho hd hs, r4⟩
def nestHash (knd : KeyKind prog w K) (k : K × List K × K) : Int := reduceHash (Builtin.Tuple.tupleHashOf [knd.hash k.1, tupleKeyHash knd k.2.1, knd.hash k.2.2])
variable {A : Around} {E : Value → Shared → Prop} {s : Shared}
theorem wpAny_pyHash_nest {k : K × List K × K} {a : Addr} {Q : Int → Shared → Prop} (hu : A.units + 4 < cLine) (hk : IsNest knd s.heap k a) (h : Q (nestHash knd k) { s with toks := s.toks + (k.2.1.length + 4) }) :
    wpAny (model prog w) A (pyHash (.ref a)) Q E s := by
  have hT := hk.typeIs
  obtain ⟨o, items, n, u, v, b, ho, _, hd, hl, h1, h2, h3⟩ := hk
  unfold pyHash
  first | unfold pyHashByItsType | skip
  first | refine wpAny_bind (wpAny_cRoomFor_or (.inr (by omega)) ?_) | skip
  refine wpAny_bind (wpAny_specialOf hT F.slot_tuple_hash.lookup ?_)
  show wpAny _ _ (if (some (Value.builtin "tuple.__hash__") == some Value.none) = true then _ else _) Q E s
  rw [if_neg (by rw [beq_builtin_none]; exact Bool.false_ne_true)]
  refine wpAny_bind (wpAny_specialOf hT F.slot_tuple_hash.lookup ?_)
  show wpAny _ _ (callSpecialIfBoundUnlessNone? (.ref a) "__hash__" _ >>= _) Q E s
  refine wpAny_bind (wpAny_callSpecialIfBoundUnlessNone?_slot hT F.slot_tuple_hash (wpAny_call_entry F.slot_tuple_hash hT F.entry_tuple_hash ?_ (F.args_tuple_hash_1 _)))
  show wpAny _ _ (Builtin.Tuple.tupleItemsOf (.ref a) >>= _) _ _ s
  refine wpAny_bind (wpAny_tupleItemsOf ho hd ?_)
  refine wpAny_bind ?_
  rw [← Array.forIn_toList, hl]
  refine wpAny_forIn_list _
    (fun rest (acc : Array Int) s' => (rest = [u, .ref b, v] ∧ acc.toList = [] ∧ s' = s) ∨ (rest = [.ref b, v] ∧ acc.toList = [knd.hash k.1] ∧ s' = { s with toks := s.toks + 1 }) ∨
      (rest = [v] ∧ acc.toList = [knd.hash k.1, tupleKeyHash knd k.2.1] ∧ s' = { s with toks := s.toks + 1 + (k.2.1.length + 1) }) ∨ (rest = [] ∧ acc.toList = [knd.hash k.1, tupleKeyHash knd k.2.1, knd.hash k.2.2] ∧ s' = { s with toks := s.toks + 1 + (k.2.1.length + 1) + 1 }))
    _ ?_ ?_ _ _ (.inl ⟨rfl, rfl, rfl⟩)
  · rintro x rest acc s' (⟨e, hb, rfl⟩ | ⟨e, hb, rfl⟩ | ⟨e, hb, rfl⟩ | ⟨e, hb, rfl⟩)
    · cases e
      refine wpAny_bind (knd.pyHash h1 ?_)
      first
        | exact wpAny_pure (.inr (.inl ⟨rfl, by simp [hb], rfl⟩))
        | exact wpAny_bind (wpAny_pure (wpAny_pure (.inr (.inl ⟨rfl, by simp [hb], rfl⟩))))
    · cases e
      refine wpAny_bind (wpAny_pyHash_tuple (by first | exact Nat.lt_of_le_of_lt (Nat.le_of_lt_succ (by show A.units + 1 < A.units + 4 + 1; omega)) hu | (show A.units + 1 < cLine; omega) | omega) h2 ?_)
      first
        | exact wpAny_pure (.inr (.inr (.inl ⟨rfl, by simp [hb], rfl⟩)))
        | exact wpAny_bind (wpAny_pure (wpAny_pure (.inr (.inr (.inl ⟨rfl, by simp [hb], rfl⟩)))))
    · cases e
      refine wpAny_bind (knd.pyHash h3 ?_)
      first
        | exact wpAny_pure (.inr (.inr (.inr ⟨rfl, by simp [hb], rfl⟩)))
        | exact wpAny_bind (wpAny_pure (wpAny_pure (.inr (.inr (.inr ⟨rfl, by simp [hb], rfl⟩)))))
    · cases e
  · rintro acc s' (⟨e, _, _⟩ | ⟨e, _, _⟩ | ⟨e, _, _⟩ | ⟨_, hb, rfl⟩)
    · cases e
    · cases e
    · cases e
    show wpAny _ _ (retInt (Builtin.Tuple.tupleHashOf acc.toList)) _ _ _
    rw [hb]
    refine wpAny_ret_mkInt ?_
    generalize hz : Builtin.Tuple.tupleHashOf [knd.hash k.1, tupleKeyHash knd k.2.1, knd.hash k.2.2] = z
    show wpAny _ _ (if (decide (-(2 : Int) ^ 63 ≤ z) && decide (z < 2 ^ 63)) = true then _ else _) Q E _
    unfold nestHash reduceHash at h
    rw [hz] at h
    have et : s.toks + 1 + (k.2.1.length + 1) + 1 + 1 = s.toks + (k.2.1.length + 4) := by omega
    by_cases hr : (decide (-(2 : Int) ^ 63 ≤ z) && decide (z < 2 ^ 63)) = true
    · rw [if_pos hr]
      rw [if_pos hr] at h
      exact wpAny_pure (by rw [← et] at h; exact h)
    · rw [if_neg hr]
      rw [if_neg hr] at h
      exact wpAny_bind (wpAny_rule (wpAny_pure (by rw [← et] at h; exact h)))
theorem size3 {xs : Array Value} {a b c : Value} (h : xs.toList = [a, b, c]) : xs.size = 3 := by
  have := congrArg List.length h
  simpa using this
theorem tuple_eq_nest {x y : K × List K × K} {a b : Addr} {P : Fin → Shared → Prop} (hu : A.units < cLine) (hx : IsNest knd s.heap x a) (hy : IsNest knd s.heap y b) (h : P (.done (.ret (.bool (decide (x = y))))) s) :
    wpAny (model prog w) A (Builtin.«tuple.__eq__» ⟨[.ref a, .ref b], []⟩) P E s := by
  have hTb := hy.typeIs
  obtain ⟨oa, xs, na, u, v, p, hoa, _, hda, hla, h1, h2, h3⟩ := hx
  obtain ⟨ob, ys, nb, u', v', p', hob, _, hdb, hlb, h1', h2', h3'⟩ := hy
  show wpAny _ _ (isInstance (.ref b) (.type "tuple") >>= _) _ _ s
  refine wpAny_bind (wpAny_isInstance hTb isSubtype_tuple_tuple ?_)
  simp only [Bool.not_true, Bool.false_eq_true, if_false]
  refine wpAny_bind (wpAny_tupleItemsOf hoa hda ?_)
  refine wpAny_bind (wpAny_tupleItemsOf hob hdb ?_)
  refine wpAny_bind ?_
  refine wpAny_forIn_list _
    (fun rest r s' => r.1 = none ∧ s' = s ∧ ((rest = [(u, u'), (.ref p, .ref p'), (v, v')]) ∨ (rest = [(.ref p, .ref p'), (v, v')] ∧ x.1 = y.1) ∨ (rest = [(v, v')] ∧ x.1 = y.1 ∧ x.2.1 = y.2.1) ∨ (rest = [] ∧ x = y)))
    _ ?_ ?_ _ _ ⟨rfl, rfl, .inl (by rw [hla, hlb]; rfl)⟩
  · rintro ⟨z, z'⟩ rest r s' ⟨hr, rfl, e | ⟨e, e1⟩ | ⟨e, e1, e2⟩ | ⟨e, _⟩⟩
    · cases e
      refine wpAny_bind (knd.eqBool h1 h1' ?_)
      by_cases hk : x.1 = y.1
      · rw [decide_eq_true hk, if_neg (show ¬ ((!true) = true) by decide)]
        exact wpAny_pure ⟨rfl, rfl, .inr (.inl ⟨rfl, hk⟩)⟩
      · rw [decide_eq_false hk]
        simp only [Bool.not_false, if_true]
        rw [decide_eq_false (fun q => hk (by rw [q]))] at h
        exact wpAny_bind (wpAny_pure (wpAny_pure (wpAny_pure h)))
    · cases e
      refine wpAny_bind (wpAny_eqBool_tuple hu h2 h2' ?_)
      by_cases hk : x.2.1 = y.2.1
      · rw [decide_eq_true hk, if_neg (show ¬ ((!true) = true) by decide)]
        exact wpAny_pure ⟨rfl, rfl, .inr (.inr (.inl ⟨rfl, e1, hk⟩))⟩
      · rw [decide_eq_false hk]
        simp only [Bool.not_false, if_true]
        rw [decide_eq_false (fun q => hk (by rw [q]))] at h
        exact wpAny_bind (wpAny_pure (wpAny_pure (wpAny_pure h)))
    · cases e
      refine wpAny_bind (knd.eqBool h3 h3' ?_)
      by_cases hk : x.2.2 = y.2.2
      · rw [decide_eq_true hk, if_neg (show ¬ ((!true) = true) by decide)]
        exact wpAny_pure ⟨rfl, rfl, .inr (.inr (.inr ⟨rfl, Prod.ext e1 (Prod.ext e2 hk)⟩))⟩
      · rw [decide_eq_false hk]
        simp only [Bool.not_false, if_true]
        rw [decide_eq_false (fun q => hk (by rw [q]))] at h
        exact wpAny_bind (wpAny_pure (wpAny_pure (wpAny_pure h)))
    · cases e
  · rintro ⟨r1, r2⟩ s' ⟨hr, rfl, e | ⟨e, _⟩ | ⟨e, _, _⟩ | ⟨_, q⟩⟩
    · cases e
    · cases e
    · cases e
    simp only at hr
    subst hr
    refine wpAny_pure ?_
    show P (.done (.ret (.bool (xs.size == ys.size)))) s'
    rw [size3 hla, size3 hlb]
    rw [decide_eq_true q] at h
    exact h
theorem wpAny_eqBool_nest {x y : K × List K × K} {a b : Addr} {Q : Bool → Shared → Prop} (hu : A.units + 4 < cLine) (hx : IsNest knd s.heap x a) (hy : IsNest knd s.heap y b) (h : Q (decide (x = y)) s) :
    wpAny (model prog w) A (eqBool (.ref a) (.ref b)) Q E s := by
  unfold eqBool
  try with_reducible refine wpAny_holding ?_
  show wpAny _ _ (if (Value.ref a == Value.ref b) = true then _ else _) Q E s
  by_cases hab : (Value.ref a == Value.ref b) = true
  · rw [if_pos hab]
    have e : a = b := by have := eq_of_beq hab; injection this
    subst e
    obtain rfl := hx.inj hy
    exact wpAny_bind (wpAny_rule (wpAny_pure (by simpa using h)))
  · rw [if_neg hab]
    exact wpAny_bind (wpAny_richCompare_same_room (op := .Eq) hx.typeIs hy.typeIs F.slot_tuple_eq
      (wpAny_call_entry F.slot_tuple_eq hx.typeIs F.entry_tuple_eq (tuple_eq_nest (by first | omega | (show A.units + 1 < cLine; omega)) hx hy ⟨_, rfl, (fun e => nomatch e), wpAny_truthy_bool h⟩) (F.args_tuple_eq_2 _ _)) (by omega))
theorem wpAny_eqIsQuiet_tup7 {ks : List K} {a : Addr} {Q : Bool → Shared → Prop} (hk : IsTupleKey knd s.heap ks a) (h : Q true s) : wpAny (model prog w) A (eqIsQuiet 7 (.ref a)) Q E s := by
  have hT := hk.typeIs
  obtain ⟨o, items, n, ho, _, hd, hi⟩ := hk
  unfold eqIsQuiet
  refine wpAny_bind (wpAny_specialOf hT F.slot_tuple_eq.lookup ?_)
  show wpAny _ _ (isInstance (.ref a) (.type "tuple") >>= _) _ _ s
  refine wpAny_bind (wpAny_isInstance hT isSubtype_tuple_tuple ?_)
  simp only [Bool.not_true, Bool.false_eq_true, if_false]
  refine wpAny_bind (wpAny_seqItems ho hd ?_)
  refine wpAny_bind ?_
  show wpAny _ _ (forIn items _ _) _ _ s
  rw [← Array.forIn_toList]
  refine wpAny_forIn_list _ (fun rest r s' => r.1 = none ∧ s' = s ∧ ∀ v ∈ rest, carriedByValue v = true) _ ?_ ?_ _ _ ⟨rfl, rfl, hi.byValue⟩
  · rintro v rest r s' ⟨hr, rfl, hall⟩
    rw [eqIsQuiet_byValue _ (hall v List.mem_cons_self)]
    refine wpAny_bind (wpAny_pure ?_)
    simp only [Bool.not_true, Bool.false_eq_true, if_false]
    exact wpAny_pure ⟨rfl, rfl, fun u hu' => hall u (List.mem_cons_of_mem _ hu')⟩
  · rintro ⟨r1, r2⟩ s' ⟨hr, rfl, _⟩
    simp only at hr
    subst hr
    exact wpAny_pure h
theorem wpAny_eqIsQuiet_nest {k : K × List K × K} {a : Addr} {Q : Bool → Shared → Prop} (hk : IsNest knd s.heap k a) (h : Q true s) : wpAny (model prog w) A (eqIsQuiet 8 (.ref a)) Q E s := by
  have hT := hk.typeIs
  obtain ⟨o, items, n, u, v, b, ho, _, hd, hl, h1, h2, h3⟩ := hk
  unfold eqIsQuiet
  refine wpAny_bind (wpAny_specialOf hT F.slot_tuple_eq.lookup ?_)
  show wpAny _ _ (isInstance (.ref a) (.type "tuple") >>= _) _ _ s
  refine wpAny_bind (wpAny_isInstance hT isSubtype_tuple_tuple ?_)
  simp only [Bool.not_true, Bool.false_eq_true, if_false]
  refine wpAny_bind (wpAny_seqItems ho hd ?_)
  refine wpAny_bind ?_
  show wpAny _ _ (forIn items _ _) _ _ s
  rw [← Array.forIn_toList, hl]
  refine wpAny_forIn_list _ (fun rest r s' => r.1 = none ∧ s' = s ∧ ∀ v ∈ rest, carriedByValue v = true ∨ v = .ref b) _ ?_ ?_ _ _ ⟨rfl, rfl, fun z m => ?_⟩
  · rintro v rest r s' ⟨hr, rfl, hall⟩
    rcases hall v List.mem_cons_self with q | rfl
    · rw [eqIsQuiet_byValue _ q]
      refine wpAny_bind (wpAny_pure ?_)
      simp only [Bool.not_true, Bool.false_eq_true, if_false]
      exact wpAny_pure ⟨rfl, rfl, fun u hu' => hall u (List.mem_cons_of_mem _ hu')⟩
    · refine wpAny_bind (wpAny_eqIsQuiet_tup7 h2 ?_)
      simp only [Bool.not_true, Bool.false_eq_true, if_false]
      exact wpAny_pure ⟨rfl, rfl, fun u hu' => hall u (List.mem_cons_of_mem _ hu')⟩
  · rintro ⟨r1, r2⟩ s' ⟨hr, rfl, _⟩
    simp only at hr
    subst hr
    exact wpAny_pure h
  · simp only [List.mem_cons, List.not_mem_nil, or_false] at m
    rcases m with rfl | rfl | rfl
    · exact .inl (knd.byValue _ _ h1)
    · exact .inr rfl
    · exact .inl (knd.byValue _ _ h3)
def nestKind {prog : Program} {w : World} {K : Type} [DecidableEq K] (knd : KeyKind prog w K) : HeapKind prog w (K × List K × K) where
  is := IsNest knd
  hash := nestHash knd
  draws := fun k => k.2.1.length + 4
  room := fun A => A.units + 4 < cLine
  inj := fun hx hy => hx.inj hy
  keeps := fun x ho hd hs => x.keeps ho hd hs
  pyHash := fun hu hk h => wpAny_pyHash_nest hu hk h
  eqBool := fun hu hx hy h => wpAny_eqBool_nest hu hx hy h
  quiet := fun hk h => wpAny_eqIsQuiet_nest hk h
end
end PySem

/-! DLx: + - & | ^ of two objects of one class by its own method, ~ of an object, in by an own __contains__. -/
namespace L2
open PySem PySem.Spec PyProof.Rows
theorem back_of {v : V} {u : Value} {Q : Value → Shared → Prop} {s : Shared} (r : RelV v u) (q : Q u s) : PySem.W.CmpBack Q u s := by
  cases u <;> first | exact q | (exfalso; cases v <;> first | (exact nomatch (show Value.notImplemented = _ from r)) | (rcases r with ⟨t, e⟩; exact nomatch e))
def rBinO (K : PySem.W.Frag) (C : Addr) (sp : Sp) : R2 := fun x y H Q => ∃ a b dx dy fs gs, x = .ref a ∧ y = .ref b ∧ H a = some (.ins C dx fs) ∧ H b = some (.ins C dy gs) ∧ sp [x, y] H Q E0
def rUnO (C : Addr) (sp : Sp) : V → Hp → VK → Prop := fun x H Q => ∃ a dx fs, x = .ref a ∧ H a = some (.ins C dx fs) ∧ sp [x] H Q E0
def rInO (C : Addr) (sp : Sp) : R2 := fun x y H Q => ∃ b dy gs, y = .ref b ∧ H b = some (.ins C dy gs) ∧ sp [y, x] H (fun v H' => ∃ k, v = .bl k ∧ Q (.bl k) H') E0
section
variable {X : Cx} {C f : Addr} {fd : FuncData} {ps : List Str} {sp : Sp} {k : Nat}
theorem op_binO {op : Operator} (F : FnOk X.prog X.w X.K X.mg X.base CX0 k f fd ps sp) (hc : PySem.W.selfFirst X.K C = true) (hs : PySem.W.findIn X.K (.ref C) (PySem.dunder op.info.2) = some (some (.ref f))) (hf : PySem.W.isFn X.K (.ref f) = true) (hb : Binds X.K fd ps []) (hr : Room k X.A) :
    OpR X (binaryOp op) (rBinO X.K C sp) := by
  intro pins s σ H x y v u Q I rx ry h
  obtain ⟨a, b, dx, dy, fs, gs, rfl, rfl, ha, hb', h⟩ := h
  cases rx
  cases ry
  obtain ⟨mA, J, _⟩ := ins_get I.hok ha
  obtain ⟨mB, J', _⟩ := ins_get I.hok hb'
  obtain ⟨od, J, _⟩ := J.look
  obtain ⟨od', J', _⟩ := J'.look
  obtain ⟨m, hF⟩ := I.fr
  refine PySem.W.binop_K hF I.ok.mod.kin J J'.type hc hs hf ?_
  refine wpAny_mono (run_fn (vs := [.ref a, .ref b]) (us := [.ref a, .ref b]) F hr hb .nil pass0 I (.cons rfl (.cons rfl .nil)) (by rw [List.append_nil]; exact h)) (fun r s' q => ?_) fun _ _ x => x
  obtain ⟨z, H', I', rz, q⟩ := q
  exact back_of rz ⟨z, H', I', rz, q⟩
theorem op_inO (F : FnOk X.prog X.w X.K X.mg X.base CX0 k f fd ps sp) (hs : PySem.W.findIn X.K (.ref C) "__contains__" = some (some (.ref f))) (hf : PySem.W.isFn X.K (.ref f) = true) (hb : Binds X.K fd ps []) (hr : Room k X.A) :
    OpR X (compareOp .In) (rInO C sp) := by
  intro pins s σ H x y v u Q I rx ry h
  obtain ⟨b, dy, gs, rfl, hb', h⟩ := h
  cases ry
  obtain ⟨mB, J', _⟩ := ins_get I.hok hb'
  obtain ⟨od', J', _⟩ := J'.look
  obtain ⟨m, hF⟩ := I.fr
  refine PySem.W.in_K hF I.ok.mod.kin J' hs hf ?_
  refine wpAny_mono (run_fn (vs := [.ref b, x]) (us := [.ref b, v]) F hr hb .nil pass0 I (.cons rfl (.cons rx .nil)) (by rw [List.append_nil]; exact h)) (fun r s' q => ?_) fun _ _ x => x
  obtain ⟨z, H', I', rz, kk, rfl, q⟩ := q
  cases rz
  exact wpAny_truthy_bool ⟨.bl kk, H', I', rfl, q⟩
end
end L2
namespace L2
open PySem PySem.Spec PyProof.Rows
section
variable {X : Cx} {C f : Addr} {fd : FuncData} {ps : List Str} {sp : Sp} {k : Nat}
theorem op_invO (F : FnOk X.prog X.w X.K X.mg X.base CX0 k f fd ps sp) (hs : PySem.W.findIn X.K (.ref C) "__invert__" = some (some (.ref f))) (hf : PySem.W.isFn X.K (.ref f) = true) (hb : Binds X.K fd ps []) (hr : Room k X.A) :
    UnR X (unaryOp .Invert) (rUnO C sp) := by
  intro pins s σ H x v Q I rx h
  obtain ⟨a, dx, fs, rfl, ha, h⟩ := h
  cases rx
  obtain ⟨mA, J, _⟩ := ins_get I.hok ha
  obtain ⟨od, J, _⟩ := J.look
  obtain ⟨m, hF⟩ := I.fr
  exact PySem.W.ksp_inv hF I.ok.mod.kin J hs hf (run_fn (vs := [.ref a]) (us := [.ref a]) F hr hb .nil pass0 I (.cons rfl .nil) (by rw [List.append_nil]; exact h))
end
end L2
namespace DL
open PySem PySem.Spec PyProof.Rows L2
/-- two objects of one class, its own method -/
def BinO (C : Addr) (ns : List Str) (sp : DSp) : D → D → (D → Prop) → Prop := fun x y Φ => ∃ fs gs, x = .obj C ns fs ∧ y = .obj C ns gs ∧ sp [x, y] Φ
def InO (C : Addr) (ns : List Str) (sp : DSp) : D → D → (D → Prop) → Prop := fun x y Φ => pureD x = true ∧ ∃ gs, y = .obj C ns gs ∧ sp [y, x] fun d => ∃ k, d = .bl k ∧ Φ (.bl k)
theorem binO_ok {c : Ctx} {δ : DE} {C : Addr} {ns : List Str} {sp : DSp} : R2ok c δ (rBinO c.X.K C (spD c.X.K sp)) (BinO C ns sp) := by
  intro σ H Hs n x y v u Φ Q S hs rx ry h q
  obtain ⟨fs, gs, rfl, rfl, h⟩ := h
  obtain ⟨a, dx, es, rfl, n1, i1, _, _⟩ := id rx
  obtain ⟨b, dy, es', rfl, n2, i2, _, _⟩ := id ry
  refine ⟨a, b, dx, dy, es, es', rfl, rfl, i1, i2, c.Av δ, [.obj C ns fs, .obj C ns gs], Φ, fun a m => S.av_nt m, ⟨_, _, rfl, rx.pure rfl, _, _, rfl, ry.pure rfl, rfl⟩, h, fun d v H4 f sm rv => ?_⟩
  exact q v H4 d sm (rv.rpE (fun _ => Iff.rfl) hs S) f
theorem inO_ok {c : Ctx} {δ : DE} {C : Addr} {ns : List Str} {sp : DSp} : R2ok c δ (rInO C (spD c.X.K sp)) (InO C ns sp) := by
  intro σ H Hs n x y v u Φ Q S hs rx ry h q
  obtain ⟨px, gs, rfl, h⟩ := h
  obtain ⟨b, dy, es', rfl, n2, i2, _, _⟩ := id ry
  refine ⟨b, dy, es', rfl, i2, c.Av δ, [.obj C ns gs, x], _, fun a m => S.av_nt m, ⟨_, _, rfl, ry.pure rfl, _, _, rfl, rx.pure px, rfl⟩, h, fun d v H4 f sm rv => ?_⟩
  obtain ⟨kk, rfl, f⟩ := f
  rcases rv with ⟨_, rv⟩ | ⟨ds, p, vs, e, _⟩ | ⟨_, _, _, _, e, _⟩ | ⟨_, _, _, _, _, _, e, _⟩
  · have e2 : v = .bl kk := rv
    subst e2
    exact ⟨kk, rfl, q _ H4 (.bl kk) sm rfl f⟩
  · cases e
  · cases e
  · cases e
section
variable {c : Ctx} {δ : DE} {n : Nat} {a b : Expr} {pos : Pos} {Φ : D → Nat → Prop} {Ψ : Bool → Nat → Prop} {C : Addr} {ns : List Str} {sp : DSp} {ps : List Str} {k : Nat}
theorem we_binO {op : Operator} {m : Str} (hop : PySem.dunder op.info.2 = m) (M : Mth c.X.prog c.X.w c.X.K c.X.mg c.X.base C m ps k (spD c.X.K sp)) (hc : PySem.W.selfFirst c.X.K C = true) (hr : Room k c.X.A)
    (h : WE c a δ n fun x n1 => WE c b δ n1 fun y n2 => BinO C ns sp x y fun z => Φ z n2) : WE c (.BinOp a op b pos) δ n Φ := by
  obtain ⟨f, fd, hm, hb, F⟩ := M.ex
  subst hop
  exact we_bin (op_binO F hc hm.at_ hm.fn hb hr) binO_ok h
theorem we_inO (M : Mth c.X.prog c.X.w c.X.K c.X.mg c.X.base C "__contains__" ps k (spD c.X.K sp)) (hr : Room k c.X.A) (h : WE c a δ n fun x n1 => WE c b δ n1 fun y n2 => InO C ns sp x y fun z => Φ z n2) (hmk : behindInMarks .In b = false := by rfl) :
    WE c (.Compare a [.In] [b] pos) δ n Φ := by
  obtain ⟨f, fd, hm, hb, F⟩ := M.ex
  exact we_cmp1 (op_inO F hm.at_ hm.fn hb hr) hmk inO_ok h
theorem wt_inO (M : Mth c.X.prog c.X.w c.X.K c.X.mg c.X.base C "__contains__" ps k (spD c.X.K sp)) (hr : Room k c.X.A) (h : WE c a δ n fun x n1 => WE c b δ n1 fun y n2 => InO C ns sp x y (asB Ψ n2)) (hmk : behindInMarks .In b = false := by rfl) :
    WT c (.Compare a [.In] [b] pos) δ n Ψ := by
  obtain ⟨f, fd, hm, hb, F⟩ := M.ex
  exact wt_cmp1 (op_inO F hm.at_ hm.fn hb hr) hmk inO_ok h
end
end DL
namespace DL
open PySem PySem.Spec PyProof.Rows L2
section
variable {c : Ctx} {δ : DE} {n : Nat} {a : Expr} {pos : Pos} {Φ : D → Nat → Prop} {C : Addr} {ns : List Str} {sp : DSp} {ps : List Str} {k : Nat}
theorem we_invO (M : Mth c.X.prog c.X.w c.X.K c.X.mg c.X.base C "__invert__" ps k (spD c.X.K sp)) (hr : Room k c.X.A) (h : WE c a δ n fun x n1 => ∃ fs, x = .obj C ns fs ∧ sp [.obj C ns fs] fun d => Φ d n1) : WE c (.UnaryOp .Invert a pos) δ n Φ := ⟨fun σ H Q S q => by
  obtain ⟨f, fd, hm, hb, F⟩ := M.ex
  refine pe_to (pe_un (op_invO F hm.at_ hm.fn hb hr) pe_w) ?_
  refine h.run σ H _ S fun v H2 x n1 k1 S1 r1 ⟨fs, e, f⟩ => ?_
  subst e
  obtain ⟨b, dx, es, rfl, n2, i2, _, _⟩ := id r1
  refine ⟨b, dx, es, rfl, i2, c.Av δ, [.obj C ns fs], _, fun a m => S1.av_nt m, ⟨_, _, rfl, r1.pure rfl, rfl⟩, f, fun d v H4 f sm rv => ?_⟩
  exact q v H4 d n1 (k1.trans (Kp.of sm)) (S1.grow sm) (rv.rpE (fun _ => Iff.rfl) (fun p z => Kp.back S S1 k1 z) S1) f⟩
end
end DL

/-! DLy: dicts with keys (x, (y, ..), z): what they give at a key. -/
namespace DL
open PySem PySem.Spec PyProof.Rows L2
theorem keyDat_rp {K : PySem.W.Frag} {Av : Addr → Prop} {H : Hp} {k : Key} {v : V} (r : Rp K Av H (keyDat k) v) : v = kV k := by
  cases k with
  | inl i => exact r
  | inr x => exact r
theorem keyDats_rp {K : PySem.W.Frag} {Av : Addr → Prop} {H : Hp} : ∀ {ks : List Key} {vs : List V}, Rps K Av H (ks.map keyDat) vs → vs = ks.map kV
  | [], _, r => r
  | k :: ks, _, r => by
    obtain ⟨v, w, rfl, r1, r2⟩ := r
    rw [keyDat_rp r1, keyDats_rp r2]
    rfl
theorem nest_of {P : Program} {w : World} {H : Hp} {h : Heap} {K : PySem.W.Frag} {Av : Addr → Prop} {k : Key × List Key × Key} {a : Addr} (ok : HOk P w H h) (r : Rp K Av H (nkD k) (.ref a)) : IsNest (mixKind P w) h k a := by
  obtain ⟨b, vs, e, n, h1, v1, r1, rfl, q1, v2, r2, rfl, q2, v3, r3, rfl, q3, rfl⟩ := r
  cases e
  obtain ⟨c, us, rfl, nc, h2, hs⟩ := q2
  have e1 := keyDat_rp q1
  have e3 := keyDat_rp q3
  have eu := keyDats_rp hs
  subst e1 e3 eu
  have kt := key_of ok h2
  obtain ⟨_, its, rl, o, g1, g2, m, g3⟩ := (show ObjOk P w H h a (.tup [kV k.1, .ref c, kV k.2.2]) from ok a _ h1)
  cases rl with
  | cons z1 rl =>
    cases rl with
    | cons z2 rl =>
      cases rl with
      | cons z3 rl =>
        cases rl
        cases (show _ = Value.ref c from z2)
        exact ⟨o, _, m, _, _, c, g1, g2, g3, rfl, kV_is z1, kt, kV_is z3⟩
theorem nest_keys {P : Program} {w : World} {H : Hp} {h : Heap} {K : PySem.W.Frag} {Av : Addr → Prop} (ok : HOk P w H h) : ∀ {xs : List ((Key × List Key × Key) × Addr × Value)}, Rps K Av H ((xs.map (·.1)).map nkD) ((xs.map (·.2.1)).map V.ref) → ∀ x ∈ xs, IsNest (mixKind P w) h x.1 x.2.1
  | [], _, x, m => nomatch m
  | y :: ys, r, x, m => by
    obtain ⟨v, w', e, r1, r2⟩ := r
    simp only [List.map_cons, List.cons.injEq] at e
    obtain ⟨rfl, rfl⟩ := e
    rcases List.mem_cons.mp m with rfl | m
    · exact nest_of ok r1
    · exact nest_keys ok r2 x m
/-- what the dict gives: the value at the key, among the data -/
def getN (ks : List (Key × List Key × Key)) (ds : List D) (k : Key × List Key × Key) : Option D :=
  match ks, ds with
  | k' :: ks, d :: ds => if k' = k then some d else getN ks ds k
  | _, _ => none
theorem getN_at {K : PySem.W.Frag} {Av : Addr → Prop} {H : Hp} {k : Key × List Key × Key} {d : D} : ∀ {xs : List ((Key × List Key × Key) × Addr × Value)} {ds : List D} {vs : List V}, getN (xs.map (·.1)) ds k = some d → Rps K Av H ds vs → Vals vs (xs.map (·.2.2)) →
    ∃ p v, atKey xs k = some p ∧ RelV v p.2 ∧ Rp K Av H d v
  | [], ds, _, g, _, _ => by simp [getN] at g
  | x :: xs, [], _, g, _, _ => by simp [getN] at g
  | x :: xs, d' :: ds, _, g, r, vl => by
    obtain ⟨v, w, rfl, r1, r2⟩ := r
    cases vl with
    | cons z vl =>
      unfold atKey
      simp only [List.map_cons, getN] at g
      by_cases e : x.1 = k
      · rw [if_pos e] at g
        cases g
        exact ⟨x.2, v, by simp [e], z, r1⟩
      · rw [if_neg e] at g
        obtain ⟨p, v', h1, h2, h3⟩ := getN_at g r2 vl
        refine ⟨p, v', ?_, h2, h3⟩
        rw [← h1]
        unfold atKey
        simp [e]
/-! ### one more pair -/
theorem dikO_ok {P : Program} {w : World} {H : Hp} {h : Heap} {f : Key × List Key × Key → Int} {a : Addr} {ks : List (Key × List Key × Key)} {ps : List Addr} {vs : List V} {o : Obj} {es : Array DictEntry} {ep : Nat} {xs : List ((Key × List Key × Key) × Addr × Value)}
    (h1 : h.get? a = some o) (h2 : o.ExactDict) (h3 : o.data = .dict es ep) (h4 : es.toList = xs.map (fun x => ⟨f x.1, .ref x.2.1, x.2.2⟩)) (h5 : xs.map (·.1) = ks) (h6 : xs.map (·.2.1) = ps) (h7 : Vals vs (xs.map (·.2.2))) : ObjOk P w H h a (dikO f a ks ps vs) :=
  ⟨⟨o, es, ep, xs, h1, h2, h3, h4, h5, h6, h7⟩, ⟨o, h1⟩, fun _ _ ⟨o', es', ep', xs', g1, r⟩ k => ⟨o', es', ep', xs', k _ g1, r⟩⟩
/-- the empty one -/
theorem dikO_nil {P : Program} {w : World} {H : Hp} {f : Key × List Key × Key → Int} (h : Heap) : ObjOk P w H (h.push { cls := .type "dict", data := .dict #[] }) h.objs.size (dikO f h.objs.size [] [] []) :=
  dikO_ok (xs := []) (Heap.get?_push_size _ rfl) ⟨rfl, rfl, rfl⟩ rfl rfl rfl rfl .nil
theorem atKey_none {k : Key × List Key × Key} : ∀ {xs : List ((Key × List Key × Key) × Addr × Value)}, k ∉ xs.map (·.1) → atKey xs k = none := fun {xs} h => by
  unfold atKey
  rw [Option.map_eq_none_iff, List.find?_eq_none]
  intro x m e
  exact h (List.mem_map.mpr ⟨x, m, of_decide_eq_true e⟩)
theorem vals_end : ∀ {vs : List V} {us : List Value} {v : V} {u : Value}, Vals vs us → RelV v u → Vals (vs ++ [v]) (us ++ [u])
  | _, _, _, _, .nil, r => .cons r .nil
  | _, _, _, _, .cons a b, r => .cons a (vals_end b r)
theorem nest_put {X : Cx} {pins : List (Addr × Obj)} {σ : L2.St} {H : Hp} {s : Shared} {E : Value → Shared → Prop} {K : PySem.W.Frag} {Av : Addr → Prop} {D a : Addr} {ks : List (Key × List Key × Key)} {ps : List Addr} {vs : List V} {k : Key × List Key × Key} {v : V} {r : Value} {Q : Unit → Shared → Prop}
    (I : Inv X pins σ H s) (hD : H D = some (dikO (nestHash (mixKind X.prog X.w)) D ks ps vs)) (rk : Rps K Av H (ks.map nkD) (ps.map V.ref)) (nd : ks.Nodup) (nw : k ∉ ks) (ra : Rp K Av H (nkD k) (.ref a)) (rv : RelV v r) (hz : ks.length < sizeLine) (hu : X.A.units + 4 < cLine)
    (h : ∀ s', Inv X pins σ (upd H D (dikO (nestHash (mixKind X.prog X.w)) D (ks ++ [k]) (ps ++ [a]) (vs ++ [v]))) s' → Q () s') : wpAny (model X.prog X.w) X.A (dictSet D (.ref a) r) Q E s := by
  obtain ⟨⟨o, es, ep, xs, j1, j2, j3, j4, j5, j6, j7⟩, _, _⟩ := (show ObjOk X.prog X.w H s.heap D (dikO (nestHash (mixKind X.prog X.w)) D ks ps vs) from I.hok D _ hD)
  subst j5 j6
  have dd : s.heap.DictOfH (nestKind (mixKind X.prog X.w)) D xs := ⟨o, es, ep, j1, j2, j3, j4, nest_keys I.hok rk, nd⟩
  refine wpAny_dictSet_heap (knd := nestKind (mixKind X.prog X.w)) (hsz := by rw [List.length_map] at hz; exact Nat.le_of_lt hz) (k := k) hu (nest_of I.hok ra) dd fun h' dd' sb => h _ ?_
  rw [storedH_new (atKey_none nw)] at dd'
  obtain ⟨o', es', ep', g1, g2, g3, g4, _, _⟩ := dd'
  refine d_write I (by rw [hD]; exact True.intro) sb ⟨o', g1⟩ (dikO_ok (xs := xs ++ [(k, a, r)]) g1 g2 g3 g4 (by simp) (by simp) ?_)
  rw [List.map_append]
  exact vals_end j7 rv
section
variable {c : Ctx} {δ : DE} {n : Nat} {a : Expr} {pos : Pos}
/-- d[k] of such a dict -/
theorem we_nget {Φ : D → Nat → Prop} {b : Expr} (hu : c.X.A.units + 5 < cLine)
    (h : WE c a δ n fun x n1 => WE c b δ n1 fun y n2 => ∃ ks kds ds k d, x = .dik (nestHash (mixKind c.X.prog c.X.w)) ks kds ds ∧ y = nkD k ∧ getN ks ds k = some d ∧ Φ d n2)
    (hs : NoSl b := by exact fun _ _ => rfl) : WE c (.Subscript a b pos) δ n Φ := ⟨fun σ H Q S q => by
  let R : V → V → Hp → (V → Hp → Prop) → Prop := fun v u H3 Q => ∃ k d ks kds ds, Rp c.X.K (c.Av δ) H3 (.dik (nestHash (mixKind c.X.prog c.X.w)) ks kds ds) v ∧ Rp c.X.K (c.Av δ) H3 (nkD k) u ∧ getN ks ds k = some d ∧ ∀ w, Rp c.X.K (c.Av δ) H3 d w → Q w H3
  have pe : PE c.X (.Subscript a b pos) (fun σ H Q => wE c.X a σ H fun v H2 => wE c.X b σ H2 fun u H3 => R v u H3 Q) := ⟨fun pins s σ H Q I h => by
    refine subD_of PySem.F.slot_dict_getitem.lookup hs (thn (pe_w.run pins s σ H _ I h) fun v' s1 ⟨v, H1, I1, rv, q1⟩ => thn (pe_w.run pins s1 σ H1 _ I1 q1) fun u' s2 ⟨u, H2, I2, ru, q2⟩ => ?_)
    obtain ⟨k, d, ks, kds, ds, ⟨p, ps, vs, e1, np, g1, e2, nd, lk, r1, r2⟩, r0, g, f⟩ := q2
    obtain ⟨t, us, e3, nt, ht⟩ := id r0
    subst e1 e2 e3
    obtain rfl : v' = Value.ref p := rv
    obtain rfl : u' = Value.ref t := ru
    obtain ⟨⟨o, es, ep, xs, j1, j2, j3, j4, j5, j6, j7⟩, _, _⟩ := (show ObjOk c.X.prog c.X.w H2 s2.heap p (dikO (nestHash (mixKind c.X.prog c.X.w)) p ks ps vs) from I2.hok p _ g1)
    subst j5 j6
    have dd : s2.heap.DictOfH (nestKind (mixKind c.X.prog c.X.w)) p xs := ⟨o, es, ep, j1, j2, j3, j4, nest_keys I2.hok r1, nd⟩
    obtain ⟨w, v, a1, a2, a3⟩ := getN_at g r2 j7
    exact ⟨dd.typeIs, wpAny_getItem_heap (knd := nestKind (mixKind c.X.prog c.X.w)) (k := k) (show c.X.A.units + 1 + 4 < cLine by omega) (nest_of I2.hok r0) dd a1 ⟨v, H2, I2.tok _, a2, f v a3⟩⟩⟩
  refine pe_to pe ?_
  refine h.run σ H _ S fun v H2 x n1 k1 S1 r1 h2 => ?_
  refine h2.run σ H2 _ S1 fun u H3 y n2 k2 S2 r2 ⟨ks, kds, ds, k, d, ex, ey, g, f⟩ => ?_
  subst ex ey
  exact ⟨k, d, ks, kds, ds, (r1.kp Ctx.puAv k2).pure rfl, r2.pure rfl, g, fun w rw => q w H3 d n2 (k1.trans k2) S2 (RpE.of rw) f⟩⟩
end
end DL

/-! DLz: a dict comprehension whose keys are tuples (x, (y, ..), z), all different. -/
namespace DL
open PySem PySem.Spec PyProof.Rows L2
/-- one more pair in the dict under way -/
def PutN (f : Key × List Key × Key → Int) (D : Addr) (y z : V) (H : Hp) (Nx : Hp → Prop) : Prop := ∃ (K : PySem.W.Frag) (Av : Addr → Prop) (a : Addr) (ks : List (Key × List Key × Key)) (ps : List Addr) (vs : List V) (k : Key × List Key × Key), y = .ref a ∧ H D = some (dikO f D ks ps vs) ∧
  Rps K Av H (ks.map nkD) (ps.map V.ref) ∧ ks.Nodup ∧ k ∉ ks ∧ Rp K Av H (nkD k) (.ref a) ∧ ks.length < sizeLine ∧ Nx (upd H D (dikO f D (ks ++ [k]) (ps ++ [a]) (vs ++ [z])))
/-- what one turn must do -/
def TurnN (f : Key × List Key × Key → Int) (g : TG) (tk tv : TE) (vs : List Nat) (σ : L2.St) (D : Addr) (Nx : Hp → Prop) (x : V) (H : Hp) : Prop :=
  g x (wipe σ vs) H fun σ2 H2 => wipe σ2 vs = wipe σ vs ∧ tk σ2 H2 fun y H4 => tv σ2 H4 fun z H5 => PutN f D y z H5 Nx
def tDcN (f : Key × List Key × Key → Int) (wi : TI) (g : TG) (tk tv : TE) (vs : List Nat) : TE := fun σ H Q => wi σ H fun J H1 => ∀ D, H1 D = none → ∃ W : Nat → Nat → Hp → Prop, (∃ m, W 0 m (upd H1 D (dikO f D [] [] []))) ∧ ∀ i m H, W i m H →
  (J.stop i H ∧ Q (.ref D) H) ∨ (J.go i H ∧ ∃ Nx : Hp → Prop, (∀ H', Nx H' → ∃ m', m' < m ∧ W (i + 1) m' H') ∧ ∀ x H', J.yld i H x H' → TurnN f g tk tv vs σ D Nx x H')
section
variable {X : Cx} {s3 : Shared} {H3 : Hp} {scope : Scope} {ce : Env} {fp : List Addr}
/-- the iterator's own things, seen from the block -/
theorem blk_fp {σ' : L2.St} {H' : Hp} {s' : Shared} (I' : Inv (X.blk s3 H3 scope ce fp) [] σ' H' s') (hn : ∀ b ∈ fp, H' b = none) (b : Addr) (hb : b ∈ fp) : FpOk (X.blk s3 H3 scope ce fp) [] H' b :=
  ⟨hn b hb, (I'.ok.exf b hb).1, I'.ok.exfs b hb, .inl hb, fun x c e => (I'.ok.exf b hb).2 x c e, fun p hp => nomatch (show p ∈ [] from hp)⟩
/-- one pair made and put, then the block is as ahead of the turn -/
theorem loopN {σ : L2.St} {H : Hp} {s : Shared} {R : Result → Shared → Prop} {kx vx tg iter : Expr} {pos : Pos} {J : It} {g : TG} {tk tv : TE} {vs : List Nat} {it D : Addr} {tn : Nat → Heap → Prop} {W : Nat → Nat → Hp → Prop} {Qd : Hp → Prop} {m0 : Nat}
    (T : Turn X.prog X.w X.K tg J fp it tn) (hc : X.calm = true) (hu : X.A.units + 4 < cLine) (pg : PG (X.blk s3 H3 scope ce fp) tg g) (pk : PE (X.blk s3 H3 scope ce fp) kx tk) (pv : PE (X.blk s3 H3 scope ce fp) vx tv)
    (turn : ∀ i m H, W i m H → (J.stop i H ∧ Qd H) ∨ (J.go i H ∧ ∃ Nx : Hp → Prop, (∀ H', Nx H' → ∃ m', m' < m ∧ W (i + 1) m' H') ∧ ∀ x H', J.yld i H x H' → TurnN (nestHash (mixKind X.prog X.w)) g tk tv vs σ D Nx x H'))
    (last : ∀ s' H', Inv (X.blk s3 H3 scope ce fp) [] (wipe σ vs) H' s' → Qd H' → R (.ok .next) s') (I : Inv (X.blk s3 H3 scope ce fp) [] (wipe σ vs) H s) (st : tn 0 s.heap) (nf : ∀ b ∈ fp, H b = none) (w0 : W 0 m0 H) :
    codeAny (model X.prog X.w) X.A (.compLoop (.DictComp kx vx [⟨tg, iter, [], 0⟩] scope pos) 0 (.ref it) (.ref D) ce) R s := by
  refine compLoop_anyD (fun n s' => ∃ i H', Inv (X.blk s3 H3 scope ce fp) [] (wipe σ vs) H' s' ∧ tn i s'.heap ∧ (∀ b ∈ fp, H' b = none) ∧ W i n H') ?_ m0 ⟨0, H, I, st, nf, w0⟩
  rintro n sa ⟨i, Ha, Ia, sta, na, wa⟩
  rcases turn i n Ha wa with ⟨stop, qd⟩ | ⟨go, Nx, hNx, step⟩
  · refine thnF (T.done (X.blk s3 H3 scope ce fp) rfl rfl rfl hc i [] sa _ Ha (fun _ _ => False) Ia (blk_fp Ia na) sta stop) fun r sb ⟨hr, Ib⟩ => ?_
    subst hr
    exact last _ _ Ib qd
  refine thnF (T.item (X.blk s3 H3 scope ce fp) rfl rfl rfl hc i [] sa _ Ha (fun _ _ => False) Ia (blk_fp Ia na) sta go) fun r sb ⟨u, hr, hb⟩ => ?_
  subst hr
  refine thnF hb fun _ sc ⟨x, Hc, Ic, rc, yc, stc, nc⟩ => ?_
  refine thnF (pg.run _ sc _ Hc x u _ (Ic.pinned (blk_fp Ic nc) (T.obj _ _ stc)) rc (step x Hc yc)) fun _ sd ⟨σd, Hd, Id, hwd, qd⟩ => ?_
  show wpAny _ _ (pure true) _ _ _
  refine wpAny_pure ?_
  rw [if_pos rfl]
  refine thnF (pk.run _ sd σd Hd _ Id qd) fun ku se ⟨y, He, Ie, re, qe⟩ => ?_
  refine thnF (pv.run _ se σd He _ Ie qe) fun vu sf ⟨z, Hf, If, rf, K, Av, a, ks, ps, ws, k, ey, g1, g2, g3, g4, g5, g6, nx⟩ => ?_
  subst ey
  obtain rfl : ku = Value.ref a := re
  refine nest_put (X := X.blk s3 H3 scope ce fp) If g1 g2 g3 g4 g5 rf g6 hu fun sg Ig => ?_
  obtain ⟨m', hm, wg⟩ := hNx _ nx
  have same : ∀ b ∈ fp, ∀ o, sc.heap.get? b = some o → sg.heap.get? b = some o ∧ (upd Hf D (dikO (nestHash (mixKind X.prog X.w)) D (ks ++ [k]) (ps ++ [a]) (ws ++ [z]))) b = none := fun b hb o e =>
    have q := Ig.pin (b, o) (List.mem_append_right _ (List.mem_append_right _ (mem_pinsAt hb e)))
    ⟨q.1, q.2.1⟩
  refine ⟨m', hm, i + 1, _, (Ig.unpinned (pins := [])).weak (by rw [← hwd, wipe_length]) (fun j v e => ?_), T.keep _ _ _ stc fun b hb o e => (same b hb o e).1, fun b hb => ?_, wg⟩
  · rw [← hwd] at e
    exact (wipe_some e).1
  · obtain ⟨o, e, _⟩ := T.obj _ _ stc b hb
    exact (same b hb o e).2
end
section
variable {X : Cx} {kx vx tg iter : Expr} {scope : Scope} {own : List (Str × Nat)} {pos : Pos} {wi : TI} {g : TG} {tk tv : TE}
/-- {k: v for target in iter}, keys (x, (y, ..), z) all different -/
theorem pe_dcN (hc : X.calm = true) (hN : X.N.Nodup) (hu : X.A.units + 4 < cLine) (hi : PI X tg iter wi) (ok : BlkOk X.N X.env.scope scope own)
    (hg : ∀ (s : Shared) (H : Hp) (C : Addr) (cl : List (Str × Addr)) (fp : List Addr), PG (X.blk s H scope (compEnvC scope cl C X.env) fp) tg g)
    (hk : ∀ (s : Shared) (H : Hp) (C : Addr) (cl : List (Str × Addr)) (fp : List Addr), PE (X.blk s H scope (compEnvC scope cl C X.env) fp) kx tk)
    (hv : ∀ (s : Shared) (H : Hp) (C : Addr) (cl : List (Str × Addr)) (fp : List Addr), PE (X.blk s H scope (compEnvC scope cl C X.env) fp) vx tv) (hs : ∀ x, foldedSetIterable iter X.env x = pure x := by intro _; rfl) :
    PE X (.DictComp kx vx [⟨tg, iter, [], 0⟩] scope pos) (tDcN (nestHash (mixKind X.prog X.w)) wi g tk tv (own.map (·.2))) := ⟨fun pins s σ H Q I h => by
  have cl : ∀ y ∈ scope.names, y.2 = .free → ∃ c, X.env.cells.lookup y.1 = some c := fun y hy e => I.ok.has _ (ok.free y hy e)
  rw [arm_eval_DictComp]
  refine wpAny_comprehension_free rfl hs (closure_ok cl) ok.kind (fun y hy e => by rw [ok.uniq y hy, e]) (thn (hi.run pins s σ H _ I h) fun xv s1 hx => thn hx fun itv s2 ⟨it, fp, tn, J, H2, ei, I2, T, st, nf, q⟩ => ?_)
  subst ei
  refine wpAny_newObj_type (newEnv_comp ?_)
  obtain ⟨W, ⟨m0, w0⟩, turn⟩ := q s2.heap.objs.size (I2.hok.fresh (Nat.le_refl _))
  have I3 : Inv X pins σ (upd H2 s2.heap.objs.size (dikO (nestHash (mixKind X.prog X.w)) s2.heap.objs.size [] [] [])) { s2 with heap := s2.heap.push { cls := .type "dict", data := .dict #[] } } :=
    I2.laid (t' := s2.toks) (fun b o e => Heap.get?_push_of_some _ e) (Nat.le_refl _) (dikO_nil s2.heap)
  have old : ∀ b ∈ fp, b < s2.heap.objs.size := fun b hb => by
    obtain ⟨o, e, _⟩ := T.obj _ _ st b hb
    exact Heap.lt_size e
  have nf3 : ∀ b ∈ fp, FpOk X pins (upd H2 s2.heap.objs.size (dikO (nestHash (mixKind X.prog X.w)) s2.heap.objs.size [] [] [])) b := fun b hb =>
    ⟨by rw [upd_ne (Nat.ne_of_lt (old b hb))]; exact (nf b hb).1, (nf b hb).2⟩
  have st3 := T.keep _ _ _ st fun b _ o e => Heap.get?_push_of_some ({ cls := .type "dict", data := .dict #[] } : Obj) e
  generalize hs3 : ({ s2 with heap := s2.heap.push { cls := .type "dict", data := .dict #[] } } : Shared) = s3 at I3
  have e3 : s3.heap = s2.heap.push { cls := .type "dict", data := .dict #[] } := by rw [← hs3]
  rw [← e3] at st3
  have I4 := block_start I3 ok hN (fp := fp) fun b hb => ⟨nf3 b hb, by rw [e3, Heap.size_push]; exact Nat.lt_succ_of_lt (old b hb)⟩
  generalize hD : s2.heap.objs.size = D at *
  have st4 := T.keep _ s3.heap (pushCells (s3.heap.push { cls := .type "dict", data := .dict #[] }) scope.names) st3 fun b _ o e => pushCells_keeps _ _ _ _ (Heap.get?_push_of_some _ e)
  have loop := loopN (kx := kx) (vx := vx) (tg := tg) (iter := iter) (pos := pos) (R := compPost (model X.prog X.w) X.A X.xe none (EP X pins σ Q) (.ref D) s3.heap.objs.size) T hc hu
    (hg s3 _ s3.heap.objs.size (cellsFrom (s3.heap.objs.size + 1) scope.names (cloFrom X.env.cells scope.names [])) fp) (hk s3 _ s3.heap.objs.size (cellsFrom (s3.heap.objs.size + 1) scope.names (cloFrom X.env.cells scope.names [])) fp)
    (hv s3 _ s3.heap.objs.size (cellsFrom (s3.heap.objs.size + 1) scope.names (cloFrom X.env.cells scope.names [])) fp) turn ?_ I4 st4 (fun b hb => (nf3 b hb).1) w0
  · exact codeAny_compStart_dict loop (T.self X.A 0 _ _ _ st4 loop)
  · intro s' H' I' qd
    have Ib : Inv X pins σ H' s' := I3.call' (ch := fp) I'.os I'.base I'.hok I'.bare fun b hb => ⟨(nf3 b hb).2.2.2.1, (nf3 b hb).2.1, (nf3 b hb).2.2.2.2.1, (nf3 b hb).2.2.2.2.2⟩
    have nC : H' s3.heap.objs.size = none := I'.free
    obtain ⟨m, hn, _⟩ := I'.loc
    obtain ⟨f0, f1, f2, f3, f4, f5⟩ := I3.fpOk (Nat.le_refl _) nC
    exact ⟨m, hn, fun h'' sb => ⟨.ref D, H', Ib.turned (t' := s'.toks) (fun b o hb e => (sb.2 b hb).trans e) f0 f1 f3 f4 f5, rfl, qd⟩⟩⟩
end
end DL

/-! DMa: a dict comprehension with tuple keys over data. -/
namespace DL
open PySem PySem.Spec PyProof.Rows L2
abbrev NK := Key × List Key × Key
/-- the comprehension's turns over a walk -/
theorem dcN_it {J : It} {n : Nat} {G : Hp → Prop} {Y : Nat → Hp → V → Hp → Prop} (w : Walk J n G Y) {f : NK → Int} {g : TG} {tk tv : TE} {vs : List Nat} {σ : L2.St} {H1 : Hp} {D : Addr} {Qd : Hp → Prop} (Pv : Nat → Hp → Prop) (h0 : Pv 0 (upd H1 D (dikO f D [] [] []))) (hG : ∀ i H, i ≤ n → Pv i H → G H)
    (hs : ∀ i x H H', i < n → Pv i H → Y i H x H' → TurnN f g tk tv vs σ D (Pv (i + 1)) x H') (hd : ∀ H, Pv n H → Qd H) :
    ∃ W : Nat → Nat → Hp → Prop, (∃ m, W 0 m (upd H1 D (dikO f D [] [] []))) ∧ ∀ i m H, W i m H →
      (J.stop i H ∧ Qd H) ∨ (J.go i H ∧ ∃ Nx : Hp → Prop, (∀ H', Nx H' → ∃ m', m' < m ∧ W (i + 1) m' H') ∧ ∀ x H', J.yld i H x H' → TurnN f g tk tv vs σ D Nx x H') :=
  ⟨fun i m H => m + i = n ∧ Pv i H, ⟨n, rfl, h0⟩, fun i m H ⟨e, p⟩ => by
    have q := hG i H (by omega) p
    cases m with
    | zero => obtain rfl : i = n := by omega
              exact .inl ⟨w.stops H q, hd H p⟩
    | succ m => exact .inr ⟨w.goes i H (by omega) q, Pv (i + 1), fun H' p' => ⟨m, Nat.lt_succ_self _, by omega, p'⟩, fun x H' y => hs i x H H' (by omega) p (w.yields i H x H' (by omega) q y)⟩⟩
section
variable {c : Ctx} {δ : DE} {n : Nat} {kx vx tg iter : Expr} {scope : Scope} {own : List (Str × Nat)} {pos : Pos} {Φ : D → Nat → Prop} {is : List Nat}
/-- the invariant: the turn, the keys, the values -/
def DcOk (c : Ctx) (kx vx tg iter : Expr) (scope : Scope) (is vs : List Nat) (δ : DE) (n : Nat) (Φ : D → Nat → Prop) : Prop :=
  WI c tg iter δ n fun items n1 => ∃ Iv : Nat → List NK → List D → Nat → Prop, Iv 0 [] [] n1 ∧
    (∀ i d ks acc n', items[i]? = some d → Iv i ks acc n' → ∀ s H0 C cl fp M, WG (blkC c scope s H0 C cl fp M) tg is d (wipeD δ vs) n' fun δ2 n2 =>
      ∀ s H0 C cl fp M, WE (blkC c scope s H0 C cl fp M) kx δ2 n2 fun y n3 => ∃ k, y = nkD k ∧ k ∉ ks ∧ ks.length < 1000 ∧
        ∀ s H0 C cl fp M, WE (blkC c scope s H0 C cl fp M) vx δ2 n3 fun z n4 => okEl z = true ∧ Iv (i + 1) (ks ++ [k]) (acc ++ [frz z]) n4) ∧
    ∀ ks acc n', Iv items.length ks acc n' → Φ (.dik (nestHash (mixKind c.X.prog c.X.w)) ks (ks.map nkD) acc) n'
theorem dc_read {vs : List Nat} (hsub : ∀ i ∈ is, i ∈ vs) (h : DcOk c kx vx tg iter scope is vs δ n Φ) {σ : L2.St} {H : Hp} {Q : VK} (S : SlR c σ H δ n) (q : ∀ v H2 d n2, Kp c.pu H H2 → SlR c σ H2 δ n2 → RpE c.X.K (c.Av δ) (c.Ow δ) c.pu H H2 d v → Φ d n2 → Q v H2) :
    tDcN (nestHash (mixKind c.X.prog c.X.w)) (wI c.X tg iter) (gAll c.X scope tg) (eAll c.X scope kx) (eAll c.X scope vx) vs σ H Q := by
  refine h.run σ H _ S fun J H1 items n1 k1 S1 ⟨G, Y, w, hG, hY⟩ ⟨Iv, h0, hi, hd⟩ => ?_
  intro Dl hD
  have nAv := S1.off hD
  have nPu := S1.npu hD
  let M1 : Addr → Prop := fun a => c.M a ∨ a = Dl ∨ (a ∈ addrs δ ∧ a ∉ addrs (wipeD δ vs))
  have Sv := S1.wipe vs
  have avM : ∀ a δ', (∀ p ∈ addrs δ', p ∈ addrs δ) → Ctx.Av ⟨c.X, M1, c.pu⟩ δ' a → c.Av δ a ∨ a = Dl := fun a δ' m z => by
    rcases z with (z | z | z) | z | z
    · exact .inl (.inl z)
    · exact .inr z
    · exact .inl (.inr (.inr z.1))
    · exact .inl (.inr (.inl z))
    · exact .inl (.inr (.inr (m a z)))
  have Mav : ∀ a δ', (∀ p ∈ addrs (wipeD δ vs), p ∈ addrs δ') → (c.Av δ a ∨ a = Dl) → Ctx.Av ⟨c.X, M1, c.pu⟩ δ' a := fun a δ' m z => by
    rcases z with (z | z | z) | z
    · exact .inl (.inl z)
    · exact .inr (.inl z)
    · by_cases h : a ∈ addrs (wipeD δ vs)
      · exact .inr (.inr (m a h))
      · exact .inl (.inr (.inr ⟨z, h⟩))
    · exact .inl (.inr (.inl z))
  -- the slots, wiped, while the new list grows
  have slw : ∀ (H' : Hp) (n' : Nat), Kp c.pu H1 H' → (∃ us, H' Dl = some us ∧ NT us) → (∀ p, c.pu = some p → PurseAt H' p n') → SlR ⟨c.X, M1, c.pu⟩ (L2.wipe σ vs) H' (wipeD δ vs) n' := fun H' n' k ⟨us, hl, nt0⟩ pp => by
    refine ⟨Sv.len, ?_, ?_, Sv.nd, ?_, ?_⟩
    · rintro a (m | rfl | ⟨m, _⟩)
      · obtain ⟨o, e, nt⟩ := S1.dom a m
        exact ⟨o, k a o (fun z => (S1.pur a z).2 m) e, nt⟩
      · exact ⟨_, hl, nt0⟩
      · obtain ⟨o, e, nt⟩ := S1.addr_nt m
        exact ⟨o, k a o (S1.dis a m).2 e, nt⟩
    · intro p e
      refine ⟨pp p e, ?_⟩
      rintro (m | rfl | ⟨m, _⟩)
      · exact (S1.pur p e).2 m
      · exact nPu e
      · exact (S1.dis p m).2 e
    · intro p m
      refine ⟨?_, (Sv.dis p m).2⟩
      rintro (z | rfl | ⟨_, z⟩)
      · exact (Sv.dis p m).1 z
      · obtain ⟨o, e⟩ := Sv.addr_some m
        rw [hD] at e; cases e
      · exact z m
    · intro i s' e
      have wg : s' = none ∨ (δ[i]? = some s' ∧ (L2.wipe σ vs)[i]? = σ[i]?) := by
        have key : ∀ (ws : List Nat), (wipeD δ ws)[i]? = some s' → s' = none ∨ (δ[i]? = some s' ∧ i ∉ ws) := by
          intro ws
          induction ws with
          | nil => exact fun h => .inr ⟨h, by simp⟩
          | cons w ws ih =>
            intro h
            rcases get_set (show ((wipeD δ ws).set w none)[i]? = some s' from h) with ⟨_, e⟩ | ⟨ne, e⟩
            · exact .inl e
            · exact (ih e).imp id fun z => ⟨z.1, by simp [ne, z.2]⟩
        rcases key vs e with h | ⟨h, hv⟩
        · exact .inl h
        · exact .inr ⟨h, by rw [wipe_get, if_neg fun z => hv z.1]⟩
      rcases wg with rfl | ⟨e1, e2⟩
      · trivial
      · rw [e2]
        refine (S1.sl i s' e1).mv (fun a z => ?_) (fun a o na e => k a o (fun z => na (.inr (.inl z))) e) fun p hp u e' => k p u (S1.dis p (mem_addrs2 e1 hp)).2 e'
        rcases avM a _ (wipeD_sub vs) z with z | rfl
        · exact .inl z
        · exact .inr hD
  let F := nestHash (mixKind c.X.prog c.X.w)
  let Pv : Nat → Hp → Prop := fun i H' => ∃ (ks : List NK) (ps : List Addr) (us : List V) (acc : List D) (n' : Nat), H' Dl = some (dikO F Dl ks ps us) ∧ Kp c.pu H1 H' ∧ (∀ p, c.pu = some p → PurseAt H' p n') ∧
    Rps c.X.K (fun a => c.Av δ a ∨ a = Dl) H' (ks.map nkD) (ps.map V.ref) ∧ Rps c.X.K (fun a => c.Av δ a ∨ a = Dl) H' acc us ∧ ks.Nodup ∧ ks.length ≤ 1000 ∧ Iv i ks acc n'
  have hx : ∀ a, c.pu = some a → c.Av δ a ∨ a = Dl := fun a z => .inl (.inr (.inl z))
  refine dcN_it w Pv ?_ ?_ ?_ ?_
  · exact ⟨[], [], [], [], n1, upd_same, Kp.new hD, fun p e => by
      obtain ⟨x, y, z, h0, h1⟩ := (S1.pur p e).1
      exact ⟨x, y, z, by rw [upd_ne (ne_of_none h0 hD)]; exact h0, h1⟩, rfl, rfl, List.nodup_nil, Nat.zero_le _, h0⟩
  · rintro i H' _ ⟨ks, ps, us, acc, n', _, k, _⟩
    exact hG H' fun a o na e => k a o (fun z => na (.inr (.inl z))) e
  · rintro i x H' H'' il ⟨ks, ps, us, acc, n', hl, k, pp, rk, r, nd, lk, I'⟩ y
    have S' := slw H' n' k ⟨_, hl, trivial⟩ pp
    have avS : ∀ a, (c.Av δ a ∨ a = Dl) → ∃ o, H' a = some o ∧ NT o := fun a z => S'.av_nt (Mav a _ (fun _ m => m) z)
    obtain ⟨sm, d, ed, rd⟩ := hY i H' x H'' (fun a => c.Av δ a ∨ a = Dl) il (fun a o na e => k a o (fun z => na (.inr (.inl z))) e) (fun a z => by
      rcases z with z | rfl
      · exact .inl z
      · exact .inr hD) avS y
    have S2 := S'.grow sm
    have rd' : Rp c.X.K (Ctx.Av ⟨c.X, M1, c.pu⟩ (wipeD δ vs)) H'' d x := rd.wk (fun a z => avM a _ (wipeD_sub vs) z) fun _ _ _ e => e
    have k2 : Kp c.pu H1 H'' := k.trans (Kp.of sm)
    have hl2 := sm _ _ hl
    have r2 : Rps c.X.K (fun a => c.Av δ a ∨ a = Dl) H'' acc us := r.kp (ex := none) (fun _ z => nomatch z) (Kp.of sm)
    have rk2 : Rps c.X.K (fun a => c.Av δ a ∨ a = Dl) H'' (ks.map nkD) (ps.map V.ref) := rk.kp (ex := none) (fun _ z => nomatch z) (Kp.of sm)
    intro s H0 C cl fp
    refine (hi i d ks acc n' ed I' s H0 C cl fp M1).run (L2.wipe σ vs) H'' x _ (S2.conv rfl) (RpE.of rd') fun σ2 δ2 n2 S3 m3 a3 f3 => ⟨wipe_agr hsub a3, ?_⟩
    have same2 : ∀ p ∈ addrs (wipeD δ vs), p ∈ addrs δ2 := m3.2.2 fun i hi => by
      have key : ∀ (ws : List Nat), i ∈ ws → adr (wipeD δ ws) i = [] := by
        intro ws
        induction ws with
        | nil => exact fun h => absurd h (by simp)
        | cons w ws ih =>
          intro h
          show adr ((wipeD δ ws).set w none) i = []
          by_cases e : w = i
          · subst e
            unfold adr
            by_cases hw : w < (wipeD δ ws).length
            · rw [List.getElem?_set_self hw]; rfl
            · rw [List.getElem?_eq_none (by simpa using hw)]; rfl
          · unfold adr at ih ⊢
            rw [List.getElem?_set_ne e]
            exact ih ((List.mem_cons.mp h).resolve_left fun z => e z.symm)
      exact key vs (hsub i hi)
    intro s H0 C cl fp
    refine (f3 s H0 C cl fp M1).run σ2 H'' _ (S3.conv rfl) fun ku H3 y n3 k3 S4 ry ⟨kk, ey, nw, lt, f4⟩ => ?_
    subst ey
    intro s H0 C cl fp
    refine (f4 s H0 C cl fp M1).run σ2 H3 _ (S4.conv rfl) fun u H4 z n4 k4 S5 rz ⟨o, f6⟩ => ?_
    have ry3 : Rp c.X.K (fun a => c.Av δ a ∨ a = Dl) H3 (nkD kk) ku := (ry.pure rfl).wk (fun a z => Mav a δ2 same2 z) fun _ _ _ e => e
    have ry4 := ry3.kp hx k4
    obtain ⟨ta, tus, eku, _⟩ := id ry4
    subst eku
    have hl4 := k4 _ _ nPu (k3 _ _ nPu hl2)
    have r4 := (r2.kp hx k3).kp hx k4
    have rk4 := (rk2.kp hx k3).kp hx k4
    have kall : Kp c.pu H1 H4 := ((k.trans (Kp.of sm)).trans k3).trans k4
    have mt4 : ∀ (ob : HO) a o, ¬ (c.Av δ a ∨ a = Dl) → H4 a = some o → upd H4 Dl ob a = some o := fun ob a o na e => by
      rw [upd_ne fun z => na (.inr z)]
      exact e
    have rz' : Rp c.X.K (fun a => c.Av δ a ∨ a = Dl) H4 (frz z) u := (rz.el o).wk (fun a z => Mav a δ2 same2 z) fun _ _ _ e => e
    refine ⟨c.X.K, (fun a => c.Av δ a ∨ a = Dl), ta, ks, ps, us, kk, rfl, hl4, rk4, nd, nw, ry4, Nat.lt_of_lt_of_le lt (by decide : 1000 ≤ sizeLine), ?_⟩
    refine ⟨ks ++ [kk], ps ++ [ta], us ++ [u], acc ++ [frz z], n4, upd_same, fun a o' na e => ?_, fun p e => ?_, ?_, (r4.append (show Rps c.X.K (fun a => c.Av δ a ∨ a = Dl) H4 [frz z] [u] from ⟨u, [], rfl, rz', rfl⟩)).mv (fun a z => .inl z) (mt4 _), ?_, ?_, f6⟩
    · rw [upd_ne (ne_of_none e hD)]
      exact kall a o' na e
    · obtain ⟨x, y, z, h0, h1⟩ := (S5.pur p e).1
      exact ⟨x, y, z, by rw [upd_ne (fun w => nPu (e.trans (congrArg some w)))]; exact h0, h1⟩
    · rw [List.map_append, List.map_append]
      exact (rk4.append (show Rps c.X.K (fun a => c.Av δ a ∨ a = Dl) H4 [nkD kk] [.ref ta] from ⟨_, [], rfl, ry4, rfl⟩)).mv (fun a z => .inl z) (mt4 _)
    · exact List.nodup_append.mpr ⟨nd, List.nodup_cons.mpr ⟨by simp, List.nodup_nil⟩, fun a m b m2 e => nw (by rw [List.mem_singleton] at m2; rw [← m2, ← e]; exact m)⟩
    · rw [List.length_append]; exact lt
  · rintro H' ⟨ks, ps, us, acc, n', hl, k, pp, rk, r, nd, lk, I'⟩
    refine q (.ref Dl) H' _ n' (k1.trans k) (S1.kp k pp) ?_ (hd ks acc n' I')
    exact RpE.of ⟨Dl, ps, us, rfl, nAv, hl, rfl, nd, lk, rk.wk (fun a z => .inl z) fun _ _ _ e => e, r.wk (fun a z => .inl z) fun _ _ _ e => e⟩
/-- {k: v for target in iter} -/
theorem we_dcN (is : List Nat) (hsub : ∀ i ∈ is, i ∈ own.map (·.2)) (hu : c.X.A.units + 4 < cLine) (hc : c.X.calm = true) (hN : c.X.N.Nodup) (ok : BlkOk c.X.N c.X.env.scope scope own) (h : DcOk c kx vx tg iter scope is (own.map (·.2)) δ n Φ) (hs : ∀ x, foldedSetIterable iter c.X.env x = pure x := by intro _; rfl) :
    WE c (.DictComp kx vx [⟨tg, iter, [], 0⟩] scope pos) δ n Φ := ⟨fun σ H Q S q => by
  refine pe_to (pe_dcN hc hN hu pi_w ok (g := gAll c.X scope tg) (tk := eAll c.X scope kx) (tv := eAll c.X scope vx) ?_ ?_ ?_ hs) (dc_read hsub h S q)
  · exact fun s H C cl fp => ⟨fun pins s' σ H' v u Q I r z => z s H C cl fp pins s' u I r⟩
  · exact fun s H C cl fp => ⟨fun pins s' σ H' Q I z => z s H C cl fp pins s' I⟩
  · exact fun s H C cl fp => ⟨fun pins s' σ H' Q I z => z s H C cl fp pins s' I⟩⟩
end
end DL

/-! DMb: C.m(..) of a staticmethod; C() of a class without __init__. -/
namespace L2
open PySem PySem.Spec PyProof.Rows ClX
/-- C.m is a staticmethod: its record at p, its def at g -/
structure CSm (K : PySem.W.Frag) (C : Addr) (mc : Value) (m : Str) (p g : Addr) : Prop where
  at_ : PySem.W.findCls K (.ref C) mc m = some (.get (.builtin "staticmethod.__get__") (.ref p) .none (.ref C))
  rc : ∃ rest, PySem.W.recIn K p "staticmethod" = some (.ref g :: rest)
  kp : PySem.W.keepIn K (.ref g) = true
def tSMeth (C : Addr) (sp : Sp) (E : XK) (ta : TE) (t : TA) : TE := fun σ H Q => ta σ H fun x H1 => x = .ref C ∧ t σ H1 fun vs H2 => sp vs H2 Q E
/-- a class without an __init__ of its own -/
structure Mk0 (K : PySem.W.Frag) (C : Addr) : Prop where
  makes : PySem.W.makesIn K C = true
  init : PySem.W.findIn K (.ref C) "__init__" = some (some (.builtin "object.__init__"))
  kp : PySem.W.keepIn K (.ref C) = true
section
variable {X : Cx} {k : Nat} {C p g : Addr} {fd : FuncData} {ps : List Str} {mc : Value} {sp : Sp} {o e : Expr} {es : List Expr} {m x : Str} {pos apos q : Pos} {ta : TE} {t : TA} {pl : Sem Bool}
theorem getsm_ok {pins : List (Addr × Obj)} {σ : L2.St} {H : Hp} {s : Shared} {A : Around} {E : Value → Shared → Prop} {Q : Value × List Value → Shared → Prop} (I : Inv X pins σ H s) (r : CRead X.K C mc) (c : CSm X.K C mc m p g)
    (h : ∀ s', Inv X pins σ H s' → Q (.ref g, []) s') : wpAny (model X.prog X.w) A (getMethod (.ref C) m pl) Q E s := by
  obtain ⟨rest, hp⟩ := c.rc
  refine PySem.W.method_cls I.kIn r.ga ?_
  refine PySem.W.cls_bind I.kIn r.rd c.at_ ?_
  refine wpAny_call (PySem.W.sm_get (s := { s with toks := s.toks + 1 }) I.kIn hp (PySem.W.handed_on rfl ?_))
  exact h _ (I.tok _)
theorem pe_smeth (he : PE X o ta) (r : CRead X.K C mc) (c : CSm X.K C mc m p g) (F : FnOk X.prog X.w X.K X.mg X.base CX0 k g fd ps sp) (hr : Room k X.A) (hb : Binds X.K fd ps []) (ha : PA X (e :: es) t)
    (hst : starEach (e :: es) X.env = (false, eval e X.env) :: starEach es X.env := by rfl) (hpl : (backTo pos (starEach es X.env)).any (·.1) = false := by rfl)
    (ht : eval (.Call (.Attribute o m apos) (e :: es) [] pos) X.env = (do
      let ov ← eval o X.env
      standAt apos.atName
      let (f, first) ← holding [ov] (getMethod ov m pl)
      callWith pos f first (backTo pos (starEach (e :: es) X.env)) (backToKw pos (keywordEach [] X.env))) := by rfl) :
    PE X (.Call (.Attribute o m apos) (e :: es) [] pos) (tSMeth C sp E0 ta t) := by
  refine ⟨fun pins s σ H Q I h => ?_⟩
  refine PySem.W.methodCall_KW (pl := pl) (thn (he.run pins s σ H _ I h) fun u s1 ⟨x, H1, I1, rx, ex, q⟩ => ?_) ht
  subst ex
  obtain rfl : u = Value.ref C := rx
  refine getsm_ok I1 r c fun s2 I2 => ?_
  refine PySem.W.callWith_K (first := []) (h₀ := X.base) I.ok.mod.kin c.kp (thn (ha.run pos pins s2 σ H1 _ I2 q) fun us s3 ⟨vs, H2, I3, rv, q2⟩ => ⟨I3.kIn, ?_⟩) hst hpl
  exact run_fn (us := us) (vs := vs) F hr hb .nil pass0 I3 rv (by rw [List.append_nil]; exact q2)
def tMake0 (C : Addr) : TE := fun σ H Q => ∀ x dx, H x = none → H dx = none → dx ≠ x → Q (.ref x) (upd (upd H dx (.own x)) x (.ins C dx []))
theorem run_make0 {pins : List (Addr × Obj)} {σ : L2.St} {H : Hp} {s : Shared} {Q : VK} (M : Mk0 X.K C) (I : Inv X pins σ H s)
    (h : ∀ x dx, H x = none → H dx = none → dx ≠ x → Q (.ref x) (upd (upd H dx (.own x)) x (.ins C dx []))) : wpAny (model X.prog X.w) X.A (call (.ref C) []) (EP X pins σ Q) X.xe s := by
  have hq := h (s.heap.objs.size + 1) s.heap.objs.size (I.hok.fresh (Nat.le_succ _)) (I.hok.fresh (Nat.le_refl _)) (Nat.ne_of_lt (Nat.lt_succ_self _))
  have I2 := Inv.made (C := C) I
  refine wpAny_call (make_map0 I.kIn M.makes M.init (fun self => PySem.W.Looks.of_pure (PySem.W.oi_bind self)) ?_)
  have Y := PySem.W.makes_of (M := model X.prog X.w) I.kIn M.makes
  have e2 : ((s.heap.push PySem.W.emptyDict).push (PySem.W.instObj C s.heap.objs.size)).get? (s.heap.objs.size + 1) = some (PySem.W.instObj C s.heap.objs.size) := by
    have := Heap.get?_push_size (s.heap.push PySem.W.emptyDict) (o := PySem.W.instObj C s.heap.objs.size) rfl
    rwa [Heap.size_push] at this
  have t1 : PySem.W.Looks (model X.prog X.w) ((s.heap.push PySem.W.emptyDict).push (PySem.W.instObj C s.heap.objs.size)) (typeOf (.ref (s.heap.objs.size + 1))) (.ref C) := (PySem.W.Looks.ld e2).andThen .now
  have t2 : PySem.W.Looks (model X.prog X.w) ((s.heap.push PySem.W.emptyDict).push (PySem.W.instObj C s.heap.objs.size)) (isInstance (.ref (s.heap.objs.size + 1)) (.type "object")) true :=
    t1.andThen (Y.top.keeps fun b o e => Heap.get?_push_of_some _ (Heap.get?_push_of_some _ e))
  refine codeAny_call_builtin PySem.W.oi_plain PySem.W.entry_oi (@PySem.W.check_slot (model X.prog X.w) _ _ _ "object.__init__" "object" "__init__" (.ref (s.heap.objs.size + 1)) [] [] _ PySem.W.oi_kind PySem.W.oi_split t2 (PySem.W.oi_args (.ref (s.heap.objs.size + 1))) ?_)
  rw [PySem.W.oi_run]
  exact wpAny_pure (And.intro rfl ⟨V.ref (s.heap.objs.size + 1), _, I2, rfl, hq⟩)
theorem pe_make00 (M : Mk0 X.K C) (hg : Gl X x) (hm : X.mg x = some (.ref C)) (hdb : (x == ("__debug__" : Str)) = false := by decide) : PE X (.Call (.Name x q) [] [] pos) (tMake0 C) := by
  refine ⟨fun pins s σ H Q I h => ?_⟩
  refine wpAny_Call_Name_kw (ld_glob I hg hm ?_ hdb)
  refine PySem.W.callWith_K0 I.kIn M.kp ?_
  exact run_make0 M I h
end
end L2
namespace DL
open PySem PySem.Spec PyProof.Rows L2
/-- a staticmethod of a class that keeps a promise -/
structure SMth (P : Program) (w : World) (K : PySem.W.Frag) (mg : Str → Option Value) (base : Heap) (x : Str) (m : Str) (ps : List Str) (k : Nat) (sp : Sp) : Prop where
  ex : ∃ (C p g : Addr) (mc : Value) (fd : FuncData), mg x = some (.ref C) ∧ ClX.CRead K C mc ∧ L2.CSm K C mc m p g ∧ Binds K fd ps [] ∧ FnOk P w K mg base CX0 k g fd ps sp
section
variable {c : Ctx} {δ : DE} {n : Nat} {e o : Expr} {es : List Expr} {pos p ap : Pos} {Φ : D → Nat → Prop} {x m : Str} {ps : List Str} {k : Nat}
theorem we_smeth {sp : DSp} {pl : Sem Bool} (M : SMth c.X.prog c.X.w c.X.K c.X.mg c.X.base x m ps k (spD c.X.K sp)) (hr : Room k c.X.A) (hg : Gl c.X x) (h : WA c (e :: es) δ n fun ds n1 => ds.all okEl = true ∧ sp (ds.map frz) fun d => Φ d n1)
    (hdb : (x == ("__debug__" : Str)) = false := by decide) (he : starEach (e :: es) c.X.env = (false, eval e c.X.env) :: starEach es c.X.env := by rfl) (hpl : (backTo pos (starEach es c.X.env)).any (·.1) = false := by rfl)
    (ht : eval (.Call (.Attribute (.Name x p) m ap) (e :: es) [] pos) c.X.env = (do
      let ov ← eval (.Name x p) c.X.env
      standAt ap.atName
      let (f, first) ← holding [ov] (getMethod ov m pl)
      callWith pos f first (backTo pos (starEach (e :: es) c.X.env)) (backToKw pos (keywordEach [] c.X.env))) := by rfl) : WE c (.Call (.Attribute (.Name x p) m ap) (e :: es) [] pos) δ n Φ := ⟨fun σ H Q S q => by
  obtain ⟨C, p, g, mc, fd, hm, r, cs, hb, F⟩ := M.ex
  refine pe_to (pe_smeth (pl := pl) (pe_glob hg hm (v := .ref C) rfl hdb) r cs F hr hb pa_w he hpl ht) ?_
  refine ⟨rfl, ?_⟩
  refine h.run σ H _ S fun vs H2 ds n1 k1 S1 r1 ⟨o, f⟩ => ?_
  refine ⟨c.Av δ, ds.map frz, _, fun a m => S1.av_nt m, els_ok o r1, f, fun d v H3 f sm rv => ?_⟩
  exact q v H3 d n1 (k1.trans (Kp.of sm)) (S1.grow sm) (rv.rpE (fun _ => Iff.rfl) (fun p z => Kp.back S S1 k1 z) S1) f⟩
/-- C() of a class without an __init__ -/
structure Mkr0 (K : PySem.W.Frag) (mg : Str → Option Value) (x : Str) (C : Addr) : Prop where
  hm : mg x = some (.ref C)
  m0 : L2.Mk0 K C
theorem we_make0 {C : Addr} (M : Mkr0 c.X.K c.X.mg x C) (hg : Gl c.X x) (h : Φ (.obj C [] []) n) (hdb : (x == ("__debug__" : Str)) = false := by decide) : WE c (.Call (.Name x p) [] [] pos) δ n Φ := ⟨fun σ H Q S q => by
  refine pe_to (pe_make00 M.m0 hg M.hm hdb) ?_
  intro y dy hy hd ne
  have nx := S.off hy
  have g1 : Same H (upd (upd H dy (.own y)) y (.ins C dy [])) := fun a o e => by
    rw [upd_ne (ne_of_none e hy), upd_ne (ne_of_none e hd)]; exact e
  exact q (.ref y) _ (.obj C [] []) n (Kp.of g1) (S.grow g1) ⟨y, dy, [], rfl, nx, upd_same, rfl, rfl⟩ h⟩
end
end DL

/-! DMc: == < <= > >= of two objects of one class by its own method; repr of a bool. -/
namespace L2
open PySem PySem.Spec PyProof.Rows
section
variable {X : Cx} {C f : Addr} {fd : FuncData} {ps : List Str} {sp : Sp} {k : Nat}
theorem op_cmpO {op : CmpOp} (F : FnOk X.prog X.w X.K X.mg X.base CX0 k f fd ps sp) (hs : PySem.W.findIn X.K (.ref C) (cmpInfo op).2.1 = some (some (.ref f))) (hf : PySem.W.isFn X.K (.ref f) = true) (hb : Binds X.K fd ps []) (hr : Room k X.A)
    (hcmp : ∀ a b, compareOp op a b = richCompare op a b := by intros; rfl) : OpR X (compareOp op) (rBinO X.K C sp) := by
  intro pins s σ H x y v u Q I rx ry h
  obtain ⟨a, b, dx, dy, fs, gs, rfl, rfl, ha, hb', h⟩ := h
  cases rx
  cases ry
  obtain ⟨mA, J, _⟩ := ins_get I.hok ha
  obtain ⟨mB, J', _⟩ := ins_get I.hok hb'
  obtain ⟨od, J, _⟩ := J.look
  obtain ⟨od', J', _⟩ := J'.look
  obtain ⟨m, hF⟩ := I.fr
  rw [hcmp]
  refine PySem.W.cmp_K (op := op) (tb := .ref C) hr.units0 hF I.ok.mod.kin J J'.type (by simp [PySem.W.notFirst]) hs hf ?_
  refine wpAny_mono (run_fn (vs := [.ref a, .ref b]) (us := [.ref a, .ref b]) F hr hb .nil pass0 I (.cons rfl (.cons rfl .nil)) (by rw [List.append_nil]; exact h)) (fun r s' q => ?_) fun _ _ x => x
  obtain ⟨z, H', I', rz, q⟩ := q
  exact back_of rz ⟨z, H', I', rz, q⟩
theorem call_repr_bl : CallR X (.builtin "repr") (fun xs H Q => ∃ b, xs = [.bl b] ∧ Q (.str (if b then "True" else "False")) H) := by
  intro pins s σ H xs us Q I r h
  obtain ⟨i, rfl, q⟩ := h
  obtain ⟨u, rfl, ru⟩ := vals1 r
  have e : u = .bool i := ru
  subst e
  exact PySem.P.repr_of_bool ⟨.str _, H, I.tok _, ⟨_, rfl⟩, by cases i <;> exact q⟩
end
end L2
namespace DL
open PySem PySem.Spec PyProof.Rows L2
section
variable {c : Ctx} {δ : DE} {n : Nat} {a b e : Expr} {pos p : Pos} {Φ : D → Nat → Prop} {Ψ : Bool → Nat → Prop} {C : Addr} {ns : List Str} {sp : DSp} {ps : List Str} {k : Nat}
theorem we_cmpO {op : CmpOp} {m : Str} (hop : (cmpInfo op).2.1 = m) (M : Mth c.X.prog c.X.w c.X.K c.X.mg c.X.base C m ps k (spD c.X.K sp)) (hr : Room k c.X.A)
    (h : WE c a δ n fun x n1 => WE c b δ n1 fun y n2 => BinO C ns sp x y fun z => Φ z n2) (hcmp : ∀ a b, compareOp op a b = richCompare op a b := by intros; rfl) (hmk : behindInMarks op b = false := by rfl) : WE c (.Compare a [op] [b] pos) δ n Φ := by
  obtain ⟨f, fd, hm, hb, F⟩ := M.ex
  subst hop
  exact we_cmp1 (op_cmpO F hm.at_ hm.fn hb hr hcmp) hmk binO_ok h
theorem wt_cmpO {op : CmpOp} {m : Str} (hop : (cmpInfo op).2.1 = m) (M : Mth c.X.prog c.X.w c.X.K c.X.mg c.X.base C m ps k (spD c.X.K sp)) (hr : Room k c.X.A)
    (h : WE c a δ n fun x n1 => WE c b δ n1 fun y n2 => BinO C ns sp x y fun z => ∃ k, z = .bl k ∧ Ψ k n2) (hcmp : ∀ a b, compareOp op a b = richCompare op a b := by intros; rfl) (hmk : behindInMarks op b = false := by rfl) : WT c (.Compare a [op] [b] pos) δ n Ψ := by
  obtain ⟨f, fd, hm, hb, F⟩ := M.ex
  subst hop
  exact wt_cmp1 (op_cmpO F hm.at_ hm.fn hb hr hcmp) hmk binO_ok h
def shB (b : Bool) : Str := if b then "True" else "False"
theorem shB_inj {a b : Bool} : (shB a == shB b) = (a == b) := by cases a <;> cases b <;> rfl
theorem we_reprB (hm : c.X.mg "repr" = none) (hg : Gl c.X "repr") (h : WA c [e] δ n fun ds n1 => ∃ b, ds = [.bl b] ∧ Φ (.str (shB b)) n1)
    (he : starEach [e] c.X.env = (false, eval e c.X.env) :: starEach [] c.X.env := by rfl) (hpl : (backTo pos (starEach [] c.X.env)).any (·.1) = false := by rfl) : WE c (.Call (.Name "repr" p) [e] [] pos) δ n Φ := ⟨fun σ H Q S q => by
  refine pe_to (pe_callB call_repr_bl hg hm (by decide +kernel) pa_w (by decide) (by decide) he hpl) ?_
  refine h.run σ H _ S fun vs H2 ds n1 k1 S1 r1 ⟨b, e, f⟩ => ?_
  subst e
  cases r1 with
  | cons r t =>
    cases t
    have e : _ = V.bl b := r
    subst e
    exact ⟨b, rfl, q _ H2 (.str (shB b)) n1 k1 S1 (by unfold shB; cases b <;> rfl) f⟩⟩
end
end DL

/-! DM0: the head by one kernel run: what is told of the written part, by names (stands ahead of all other texts: the run wants much memory). -/
namespace Hk
open PySem PySem.Spec PyProof.Rows L2 He He5
/-! ### where defs stand -/
def recAt (K : PySem.W.Frag) (T : String) (p : Addr) : Addr := match PySem.W.recIn K p T with
  | some (.ref g :: _) => g
  | _ => 0
def adG (x : Str) (K : PySem.W.Frag) : Addr := ga K x
def adM (C m : Str) (K : PySem.W.Frag) : Addr := ma K (ga K C) m
def adP (C m : Str) (K : PySem.W.Frag) : Addr := recAt K "property" (ma K (ga K C) m)
def adS (C m : Str) (K : PySem.W.Frag) : Addr := recAt K "staticmethod" (ma K (ga K C) m)
/-! ### more facts -/
abbrev Ex : Type := PySem.W.Frag → Bool
def obB (x : Str) : Ex := fun K => eqO (PySem.W.findIn K (.ref (ga K x)) "__class__") (some (some (.builtin "object.__class__"))) && (eqO (PySem.W.specialIn K (.builtin "object.__class__") "__get__") (some (some (.builtin "getset_descriptor.__get__"))) &&
  (decide (PySem.W.takesIn K (.builtin "object.__class__") = some true) && decide (PySem.W.mroIn K (ga K x) (.type "object") = some true)))
def neB (x : Str) : Ex := fun K => eqO (PySem.W.findIn K (.ref (ga K x)) "__ne__") (some (some (.builtin "object.__ne__"))) && decide (PySem.W.mroIn K (ga K x) (.type "object") = some true)
/-- a written tuple at an address -/
def tupAtB (p : PySem.W.Frag → Addr) (vs : List Dv) : Ex := fun K => match K.lookup (p K) with
  | some ⟨.type c, _, .seq its _, _⟩ => decide (c = "tuple") && (decide (its.size ≤ sizeLine) && relAll (vs.map (Dv.v K)) its.toList)
  | _ => false
def firstB (x : Str) : Ex := fun K => PySem.W.selfFirst K (ga K x)
def mk0B (x : Str) : Ex := fun K => PySem.W.makesIn K (ga K x) && (eqO (PySem.W.findIn K (.ref (ga K x)) "__init__") (some (some (.builtin "object.__init__"))) && PySem.W.keepIn K (.ref (ga K x)))
def isRec (K : PySem.W.Frag) (T : String) (p : Addr) : Bool := match PySem.W.recIn K p T with
  | some (.ref _ :: _) => true
  | _ => false
def propB (x m : Str) : Ex := fun K => eqO (PySem.W.findIn K (.ref (ga K x)) m) (some (some (.ref (ma K (ga K x) m)))) && (eqO (PySem.W.specialIn K (.ref (ma K (ga K x) m)) "__get__") (some (some (.builtin "property.__get__"))) &&
  (decide (PySem.W.takesIn K (.ref (ma K (ga K x) m)) = some true) && isRec K "property" (ma K (ga K x) m)))
def smB (x m : Str) : Ex := fun K => PySem.W.readsIn K (ga K x) (.type "type") && (eqO (PySem.W.specialIn K (.ref (ga K x)) "__getattribute__") (some (some (.builtin "type.__getattribute__"))) &&
  (wrapB K (ga K x) "staticmethod" "staticmethod.__get__" m && PySem.W.keepIn K (.ref (adS x m K))))
def tupEx (x : Str) (vs : List Dv) : Ex := fun K => tupB K x vs && gloX K
where gloX (K : PySem.W.Frag) : Bool := eqO (PySem.W.nsIn K mainGlobals x) (some (some (.ref (ga K x))))
/-! ### the Hook -/
/-- what a function names: its code, its defaults -/
def fnL (g : Addr → Option Obj) (f : Addr) : List Addr := match g f with
  | some ⟨_, _, .func fd, _⟩ => refV fd.code ++ fd.closure.map (·.2) ++ (match fd.defaults with
    | .ref T => T :: (match g T with
      | some ⟨_, _, .seq its _, _⟩ => its.toList.flatMap refV
      | _ => [])
    | _ => [])
  | _ => []
/-- a method, a property, a staticmethod, and what it names -/
def meL (g : Addr → Option Obj) (f : Addr) : List Addr := f :: (match g f with
  | some ⟨_, _, .fields vs, _⟩ => (vs.toList.flatMap refV).flatMap fun h => h :: fnL g h
  | _ => fnL g f)
def valL (g : Addr → Option Obj) (a : Addr) : List Addr := match g a with
  | some ⟨_, _, .dict es _, _⟩ => es.toList.flatMap fun e => refV e.val
  | _ => []
/-- what the module's names lead to -/
def topL (g : Addr → Option Obj) (a : Addr) : List Addr := a :: (match g a with
  | some ⟨_, _, .cls cd, _⟩ => cd.ns :: (cd.mro.flatMap refV ++ (valL g cd.ns).flatMap (meL g))
  | _ => fnL g a)
def asY (g : Addr → Option Obj) : List Addr := mainGlobals :: cStatics :: (valL g mainGlobals).flatMap (topL g)
abbrev AlY : Type := AlD × Bool
def obsY (fa : List Fa) (fn : List DefA) (ex : List Ex) (K : PySem.W.Frag) : AlY := (obsA fa fn K, ex.all fun e => e K)
def valY (fn : List DefA) : AlY := (valA fn, true)
structure SaysY (fa : List Fa) (fn : List DefA) (ex : List Ex) (K : PySem.W.Frag) : Prop where
  a : SaysA fa fn K
  more : ∀ e ∈ ex, e K = true
def obsYG (fa : List Fa) (fn : List DefA) (ex : List Ex) (g : Addr → Option Obj) : AlY := obsY fa fn ex (frG g (asY g))
def hookY (fa : List Fa) (fn : List DefA) (ex : List Ex) : PySem.W.Hook where
  α := AlY
  obs := fun s => obsYG fa fn ex s.heap.get?
  val := fun _ => valY fn
  says := fun _ h => ∃ K : PySem.W.Frag, K.In h ∧ SaysY fa fn ex K
  of := fun _ _ e => ⟨_, frG_in, congrArg (fun z : AlY => z.1) e, List.all_eq_true.mp (congrArg (fun z : AlY => z.2) e)⟩
  keeps := fun _ _ _ ⟨K, hK, c⟩ k => ⟨K, PySem.W.Frag.In.keeps hK k, c⟩
theorem obsYG_eq {fa : List Fa} {fn : List DefA} {ex : List Ex} {g : Addr → Option Obj} {s : Shared} (h : ∀ a, g a = s.heap.get? a) : obsYG fa fn ex g = (hookY fa fn ex).obs s := by
  have e : g = s.heap.get? := funext h
  rw [e] <;> rfl
section
variable {fa : List Fa} {fn : List DefA} {ex : List Ex} {K : PySem.W.Frag}
theorem SaysY.fact (c : SaysY fa fn ex K) (i : Nat) {f : Fa} (h : fa[i]? = some f := by rfl) : f.ok K = true := c.a.fact i h
theorem SaysY.def_ (c : SaysY fa fn ex K) (i : Nat) {d : DefA} (h : fn[i]? = some d := by rfl) : ∃ fd, FunD K d.name d.qual d.params d.body d.scope (d.dvs K) (d.kws K) (d.at_ K) fd := c.a.def_ i h
theorem SaysY.extra (c : SaysY fa fn ex K) (i : Nat) {e : Ex} (h : ex[i]? = some e := by rfl) : e K = true := c.more e (List.mem_of_getElem? h)
end
/-- two runs with parts of what is asked are one with all of it -/
theorem obsY_app {fa1 fa2 : List Fa} {fn1 fn2 : List DefA} {ex1 ex2 : List Ex} {K : PySem.W.Frag} (h1 : obsY fa1 fn1 ex1 K = valY fn1) (h2 : obsY fa2 fn2 ex2 K = valY fn2) : obsY (fa1 ++ fa2) (fn1 ++ fn2) (ex1 ++ ex2) K = valY (fn1 ++ fn2) := by
  unfold obsY valY obsA valA at *
  simp only [Prod.mk.injEq, Bool.and_eq_true] at h1 h2
  obtain ⟨⟨⟨a1, a2⟩, a3⟩, a4⟩ := h1
  obtain ⟨⟨⟨b1, b2⟩, b3⟩, b4⟩ := h2
  simp only [List.all_append, List.map_append, a1, a2, a4, b1, b2, b4, a3, b3, Bool.and_self]
open HandSHeadRun in
theorem runY_app {r : PySem.W.OpenRow} {q : Program} {M : Nat} {loose : List Str} {w : World} {fa1 fa2 : List Fa} {fn1 fn2 : List DefA} {ex1 ex2 : List Ex} (h1 : RunEq r q (hookY fa1 fn1 ex1) (fun s => obsYG fa1 fn1 ex1 (getT s)) M loose w) (h2 : RunEq r q (hookY fa2 fn2 ex2) (fun s => obsYG fa2 fn2 ex2 (getT s)) M loose w) :
    RunEq r q (hookY (fa1 ++ fa2) (fn1 ++ fn2) (ex1 ++ ex2)) (fun s => obsYG (fa1 ++ fa2) (fn1 ++ fn2) (ex1 ++ ex2) (getT s)) M loose w := fun os => by
  have a := h1 os
  have b := h2 os
  revert a b
  generalize endF (stepQ (denQ tabQ) r.prog w) M r.prog w os = X
  cases X with
  | none => intro a; cases a
  | some s =>
    intro a b
    have a := Option.some.inj a
    have b := Option.some.inj b
    have a1 := congrArg (fun z => z.1) a
    have a2 := congrArg (fun z => z.2.1) a
    have a3 : obsYG fa1 fn1 ex1 (getT s) = valY fn1 := congrArg (fun z => z.2.2) a
    have b3 : obsYG fa2 fn2 ex2 (getT s) = valY fn2 := congrArg (fun z => z.2.2) b
    have c3 : obsYG (fa1 ++ fa2) (fn1 ++ fn2) (ex1 ++ ex2) (getT s) = valY (fn1 ++ fn2) := obsY_app a3 b3
    show some _ = some _
    refine congrArg some (Prod.ext a1 (Prod.ext a2 c3))
end Hk

/-! DMd: what the facts by names say. -/
namespace Hk
open PySem PySem.Spec PyProof.Rows L2 He He5
section
variable {K : PySem.W.Frag} {h : Heap} {mg : Str → Option Value}
theorem ob_ok {x : Str} (hc : Cls K (ga K x)) (c : obB x K = true) : DL.ObC K (ga K x) := by
  obtain ⟨c1, c⟩ := ba c
  obtain ⟨c2, c⟩ := ba c
  obtain ⟨c3, c4⟩ := ba c
  exact ⟨hc, eqO_ok c1, eqO_ok c2, of_decide_eq_true c3, of_decide_eq_true c4⟩
theorem mk0_ok {x : Str} (c : mk0B x K = true) : Mk0 K (ga K x) := by
  obtain ⟨c1, c⟩ := ba c
  obtain ⟨c2, c3⟩ := ba c
  exact ⟨c1, eqO_ok c2, c3⟩
theorem rec_ok {T : String} {p : Addr} (c : isRec K T p = true) : ∃ rest, PySem.W.recIn K p T = some (.ref (recAt K T p) :: rest) := by
  unfold isRec at c
  unfold recAt
  split at c
  · rename_i f r e
    exact ⟨r, by rw [e]⟩
  · cases c
theorem prop_ok {x m : Str} (c : propB x m K = true) : PropOf K (ga K x) m (ma K (ga K x) m) (adP x m K) := by
  obtain ⟨c1, c⟩ := ba c
  obtain ⟨c2, c⟩ := ba c
  obtain ⟨c3, c4⟩ := ba c
  exact ⟨eqO_ok c1, eqO_ok c2, of_decide_eq_true c3, rec_ok c4⟩
theorem sm_ok {x m : Str} (c : smB x m K = true) : ClX.CRead K (ga K x) (.type "type") ∧ CSm K (ga K x) (.type "type") m (ma K (ga K x) m) (adS x m K) := by
  obtain ⟨c1, c⟩ := ba c
  obtain ⟨c2, c⟩ := ba c
  obtain ⟨c3, c4⟩ := ba c
  obtain ⟨d1, rest, d2⟩ := wrapB_ok c3
  refine ⟨⟨c1, eqO_ok c2⟩, ⟨d1, ⟨rest, ?_⟩, c4⟩⟩
  have e : adS x m K = wf K (ga K x) "staticmethod" m := rfl
  rw [e]
  exact d2
end
end Hk

/-! DMe: a list of anything compared with []. -/
namespace DL
open PySem PySem.Spec PyProof.Rows L2
def NilR (neg : Bool) : D → D → (D → Prop) → Prop := fun x y Φ => ∃ xs, lstOf x = some xs ∧ lstOf y = some [] ∧ Φ (.bl (if neg then !xs.isEmpty else xs.isEmpty))
theorem nil_dp {K : PySem.W.Frag} {Av Ow : Addr → Prop} {pu : Option Addr} {Hs H : Hp} {d : D} {v : V} (h : RpE K Av Ow pu Hs H d v) (e : lstOf d = some []) : Dp K H v (.list []) := by
  obtain ⟨p, vs, rfl, h1, h2⟩ := h.lstOf e
  have : vs = [] := h2
  subst this
  exact .lst (.of h1) .nil
theorem nilEq_ok {c : Ctx} {δ : DE} : R2ok c δ (fun x y H Q => rEqD c.X.K x y H Q ∨ rLenD false x y H Q) (NilR false) := by
  intro σ H Hs n x y v u Φ Q S hs rx ry h q
  obtain ⟨xs, e1, e2, f⟩ := h
  cases xs with
  | nil => exact .inl ⟨_, _, nil_dp rx e1, nil_dp ry e2, by decide +kernel, by decide +kernel, q _ H (.bl true) (Same.refl H) rfl f⟩
  | cons z zs =>
    obtain ⟨p, vs, rfl, h1, h2⟩ := rx.lstOf e1
    obtain ⟨p', vs', rfl, h1', h2'⟩ := ry.lstOf e2
    exact .inr ⟨p, p', vs, vs', rfl, rfl, h1, h1', by rw [← h2.length, ← h2'.length]; simp, q _ H (.bl false) (Same.refl H) rfl f⟩
theorem nilNe_ok {c : Ctx} {δ : DE} : R2ok c δ (fun x y H Q => rNeD c.X.K x y H Q ∨ rLenD true x y H Q) (NilR true) := by
  intro σ H Hs n x y v u Φ Q S hs rx ry h q
  obtain ⟨xs, e1, e2, f⟩ := h
  cases xs with
  | nil => exact .inl ⟨_, _, nil_dp rx e1, nil_dp ry e2, by decide +kernel, by decide +kernel, q _ H (.bl false) (Same.refl H) rfl f⟩
  | cons z zs =>
    obtain ⟨p, vs, rfl, h1, h2⟩ := rx.lstOf e1
    obtain ⟨p', vs', rfl, h1', h2'⟩ := ry.lstOf e2
    exact .inr ⟨p, p', vs, vs', rfl, rfl, h1, h1', by rw [← h2.length, ← h2'.length]; simp, q _ H (.bl true) (Same.refl H) rfl f⟩
section
variable {c : Ctx} {δ : DE} {n : Nat} {a b : Expr} {pos : Pos} {Φ : D → Nat → Prop} {Ψ : Bool → Nat → Prop}
theorem we_eqNil (hu : c.X.A.units + 64 < cLine) (h : WE c a δ n fun x n1 => WE c b δ n1 fun y n2 => NilR false x y fun z => Φ z n2) : WE c (.Compare a [.Eq] [b] pos) δ n Φ := we_cmp1 (OpR.or (op_eqD hu) (op_eqLen (by omega))) (nomark _) nilEq_ok h
theorem we_neNil (hu : c.X.A.units + 64 < cLine) (h : WE c a δ n fun x n1 => WE c b δ n1 fun y n2 => NilR true x y fun z => Φ z n2) : WE c (.Compare a [.NotEq] [b] pos) δ n Φ := we_cmp1 (OpR.or (op_neD hu) (op_neLen (by omega))) (nomark _) nilNe_ok h
theorem wt_eqNil (hu : c.X.A.units + 64 < cLine) (h : WE c a δ n fun x n1 => WE c b δ n1 fun y n2 => NilR false x y (asB Ψ n2)) : WT c (.Compare a [.Eq] [b] pos) δ n Ψ := wt_cmp1 (OpR.or (op_eqD hu) (op_eqLen (by omega))) (nomark _) nilEq_ok h
theorem wt_neNil (hu : c.X.A.units + 64 < cLine) (h : WE c a δ n fun x n1 => WE c b δ n1 fun y n2 => NilR true x y (asB Ψ n2)) : WT c (.Compare a [.NotEq] [b] pos) δ n Ψ := wt_cmp1 (OpR.or (op_neD hu) (op_neLen (by omega))) (nomark _) nilNe_ok h
end
section
variable {c : Ctx} {δ : DE} {n : Nat} {e : Expr} {pos : Pos} {D' : DEnds}
/-- what is handed back is never changed again -/
theorem ws_retF (h : WE c e δ n fun d n1 => okEl d = true ∧ D'.rt (frz d) n1) : WS c (.Return (some e) pos) δ n D' := ⟨fun b σ H DD S B E => by
  refine ps_to (ps_ret pe_w) ?_
  refine h.run σ H _ S fun v H2 d n1 k1 S1 r1 ⟨o, f⟩ => ?_
  have av0 : ∀ a, c.Av [] a → c.Av δ a := fun a z => by
    rcases z with z | z | z
    · exact .inl z
    · exact .inr (.inl z)
    · cases z
  have r := r1.el o
  exact E.rt v H2 _ n1 ⟨(B.kp k1).keep, fun p e => (S1.pur p e).1, .inl ⟨r.isPure, r.wk av0 fun _ _ _ e => e⟩⟩ f⟩
end
end DL

/-! DMf: the end of a law over a head by facts. -/
namespace DL
open PySem PySem.Spec PyProof.Rows L2
theorem walkGE {l : PySem.W.OpenLaw} {n k : Nat} {q : Program} {loose : List Str} {XP : (Str → Option Value) → Heap → Prop} {YP : World → Heap → Prop} {d : DefRec} {CX : World → CXT} {x : Str}
    (most : l.most = some n) (small : n ≤ sizeLine) (nodef : d.params.defaults = []) (room : Room k callerA)
    (F : ∀ (w : World) (mg : Str → Option Value) (fa : Addr) (h : Heap), YP w h → h.Ns mainGlobals mg → mg d.name = some (.ref fa) → ∃ (K : PySem.W.Frag) (fd : FuncData), K.In h ∧ (∀ (s : Shared) (u : Value), BindsTo s fd ⟨[u], []⟩ [(x, u)]) ∧
      ∀ base : Heap, K.In base → base.Ns mainGlobals mg → GOk l.prog w K mg base (CX w) k fa fd [x] (spLaw K))
    (wish : ∀ (K : PySem.W.Frag) (H : Hp) (a : Addr) (ns : List Int), ns.length ≤ n → Only H → SqL K H a (ns.map V.int) → spLaw K [.ref a] H (fun v _ => v = .bl true) fun _ _ _ => False)
    (calm : ∀ (w : World) (H : Hp) (s : Shared) (e : Value) (s' : Shared), CX w [] H s (fun _ _ _ => False) e s' → False) : PySem.W.WalkO q loose XP YP l.row.toRowW d [] (fun f vs => PySem.call f vs) := by
  refine Att.attach_call most nodef fun w s0 s mg mb fa o pm cd doc a vs ns G Y ho hd hcd hmg scr numsI few gens => ?_
  obtain ⟨K, fd, inK, bnd, go⟩ := F w mg fa _ Y G.T.g hmg
  exact headG inK G.T.g G.T.b G.T.builtins G.T.nolimit gens scr numsI (Nat.le_trans few small) room go bnd (fun H o sq => wish K H a ns few o sq) fun H e s' => calm w H s e s'
theorem walkFE {l : PySem.W.OpenLaw} {n k : Nat} {q : Program} {loose : List Str} {XP : (Str → Option Value) → Heap → Prop} {YP : World → Heap → Prop} {d : DefRec} {CX : World → CXT} {x : Str}
    (most : l.most = some n) (small : n ≤ sizeLine) (nodef : d.params.defaults = []) (room : Room k callerA)
    (F : ∀ (w : World) (mg : Str → Option Value) (fa : Addr) (h : Heap), YP w h → h.Ns mainGlobals mg → mg d.name = some (.ref fa) → ∃ (K : PySem.W.Frag) (fd : FuncData), K.In h ∧ (∀ (s : Shared) (u : Value), BindsTo s fd ⟨[u], []⟩ [(x, u)]) ∧
      ∀ base : Heap, K.In base → base.Ns mainGlobals mg → FnOk l.prog w K mg base (CX w) k fa fd [x] (spLaw K))
    (wish : ∀ (K : PySem.W.Frag) (H : Hp) (a : Addr) (ns : List Int), ns.length ≤ n → Only H → SqL K H a (ns.map V.int) → spLaw K [.ref a] H (fun v _ => v = .bl true) fun _ _ _ => False)
    (calm : ∀ (w : World) (H : Hp) (s : Shared) (e : Value) (s' : Shared), CX w [] H s (fun _ _ _ => False) e s' → False) : PySem.W.WalkO q loose XP YP l.row.toRowW d [] (fun f vs => PySem.call f vs) := by
  refine Att.attach_call most nodef fun w s0 s mg mb fa o pm cd doc a vs ns G Y ho hd hcd hmg scr numsI few gens => ?_
  obtain ⟨K, fd, inK, bnd, go⟩ := F w mg fa _ Y G.T.g hmg
  exact law_call inK G.T.g G.T.b G.T.builtins G.T.nolimit gens scr numsI (Nat.le_trans few small) room go bnd (fun H o sq => wish K H a ns few o sq) fun H e s' => calm w H s e s'
section
variable {P : Program} {w : World} {K : PySem.W.Frag} {mg : Str → Option Value} {base : Heap}
theorem Fn.wk {x : Str} {ps : List Str} {k j : Nat} {sp : Sp} (F : Fn P w K mg base x ps k sp) (h : k ≤ j) : Fn P w K mg base x ps j sp := by
  obtain ⟨f, fd, hm, hk, hb, F⟩ := F.ex
  exact ⟨f, fd, hm, hk, hb, F.mono h⟩
theorem fnv_is {x qual : Str} {st : Stmt} {f : Addr} {fd : FuncData} {ps : List Str} {k : Nat} {sp : Sp} (F : FunV K x qual st f fd) (hm : mg x = some (.ref f)) (hb : Binds K fd ps []) (ok : FnOk P w K mg base CX0 k f fd ps sp) : Fn P w K mg base x ps k sp := ⟨⟨f, fd, hm, F.kp, hb, ok⟩⟩
end
end DL
namespace Hk
open PySem PySem.Spec PyProof.Rows L2 He He5 DL
theorem kt_ok {K : PySem.W.Frag} {x : Str} {vs : List Dv} (h : tupB K x vs = true) : KT K (ga K x) (vs.map (Dv.v K)) := by
  rcases tupB_ok h (fun _ => none) with h | ⟨o, its, n, h⟩
  · rcases h with h | ⟨o, h⟩ <;> cases h
  · exact ⟨o, its, n, h⟩
/-- a module's tuple of texts -/
theorem gk_strs {K : PySem.W.Frag} {h : Heap} {mg : Str → Option Value} (X : K.In h) (G : h.Ns mainGlobals mg) {x : Str} {zs : List Str} (g : (Fa.glo x).ok K = true) (c : tupB K x (zs.map Dv.str) = true) : GK K mg x (.ktup (zs.map D.str)) := by
  refine ⟨_, .ref (ga K x), glo_ok X G g, rfl, fun Av H => ⟨ga K x, _, rfl, .inr (kt_ok c), ?_⟩⟩
  have : ∀ l : List Str, Rps K Av H (l.map D.str) ((l.map Dv.str).map (Dv.v K)) := by
    intro l
    induction l with
    | nil => rfl
    | cons a l ih => exact ⟨_, _, rfl, rfl, ih⟩
  exact this zs
/-- all arguments given, j defaults stand by -/
theorem binds_dfl {K : PySem.W.Frag} {x qual : Str} {params : Arguments} {body : List Stmt} {scope : Scope} {dvs : List V} {kws : List (Str × V)} {f : Addr} {fd : FuncData} {ps : List Str} (F : FunD K x qual params body scope dvs kws f fd) (hd : dvs ≠ [])
    (h : ∀ (T : Addr) (kV doc pm : Value) (an : Option Addr) (cdv ct : Value) (us its : List Value), us.length = ps.length → its.length = dvs.length →
      ∃ k, bindArgs (PySem.W.fnOf x qual params body scope (.ref T) kV doc pm an cdv ct) ⟨us, []⟩ = seqItems? (.ref T) >>= k ∧ k (some its.toArray) = pure (ps.zip us)) : Binds K fd ps [] := by
  obtain ⟨ds, v, b⟩ := F.binds1 (ps := ps) ps.length dvs.length hd (by omega) fun T kV doc pm an cdv ct us its hl hi => by
    obtain ⟨k, e1, e2⟩ := h T kV doc pm an cdv ct us its hl hi
    refine ⟨k, e1, ?_⟩
    rw [show its.drop dvs.length = [] from List.drop_of_length_le (by omega), List.append_nil]
    exact e2
  rw [List.drop_of_length_le (Nat.le_refl _)] at v
  cases v
  exact b
end Hk

/-! DMg: dicts walked by their keys, list(d), d.get(k, x), {k: v}; sorted texts. -/
namespace DL
open PySem PySem.Spec PyProof.Rows L2
theorem addrs_drop {s : Option D} {p : Addr} {d : Option D} (hs : addr1 s = [p]) (hd : addr1 d = []) {δ : DE} {i : Nat} (h : δ[i]? = some s) (nd : (addrs δ).Nodup) : p ∉ addrs (δ.set i d) :=
  addrs_drop2 (by rw [hs]; exact m1) (by rw [hd]; exact fun z => by cases z) h nd
section
variable {c : Ctx} {b : Base} {σ : L2.St} {H : Hp} {δ : DE} {n : Nat}
/-- an own thing is locked: from now on it is data -/
theorem SlR.lock (S : SlR c σ H δ n) {i : Nat} {p : Addr} {s : Option D} {d : D} {o : HO} (h : δ[i]? = some s) (e : addr1 s = [p]) (hd : addr1 (some d) = [])
    (hr : ∀ Av : Addr → Prop, ¬ Av p → (∀ a, Av a → c.Av δ a) → ∃ v, σ[i]? = some (some v) ∧ Rp c.X.K Av (upd H p o) d v) : SlR c σ (upd H p o) (δ.set i (some d)) n := by
  have pm := mem_addrs h e
  have e2 := e
  have np := addrs_drop e hd h S.nd
  have sub := addrs_set_sub hd (δ := δ) (i := i)
  have av : ∀ a, c.Av (δ.set i (some d)) a → c.Av δ a := fun a z => z.imp id (Or.imp id fun z => sub.subset z)
  refine ⟨by simp [S.len], fun a m => ?_, fun q z => ?_, S.nd.sublist sub, fun p m => S.dis p (sub.subset m), fun j t ht => ?_⟩
  · obtain ⟨u, hu, nt⟩ := S.dom a m
    exact ⟨u, by rw [upd_ne (ne_by c.M m (S.dis p pm).1)]; exact hu, nt⟩
  · obtain ⟨⟨x, y, w, h0, h1⟩, nm⟩ := S.pur q z
    exact ⟨⟨x, y, w, by rw [upd_ne (ne_by (fun a => c.pu = some a) z (S.dis p pm).2)]; exact h0, h1⟩, nm⟩
  · rcases get_set ht with ⟨rfl, rfl⟩ | ⟨ne, ht⟩
    · obtain ⟨v, ev, r⟩ := hr (c.Av (δ.set j (some d))) (fun z => by
        rcases z with z | z | z
        · exact (S.dis p pm).1 z
        · exact (S.dis p pm).2 z
        · exact np z) av
      exact slAt_pure r ev
    · refine (S.sl j t ht).mv (fun a z => .inl (av a z)) (fun a u na e => ?_) fun q hq u e => ?_
      · rw [upd_ne (ne_by (fun a => ¬ c.Av δ a) na fun w => w (.inr (.inr pm)))]; exact e
      · rw [upd_ne fun z => ne (nodup_slot2 S.nd ht (z ▸ hq) h (by rw [e2]; exact m1))]; exact e
theorem Bs.lock (B : Bs c b H δ) {i : Nat} {s : Option D} {d : D} {p : Addr} {o : HO} (h : δ[i]? = some s) (e : addr1 s = [p]) (hd : addr1 (some d) = []) : Bs c b (upd H p o) (δ.set i (some d)) := by
  have pm := mem_addrs h e
  refine ⟨fun a u nb q => ?_, fun q m => B.fresh q ((addrs_set_sub hd).subset m), B.pu⟩
  have ne : a ≠ p := fun z => by
    subst z
    rcases B.fresh a pm with w | w
    · exact nb w
    · rw [w] at q; cases q
  rw [upd_ne ne]
  exact B.keep a u nb q
end
section
variable {c : Ctx} {δ : DE} {n : Nat} {sts : List Stmt} {D' : DEnds} {q : Addr} {xs : List D}
/-- an own dict is locked, so that it may be walked -/
theorem wb_lockK (i : Nat) {ks : List Key} (hi : δ[i]? = some (some (.ownK q ks xs))) (h : WB c sts (δ.set i (some (.lkK ks xs))) n D') : WB c sts δ n D' := ⟨fun b σ H DD S B E pins s I => by
  obtain ⟨e1, kvs, h1, h2, h3⟩ := S.sl i _ hi
  obtain ⟨od, I1⟩ := I.lock h1 trivial
  have pm := mem_addrs hi rfl
  exact h.run b σ _ DD (S.lock (d := .lkK ks xs) hi rfl rfl fun Av np sub => ⟨.ref q, e1, q, od, kvs, rfl, np, upd_same, h2, h3.mv (fun a z => .inl (sub a z)) fun a o na e => by
    rw [upd_ne (ne_by (fun a => ¬ c.Av δ a) na fun w => w (.inr (.inr pm)))]; exact e⟩) (B.lock hi rfl rfl) E pins s I1⟩
theorem wb_lockT (i : Nat) {ks : List (List Key)} (hi : δ[i]? = some (some (.ownT q ks xs))) (h : WB c sts (δ.set i (some (.lkT ks xs))) n D') : WB c sts δ n D' := ⟨fun b σ H DD S B E pins s I => by
  obtain ⟨e1, kvs, h1, h2, h3⟩ := S.sl i _ hi
  obtain ⟨od, I1⟩ := I.lock h1 trivial
  have pm := mem_addrs hi rfl
  exact h.run b σ _ DD (S.lock (d := .lkT ks xs) hi rfl rfl fun Av np sub => ⟨.ref q, e1, q, od, kvs, rfl, np, upd_same, h2, h3.mv (fun a z => .inl (sub a z)) fun a o na e => by
    rw [upd_ne (ne_by (fun a => ¬ c.Av δ a) na fun w => w (.inr (.inr pm)))]; exact e⟩) (B.lock hi rfl rfl) E pins s I1⟩
end
theorem keyDat_of {K : PySem.W.Frag} {Av : Addr → Prop} {H : Hp} (k : Key) : Rp K Av H (keyDat k) (kV k) := by cases k <;> exact rfl
theorem keyDats_of {K : PySem.W.Frag} {Av : Addr → Prop} {H : Hp} : ∀ ks : List Key, Rps K Av H (ks.map keyDat) (ks.map kV)
  | [] => rfl
  | k :: ks => ⟨_, _, rfl, keyDat_of k, keyDats_of ks⟩
def tupK (k : List Key) : D := .tup (k.map keyDat)
/-- the keys of a locked dict -/
def keysOf : D → Option (List D)
  | .lkK ks _ => some (ks.map keyDat)
  | .lkT ks _ => some (ks.map tupK)
  | _ => none
section
variable {c : Ctx} {δ : DE} {n : Nat} {a b e tg : Expr} {es : List Expr} {pos p : Pos} {Θ : List D → Nat → Prop} {Φ : D → Nat → Prop}
theorem wi_keys (h : WE c e δ n fun d n1 => ∃ ds, keysOf d = some ds ∧ Θ ds n1) : WI c tg e δ n Θ := ⟨fun σ H R S q => by
  refine pi_to (pi_keys pe_w) ?_
  refine h.run σ H _ S fun v H2 d n1 k1 S1 r1 ⟨ds, e, f⟩ => ?_
  cases d with
  | lkK ks xs =>
    cases e
    obtain ⟨a, o, kvs, rfl, na, h1, h2, h3⟩ := r1
    refine ⟨a, o, rfl, .inl ⟨kvs, h1, q _ H2 _ n1 k1 S1 ⟨_, _, by rw [List.length_map, ← h2, List.length_map]; exact walk_keys, fun H' k => k a _ na h1, fun i H' v H'' Av' hi k hv _ y => ?_⟩ f⟩⟩
    obtain ⟨rfl, k', v', g, rfl⟩ := y
    refine ⟨Same.refl _, keyDat k', ?_, keyDat_of k'⟩
    rw [← h2, List.map_map, List.getElem?_map, g]
    rfl
  | lkT ks xs =>
    cases e
    obtain ⟨a, o, kvs, rfl, na, h1, h2, h3⟩ := r1
    refine ⟨a, o, rfl, .inr ⟨kvs, h1, q _ H2 _ n1 k1 S1 ⟨_, _, by rw [List.length_map, ← h2, List.length_map]; exact walk_keysT, fun H' k => k a _ na h1, fun i H' v H'' Av' hi k hv dom y => ?_⟩ f⟩⟩
    obtain ⟨rfl, k', v', b, g, rfl, hb⟩ := y
    refine ⟨Same.refl _, tupK k', ?_, b, _, rfl, fun z => ?_, hb, keyDats_of k'⟩
    · rw [← h2, List.map_map, List.getElem?_map, g]
      rfl
    · obtain ⟨o, e1, nt⟩ := dom b z
      rw [hb] at e1
      cases e1
      exact nt
  | _ => cases e⟩
/-- list(d) of an own dict -/
def ListK : List D → (D → Prop) → Prop := fun ds Φ => ∃ q ks xs, ds = [.ownK q ks xs] ∧ Φ (.new (ks.map keyDat))
def ListT : List D → (D → Prop) → Prop := fun ds Φ => ∃ q ks xs, ds = [.ownT q ks xs] ∧ Φ (.new (ks.map tupK))
theorem listK_ok : RCok c δ rListD ListK := by
  intro σ H Hs n ds vs Φ Q S hs r h q
  obtain ⟨p, ks, xs, rfl, f⟩ := h
  obtain ⟨v, rfl, r1⟩ := paired1 r
  obtain ⟨rfl, _, kvs, h1, h2, _⟩ := r1
  refine ⟨p, kvs, rfl, h1, fun l hl => q _ _ _ (same_new hl) (RpE.mkNew S hs hl ?_) f⟩
  rw [← h2, show (kvs.map fun kv => kV kv.1) = (kvs.map (·.1)).map kV from by rw [List.map_map]; rfl]
  exact keyDats_of _
theorem listT_ok : RCok c δ (fun xs H Q => ∃ d kvs, xs = [V.ref d] ∧ Rd H d (.dT kvs) ∧ ∀ p bs, H p = none → IsKeys H kvs bs → Q (.ref p) (upd H p (.lst (bs.map V.ref)))) ListT := by
  intro σ H Hs n ds vs Φ Q S hs r h q
  obtain ⟨p, ks, xs, rfl, f⟩ := h
  obtain ⟨v, rfl, r1⟩ := paired1 r
  obtain ⟨rfl, _, kvs, h1, h2, _⟩ := r1
  refine ⟨p, kvs, rfl, .inl h1, fun l bs hl hk => q _ _ _ (same_new hl) (RpE.mkNew S hs hl ?_) f⟩
  have key : ∀ {kvs : List (List Key × V)} {bs : List Addr}, IsKeys H kvs bs → Rps c.X.K (c.Av δ) H ((kvs.map (·.1)).map tupK) (bs.map V.ref) := by
    intro kvs bs hk
    induction hk with
    | nil => exact rfl
    | @cons kv b l1 l2 hb t ih =>
      exact ⟨_, _, rfl, ⟨b, _, rfl, S.tup_off hb, hb, keyDats_of _⟩, ih⟩
  rw [← h2]
  exact key hk
theorem we_listK {p : Pos} (hc : c.X.calm = true) (hm : c.X.mg "list" = none) (hg : Gl c.X "list") (h : WA c [e] δ n fun ds n1 => ListK ds fun z => Φ z n1) (he : starEach [e] c.X.env = (false, eval e c.X.env) :: starEach [] c.X.env := by rfl) (hpl : (backTo pos (starEach [] c.X.env)).any (·.1) = false := by rfl) :
    WE c (.Call (.Name "list" p) [e] [] pos) δ n Φ := we_callTy (call_list_dK hc) listK_ok hm hg (by decide +kernel) h (he := he) (hpl := hpl)
theorem we_listT {p : Pos} (hc : c.X.calm = true) (hm : c.X.mg "list" = none) (hg : Gl c.X "list") (h : WA c [e] δ n fun ds n1 => ListT ds fun z => Φ z n1) (he : starEach [e] c.X.env = (false, eval e c.X.env) :: starEach [] c.X.env := by rfl) (hpl : (backTo pos (starEach [] c.X.env)).any (·.1) = false := by rfl) :
    WE c (.Call (.Name "list" p) [e] [] pos) δ n Φ := we_callTy (call_list_dT hc) listT_ok hm hg (by decide +kernel) h (he := he) (hpl := hpl)
/-- d[k], d a locked dict -/
def GetF (x y : D) (r : Option D) : Prop :=
  (∃ ks ds es k, x = .lkT ks ds ∧ y = .tup es ∧ keysD es = some k ∧ r = getA ks ds k) ∨ (∃ ks ds k, x = .lkK ks ds ∧ keyD y = some k ∧ r = getA ks ds k)
theorem we_dgetF {b : Expr} (hu : c.X.A.units + 1 < cLine) (h : WE c a δ n fun x n1 => WE c b δ n1 fun y n2 => ∃ d, GetF x y (some d) ∧ Φ d n2) (hs : NoSl b := by exact fun _ _ => rfl) : WE c (.Subscript a b pos) δ n Φ := ⟨fun σ H Q S q => by
  refine pe_to (pe_dget hu pe_w pe_w hs) ?_
  refine h.run σ H _ S fun v H2 x n1 k1 S1 r1 h2 => ?_
  refine h2.run σ H2 _ S1 fun u H3 y n2 k2 S2 r2 ⟨d, g, f⟩ => ?_
  rcases g with ⟨ks, ds, es, k, rfl, rfl, hk, hg⟩ | ⟨ks, ds, k, rfl, hk, hg⟩
  · obtain ⟨A, o, kvs, rfl, na, h1, e, h2⟩ := r1.kp Ctx.puAv k2
    obtain ⟨ta, us, rfl, _, ht, hr⟩ := r2
    have eu := keysD_rp hk hr
    subst eu
    obtain ⟨w, ew, rw⟩ := getA_some e h2 hg.symm
    exact ⟨A, w, rfl, .inr ⟨kvs, k, ta, .inr ⟨o, h1⟩, rfl, ht, ew.symm⟩, q w H3 d n2 (k1.trans k2) S2 (RpE.of rw) f⟩
  · obtain ⟨A, o, kvs, rfl, na, h1, e, h2⟩ := r1.kp Ctx.puAv k2
    have eu : u = kV k := keyD_rp hk (r2.pure (by cases y <;> first | rfl | cases hk))
    subst eu
    obtain ⟨w, ew, rw⟩ := getA_some e h2 hg.symm
    exact ⟨A, w, rfl, .inl ⟨kvs, k, .inr ⟨o, h1⟩, rfl, ew.symm⟩, q w H3 d n2 (k1.trans k2) S2 (RpE.of rw) f⟩⟩
/-- d.get(k, x), d an own dict -/
def isDi : D → Bool
  | .ownK _ _ _ => true | .ownT _ _ _ => true | _ => false
theorem we_get2 {b e : Expr} {apos cpos : Pos} (hu : c.X.A.units + 1 < cLine) (h : WE c a δ n fun x n1 => isDi x = true ∧ WE c b δ n1 fun y n2 => WE c e δ n2 fun z n3 => pureD z = true ∧ ∃ r, GetR x y r ∧ Φ (r.getD z) n3)
    (m : M2 c.X a "get" apos b e cpos := by exact ⟨rfl, rfl, rfl, rfl⟩) : WE c (.Call (.Attribute a "get" apos) [b, e] [] cpos) δ n Φ := ⟨fun σ H Q S q => by
  refine pe_to (pe_dget2 hu pe_w pe_w pe_w m) ?_
  refine h.run σ H _ S fun v H2 x n1 k1 S1 r1 h2 => ?_
  obtain ⟨hd, h2⟩ := h2
  have hd : ∃ A, v = .ref A ∧ IsD H2 A := by
    cases x with
    | ownK p ks ds => obtain ⟨rfl, _, kvs, h1, _⟩ := r1; exact ⟨p, rfl, .inl ⟨kvs, .inl h1⟩⟩
    | ownT p ks ds => obtain ⟨rfl, _, kvs, h1, _⟩ := r1; exact ⟨p, rfl, .inr ⟨kvs, .inl h1⟩⟩
    | _ => cases hd
  obtain ⟨A, rfl, hd⟩ := hd
  refine ⟨A, rfl, hd, ?_⟩
  refine h2.run σ H2 _ S1 fun u H3 y n2 k2 S2 r2 h3 => ?_
  refine h3.run σ H3 _ S2 fun w H4 z n3 k3 S3 r3 ⟨pz, r, g, f⟩ => ?_
  obtain ⟨A', o, ea, g1, g2, g3⟩ := getR_ok (σ := σ) g (r1.kp Ctx.puAv (k2.trans k3)) (r2.kp Ctx.puAv k3)
  cases ea
  refine ⟨o, g1, ?_⟩
  cases r with
  | none => rw [g3 rfl]; exact q w H4 z n3 ((k1.trans k2).trans k3) S3 (RpE.of (r3.pure pz)) f
  | some d => obtain ⟨w', rfl, rw'⟩ := g2 d rfl; exact q w' H4 d n3 ((k1.trans k2).trans k3) S3 (RpE.of rw') f⟩
/-- x = {i: b}, an int and a bool as they are written -/
theorem ws_asgD1 {D' : DEnds} (i : Nat) {x : Str} {p' pk pv pd : Pos} {z : Int} {bv : Bool} {j1 j2 : Nat} (hN : c.X.N.Nodup) (h : ∀ q, D'.nx (δ.set i (some (.ownK q [.inl z] [.bl bv]))) n) (hi : c.X.N[i]? = some x := by rfl) (hx : Loc c.X.env.scope x := by first | exact Or.inl rfl | exact Or.inr rfl)
    (hs : swapsWith (.Dict [some (.Constant (.int z) j1 pk)] [.Constant (.bool bv) j2 pv] pd) (some (.Name x p')) pos.line c.X.env = pure false := by rfl) (hf : c.X.fn x = true ∨ c.X.env.scope.names.lookup x = some .local := by first | exact .inl rfl | exact .inr rfl) :
    WS c (.Assign [.Name x p'] (.Dict [some (.Constant (.int z) j1 pk)] [.Constant (.bool bv) j2 pv] pd) pos) δ n D' := ⟨fun b σ H DD S B E => by
  refine ps_to (ps_set hN hi hx (pe_disp (pps_cons pe_int pe_bl pps_nil) rfl rfl (by simp) (by simp)) hs hf) ?_
  intro q hq
  refine ⟨upd_same, [(.inl z, .bl bv)], rfl, by simp, ?_⟩
  have hm : mergeK [] [((.inl z : Key), V.bl bv)] = [(.inl z, .bl bv)] := rfl
  rw [upd_upd, hm]
  have g : Same H (upd H q (.dK [(.inl z, .bl bv)])) := same_new hq
  refine E.nx _ _ _ n (SlR.setOwnG S (S.grow g) (Kp.of g) i (d := .ownK q [.inl z] [.bl bv]) rfl hq (S.off hq) (S.npu hq) fun x Av e => ⟨e, _, upd_same, rfl, _, _, rfl, rfl, rfl⟩) ((B.kp (Kp.of g)).set fun r m => ?_) (h q)
  rcases (addrs_set_own (s := some (.ownK q [.inl z] [.bl bv])) (p := q) rfl).1 r m with rfl | m
  · exact .inr (B.back hq)
  · exact .inl m⟩
/-- sorted of texts -/
def SortedSR : List D → (D → Prop) → Prop := fun ds Φ => ∃ x xs, ds = [x] ∧ lstOf x = some (xs.map D.str) ∧ xs.length < 64 ∧ ∀ ys : List Str, ys.Perm xs → PyProof.Rows.sortedS ys = true → Φ (.new (ys.map D.str))
theorem Rps.strs {K : PySem.W.Frag} {Av : Addr → Prop} {H : Hp} : ∀ {ns : List Str} {vs : List V}, Rps K Av H (ns.map D.str) vs → vs = ns.map V.str
  | [], _, h => by have e : _ = _ := h; subst e; rfl
  | n :: ns, _, h => by
    obtain ⟨v, r, rfl, h1, h2⟩ := h
    have e : v = .str n := h1
    subst e
    rw [Rps.strs h2]; rfl
theorem Rps.of_strs {K : PySem.W.Frag} {Av : Addr → Prop} {H : Hp} : ∀ ns : List Str, Rps K Av H (ns.map D.str) (ns.map V.str)
  | [] => rfl
  | n :: ns => ⟨_, _, rfl, rfl, Rps.of_strs ns⟩
theorem sortedSR_ok : RCok c δ (rSortedS c.X.K) SortedSR := by
  intro σ H Hs n ds vs Φ Q S hs r h q
  obtain ⟨x, ns, rfl, e, l, f⟩ := h
  obtain ⟨v, rfl, r1⟩ := paired1 r
  obtain ⟨p, ys, rfl, h1, h2⟩ := r1.lstOf e
  have e2 := Rps.strs h2
  subst e2
  exact ⟨p, ns, rfl, .of h1, l, fun ns' l pm pw hl => q _ _ _ (same_new hl) (RpE.mkNew S hs hl (Rps.of_strs ns')) (f ns' pm pw)⟩
theorem we_sortedS {p : Pos} (hm : c.X.mg "sorted" = none) (hg : Gl c.X "sorted") (h : WA c [e] δ n fun ds n1 => SortedSR ds fun z => Φ z n1) (he : starEach [e] c.X.env = (false, eval e c.X.env) :: starEach [] c.X.env := by rfl) (hpl : (backTo pos (starEach [] c.X.env)).any (·.1) = false := by rfl) :
    WE c (.Call (.Name "sorted" p) [e] [] pos) δ n Φ := we_callB cr_sortedS sortedSR_ok hm hg (by decide +kernel) h (he := he) (hpl := hpl)
end
end DL

/-! DMh: x in, not in a list of data of any depth. -/
namespace DL
open PySem PySem.Spec PyProof.Rows L2
def InDR (neg : Bool) : D → D → (D → Prop) → Prop := fun x y Φ => ∃ ys, lstOf y = some ys ∧ shapedD x = true ∧ shapedD (.lst ys) = true ∧ Φ (.bl (if neg then !((toPys ys).any fun z => PyData.eqv z (toPy x)) else (toPys ys).any fun z => PyData.eqv z (toPy x)))
theorem lst_dp {K : PySem.W.Frag} {Av Ow : Addr → Prop} {pu : Option Addr} {Hs H : Hp} {d : D} {v : V} {ds : List D} (h : RpE K Av Ow pu Hs H d v) (e : lstOf d = some ds) (i : isPy (.lst ds) = true) : Dp K H v (.list (toPys ds)) := by
  obtain ⟨p, vs, rfl, h1, h2⟩ := h.lstOf e
  exact .lst (.of h1) (h2.dp (by simpa [isPy] using i))
theorem inD_ok {c : Ctx} {δ : DE} : R2ok c δ (rInD c.X.K) (InDR false) := by
  intro σ H Hs n x y v u Φ Q S hs rx ry h q
  obtain ⟨ys, e, s1, s2, f⟩ := h
  exact ⟨_, _, rx.dp (shapedD_split s1).1, lst_dp ry e (shapedD_split s2).1, (shapedD_split s1).2, (shapedD_split s2).2, q _ H (.bl _) (Same.refl H) rfl f⟩
theorem notInD_ok {c : Ctx} {δ : DE} : R2ok c δ (rNotInD c.X.K) (InDR true) := by
  intro σ H Hs n x y v u Φ Q S hs rx ry h q
  obtain ⟨ys, e, s1, s2, f⟩ := h
  exact ⟨_, _, rx.dp (shapedD_split s1).1, lst_dp ry e (shapedD_split s2).1, (shapedD_split s1).2, (shapedD_split s2).2, q _ H (.bl _) (Same.refl H) rfl f⟩
section
variable {c : Ctx} {δ : DE} {n : Nat} {a b : Expr} {pos : Pos} {Φ : D → Nat → Prop} {Ψ : Bool → Nat → Prop}
theorem we_inD (hu : c.X.A.units + 65 < cLine) (h : WE c a δ n fun x n1 => WE c b δ n1 fun y n2 => InDR false x y fun z => Φ z n2) (hm : behindInMarks .In b = false := by rfl) : WE c (.Compare a [.In] [b] pos) δ n Φ := we_cmp1 (op_inD hu) hm inD_ok h
theorem we_notinD (hu : c.X.A.units + 65 < cLine) (h : WE c a δ n fun x n1 => WE c b δ n1 fun y n2 => InDR true x y fun z => Φ z n2) (hm : behindInMarks .NotIn b = false := by rfl) : WE c (.Compare a [.NotIn] [b] pos) δ n Φ := we_cmp1 (op_notInD hu) hm notInD_ok h
theorem wt_inD (hu : c.X.A.units + 65 < cLine) (h : WE c a δ n fun x n1 => WE c b δ n1 fun y n2 => InDR false x y (asB Ψ n2)) (hm : behindInMarks .In b = false := by rfl) : WT c (.Compare a [.In] [b] pos) δ n Ψ := wt_cmp1 (op_inD hu) hm inD_ok h
theorem wt_notinD (hu : c.X.A.units + 65 < cLine) (h : WE c a δ n fun x n1 => WE c b δ n1 fun y n2 => InDR true x y (asB Ψ n2)) (hm : behindInMarks .NotIn b = false := by rfl) : WT c (.Compare a [.NotIn] [b] pos) δ n Ψ := wt_cmp1 (op_notInD hu) hm notInD_ok h
end
end DL

/-! DMi: x.extend(e), x an own list, e any list. -/
namespace DL
open PySem PySem.Spec PyProof.Rows L2
section
variable {c : Ctx} {δ : DE} {n : Nat} {a e t : Expr} {es : List Expr} {pos p : Pos} {D' : DEnds} {q : Addr} {xs : List D}
theorem Rps.app {K : PySem.W.Frag} {Av : Addr → Prop} {H : Hp} : ∀ {ds : List D} {vs : List V} {ds' : List D} {vs' : List V}, Rps K Av H ds vs → Rps K Av H ds' vs' → Rps K Av H (ds ++ ds') (vs ++ vs')
  | [], vs, ds', vs', h, g => by have e : vs = [] := h; subst e; exact g
  | d :: ds, vs, ds', vs', h, g => by
    obtain ⟨v, r, rfl, h1, h2⟩ := h
    exact ⟨v, r ++ vs', rfl, h1, Rps.app h2 g⟩
theorem ws_extend (i : Nat) {x : Str} {px ap cp : Pos} (hd : δ[i]? = some (some (.own q xs))) (h : WE c e δ n fun d n1 => ∃ ys, lstOf d = some ys ∧ xs.length + ys.length ≤ 16000000 ∧ D'.nx (δ.set i (some (.own q (xs ++ ys)))) n1)
    (hN : c.X.N[i]? = some x := by rfl) (hv : Vis c.X.env.scope x := by first | exact Or.inl rfl | exact Or.inr (Or.inl rfl) | exact Or.inr (Or.inr rfl)) (h1 : (x == ("__debug__" : Str)) = false := by decide) (h2 : (x == ("__classdict__" : Str)) = false := by decide)
    (hbase : attributeBase (.Name x px) "extend" c.X.env (eval (.Name x px) c.X.env) = eval (.Name x px) c.X.env := by rfl)
    (hfew : ((backTo cp (starEach [e] c.X.env)).all (fun x => !x.1) && (backToKw cp (keywordEach [] c.X.env)).all (fun x => x.1.isSome) && decide ([e].length + ([] : List Keyword).length + (if ([] : List Keyword).isEmpty then 0 else 1) < 30)) = true := by rfl)
    (hline : (ap.endLine == cp.line) = true := by rfl) (hs : starEach [e] c.X.env = (false, eval e c.X.env) :: starEach [] c.X.env := by rfl) (hpl : (backTo cp (starEach [] c.X.env)).any (·.1) = false := by rfl)
    (hsw : swapsWith (.Call (.Attribute (.Name x px) "extend" ap) [e] [] cp) none pos.line c.X.env = pure false := by rfl) :
    WS c (.Expr (.Call (.Attribute (.Name x px) "extend" ap) [e] [] cp) pos) δ n D' := ⟨fun b σ H DD S B E => by
  refine ps_to (ps_expr (pe_bm PySem.F.plainAttrs_list PySem.F.slot_list_extend PySem.F.type_list_extend mt_extend (pe_var hN hv h1 h2) (pa_cons pe_w pa_nil hs) hbase hfew hline hs hpl) hsw) ?_
  obtain ⟨ev, vs, hl, hr⟩ := S.sl i _ hd
  refine ⟨.ref q, ev, .inl ⟨rfl, vs, .of hl⟩, ?_⟩
  refine h.run σ H _ S fun v H2 d n1 k1 S1 r1 ⟨ys, ey, l, f⟩ => ?_
  obtain ⟨ev2, vs2, hl2, hr2⟩ := S1.sl i _ hd
  obtain ⟨p', us, rfl, g1, g2⟩ := r1.lstOf ey
  refine ⟨q, p', vs2, us, rfl, rfl, hl2, g1, Nat.le_trans (by rw [← hr2.length, ← g2.length]; exact l) (by decide : 16000000 ≤ sizeLine), ?_⟩
  have pm := mem_addrs hd rfl
  have mt4 : ∀ a o, ¬ c.Av δ a → H2 a = some o → upd H2 q (.lst (vs2 ++ us)) a = some o := fun a o na e => by
    rw [upd_ne (ne_by (fun a => ¬ c.Av δ a) na fun w => w (.inr (.inr pm)))]; exact e
  have sl : SlAt c.X.K (c.Av δ) c.pu (upd H2 q (.lst (vs2 ++ us))) (some (.own q (xs ++ ys))) (σ[i]?) := ⟨ev2, _, upd_same, (Rps.app hr2 g2).mv (fun a z => .inl z) mt4⟩
  exact E.nx _ _ _ n1 (S1.mutOwn hd rfl rfl sl) ((B.kp k1).mutOwn hd rfl rfl) f⟩
/-- x = {y: b}, y a name that holds an int -/
theorem ws_asgD1v (i k : Nat) {x y : Str} {p' py pv pd : Pos} {z : Int} {bv : Bool} {j2 : Nat} (hN : c.X.N.Nodup) (hk : δ[k]? = some (some (.int z))) (h : ∀ q, D'.nx (δ.set i (some (.ownK q [.inl z] [.bl bv]))) n) (hi : c.X.N[i]? = some x := by rfl) (hy : c.X.N[k]? = some y := by rfl)
    (hv : Vis c.X.env.scope y := by first | exact Or.inl rfl | exact Or.inr (Or.inl rfl) | exact Or.inr (Or.inr rfl)) (h1 : (y == ("__debug__" : Str)) = false := by decide) (h2 : (y == ("__classdict__" : Str)) = false := by decide)
    (hx : Loc c.X.env.scope x := by first | exact Or.inl rfl | exact Or.inr rfl)
    (hs : swapsWith (.Dict [some (.Name y py)] [.Constant (.bool bv) j2 pv] pd) (some (.Name x p')) pos.line c.X.env = pure false := by rfl) (hf : c.X.fn x = true ∨ c.X.env.scope.names.lookup x = some .local := by first | exact .inl rfl | exact .inr rfl) :
    WS c (.Assign [.Name x p'] (.Dict [some (.Name y py)] [.Constant (.bool bv) j2 pv] pd) pos) δ n D' := ⟨fun b σ H DD S B E => by
  refine ps_to (ps_set hN hi hx (pe_disp (pps_cons (pe_var hy hv h1 h2) pe_bl pps_nil) rfl rfl (by simp) (by simp)) hs hf) ?_
  intro q hq
  obtain ⟨v, ev, r⟩ := S.sl k _ hk
  have r : v = .int z := r
  subst r
  refine ⟨.int z, ev, upd_same, [(.inl z, .bl bv)], rfl, by simp, ?_⟩
  have hm : mergeK [] [((.inl z : Key), V.bl bv)] = [(.inl z, .bl bv)] := rfl
  rw [upd_upd, hm]
  have g : Same H (upd H q (.dK [(.inl z, .bl bv)])) := same_new hq
  refine E.nx _ _ _ n (SlR.setOwnG S (S.grow g) (Kp.of g) i (d := .ownK q [.inl z] [.bl bv]) rfl hq (S.off hq) (S.npu hq) fun x Av e => ⟨e, _, upd_same, rfl, _, _, rfl, rfl, rfl⟩) ((B.kp (Kp.of g)).set fun r m => ?_) (h q)
  rcases (addrs_set_own (s := some (.ownK q [.inl z] [.bl bv])) (p := q) rfl).1 r m with rfl | m
  · exact .inr (B.back hq)
  · exact .inl m⟩
end
end DL

/-! DMj: a != b of two objects of a class with its own == alone; the truth of an object by its own __bool__. -/
namespace L2
open PySem PySem.Spec PyProof.Rows
section
variable {prog : Program} {w : World} {A : Around} {E : Value → Shared → Prop} {s : Shared} {K : PySem.W.Frag} {x C L f : Addr} {h₀ : Heap} {m : Str → Option Value} {ox : Obj} {od : Option Obj} {b : Value}
open PySem.W
theorem ifBound_ne {M : Model} {args : List Value} {Q : Option Value → Shared → Prop} (X : K.In s.heap) (I : InstAt s.heap x ox C od) (hs : findIn K (.ref C) "__ne__" = some (some (.builtin "object.__ne__")))
    (h : wpAny M A (call (.builtin "object.__ne__") (.ref x :: args)) (fun v => Q (some v)) E s) : wpAny M A (callSpecialIfBound? (.ref x) "__ne__" args) Q E s := by
  simp only [callSpecialIfBound?, bindSpecialIfBound?]
  refine wpAny_holding (wpAny_bind (wpAny_bind (wpAny_bind (I.type.here ((looks_findIn X hs).here ?_)))))
  refine wpAny_bind (wpAny_askSetting (wpAny_ite ?_))
  have fin : wpAny M A (call (.builtin "object.__ne__") ([.ref x] ++ args) >>= fun v => pure (some v)) Q E s := wpAny_bind (wpAny_mono h (fun v s' h' => wpAny_pure h') fun _ _ h' => h')
  have bd : Looks M s.heap (bindSpecial (.builtin "object.__ne__") (.ref x)) (.builtin "object.__ne__", [.ref x]) := Looks.of_pure (PySem.F.cmp_object.ne.bind _)
  split
  · exact wpAny_bind (bd.here (wpAny_pure (by exact fin)))
  · exact wpAny_tryCatch (wpAny_bind (bd.here (wpAny_pure (by exact fin))))
open Builtin in
theorem call_ne {Q : Value → Shared → Prop} (hu : A.in1.units < cLine) (X : K.In s.heap) (I : InstAt s.heap x ox C od) (hm : mroIn K C (.type "object") = some true) (heq : findIn K (.ref C) "__eq__" = some (some (.ref f))) (hf : isFn K (.ref f) = true)
    (h : wpAny (model prog w) A.in1 (call (.ref f) [.ref x, b]) (fun v s' => ∃ z, v = .bool z ∧ Q (.bool (!z)) s') E s) : wpAny (model prog w) A (call (.builtin "object.__ne__") [.ref x, b]) Q E s := by
  refine wpAny_call (codeAny_call_builtin PySem.F.cmp_object.ne.plain PySem.F.cmpEntry_ne (check_slot (i := "object.__ne__") (owner := "object") (n := "__ne__") PySem.F.cmpKind_ne PySem.F.cmpSplit_ne (I.type.andThen (looks_mroIn X hm)) (PySem.F.cmpArgs_ne _ _) ?_))
  unfold Builtin.«object.__ne__»
  repeat (first
    | with_reducible refine wpAny_cRoomFor hu ?_
    | (refine wpAny_bind (m := callSpecialIfBound? (.ref x) (Str.ofString "__eq__") [b])
        (ifBound_K X I heq hf (wpAny_mono h (fun r s' hr => by
          obtain ⟨b, rfl, hq⟩ := hr
          repeat (first | exact hq | exact wpAny_pure hq | exact wpAny_truthy_bool hq | (refine wpAny_bind (m := truthy (.bool _)) (wpAny_truthy_bool ?_)) | wp_step)) fun _ _ e => e)))
    | wp_step)
theorem ne_K {Q : Value → Shared → Prop} (hu : A.units + 1 < cLine) (F : Fr h₀ L s.heap m) (X₀ : K.In h₀) (I : InstAt s.heap x ox C od) (hb : Looks (model prog w) s.heap (typeOf b) (.ref C))
    (hne : findIn K (.ref C) "__ne__" = some (some (.builtin "object.__ne__"))) (heq : findIn K (.ref C) "__eq__" = some (some (.ref f))) (hf : isFn K (.ref f) = true) (hm : mroIn K C (.type "object") = some true)
    (h : wpAny (model prog w) A.in1 (call (.ref f) [.ref x, b]) (fun v s' => ∃ z, v = .bool z ∧ Q (.bool (!z)) s') E s) : wpAny (model prog w) A (richCompare .NotEq (.ref x) b) Q E s := by
  have X := X₀.keeps F.keep
  have one : wpAny (model prog w) A (tryCompare (.ref x) "__ne__" b) (fun r s' => ∃ v, r = some v ∧ Q v s') E s := by
    unfold tryCompare
    refine wpAny_bind (ifBound_ne X I hne (call_ne hu X I hm heq hf (wpAny_mono h (fun v s' hv => ?_) fun _ _ e => e)))
    obtain ⟨z, rfl, hq⟩ := hv
    exact ⟨z, rfl, wpAny_pure ⟨_, rfl, hq⟩⟩
  unfold richCompare
  simp only [oneThing_ref]
  refine wpAny_holding (wpAny_bind (wpAny_cRoomFor (Nat.lt_of_succ_lt hu) ?_))
  refine wpAny_bind (I.type.here (wpAny_bind (hb.here ?_)))
  rw [show (Value.ref C != Value.ref C) = false from by simp]
  simp only [Bool.false_eq_true, if_false]
  refine wpAny_bind (wpAny_pure ?_)
  simp only [Bool.false_eq_true, if_false]
  refine wpAny_bind (wpAny_mono one (fun r s' z => ?_) fun _ _ e => e)
  obtain ⟨v, rfl, hq⟩ := z
  exact wpAny_pure hq
end
section
variable {X : Cx} {C f : Addr} {fd : FuncData} {ps : List Str} {sp : Sp} {k : Nat} {pins : List (Addr × Obj)} {σ : List (Option V)} {H : Hp} {s : Shared}
theorem inv_in1 (I : Inv X pins σ H s) : Inv { X with A := X.A.in1 } pins σ H s :=
  ⟨⟨I.ok.mod, I.ok.kind, I.ok.glob, I.ok.blt, I.ok.above, I.ok.inj, I.ok.has, I.ok.cab, I.ok.hd, I.ok.frames, I.ok.stk, I.ok.exf, I.ok.bs, I.ok.bsz, I.ok.noex, I.ok.exfs, I.ok.funs, I.ok.frf⟩, I.os, I.bare, I.base, I.loc, I.cell, I.free, I.freeC, I.pin, I.hok, I.len⟩
theorem inv_out1 (ok : X.Ok) (I : Inv { X with A := X.A.in1 } pins σ H s) : Inv X pins σ H s :=
  ⟨ok, I.os, I.bare, I.base, I.loc, I.cell, I.free, I.freeC, I.pin, I.hok, I.len⟩
def rNeO (K : PySem.W.Frag) (C : Addr) (sp : Sp) : R2 := fun x y H Q => ∃ a b dx dy fs gs, x = .ref a ∧ y = .ref b ∧ H a = some (.ins C dx fs) ∧ H b = some (.ins C dy gs) ∧ sp [x, y] H (fun v H' => ∃ k, v = .bl k ∧ Q (.bl (!k)) H') E0
theorem op_neO (F : FnOk X.prog X.w X.K X.mg X.base CX0 k f fd ps sp) (hne : PySem.W.findIn X.K (.ref C) "__ne__" = some (some (.builtin "object.__ne__"))) (hs : PySem.W.findIn X.K (.ref C) "__eq__" = some (some (.ref f))) (hf : PySem.W.isFn X.K (.ref f) = true)
    (hm : PySem.W.mroIn X.K C (.type "object") = some true) (hb : Binds X.K fd ps []) (hr : Room (k + 1) X.A) : OpR X (compareOp .NotEq) (rNeO X.K C sp) := by
  intro pins s σ H x y v u Q I rx ry h
  obtain ⟨a, b, dx, dy, fs, gs, rfl, rfl, ha, hb', h⟩ := h
  cases rx
  cases ry
  obtain ⟨mA, J, _⟩ := ins_get I.hok ha
  obtain ⟨mB, J', _⟩ := ins_get I.hok hb'
  obtain ⟨od, J, _⟩ := J.look
  obtain ⟨od', J', _⟩ := J'.look
  obtain ⟨m, hF⟩ := I.fr
  show wpAny (model X.prog X.w) X.A (richCompare .NotEq (.ref a) (.ref b)) (EP X pins σ Q) X.xe s
  refine ne_K (by have := hr.units; omega) hF I.ok.mod.kin J J'.type hne hs hf hm ?_
  refine wpAny_mono (run_fn (X := { X with A := X.A.in1 }) (vs := [.ref a, .ref b]) (us := [.ref a, .ref b]) F hr.in1 hb .nil pass0 (inv_in1 I) (.cons rfl (.cons rfl .nil)) (by rw [List.append_nil]; exact h)) (fun r s' q => ?_) fun _ _ x => x
  obtain ⟨z, H', I', rz, kk, rfl, q⟩ := q
  cases rz
  exact ⟨kk, rfl, .bl _, H', inv_out1 I.ok I', rfl, q⟩
end
end L2
namespace DL
open PySem PySem.Spec PyProof.Rows L2
def NeO (C : Addr) (ns : List Str) (sp : DSp) : D → D → (D → Prop) → Prop := fun x y Φ => ∃ fs gs, x = .obj C ns fs ∧ y = .obj C ns gs ∧ sp [x, y] fun d => ∃ k, d = .bl k ∧ Φ (.bl (!k))
theorem neO_ok {c : Ctx} {δ : DE} {C : Addr} {ns : List Str} {sp : DSp} : R2ok c δ (rNeO c.X.K C (spD c.X.K sp)) (NeO C ns sp) := by
  intro σ H Hs n x y v u Φ Q S hs rx ry h q
  obtain ⟨fs, gs, rfl, rfl, h⟩ := h
  obtain ⟨a, dx, es, rfl, n1, i1, _, _⟩ := id rx
  obtain ⟨b, dy, es', rfl, n2, i2, _, _⟩ := id ry
  refine ⟨a, b, dx, dy, es, es', rfl, rfl, i1, i2, c.Av δ, [.obj C ns fs, .obj C ns gs], _, fun a m => S.av_nt m, ⟨_, _, rfl, rx.pure rfl, _, _, rfl, ry.pure rfl, rfl⟩, h, fun d v H4 f sm rv => ?_⟩
  obtain ⟨kk, rfl, f⟩ := f
  rcases rv with ⟨_, rv⟩ | ⟨ds, p, vs, e, _⟩ | ⟨_, _, _, _, e, _⟩ | ⟨_, _, _, _, _, _, e, _⟩
  · have e2 : v = .bl kk := rv
    subst e2
    exact ⟨kk, rfl, q _ H4 (.bl (!kk)) sm rfl f⟩
  · cases e
  · cases e
  · cases e
/-- what a class without its own != is asked -/
structure NeC (K : PySem.W.Frag) (C : Addr) : Prop where
  ne : PySem.W.findIn K (.ref C) "__ne__" = some (some (.builtin "object.__ne__"))
  mro : PySem.W.mroIn K C (.type "object") = some true
section
variable {c : Ctx} {δ : DE} {n : Nat} {a b e : Expr} {pos p : Pos} {Φ : D → Nat → Prop} {Ψ : Bool → Nat → Prop} {C : Addr} {ns : List Str} {sp : DSp} {ps : List Str} {k : Nat}
theorem we_neO (NC : NeC c.X.K C) (M : Mth c.X.prog c.X.w c.X.K c.X.mg c.X.base C "__eq__" ps k (spD c.X.K sp)) (hr : Room (k + 1) c.X.A)
    (h : WE c a δ n fun x n1 => WE c b δ n1 fun y n2 => NeO C ns sp x y fun z => Φ z n2) (hmk : behindInMarks .NotEq b = false := by rfl) : WE c (.Compare a [.NotEq] [b] pos) δ n Φ := by
  obtain ⟨f, fd, hm, hb, F⟩ := M.ex
  exact we_cmp1 (op_neO F NC.ne hm.at_ hm.fn NC.mro hb hr) hmk neO_ok h
theorem wt_neO (NC : NeC c.X.K C) (M : Mth c.X.prog c.X.w c.X.K c.X.mg c.X.base C "__eq__" ps k (spD c.X.K sp)) (hr : Room (k + 1) c.X.A)
    (h : WE c a δ n fun x n1 => WE c b δ n1 fun y n2 => NeO C ns sp x y fun z => ∃ k, z = .bl k ∧ Ψ k n2) (hmk : behindInMarks .NotEq b = false := by rfl) : WT c (.Compare a [.NotEq] [b] pos) δ n Ψ := by
  obtain ⟨f, fd, hm, hb, F⟩ := M.ex
  exact wt_cmp1 (op_neO F NC.ne hm.at_ hm.fn NC.mro hb hr) hmk neO_ok h
end
end DL

/-! DMw: xs[::-1]. -/
namespace DL
open PySem PySem.Spec PyProof.Rows L2
section
variable {c : Ctx} {δ : DE} {n : Nat} {pos : Pos} {a : Expr} {Φ : D → Nat → Prop}
theorem rps_rev {K : PySem.W.Frag} {Av : Addr → Prop} {H : Hp} : ∀ {ds : List D} {vs : List V}, Rps K Av H ds vs → Rps K Av H ds.reverse vs.reverse
  | [], vs, h => by
    have h : vs = [] := h
    subst h; exact rfl
  | d :: ds, vs, ⟨v, r, e, h1, h2⟩ => by
    subst e
    rw [List.reverse_cons, List.reverse_cons]
    exact (rps_rev h2).append ⟨v, [], rfl, h1, rfl⟩
theorem we_revL {k : Nat} {p1 p2 p3 : Pos} (h : WE c a δ n fun x n1 => ∃ xs, lstOf x = some xs ∧ Φ (.new xs.reverse) n1) : WE c (.Subscript a (.Slice none none (some (.UnaryOp .USub (.Constant (.int 1) k p1) p2)) p3) pos) δ n Φ := ⟨fun σ H Q S q => by
  refine pe_to (pe_revL pe_w) ?_
  refine h.run σ H _ S fun v H2 x n1 k1 S1 r1 ⟨xs, e, f⟩ => ?_
  obtain ⟨p, vs, rfl, h3, h4⟩ := r1.lstOf e
  refine ⟨p, vs, rfl, .of h3, fun p2 hp => ?_⟩
  exact q _ _ _ n1 (k1.trans (Kp.new hp)) (S1.grow (same_new hp)) (RpE.mkNew S1 (fun p z => Kp.back S S1 k1 z) hp (rps_rev h4)) f⟩
end
end DL

/-! DNi: own exceptions made in an expression, by position, by name, with nothing; their field; isinstance of them. -/
namespace PySem
namespace EVX
open PySem.W PySem.Calls PySem.HandSPX
section
variable {M : Model} {A : Around} {E : Value → Shared → Prop} {h : Heap} {g : Array GenState} {d : Drawn} {t : Nat} {os : OsState}
variable {nm q : Str} {C N : Addr} {bs bm bmB : List Value} {hdct : Bool} {sn : List Str} {sub : List Value} {ab : Bool} {col : Option Bool} {dd : Option Addr} {k0 k1 k2 k3 k5 : Option Value} {B newId initId : String}
theorem check_new_kw (F : ExcBaseFacts B newId initId bmB) (hT : ∀ X : String, bm.contains (.type X) = bmB.contains (.type X)) {kn : Str} {kv : Value} {Q : Unit → Shared → Prop}
    (hC : h.get? C = some (excClassObj nm q C N bs bm hdct sn sub ab col dd k0 k1 k2 k3 k5 newId)) (hq : Q () ⟨h, g, d, t, os⟩) : wpAny M A (checkBuiltinCall newId ⟨[.ref C], [(kn, kv)]⟩) Q E ⟨h, g, d, t, os⟩ := by
  have hcont : (Value.ref C :: bm).contains (.type B) = true := by rw [List.contains_cons, hT, F.hasB, Bool.or_true]
  have hstar := F.noStar
  simp only [checkBuiltinCall, F.newKind, F.newSplit, F.newRow]
  repeat (first | refine wpAny_loadPart_at hC ?_ | (refine wpAny_isSubtype_exc hC ?_; rw [hcont]) | refine wpAny_staticBase_exc hC ?_ | refine wpAny_madeBy_exc hC ?_ | simp only [bne_self_eq_false, Bool.false_eq_true, if_false] | wp_step)
  exact hq
end
section
variable {prog : Program} {w : World} {A : Around} {E : Value → Shared → Prop} {R : Result → Shared → Prop} {h : Heap} {g : Array GenState} {d : Drawn} {t : Nat} {os : OsState}
variable {nm q : Str} {C N : Addr} {bs bm bmB : List Value} {hdct : Bool} {sn : List Str} {sub : List Value} {ab : Bool} {col : Option Bool} {dd : Option Addr} {k0 k1 k2 k3 k5 : Option Value} {B newId initId : String}
theorem new_kw (F : ExcBaseFacts B newId initId bmB) (hT : ∀ X : String, bm.contains (.type X) = bmB.contains (.type X)) {kn : Str} {kv : Value}
    (hC : h.get? C = some (excClassObj nm q C N bs bm hdct sn sub ab col dd k0 k1 k2 k3 k5 newId))
    (hq : R (.ok (.ret (.ref (h.objs.size + 1)))) ⟨(h.push { cls := .type "tuple", data := .seq ([] : List Value).toArray }).push
      { cls := .ref C, data := .fields #[.ref h.objs.size, .none, .none, .none, .bool false, .none] }, g, d, t, os⟩) :
    codeAny (model prog w) A (.builtin newId ⟨[.ref C], [(kn, kv)]⟩) R ⟨h, g, d, t, os⟩ := by
  have hends := F.ends
  have hcB : (Value.ref C :: bm).contains (.type B) = true := by rw [List.contains_cons, hT, F.hasB, Bool.or_true]
  have hcA : (Value.ref C :: bm).contains (.type "AttributeError") = false := by rw [List.contains_cons, hT, F.noAttr]; rfl
  have hcN : (Value.ref C :: bm).contains (.type "NameError") = false := by rw [List.contains_cons, hT, F.noName]; rfl
  have hrest : ([] : List Value).length ≤ sizeLine := Nat.zero_le _
  refine codeAny_builtinAt F.entry ?_
  unfold Builtin.«BaseException.__new__»
  refine wpAt_bind ?_
  show wpAt _ _ _ (stack >>= _) _ _ _
  refine wpAt_bind (wpAt_stack fun p below => wpAt_of_wpAny ?_)
  wp_walk
  refine wpAt_of_wpAny ?_
  rw [F.owner]
  repeat (first | with_reducible refine wpAny_madeHere_exc F.canon hC ?_ | with_reducible refine wpAny_loadPart_at hC ?_ | (with_reducible refine wpAny_isSubtype_exc hC ?_; first | rw [hcB] | rw [hcA] | rw [hcN]) | wp_step)
  show R _ _
  rw [Heap.size_push]
  exact hq
theorem type_call_kw (F : ExcBaseFacts B newId initId bmB) (hT : ∀ X : String, bm.contains (.type X) = bmB.contains (.type X)) {kn : Str} {kv : Value} {fI : Addr} {Q : Fin → Shared → Prop}
    (hC : h.get? C = some (excClassObj nm q C N bs bm hdct sn sub ab col dd k0 k1 k2 k3 k5 newId))
    (hi : W.Looks (model prog w) h (typeLookup (.ref C) "__init__") (some (.ref fI))) (hb : ∀ self, W.Looks (model prog w) h (bindSpecial (.ref fI) self) (.ref fI, [self]))
    (hq : codeAny (model prog w) A (.call (.ref fI) ⟨[.ref (h.objs.size + 1)], [(kn, kv)]⟩)
      (fun r s' => match r with | .ok (.ret v) => v = .none ∧ Q (.done (.ret (.ref (h.objs.size + 1)))) s' | .ok _ => False | .error e => E e s')
      ⟨(h.push (W.kdv_tup [])).push (excO C h.objs.size), g, d, t, os⟩) :
    wpAny (model prog w) A (Builtin.«type.__call__» ⟨[.ref C], [(kn, kv)]⟩) Q E ⟨h, g, d, t, os⟩ := by
  repeat (first | with_reducible refine wpAny_loadPart_at hC ?_ | with_reducible refine wpAny_madeBy_exc hC ?_ | wp_step)
  refine codeAny_call_builtin_code (Code.quiet_builtin _ F.quiet) (check_new_kw F hT hC ?_)
  refine new_kw F hT hC ?_
  show wpAny _ _ _ _ _ _
  have k : ∀ b o, h.get? b = some o → ((h.push (W.kdv_tup [])).push (excO C h.objs.size)).get? b = some o := fun b o e => Heap.get?_push_of_some _ (Heap.get?_push_of_some _ e)
  have hC₁ := k _ _ hC
  have hget : ((h.push (W.kdv_tup [])).push (excO C h.objs.size)).get? (h.objs.size + 1) = some (excO C h.objs.size) := by heap_get
  have hcC : (Value.ref C :: bm).contains (.ref C) = true := by simp
  have i1 := hi.keeps k
  have b1 := (hb (.ref (h.objs.size + 1))).keeps k
  unfold isInstance
  repeat (first | with_reducible refine wpAny_loadPart_at hget ?_ | (with_reducible refine wpAny_isSubtype_exc hC₁ ?_; rw [hcC]) | wp_step)
  show wpAny _ _ (typeLookup (.ref C) _) _ _ _
  refine i1.at ?_
  refine wpAny_holding (wpAny_bind (b1.at ?_))
  refine wpAny_bind (wpAny_call (codeAny_mono hq fun r s' z => ?_))
  rcases r with e | (v | _ | _ | _) <;> first | exact z | exact z.elim | skip
  obtain ⟨rfl, z⟩ := z
  first
    | exact wpAny_pure (wpAny_pure z)
    | (wp_walk; exact z)
theorem check_tc_kw {kn : Str} {kv : Value} {Q : Unit → Shared → Prop} (hC : h.get? C = some (excClassObj nm q C N bs bm hdct sn sub ab col dd k0 k1 k2 k3 k5 newId))
    (hq : Q () ⟨h, g, d, t, os⟩) : wpAny (model prog w) A (checkBuiltinCall "type.__call__" ⟨[.ref C], [(kn, kv)]⟩) Q E ⟨h, g, d, t, os⟩ := by
  have f3 := tc_sub
  have hT : (⟨h, g, d, t, os⟩ : Shared).TypeIs (.ref C) "type" := ⟨_, hC, rfl⟩
  simp only [checkBuiltinCall, tc_kind, tc_split]
  repeat (any_goals (first | assumption | with_reducible refine wpAny_loadPart_at hC ?_ | with_reducible refine wpAny_onRaise ?_ | with_reducible refine wpAny_map ?_ | wp_step))
theorem call_kw (F : ExcBaseFacts B newId initId bmB) (hT : ∀ X : String, bm.contains (.type X) = bmB.contains (.type X)) {kn : Str} {kv : Value} {fI : Addr}
    (hC : h.get? C = some (excClassObj nm q C N bs bm hdct sn sub ab col dd k0 k1 k2 k3 k5 newId))
    (hi : W.Looks (model prog w) h (typeLookup (.ref C) "__init__") (some (.ref fI))) (hb : ∀ self, W.Looks (model prog w) h (bindSpecial (.ref fI) self) (.ref fI, [self]))
    (hq : codeAny (model prog w) (A.under (.builtin "type.__call__" ⟨[.ref C], [(kn, kv)]⟩)) (.call (.ref fI) ⟨[.ref (h.objs.size + 1)], [(kn, kv)]⟩) (W.InitBack (h.objs.size + 1) R)
      ⟨(h.push (W.kdv_tup [])).push (excO C h.objs.size), g, d, t, os⟩) :
    codeAny (model prog w) A (.call (.ref C) ⟨[], [(kn, kv)]⟩) R ⟨h, g, d, t, os⟩ := by
  have f1 := tc_lookup
  have f2 := tc_bind (.ref C)
  have hTy : (⟨h, g, d, t, os⟩ : Shared).TypeIs (.ref C) "type" := ⟨_, hC, rfl⟩
  refine codeAny_of_tree ?_
  show wpAny _ _ (callAny (.ref C) _) _ _ _
  repeat (any_goals (first | assumption | with_reducible refine wpAny_loadPart_at hC ?_ | wp_step))
  refine ⟨rfl, ?_⟩
  refine codeAny_call_builtin_at (Code.quiet_builtin _ (by decide +kernel)) entry_typeCall ?_
  refine check_tc_kw hC (type_call_kw F hT hC hi hb ?_)
  refine codeAny_mono hq fun r s' z => ?_
  rcases r with e | (v | _ | _ | _) <;> exact z
end
end EVX
end PySem
namespace L2
open PySem PySem.Spec PyProof.Rows
section
variable {X : Cx} {pins : List (Addr × Obj)} {σ : St} {H H1 H2 : Hp} {s : Shared}
/-- the end of C(e, ..), the exception kept -/
theorem mk_keep {hp hp2 h2 : Heap} {g1 g2 : Array GenState} {d1 d2 : Drawn} {t1 t2 : Nat} {os1 os2 : OsState} {a C d : Addr} {fs : List (Str × V)} (I1 : Inv X pins σ H1 ⟨hp, g1, d1, t1, os1⟩)
    (ha : hp.objs.size ≤ a) (k : ∀ b o, hp.get? b = some o → hp2.get? b = some o) (un : Un (frs X.stack) [] (upd H1 a (exo a C none)) H2 hp2 h2) (hok : HOk X.prog X.w H2 h2) (ho : os2 = os1) (hb : AllBare g2)
    (ea : H2 a = some (exo a C (some d))) (ed : H2 d = some (exd d fs)) (hd1 : H1 d = none) :
    Inv X pins σ (upd (upd H2 a (DL.exq a C d)) d (.xd fs)) ⟨h2, g2, d2, t2, os2⟩ ∧ d ≠ a ∧ H1 a = none := by
  obtain ⟨t0, hoe⟩ := exo_at hok ea
  obtain ⟨mA, hns, rel⟩ := exd_at hok ed
  have hn : H1 a = none := I1.hok.fresh ha
  have hda : d ≠ a := fun z => by
    obtain ⟨o, es, ep, e1, e2, _⟩ := hns
    rw [z, hoe] at e1
    have z2 := Option.some.inj e1
    subst z2
    cases e2
  have nha : ∀ {b : Addr} {o : Obj}, hp.get? b = some o → b ≠ a := fun {b o} z => Nat.ne_of_lt (Nat.lt_of_lt_of_le (Heap.lt_size z) ha)
  have up : ∀ {b : Addr}, b ≠ a → H1 b = none → upd H1 a (exo a C none) b = none := fun {b} hb n => by rw [upd_ne hb]; exact n
  have nd : ∀ {b : Addr} {o : Obj}, hp.get? b = some o → H1 b = none → b ≠ d := fun {b o} z n e => by
    have y := un.free b o (k b o z) (up (nha z) n) (by simp)
    rw [e, ed] at y
    cases y
  have U : Un (frs X.stack) [] H1 (upd (upd H2 a (DL.exq a C d)) d (.xd fs)) hp h2 := {
    keep := fun b o z n hf hx => un.keep b o (k b o z) (up (nha z) n) hf hx
    slot := fun b o z n hf hx => un.slot b o (k b o z) (up (nha z) n) hf hx
    free := fun b o z n hx => by
      rw [upd_ne (nd z n), upd_ne (nha z)]
      exact un.free b o (k b o z) (up (nha z) n) hx
    there := fun b o z hx => un.there b o (k b o z) hx
    tups := fun b xs z => by
      rw [upd_ne (ne_of_none z hd1), upd_ne (ne_of_none z hn)]
      exact un.tups b xs (by rw [upd_ne (ne_of_none z hn)]; exact z)
    frzs := fun b o v z => by
      rw [upd_ne (ne_of_none z hd1), upd_ne (ne_of_none z hn)]
      exact un.frzs b o v (by rw [upd_ne (ne_of_none z hn)]; exact z)
    tbls := fun b ps z => by
      rw [upd_ne (ne_of_none z hd1), upd_ne (ne_of_none z hn)]
      exact un.tbls b ps (by rw [upd_ne (ne_of_none z hn)]; exact z) }
  have hok3 : HOk X.prog X.w (upd (upd H2 a (DL.exq a C d)) d (.xd fs)) h2 := fun b o z => by
    by_cases hbd : b = d
    · subst hbd
      rw [upd_same] at z
      cases z
      exact ⟨mA, hns, rel⟩
    · rw [upd_ne hbd] at z
      by_cases hba : b = a
      · subst hba
        rw [upd_same] at z
        cases z
        exact exq_ok hoe ⟨rfl, rfl⟩ rfl
      · rw [upd_ne hba] at z
        exact (hok b o z).stay (fun c v hc y => y)
          (fun c hc => by rw [upd_ne (at_ne ed hc exd_own), upd_ne (at_ne ea hc exo_own)]; exact hc) (fun c xs hc => by rw [upd_ne (at_ne ed hc exd_tup), upd_ne (at_ne ea hc exo_tup)]; exact hc)
  exact ⟨I1.call' (ch := []) ho U hok3 hb (fun b z => absurd z (by simp)), hda, hn⟩
end
/-- how an exception of the class at C is made of the values vs (dvs: the defaults) -/
def tExE (C : Addr) (sp : Sp) (dvs : List V) (ta : TA) : TE := fun σ H Q => ta σ H fun vs H1 => vs.length ≤ 1000 ∧ ∀ a, H1 a = none → sp (.ref a :: (vs ++ dvs)) (upd H1 a (exo a C none))
  (fun v H2 => v = .non ∧ ∃ (d : Addr) (fs : List (Str × V)), H2 a = some (exo a C (some d)) ∧ H2 d = some (exd d fs) ∧ H1 d = none ∧ (d ≠ a → Q (.ref a) (upd (upd H2 a (DL.exq a C d)) d (.xd fs)))) (fun _ _ _ => False)
section
variable {X : Cx} {CX : CXT} {x : Str} {e : Expr} {es : List Expr} {ta : TA} {p pos : Pos} {C fI : Addr} {k : Nat} {fd : FuncData} {ps : List Str} {sp : Sp} {ds : List Value} {dvs : List V}
theorem run_oex {pins : List (Addr × Obj)} {σ : St} {H1 : Hp} {s1 : Shared} {Q : VK} {us : List Value} {vs : List V} (T : OexC X.K C) (iC : PySem.W.findIn X.K (.ref C) "__init__" = some (some (.ref fI))) (tI : PySem.W.typeIn X.K (.ref fI) = some (.type "function"))
    (F1 : FnOk X.prog X.w X.K X.mg X.base CX k fI fd ps sp) (hr : Room (k + 1) X.A) (hb : Binds X.K fd ps ds) (hd : Vals dvs ds) (hx : Passes CX X (fun _ _ _ => False))
    (I1 : Inv X pins σ H1 s1) (r1 : Vals vs us) (hz : vs.length ≤ 1000)
    (q1 : ∀ a, H1 a = none → sp (.ref a :: (vs ++ dvs)) (upd H1 a (exo a C none)) (fun v H2 => v = .non ∧ ∃ (d : Addr) (fs : List (Str × V)), H2 a = some (exo a C (some d)) ∧ H2 d = some (exd d fs) ∧ H1 d = none ∧ (d ≠ a → Q (.ref a) (upd (upd H2 a (DL.exq a C d)) d (.xd fs)))) (fun _ _ _ => False)) :
    wpAny (model X.prog X.w) X.A (call (.ref C) us) (EP X pins σ Q) X.xe s1 := by
  obtain ⟨nm, q, N, bs, bm, sn, sub, ab, col, dd, k0, k1, k2, k3, k5, hC, hbm⟩ := T.cls
  obtain ⟨hp, g, dr, tk, os⟩ := s1
  have hsz : hp.objs.size ≤ hp.objs.size + 1 := Nat.le_succ _
  have hn : H1 (hp.objs.size + 1) = none := I1.hok.fresh hsz
  have hq := q1 (hp.objs.size + 1) hn
  have kk : ∀ b o, hp.get? b = some o → ((hp.push (PySem.W.kdv_tup us)).push (PySem.HandSPX.excO C hp.objs.size)).get? b = some o := fun b o e => Heap.get?_push_of_some _ (Heap.get?_push_of_some _ e)
  have hget : ((hp.push (PySem.W.kdv_tup us)).push (PySem.HandSPX.excO C hp.objs.size)).get? (hp.objs.size + 1) = some (PySem.HandSPX.excO C hp.objs.size) := by heap_get
  have I2 : Inv X pins σ (upd H1 (hp.objs.size + 1) (exo (hp.objs.size + 1) C none)) ⟨(hp.push (PySem.W.kdv_tup us)).push (PySem.HandSPX.excO C hp.objs.size), g, dr, tk, os⟩ :=
    I1.laid (t' := tk) (a := hp.objs.size + 1) (o := exo (hp.objs.size + 1) C none) (h' := (hp.push (PySem.W.kdv_tup us)).push (PySem.HandSPX.excO C hp.objs.size)) kk hsz (exo_ok hget)
  have r2 : Vals (V.ref (hp.objs.size + 1) :: (vs ++ dvs)) (Value.ref (hp.objs.size + 1) :: (us ++ ds)) := .cons rfl (r1.append hd)
  have hl : (Value.ref (hp.objs.size + 1) :: us ++ ds).length = ps.length := by
    have e := r2.length
    rw [F1.len _ _ _ _ hq] at e
    exact e.symm
  have hus : us.length ≤ sizeLine := by
    rw [← Paired.length r1, sizeLine_eq]
    omega
  refine wpAny_call (PySem.HandSPX.call_own F.excBase_ValueError (fun Y => PySem.HandSPX.refsVE_contains Y bm hbm) (I1.kIn _ _ hC) (PySem.W.looks_findIn I1.kIn iC) (fun self => PySem.W.bind_fn I1.kIn self tI) hus
    (codeAny_mono (F1.run _ X.stack _ _ ⟨Value.ref (hp.objs.size + 1) :: us, []⟩ (Value.ref (hp.objs.size + 1) :: (us ++ ds)) _ _ (fun _ _ _ => False) (hr.make C us []) (I2.env0.make C us []) (hb _ (Value.ref (hp.objs.size + 1) :: us) I2.kIn hl) r2 hq) fun r s' hq' => ?_))
  cases r with
  | error er => exact hx pins σ _ _ er s' I2 hq'
  | ok fl =>
    cases fl with
    | ret u =>
      obtain ⟨v, H2, os2, bare2, un2, hok2, rv, ev, d, fs, ea, ed, hd1, q2⟩ := hq'
      subst ev
      obtain ⟨h2, g2, d2, t2, os'⟩ := s'
      obtain ⟨J, hda, _⟩ := mk_keep (d2 := d2) (t2 := t2) I1 hsz kk un2 hok2 os2 bare2 ea ed hd1
      exact ⟨rv, .ref (hp.objs.size + 1), _, J, rfl, q2 hda⟩
    | next => exact False.elim hq'
    | brk => exact False.elim hq'
    | cont => exact False.elim hq'
theorem pe_oexP (T : OexC X.K C) (iC : PySem.W.findIn X.K (.ref C) "__init__" = some (some (.ref fI))) (tI : PySem.W.typeIn X.K (.ref fI) = some (.type "function"))
    (F1 : FnOk X.prog X.w X.K X.mg X.base CX k fI fd ps sp) (hr : Room (k + 1) X.A) (hb : Binds X.K fd ps ds) (hd : Vals dvs ds) (hx : Passes CX X (fun _ _ _ => False)) (hg : Gl X x) (hm : X.mg x = some (.ref C)) (ha : PA X (e :: es) ta)
    (hdb : (x == ("__debug__" : Str)) = false := by decide) (he : starEach (e :: es) X.env = (false, eval e X.env) :: starEach es X.env := by rfl) (hpl : (backTo pos (starEach es X.env)).any (·.1) = false := by rfl) :
    PE X (.Call (.Name x p) (e :: es) [] pos) (tExE C sp dvs ta) := by
  refine ⟨fun pins s σ H Q I h => ?_⟩
  refine wpAny_Call_Name_kw (ld_glob I hg hm ?_ hdb)
  refine PySem.W.callWith_K (h₀ := X.base) I.ok.mod.kin T.kC (thn (ha.run pos pins s σ H _ I h) fun us s1 ⟨vs, H1, I1, r1, hz, q1⟩ => ⟨I1.kIn, ?_⟩) he hpl
  exact run_oex T iC tI F1 hr hb hd hx I1 r1 hz q1
theorem pe_oex0 (T : OexC X.K C) (iC : PySem.W.findIn X.K (.ref C) "__init__" = some (some (.ref fI))) (tI : PySem.W.typeIn X.K (.ref fI) = some (.type "function"))
    (F1 : FnOk X.prog X.w X.K X.mg X.base CX k fI fd ps sp) (hr : Room (k + 1) X.A) (hb : Binds X.K fd ps ds) (hd : Vals dvs ds) (hx : Passes CX X (fun _ _ _ => False)) (hg : Gl X x) (hm : X.mg x = some (.ref C))
    (hdb : (x == ("__debug__" : Str)) = false := by decide) : PE X (.Call (.Name x p) [] [] pos) (tExE C sp dvs tNil) := by
  refine ⟨fun pins s σ H Q I h => ?_⟩
  refine wpAny_Call_Name_kw (ld_glob I hg hm ?_ hdb)
  obtain ⟨hz, q1⟩ := h
  exact PySem.W.callWith_K0 I.kIn T.kC (run_oex (us := []) T iC tI F1 hr hb hd hx I .nil hz q1)
/-- by name: one keyword -/
def tExK (C : Addr) (sp : Sp) (te : TE) : TE := fun σ H Q => te σ H fun v H1 => ∃ y, [v] = [y] ∧ ∀ a, H1 a = none → sp [.ref a, y] (upd H1 a (exo a C none))
  (fun v H2 => v = .non ∧ ∃ (d : Addr) (fs : List (Str × V)), H2 a = some (exo a C (some d)) ∧ H2 d = some (exd d fs) ∧ H1 d = none ∧ (d ≠ a → Q (.ref a) (upd (upd H2 a (DL.exq a C d)) d (.xd fs)))) (fun _ _ _ => False)
theorem pe_oexK {kn : Str} {kpos : Pos} {te : TE} (T : OexC X.K C) (iC : PySem.W.findIn X.K (.ref C) "__init__" = some (some (.ref fI))) (tI : PySem.W.typeIn X.K (.ref fI) = some (.type "function"))
    (F1 : FnOk X.prog X.w X.K X.mg X.base CX k fI fd ps sp) (hr : Room (k + 1) X.A) (hb : ∀ (s : Shared) (a u : Value), X.K.In s.heap → BindsTo s fd ⟨[a], [(kn, u)]⟩ (ps.zip [a, u])) (hx : Passes CX X (fun _ _ _ => False)) (hg : Gl X x) (hm : X.mg x = some (.ref C)) (ha : PE X e te)
    (hdb : (x == ("__debug__" : Str)) = false := by decide) (hall : (backToKw pos (keywordEach [⟨some kn, e, kpos⟩] X.env)).all (·.1.isSome) = true := by rfl)
    (hks : (backToKw pos (keywordEach [⟨some kn, e, kpos⟩] X.env)).filterMap (·.1) = [kn] := by rfl)
    (hpl : ((backTo pos (starEach [] X.env)).any (·.1) || (backToKw pos (keywordEach [⟨some kn, e, kpos⟩] X.env)).any (·.1.isNone)) = false := by rfl) :
    PE X (.Call (.Name x p) [] [⟨some kn, e, kpos⟩] pos) (tExK C sp te) := by
  refine ⟨fun pins s σ H Q I h => ?_⟩
  refine wpAny_Call_Name_kw (ld_glob I hg hm ?_ hdb)
  refine PySem.W.callWith_KW0 (h₀ := X.base) I.ok.mod.kin T.kC hall (thn ((pk_cons ha pk_nil).run pos pins s σ H (fun zs H1 => ∃ y, zs = [y] ∧ ∀ a, H1 a = none → sp [.ref a, y] (upd H1 a (exo a C none))
  (fun v H2 => v = .non ∧ ∃ (d : Addr) (fs : List (Str × V)), H2 a = some (exo a C (some d)) ∧ H2 d = some (exd d fs) ∧ H1 d = none ∧ (d ≠ a → Q (.ref a) (upd (upd H2 a (DL.exq a C d)) d (.xd fs)))) (fun _ _ _ => False)) I h) fun ws s2 ⟨zs, H1, I1, rz, y, ez, q1⟩ => ⟨I1.kIn, ?_⟩) hpl
  rw [hks]
  subst ez
  cases rz with
  | @cons _ u _ _ ry rr =>
  cases rr
  show wpAny _ _ (call (.ref C) [] [(kn, u)]) _ _ _
  obtain ⟨nm, q, N, bs, bm, sn, sub, ab, col, dd, k0, k1, k2, k3, k5, hC, hbm⟩ := T.cls
  obtain ⟨hp, g, dr, tk, os⟩ := s2
  have hsz : hp.objs.size ≤ hp.objs.size + 1 := Nat.le_succ _
  have hn : H1 (hp.objs.size + 1) = none := I1.hok.fresh hsz
  have hq := q1 (hp.objs.size + 1) hn
  have kk : ∀ b o, hp.get? b = some o → ((hp.push (PySem.W.kdv_tup [])).push (PySem.HandSPX.excO C hp.objs.size)).get? b = some o := fun b o e => Heap.get?_push_of_some _ (Heap.get?_push_of_some _ e)
  have hget : ((hp.push (PySem.W.kdv_tup [])).push (PySem.HandSPX.excO C hp.objs.size)).get? (hp.objs.size + 1) = some (PySem.HandSPX.excO C hp.objs.size) := by heap_get
  have I2 : Inv X pins σ (upd H1 (hp.objs.size + 1) (exo (hp.objs.size + 1) C none)) ⟨(hp.push (PySem.W.kdv_tup [])).push (PySem.HandSPX.excO C hp.objs.size), g, dr, tk, os⟩ :=
    I1.laid (t' := tk) (a := hp.objs.size + 1) (o := exo (hp.objs.size + 1) C none) (h' := (hp.push (PySem.W.kdv_tup [])).push (PySem.HandSPX.excO C hp.objs.size)) kk hsz (exo_ok hget)
  have r2 : Vals [V.ref (hp.objs.size + 1), y] [Value.ref (hp.objs.size + 1), u] := .cons rfl (.cons ry .nil)
  refine wpAny_call (PySem.EVX.call_kw F.excBase_ValueError (fun Y => PySem.HandSPX.refsVE_contains Y bm hbm) (I1.kIn _ _ hC) (PySem.W.looks_findIn I1.kIn iC) (fun self => PySem.W.bind_fn I1.kIn self tI)
    (codeAny_mono (F1.run _ X.stack _ _ ⟨[Value.ref (hp.objs.size + 1)], [(kn, u)]⟩ [Value.ref (hp.objs.size + 1), u] _ _ (fun _ _ _ => False) (hr.make C [] [(kn, u)]) (I2.env0.make C [] [(kn, u)]) (hb _ _ _ I2.kIn) r2 hq) fun r s' hq' => ?_))
  cases r with
  | error er => exact hx pins σ _ _ er s' I2 hq'
  | ok fl =>
    cases fl with
    | ret u2 =>
      obtain ⟨v, H2, os2, bare2, un2, hok2, rv, ev, d, fs, ea, ed, hd1, q2⟩ := hq'
      subst ev
      obtain ⟨h2, g2, d2, t2, os'⟩ := s'
      obtain ⟨J, hda, _⟩ := mk_keep (d2 := d2) (t2 := t2) I1 hsz kk un2 hok2 os2 bare2 ea ed hd1
      exact ⟨rv, .ref (hp.objs.size + 1), _, J, rfl, q2 hda⟩
    | next => exact False.elim hq'
    | brk => exact False.elim hq'
    | cont => exact False.elim hq'
end
/-! its field; isinstance of it -/
/-- an exception that stands in the heap, as an instance -/
theorem exq_at {P : Program} {w : World} {H : Hp} {h : Heap} {a C dx : Addr} {fs : List (Str × V)} (hok : HOk P w H h) (ha : H a = some (DL.exq a C dx)) (hd : H dx = some (.xd fs)) :
    ∃ (oe od : Obj) (mA : Str → Option Value), PySem.W.InstAt h a oe C (some od) ∧ (∀ f, PySem.W.lookIn f od = some (mA f)) ∧ ∀ f, RelO (fs.lookup f) (mA f) := by
  obtain ⟨oe, vs, e1, z, ed⟩ : ∃ (oe : Obj) (vs : Array Value), h.get? a = some oe ∧ Zc (.ref C) (some dx) oe ∧ oe.data = .fields vs := (hok a _ ha).1
  obtain ⟨mA, hns, hr⟩ : ∃ mA, h.Ns1 dx mA ∧ ∀ f, RelO (fs.lookup f) (mA f) := hok dx _ hd
  obtain ⟨od, ho, hl⟩ := lookIn_ns hns
  exact ⟨oe, od, mA, ⟨e1, z.1, by unfold PySem.W.notCls; rw [ed] <;> rfl, by rw [z.2]; exact ho⟩, hl, hr⟩
def tXq (K : PySem.W.Frag) (f : Str) (te : TE) : TE := fun σ H Q => te σ H fun x H1 => ∃ (a C dx : Addr) (fs : List (Str × V)) (v : V), x = .ref a ∧ XfC K C ∧ PySem.W.findIn K (.ref C) f = some none ∧ H1 a = some (DL.exq a C dx) ∧ H1 dx = some (.xd fs) ∧ fs.lookup f = some v ∧ Q v H1
theorem pe_xq {X : Cx} {e : Expr} {te : TE} {pos : Pos} {n : Str} (he : PE X e te) (hb : attributeBase e n X.env (eval e X.env) = eval e X.env := by rfl) : PE X (.Attribute e n pos) (tXq X.K n te) := by
  refine ⟨fun pins s σ H Q I h => ?_⟩
  refine attr_of hb (thn (he.run pins s σ H _ I h) fun u s1 hh => ?_)
  obtain ⟨x, H1, I1, rx, a, C, dx, fs, v, ex, T, hno, ea, ed, l, q⟩ := hh
  subst ex
  obtain rfl : u = Value.ref a := rx
  obtain ⟨oe, od, mA, J, hl, hr⟩ := exq_at I1.hok ea ed
  obtain ⟨u, hu, ru⟩ := RelO.some_of (v := v) (o := mA n) (by rw [← l]; exact hr n)
  exact HandSPX.exc_get I1.kIn J T.ga T.gg T.exC (PySem.W.findObj_own T.hdC hno rfl (by rw [hl, hu])) (handed_of ru) ⟨v, H1, I1.tok _, ru, q⟩
structure ExcX (K : PySem.W.Frag) (D : Addr) : Prop where
  hc : (PySem.W.clsIn K D).isSome = true
  hg : PySem.W.findIn K (.ref D) "__getattribute__" = some (some (.builtin "BaseException.__getattribute__"))
  hk : PySem.W.findIn K (.ref D) "__getattr__" = some none
  hs : PySem.W.subIn K (.ref D) (.type "BaseException") = some true
  ha : PySem.W.findIn K (.ref D) "__class__" = some (some (.builtin "object.__class__"))
  hn : PySem.W.specialIn K (.builtin "object.__class__") "__get__" = some (some (.builtin "getset_descriptor.__get__"))
  ht : PySem.W.takesIn K (.builtin "object.__class__") = some true
  hm : PySem.W.mroIn K D (.type "object") = some true
def rIsX (K : PySem.W.Frag) : List V → Hp → VK → Prop := fun xs H Q => ∃ (a D dx : Addr) (fs : List (Str × V)) (c : V) (cv : Value) (b : Bool), xs = [.ref a, c] ∧ (∀ u, RelV c u → u = cv) ∧ ExcX K D ∧ H a = some (DL.exq a D dx) ∧ H dx = some (.xd fs) ∧ PySem.W.kitOne K (.ref D) cv = some b ∧ Q (.bl b) H
theorem call_isX {X : Cx} : CallR X (.builtin "isinstance") (rIsX X.K) := by
  intro pins s σ H xs us Q I r h
  obtain ⟨a, D, dx, fs, c, cv, b, rfl, hcv, C, ea, ed, e, q⟩ := h
  cases r with
  | cons rx rr =>
    cases rr with
    | cons rt rr =>
      cases rr
      cases rx
      have ec := hcv _ rt
      subst ec
      obtain ⟨oe, od, mA, J, _, _⟩ := exq_at I.hok ea ed
      exact PySem.W.kia_one (PySem.W.kitx_exc C.hc C.hg C.hk C.hs C.ha C.hn C.ht C.hm) I.kIn J e (fun z => nomatch z) fun tk => ⟨.bl b, H, I.kept (t' := tk) fun _ _ z => z, rfl, q⟩
end L2

/-! DNj: own exceptions as data: made, asked for their value and their class; lists of one thing shown; a def lent a list that exceptions hold, too. -/
namespace DL
open PySem PySem.Spec PyProof.Rows L2
/-- an exception class with the __init__ of DLu, made by position, by name and of nothing -/
structure ExK (P : Program) (w : World) (K : PySem.W.Frag) (mg : Str → Option Value) (base : Heap) (x : Str) (C : Addr) (k : Nat) : Prop where
  ex : ∃ (fI : Addr) (fd : FuncData), OexC K C ∧ PySem.W.findIn K (.ref C) "__init__" = some (some (.ref fI)) ∧ PySem.W.typeIn K (.ref fI) = some (.type "function") ∧ FnOk P w K mg base CX0 k fI fd ["self", "value"] (spIni C) ∧
    Binds K fd ["self", "value"] [] ∧ (∃ ds, Vals [.non] ds ∧ Binds K fd ["self", "value"] ds) ∧ (∀ (s : Shared) (a u : Value), K.In s.heap → BindsTo s fd ⟨[a], [("value", u)]⟩ [("self", a), ("value", u)]) ∧ mg x = some (.ref C)
structure ExF (K : PySem.W.Frag) (C : Addr) : Prop where
  xf : XfC K C
  no : PySem.W.findIn K (.ref C) "value" = some none
section
variable {c : Ctx} {δ : DE} {n : Nat} {e : Expr} {es : List Expr} {pos p : Pos} {Φ : D → Nat → Prop} {x : Str} {C : Addr} {k : Nat}
theorem exc_done {σ : L2.St} {H H2 : Hp} {d : D} {v : V} {n1 : Nat} {a dx : Addr} {Q : VK} (S : SlR c σ H δ n) (q : ∀ v H2 d n2, Kp c.pu H H2 → SlR c σ H2 δ n2 → RpE c.X.K (c.Av δ) (c.Ow δ) c.pu H H2 d v → Φ d n2 → Q v H2) (k1 : Kp c.pu H H2) (S1 : SlR c σ H2 δ n1)
    (r : Rp c.X.K (c.Av δ) H2 d v) (f : Φ (.exc C d) n1) (ha : H2 a = none) (hdx : (L2.upd H2 a (exo a C none)) dx = none) (ne : dx ≠ a) :
    V.non = V.non ∧ ∃ (d1 : Addr) (fs : List (Str × V)), (L2.upd (L2.upd (L2.upd H2 a (exo a C none)) dx (exd dx [("value", v)])) a (exo a C (some dx))) a = some (exo a C (some d1)) ∧ (L2.upd (L2.upd (L2.upd H2 a (exo a C none)) dx (exd dx [("value", v)])) a (exo a C (some dx))) d1 = some (exd d1 fs) ∧ H2 d1 = none ∧
      (d1 ≠ a → Q (.ref a) (L2.upd (L2.upd (L2.upd (L2.upd (L2.upd H2 a (exo a C none)) dx (exd dx [("value", v)])) a (exo a C (some dx))) a (exq a C d1)) d1 (.xd fs))) := by
  have hd2 : H2 dx = none := by rwa [upd_ne ne] at hdx
  refine ⟨rfl, dx, [("value", v)], upd_same, by rw [upd_ne ne]; exact upd_same, hd2, fun _ => ?_⟩
  have same : Same H2 (L2.upd (L2.upd (L2.upd (L2.upd (L2.upd H2 a (exo a C none)) dx (exd dx [("value", v)])) a (exo a C (some dx))) a (exq a C dx)) dx (.xd [("value", v)])) := fun y u e => by
    have n1 : y ≠ dx := ne_of_none e hd2
    have n2 : y ≠ a := ne_of_none e ha
    rw [upd_ne n1, upd_ne n2, upd_ne n2, upd_ne n1, upd_ne n2]
    exact e
  refine q _ _ (.exc C d) n1 (k1.trans (Kp.of same)) (S1.grow same) ?_ f
  exact RpE.of (d := .exc C d) ⟨a, dx, [("value", v)], v, rfl, S1.off ha, S1.off hd2, by rw [upd_ne (Ne.symm ne)]; exact upd_same, upd_same, rfl, r.kp (ex := none) (fun _ z => nomatch z) (Kp.of same)⟩
theorem we_mkE (M : ExK c.X.prog c.X.w c.X.K c.X.mg c.X.base x C k) (hr : Room (k + 1) c.X.A) (hg : Gl c.X x) (h : WE c e δ n fun d n1 => okEl d = true ∧ Φ (.exc C (frz d)) n1)
    (hdb : (x == ("__debug__" : Str)) = false := by decide) (he : starEach [e] c.X.env = (false, eval e c.X.env) :: starEach [] c.X.env := by rfl) : WE c (.Call (.Name x p) [e] [] pos) δ n Φ := ⟨fun σ H Q S q => by
  obtain ⟨fI, fd, T, iC, tI, F1, hb, _, _, hm⟩ := M.ex
  refine pe_to (pe_oexP T iC tI F1 hr hb .nil pass0 hg hm (pa_cons pe_w pa_nil he) hdb he) ?_
  refine h.run σ H _ S fun v H2 d n1 k1 S1 r1 ⟨o, f⟩ => ?_
  exact ⟨(by show 1 ≤ 1000; decide), fun a ha => ⟨a, v, rfl, upd_same, fun dx hdx ne => exc_done S q k1 S1 (r1.el o) f ha hdx ne⟩⟩⟩
theorem we_mkE0 (M : ExK c.X.prog c.X.w c.X.K c.X.mg c.X.base x C k) (hr : Room (k + 1) c.X.A) (hg : Gl c.X x) (h : Φ (.exc C .non) n)
    (hdb : (x == ("__debug__" : Str)) = false := by decide) : WE c (.Call (.Name x p) [] [] pos) δ n Φ := ⟨fun σ H Q S q => by
  obtain ⟨fI, fd, T, iC, tI, F1, _, ⟨ds, hd, hb⟩, _, hm⟩ := M.ex
  refine pe_to (pe_oex0 T iC tI F1 hr hb hd pass0 hg hm hdb) ?_
  exact ⟨(by show 0 ≤ 1000; decide), fun a ha => ⟨a, .non, rfl, upd_same, fun dx hdx ne => exc_done (d := .non) S q Kp.refl S rfl h ha hdx ne⟩⟩⟩
theorem we_mkEK {kpos : Pos} (M : ExK c.X.prog c.X.w c.X.K c.X.mg c.X.base x C k) (hr : Room (k + 1) c.X.A) (hg : Gl c.X x) (h : WE c e δ n fun d n1 => okEl d = true ∧ Φ (.exc C (frz d)) n1)
    (hdb : (x == ("__debug__" : Str)) = false := by decide) (hall : (backToKw pos (keywordEach [⟨some "value", e, kpos⟩] c.X.env)).all (·.1.isSome) = true := by rfl)
    (hks : (backToKw pos (keywordEach [⟨some "value", e, kpos⟩] c.X.env)).filterMap (·.1) = [("value" : Str)] := by rfl)
    (hpl : ((backTo pos (starEach [] c.X.env)).any (·.1) || (backToKw pos (keywordEach [⟨some "value", e, kpos⟩] c.X.env)).any (·.1.isNone)) = false := by rfl) : WE c (.Call (.Name x p) [] [⟨some "value", e, kpos⟩] pos) δ n Φ := ⟨fun σ H Q S q => by
  obtain ⟨fI, fd, T, iC, tI, F1, _, _, hb, hm⟩ := M.ex
  refine pe_to (pe_oexK T iC tI F1 hr hb pass0 hg hm pe_w hdb hall hks hpl) ?_
  refine h.run σ H _ S fun v H2 d n1 k1 S1 r1 ⟨o, f⟩ => ?_
  exact ⟨v, rfl, fun a ha => ⟨a, v, rfl, upd_same, fun dx hdx ne => exc_done S q k1 S1 (r1.el o) f ha hdx ne⟩⟩⟩
/-- an own list, as the thing that it is -/
theorem we_rawO (i : Nat) {q : Addr} {xs : List D} (hd : δ[i]? = some (some (.own q xs))) (h : Φ (.raw (.ref q)) n) (hN : c.X.N[i]? = some x := by rfl) (hv : Vis c.X.env.scope x := by first | exact Or.inl rfl | exact Or.inr (Or.inl rfl) | exact Or.inr (Or.inr rfl))
    (h1 : (x == ("__debug__" : Str)) = false := by decide) (h2 : (x == ("__classdict__" : Str)) = false := by decide) : WE c (.Name x pos) δ n Φ := ⟨fun σ H Q S q' => by
  obtain ⟨e1, _⟩ := S.sl i _ hd
  exact pe_to (pe_var hN hv h1 h2) ⟨_, e1, q' _ H (.raw (.ref q)) n Kp.refl S rfl h⟩⟩
/-- e.value -/
theorem we_excv (h : WE c e δ n fun y n1 => ∃ C d, y = .exc C d ∧ ExF c.X.K C ∧ Φ d n1) (hb : attributeBase e "value" c.X.env (eval e c.X.env) = eval e c.X.env := by rfl) : WE c (.Attribute e "value" pos) δ n Φ := ⟨fun σ H Q S q => by
  refine pe_to (pe_xq pe_w hb) ?_
  refine h.run σ H _ S fun v H2 y n1 k1 S1 r1 ⟨C, d, ey, F, f⟩ => ?_
  subst ey
  obtain ⟨a, dx, fs, u, rfl, _, _, h1, h2, h3, h4⟩ : Rp c.X.K (c.Av δ) H2 (.exc C d) v := r1.pure rfl
  exact ⟨a, C, dx, fs, u, rfl, F.xf, F.no, h1, h2, h3, q u H2 d n1 k1 S1 (RpE.of h4) f⟩⟩
/-- isinstance(e, X), e an exception, X a class of the program -/
theorem we_isE (CX : Addr) {p2 : Pos} (hmC : c.X.mg x = some (.ref CX)) (hgC : Gl c.X x) (hm : c.X.mg "isinstance" = none) (hg : Gl c.X "isinstance")
    (h : WE c e δ n fun y n1 => ∃ C d b, y = .exc C d ∧ ExcX c.X.K C ∧ PySem.W.kitOne c.X.K (.ref C) (.ref CX) = some b ∧ Φ (.bl b) n1) (hd : (x == ("__debug__" : Str)) = false := by decide)
    (he : starEach [e, .Name x p2] c.X.env = (false, eval e c.X.env) :: starEach [.Name x p2] c.X.env := by rfl) (he2 : starEach [.Name x p2] c.X.env = (false, eval (.Name x p2) c.X.env) :: starEach [] c.X.env := by rfl)
    (hpl : (backTo pos (starEach [.Name x p2] c.X.env)).any (·.1) = false := by rfl) : WE c (.Call (.Name "isinstance" p) [e, .Name x p2] [] pos) δ n Φ := ⟨fun σ H Q S q => by
  refine pe_to (pe_callB call_isX hg hm (by decide +kernel) (pa_cons pe_w (pa_cons (pe_glob (v := .ref CX) hgC hmC rfl hd) pa_nil he2) he) (by decide) (by decide) he hpl) ?_
  refine h.run σ H _ S fun v H2 y n1 k1 S1 r1 ⟨C, d, b, ey, F, hk, f⟩ => ?_
  subst ey
  obtain ⟨a, dx, fs, u, rfl, _, _, h1, h2, _, _⟩ : Rp c.X.K (c.Av δ) H2 (.exc C d) v := r1.pure rfl
  exact ⟨a, C, dx, fs, .ref CX, .ref CX, b, rfl, fun u z => z, F, h1, h2, hk, q _ H2 (.bl b) n1 k1 S1 rfl f⟩⟩
/-- isinstance(e, T), T a built-in class -/
theorem we_isEB (T : String) {p2 : Pos} (hv : bootBuiltins x = some (.type T)) (hmC : c.X.mg x = none) (hgC : Gl c.X x) (hm : c.X.mg "isinstance" = none) (hg : Gl c.X "isinstance")
    (h : WE c e δ n fun y n1 => ∃ C d b, y = .exc C d ∧ ExcX c.X.K C ∧ PySem.W.kitOne c.X.K (.ref C) (.type T) = some b ∧ Φ (.bl b) n1) (hnn : x ≠ "__name__" := by decide) (hd : (x == ("__debug__" : Str)) = false := by decide)
    (he : starEach [e, .Name x p2] c.X.env = (false, eval e c.X.env) :: starEach [.Name x p2] c.X.env := by rfl) (he2 : starEach [.Name x p2] c.X.env = (false, eval (.Name x p2) c.X.env) :: starEach [] c.X.env := by rfl)
    (hpl : (backTo pos (starEach [.Name x p2] c.X.env)).any (·.1) = false := by rfl) : WE c (.Call (.Name "isinstance" p) [e, .Name x p2] [] pos) δ n Φ := ⟨fun σ H Q S q => by
  refine pe_to (pe_callB call_isX hg hm (by decide +kernel) (pa_cons pe_w (pa_cons (pe_bltn (v := .ty T) hgC hmC hv rfl hnn hd) pa_nil he2) he) (by decide) (by decide) he hpl) ?_
  refine h.run σ H _ S fun v H2 y n1 k1 S1 r1 ⟨C, d, b, ey, F, hk, f⟩ => ?_
  subst ey
  obtain ⟨a, dx, fs, u, rfl, _, _, h1, h2, _, _⟩ : Rp c.X.K (c.Av δ) H2 (.exc C d) v := r1.pure rfl
  exact ⟨a, C, dx, fs, .ty T, .type T, b, rfl, fun u z => z, F, h1, h2, hk, q _ H2 (.bl b) n1 k1 S1 rfl f⟩⟩
end
/-! lists of one thing, shown -/
section
/-- a list of so many of g may be shown -/
def RepL (K : PySem.W.Frag) (g : D) (T : Nat → Str) : Prop := ∀ (X : Cx), X.K = K → X.A.guards = some [] → X.A.units + 64 < cLine → ∀ (pins : List (Addr × Obj)) (s : Shared) (σ : L2.St) (H : Hp) (Av : Addr → Prop) (a : Addr) (vs : List V) (k : Nat) (Q : VK),
  Inv X pins σ H s → H a = some (.lst vs) → Rps K Av H (List.replicate k g) vs → 0 < k → k ≤ 20 → Q (.str (T k)) H → wpAny (model X.prog X.w) X.A (call (.builtin "repr") [.ref a]) (EP X pins σ Q) X.xe s
theorem isPys_rep {g : D} (h : isPy g = true) : ∀ k : Nat, isPys (List.replicate k g) = true
  | 0 => rfl
  | k + 1 => by rw [List.replicate_succ]; show (isPy g && isPys (List.replicate k g)) = true; rw [h, isPys_rep h k]; rfl
theorem toPys_rep {g : D} : ∀ k : Nat, toPys (List.replicate k g) = List.replicate k (toPy g)
  | 0 => rfl
  | k + 1 => by rw [List.replicate_succ, List.replicate_succ]; show toPy g :: toPys (List.replicate k g) = _; rw [toPys_rep k]
theorem repL_py {K : PySem.W.Frag} {g : D} (h : isPy g = true) (ok : ∀ k, k ≤ 20 → repOk (.list (List.replicate k (toPy g)))) : RepL K g fun k => (PyData.list (List.replicate k (toPy g))).shown := by
  intro X eK hgd hu pins s σ H Av a vs k Q I ha r k0 k20 q
  subst eK
  have dp : Dp X.K H (.ref a) (.list (List.replicate k (toPy g))) := by
    rw [← toPys_rep]
    exact .lst (.of ha) (Rps.dp r (isPys_rep h k))
  exact call_reprD hgd hu pins s σ H [.ref a] [.ref a] Q I (.cons rfl .nil) ⟨a, _, rfl, dp, ok k k20, q⟩
theorem readsAll_dicts {X : Cx} {pins : List (Addr × Obj)} {σ : L2.St} {H : Hp} {s : Shared} {Av : Addr → Prop} (I : Inv X pins σ H s) : ∀ (k : Nat) {vs : List V} {us : List Value}, Rps X.K Av H (List.replicate k (.lkK [] [])) vs → Vals vs us →
    ∃ as, ReadsAll s.heap us (List.replicate k (.dict [])) as ∧ sysModules ∉ as
  | 0, vs, us, h, r => by
    have e : vs = [] := h
    subst e
    cases r
    exact ⟨[], .nil, by simp⟩
  | k + 1, vs, us, h, r => by
    rw [List.replicate_succ] at h
    obtain ⟨v, vs', rfl, h1, h2⟩ := h
    cases r with
    | @cons _ u _ us' rv rr =>
    obtain ⟨as, ra, no⟩ := readsAll_dicts I k h2 rr
    obtain ⟨p, o, kvs, rfl, _, hp, ek, _⟩ := h1
    obtain rfl : u = Value.ref p := rv
    have ek : kvs = [] := List.map_eq_nil_iff.mp ek
    subst ek
    obtain ⟨_, _, hsys, ws, kv, od, es, ep, e1, ex, ed, el⟩ := I.hok p _ hp
    cases kv
    have hes : es.toList = [] := by
      obtain ⟨_, pr, _⟩ := el
      cases hh : es.toList with
      | nil => rfl
      | cons z zs => rw [hh] at pr; cases pr
    refine ⟨(p :: [] ++ []) ++ as, ?_, ?_⟩
    · rw [List.replicate_succ]
      exact .cons (.dict e1 ex.1 ed (by rw [hes]; exact .nil) (by rw [hes]; exact .nil)) ra
    · intro m
      rcases List.mem_append.mp m with m | m
      · have : sysModules = p := by simpa using m
        rw [← this] at hsys
        simp at hsys
      · exact no m
theorem dicts_show : ∀ k : Nat, PyData.showableAll (List.replicate k (.dict [])) = true
  | 0 => rfl
  | k + 1 => by
    rw [List.replicate_succ]
    simp only [PyData.showableAll, dicts_show k, Bool.and_true]
    rfl
theorem dicts_shown : ∀ k : Nat, PyData.shownAll (List.replicate k (.dict [])) = List.replicate k ("{}" : Str)
  | 0 => rfl
  | k + 1 => by
    rw [List.replicate_succ, List.replicate_succ]
    simp only [PyData.shownAll, dicts_shown k]
    congr 1
theorem dicts_depth : ∀ k : Nat, PyData.depthAll (List.replicate k (.dict [])) ≤ 2
  | 0 => by decide
  | k + 1 => by
    have := dicts_depth k
    rw [List.replicate_succ]
    simp only [PyData.depthAll, PyData.depth, PyData.depthKv]
    omega
theorem dicts_len : ∀ k : Nat, k ≤ 20 → (listText (List.replicate k ("{}" : Str))).length ≤ 1000 := by decide +kernel
theorem repL_dict {K : PySem.W.Frag} : RepL K (.lkK [] []) fun k => listText (List.replicate k ("{}" : Str)) := by
  intro X eK hgd hu pins s σ H Av a vs k Q I ha r k0 k20 q
  subst eK
  obtain ⟨_, its, nn, rv, hget⟩ := I.hok a _ ha
  obtain ⟨as, ra, no⟩ := readsAll_dicts I k r rv
  have hz : (listText (PyData.shownAll (List.replicate k (.dict [])))).length ≤ sizeLine := by
    rw [dicts_shown]
    exact Nat.le_trans (dicts_len k k20) (by rw [sizeLine_eq]; decide)
  obtain ⟨bs, hb, hk⟩ := ReprAllK.of_readsAll (prog := X.prog) (w := X.w) ra (dicts_show k) (fun _ => no) (fun t ht => Nat.le_trans (listText_mem_le ht) hz)
  have rl : Reads s.heap (.ref a) (.list (List.replicate k (.dict []))) (a :: as) := .list hget rfl rfl (by simpa using ra)
  have dep := dicts_depth k
  have hna : a ∉ bs := not_mem_of_deeper rl (by simp only [PyData.depth]; omega) hb
  rw [dicts_shown] at hk
  obtain ⟨w0, ws, rfl⟩ : ∃ w0 ws, its = w0 :: ws := by
    cases its with
    | nil =>
      exfalso
      have := hk.length_eq
      rw [List.length_replicate] at this
      simp at this
      omega
    | cons w0 ws => exact ⟨w0, ws, rfl⟩
  refine call_repr_slot (by omega) ⟨_, hget, rfl⟩ F.slot_list_repr.toG ?_
  refine call_list_reprK hget rfl rfl hna (by simpa using hk.length_eq) (fun i y e => hk.item i y (by simpa using e)) hgd (fun b _ => Clear.nil b) (by show X.A.units + 1 + (PyData.depthAll (List.replicate k (.dict [])) + 1) < cLine; omega) (fun _ _ e => e) (fun h' u tk hk => ⟨_, _, rfl, ⟨.str _, H, I.kept hk, ⟨_, rfl⟩, q⟩⟩) (by rw [dicts_shown] at hz; exact hz)
theorem we_reprL {c : Ctx} {δ : DE} {n : Nat} {e : Expr} {pos p : Pos} {Φ : D → Nat → Prop} (hgd : c.X.A.guards = some []) (hu : c.X.A.units + 64 < cLine) (hm : c.X.mg "repr" = none) (hg : Gl c.X "repr")
    (h : WE c e δ n fun d n1 => ∃ k g T, lstOf d = some (List.replicate k g) ∧ RepL c.X.K g T ∧ 0 < k ∧ k ≤ 20 ∧ Φ (.str (T k)) n1)
    (he : starEach [e] c.X.env = (false, eval e c.X.env) :: starEach [] c.X.env := by rfl) : WE c (.Call (.Name "repr" p) [e] [] pos) δ n Φ := ⟨fun σ H Q S q => by
  have cr : CallR c.X (.builtin "repr") (fun xs H Q => ∃ a Av vs k g T, xs = [.ref a] ∧ H a = some (.lst vs) ∧ Rps c.X.K Av H (List.replicate k g) vs ∧ RepL c.X.K g T ∧ 0 < k ∧ k ≤ 20 ∧ Q (.str (T k)) H) := by
    rintro pins s σ H xs us Q I r ⟨a, Av, vs, k, g, T, rfl, ha, hr, R, k0, k20, q⟩
    obtain ⟨u, rfl, ru⟩ := vals1 r
    obtain rfl : u = Value.ref a := ru
    exact R c.X rfl hgd hu pins s σ H Av a vs k Q I ha hr k0 k20 q
  refine pe_to (pe_callB cr hg hm (by decide +kernel) (pa_cons pe_w pa_nil he) (by decide) (by decide) he) ?_
  refine h.run σ H _ S fun v H2 d n1 k1 S1 r1 ⟨k, g, T, hd, R, k0, k20, f⟩ => ?_
  obtain ⟨a, vs, rfl, ha, hr⟩ := r1.lstOf hd
  exact ⟨a, _, vs, k, g, T, rfl, ha, hr, R, k0, k20, q _ H2 (.str _) n1 k1 S1 rfl f⟩⟩
end
end DL

/-! DNk: exceptions that hold a list lent to a def; a pick out of new things; an exception of a class without __init__. -/
namespace L2
open PySem PySem.Spec PyProof.Rows
section
variable {X : Cx} {x : Str} {e : Expr} {es : List Expr} {ta : TA} {p pos : Pos} {C : Addr}
theorem pe_exN (T : OexC X.K C) (iC : PySem.W.findIn X.K (.ref C) "__init__" = some (some (.builtin "ValueError.__init__"))) (hg : Gl X x) (hm : X.mg x = some (.ref C)) (ha : PA X (e :: es) ta)
    (hdb : (x == ("__debug__" : Str)) = false := by decide) (he : starEach (e :: es) X.env = (false, eval e X.env) :: starEach es X.env := by rfl) (hpl : (backTo pos (starEach es X.env)).any (·.1) = false := by rfl) :
    PE X (.Call (.Name x p) (e :: es) [] pos) (fun σ H Q => ta σ H fun vs H1 => vs.length ≤ 1000 ∧ ∀ a, H1 a = none → Q (.ref a) (upd H1 a (exo a C none))) := by
  refine ⟨fun pins s σ H Q I h => ?_⟩
  refine wpAny_Call_Name_kw (ld_glob I hg hm ?_ hdb)
  refine PySem.W.callWith_K (h₀ := X.base) I.ok.mod.kin T.kC (thn (ha.run pos pins s σ H _ I h) fun us s1 ⟨vs, H1, I1, r1, hz, q1⟩ => ⟨I1.kIn, ?_⟩) he hpl
  obtain ⟨nm, q, N, bs, bm, sn, sub, ab, col, dd, k0, k1, k2, k3, k5, hC, hbm⟩ := T.cls
  obtain ⟨hp, g, dr, tk, os⟩ := s1
  have hus : us.length ≤ sizeLine := by
    rw [← Paired.length r1, sizeLine_eq]
    omega
  refine PySem.W.call_B F.excBase_ValueError (fun Y => PySem.HandSPX.refsVE_contains Y bm hbm) (I1.kIn _ _ hC) (PySem.W.looks_findIn I1.kIn iC) hus fun h' k he ht => ?_
  have hsz : hp.objs.size ≤ hp.objs.size + 1 := Nat.le_succ _
  exact ⟨.ref (hp.objs.size + 1), _, I1.laid (t' := tk) (a := hp.objs.size + 1) (o := exo (hp.objs.size + 1) C none) (h' := h') k hsz (exo_ok he), rfl, q1 _ (I1.hok.fresh hsz)⟩
def rIsN (K : PySem.W.Frag) : List V → Hp → VK → Prop := fun xs H Q => ∃ (a D : Addr) (c : V) (cv : Value) (b : Bool), xs = [.ref a, c] ∧ (∀ u, RelV c u → u = cv) ∧ ExcX K D ∧ H a = some (exo a D none) ∧ PySem.W.kitOne K (.ref D) cv = some b ∧ Q (.bl b) H
theorem call_isN {X : Cx} : CallR X (.builtin "isinstance") (rIsN X.K) := by
  intro pins s σ H xs us Q I r h
  obtain ⟨a, D, c, cv, b, rfl, hcv, C, ea, e, q⟩ := h
  cases r with
  | cons rx rr =>
    cases rr with
    | cons rt rr =>
      cases rr
      cases rx
      have ec := hcv _ rt
      subst ec
      obtain ⟨t0, hoe⟩ := exo_at I.hok ea
      have J : PySem.W.InstAt s.heap a _ D none := ⟨hoe, rfl, rfl, trivial⟩
      exact PySem.W.kia_one (PySem.W.kitx_exc C.hc C.hg C.hk C.hs C.ha C.hn C.ht C.hm) I.kIn J e (fun z => nomatch z) fun tk => ⟨.bl b, H, I.kept (t' := tk) fun _ _ z => z, rfl, q⟩
end
end L2
namespace DL
open PySem PySem.Spec PyProof.Rows L2
section
variable {c : Ctx} {δ : DE} {n : Nat} {e : Expr} {es : List Expr} {pos p p2 p3 pos2 : Pos} {Φ : D → Nat → Prop} {x y : Str} {C : Addr} {k : Nat}
/-- isinstance(C(e), T) -/
theorem we_isNew (T : String) (TC : OexC c.X.K C) (iC : PySem.W.findIn c.X.K (.ref C) "__init__" = some (some (.builtin "ValueError.__init__"))) (FX : ExcX c.X.K C) (hgx : Gl c.X x) (hmx : c.X.mg x = some (.ref C)) (hv : bootBuiltins y = some (.type T)) (hmC : c.X.mg y = none) (hgC : Gl c.X y) (hm : c.X.mg "isinstance" = none) (hg : Gl c.X "isinstance")
    (h : WE c e δ n fun d n1 => ∃ b, PySem.W.kitOne c.X.K (.ref C) (.type T) = some b ∧ Φ (.bl b) n1) (hnn : y ≠ "__name__" := by decide) (hd : (y == ("__debug__" : Str)) = false := by decide) (hdx : (x == ("__debug__" : Str)) = false := by decide)
    (he0 : starEach [e] c.X.env = (false, eval e c.X.env) :: starEach [] c.X.env := by rfl)
    (he : starEach [.Call (.Name x p) [e] [] pos2, .Name y p2] c.X.env = (false, eval (.Call (.Name x p) [e] [] pos2) c.X.env) :: starEach [.Name y p2] c.X.env := by rfl) (he2 : starEach [.Name y p2] c.X.env = (false, eval (.Name y p2) c.X.env) :: starEach [] c.X.env := by rfl)
    (hpl : (backTo pos (starEach [.Name y p2] c.X.env)).any (·.1) = false := by rfl) : WE c (.Call (.Name "isinstance" p3) [.Call (.Name x p) [e] [] pos2, .Name y p2] [] pos) δ n Φ := ⟨fun σ H Q S q => by
  refine pe_to (pe_callB call_isN hg hm (by decide +kernel) (pa_cons (pe_exN TC iC hgx hmx (pa_cons pe_w pa_nil he0) hdx he0) (pa_cons (pe_bltn (v := .ty T) hgC hmC hv rfl hnn hd) pa_nil he2) he) (by decide) (by decide) he hpl) ?_
  refine h.run σ H _ S fun v H2 d n1 k1 S1 r1 ⟨b, hk, f⟩ => ?_
  refine ⟨(by show 1 ≤ 1000; decide), fun a ha => ⟨a, C, .ty T, .type T, b, rfl, fun u z => z, FX, upd_same, hk, ?_⟩⟩
  exact q _ _ (.bl b) n1 (k1.trans (Kp.new ha)) (S1.grow (same_new ha)) rfl f⟩
/-- exceptions that hold the list at q -/
def hold (q : Addr) (Cs : List Addr) : D := .lst (Cs.map fun C => .exc C (.raw (.ref q)))
theorem hold_view {K : PySem.W.Frag} {Av Av' : Addr → Prop} {H : Hp} {q : Addr} {xs : List D} (s : ∀ a, Av' a → Av a) (nq : ¬ Av' q) {us : List V} (hq : H q = some (.lst us)) (hr : Rps K Av' H xs us) : ∀ {Cs : List Addr} {vs : List V}, Rps K Av H (Cs.map fun C => .exc C (.raw (.ref q))) vs → Rps K Av' H (Cs.map fun C => .exc C (.lst xs)) vs
  | [], _, h => h
  | C :: Cs, vs, h => by
    rw [List.map_cons] at h ⊢
    obtain ⟨v, r, rfl, h1, h2⟩ := h
    obtain ⟨a, dx, fs, u, rfl, n1, n2, e1, e2, e3, e4⟩ := h1
    have e4 : u = .ref q := e4
    subst e4
    exact ⟨_, _, rfl, ⟨a, dx, fs, _, rfl, fun z => n1 (s _ z), fun z => n2 (s _ z), e1, e2, e3, q, us, rfl, nq, hq, hr⟩, hold_view s nq hq hr h2⟩
/-- f(errors, xs), errors hold xs, an own list -/
theorem we_callV {sp : DSp} {ps : List Str} {e2 : Expr} (F : GFn c.X.prog c.X.w c.X.K c.X.mg c.X.base x ps k (spD c.X.K sp)) (hgd : c.X.A.guards = some []) (hr : Room k c.X.A) (hg : Gl c.X x)
    (h : WA c [e, e2] δ n fun ds n1 => ∃ q Cs xs, ds = [hold q Cs, .own q xs] ∧ sp [.lst (Cs.map fun C => .exc C (.lst xs)), .lst xs] fun d => ∃ b, d = .bl b ∧ Φ (.bl b) n1)
    (hdb : (x == ("__debug__" : Str)) = false := by decide) (he : starEach [e, e2] c.X.env = (false, eval e c.X.env) :: starEach [e2] c.X.env := by rfl) (hpl : (backTo pos (starEach [e2] c.X.env)).any (·.1) = false := by rfl) :
    WE c (.Call (.Name x p) [e, e2] [] pos) δ n Φ := ⟨fun σ H Q S q' => by
  obtain ⟨f, fd, hm, hk, hb, F⟩ := F.ex
  refine pe_to (goCall F hgd hr hg hm hk hb pass0 pa_w hdb he hpl) ?_
  refine h.run σ H _ S fun vs H2 ds n1 k1 S1 r1 ⟨q, Cs, xs, eds, f⟩ => ?_
  subst eds
  cases r1 with
  | cons ra r1 =>
  cases r1 with
  | cons rb r1 =>
  cases r1
  obtain ⟨rfl, hn, us, h1, h2⟩ := rb
  obtain ⟨a, ws, rfl, na, e1, e2⟩ : Rp c.X.K (c.Av δ) H2 (hold q Cs) _ := ra.pure rfl
  have nq : ¬ (fun b => c.Av δ b ∧ b ≠ q) q := fun z => z.2 rfl
  have hx : Rps c.X.K (fun b => c.Av δ b ∧ b ≠ q) H2 xs us := h2.wk (fun _ z => z.1) fun _ _ _ e => e
  refine ⟨fun b => c.Av δ b ∧ b ≠ q, _, _, fun b m => S1.av_nt m.1, ?_, f, fun d v H3 f sm rv => ?_⟩
  · exact ⟨_, _, rfl, ⟨a, ws, rfl, fun z => na z.1, e1, hold_view (fun _ z => z.1) nq h1 hx e2⟩, _, _, rfl, ⟨q, us, rfl, nq, h1, hx⟩, rfl⟩
  · obtain ⟨b, rfl, f⟩ := f
    refine q' v H3 (.bl b) n1 (k1.trans (Kp.of sm)) (S1.grow sm) ?_ f
    rcases rv with ⟨_, rv⟩ | ⟨ds', p, vs', z, _⟩ | ⟨_, _, _, _, z, _⟩ | ⟨_, _, _, _, _, _, z, _⟩
    · exact RpE.of rv
    · cases z
    · cases z
    · cases z⟩
end
end DL

/-! DNl: x = pick(purse, [new things ..]). -/
namespace DL
open PySem PySem.Spec PyProof.Rows L2
theorem paired_mem {α β : Type} {R : α → β → Prop} {ds : List α} {vs : List β} (h : Paired R ds vs) : ∀ v ∈ vs, ∃ d ∈ ds, R d v := by
  induction h with
  | nil => intro v m; cases m
  | cons r _ ih =>
    intro v m
    rcases List.mem_cons.mp m with rfl | m
    · exact ⟨_, List.mem_cons_self, r⟩
    · obtain ⟨d, md, rd⟩ := ih v m
      exact ⟨d, List.mem_cons_of_mem _ md, rd⟩
theorem rps_raw {K : PySem.W.Frag} {Av : Addr → Prop} {H : Hp} : ∀ vs : List V, Rps K Av H (vs.map D.raw) vs
  | [] => rfl
  | v :: vs => ⟨v, vs, rfl, rfl, rps_raw vs⟩
section
variable {c : Ctx} {δ : DE} {n m0 : Nat} {e0 : Expr} {es : List Expr} {pos p p' lpos apos : Pos} {x f : Str} {ps : List Str} {k : Nat} {D' : DEnds}
theorem ws_asgPick (i : Nat) (F : Fn c.X.prog c.X.w c.X.K c.X.mg c.X.base f ps k (spP c.X.K Ax.sp__law_pick)) (hr : Room k c.X.A) (hg : Gl c.X f) (hN : c.X.N.Nodup)
    (h : WE c e0 δ n fun d n0 => ∃ p, d = .pur p ∧ WA c es δ n0 fun ds n1 => ds ≠ [] ∧ ds.length ≤ 1000 ∧ n1 = m0 + 1 ∧
      ∀ d ∈ ds, (pureD d = true ∧ D'.nx (δ.set i (some d)) m0) ∨ (∃ xs, d = .new xs ∧ ∀ q, D'.nx (δ.set i (some (.own q xs))) m0) ∨ (d = .newK ∧ ∀ q, D'.nx (δ.set i (some (.ownK q [] []))) m0))
    (hi : c.X.N[i]? = some x := by rfl) (hx : Loc c.X.env.scope x := by first | exact Or.inl rfl | exact Or.inr rfl)
    (hs : swapsWith (.Call (.Name f p) [e0, .List es lpos] [] pos) (some (.Name x p')) apos.line c.X.env = pure false := by rfl) (hf : c.X.fn x = true ∨ c.X.env.scope.names.lookup x = some .local := by first | exact .inl rfl | exact .inr rfl)
    (hdb : (f == ("__debug__" : Str)) = false := by decide) (he : starEach [e0, .List es lpos] c.X.env = (false, eval e0 c.X.env) :: starEach [.List es lpos] c.X.env := by rfl) (he2 : starEach [.List es lpos] c.X.env = (false, eval (.List es lpos) c.X.env) :: starEach [] c.X.env := by rfl)
    (hpl : (backTo pos (starEach [.List es lpos] c.X.env)).any (·.1) = false := by rfl) : WS c (.Assign [.Name x p'] (.Call (.Name f p) [e0, .List es lpos] [] pos) apos) δ n D' := ⟨fun b σ H DD S B E => by
  obtain ⟨fa, fd, hm, hk, hb, F⟩ := F.ex
  refine ps_to (ps_set hN hi hx (pe_call F hr hg hm hk hb .nil pass0 (pa_cons pe_w (pa_cons (pe_lst pa_w) pa_nil he2) he) hdb he hpl) hs hf) ?_
  refine h.run σ H _ S fun v0 H1 d0 n0 k0 S0 r0 ⟨pu, e, hA⟩ => ?_
  subst e
  obtain ⟨rfl, hp⟩ := r0
  have B0 := B.kp k0
  refine hA.run σ H1 _ S0 fun vs H2 ds n1 k1 S1 r1 ⟨ne, len, en, hd⟩ => ?_
  have lvs : vs.length = ds.length := (Paired.len r1).symm
  refine ⟨sz (by omega), fun a ha => ?_⟩
  have S2 := S1.grow (same_new (o := .lst vs) ha)
  have k2 : Kp c.pu H1 (L2.upd H2 a (.lst vs)) := k1.trans (Kp.new ha)
  have hM : ∀ b, c.Av δ b ↔ ((c.M b ∨ b ∈ addrs δ) ∨ b = pu) := fun b => by
    constructor
    · rintro (z | z | z)
      · exact .inl (.inl z)
      · rw [hp] at z; exact .inr (Option.some.inj z).symm
      · exact .inl (.inr z)
    · rintro ((z | z) | z)
      · exact .inl z
      · exact .inr (.inr z)
      · subst z; exact .inr (.inl hp)
  refine ⟨fun b => c.M b ∨ b ∈ addrs δ, pu, n1, [.lst (vs.map D.raw)], [.ref a], fun d m => ∃ v ∈ vs, d = .raw v ∧ m = m0, by rw [List.append_nil], fun b m => S2.av_nt ((hM b).mpr (.inl m)), ?_, (S2.pur pu hp).1, ?_, ?_, fun d m v H3 f sm pa rv => ?_⟩
  · rintro (z | z)
    · exact (S2.pur pu hp).2 z
    · exact (S2.dis pu z).2 hp
  · exact ⟨_, _, rfl, ⟨a, vs, rfl, fun z => S1.off ha ((hM a).mpr z), upd_same, rps_raw vs⟩, rfl⟩
  · refine ⟨vs.map D.raw, m0, rfl, ?_, by rw [List.length_map]; omega, ?_, en, fun y my => ?_⟩
    · intro z
      have := List.map_eq_nil_iff.mp z
      rw [this] at lvs
      exact ne (List.length_eq_zero_iff.mp lvs.symm)
    · rw [List.all_eq_true]
      intro y my
      obtain ⟨v, _, rfl⟩ := List.mem_map.mp my
      rfl
    · obtain ⟨v, mv, rfl⟩ := List.mem_map.mp my
      exact ⟨v, mv, rfl, rfl⟩
  · obtain ⟨v1, mv, rfl, rfl⟩ := f
    have ev : v = v1 := by
      rcases rv with ⟨_, rv⟩ | ⟨ds', p, vs', z, _⟩ | ⟨_, _, _, _, z, _⟩ | ⟨_, _, _, _, _, _, z, _⟩
      · exact rv
      · cases z
      · cases z
      · cases z
    subst ev
    obtain ⟨d, md, rd⟩ := paired_mem r1 v mv
    have sm' : Kp c.pu (L2.upd H2 a (.lst vs)) H3 := by rw [hp]; exact sm
    have S3 : SlR c σ H3 δ m := S2.kp sm' fun p' e => by
      rw [hp] at e
      cases e
      exact pa
    have k3 := k2.trans sm'
    have r3 := rd.kp Ctx.puAv ((Kp.new (o := .lst vs) ha).trans sm')
    rcases hd d md with ⟨hpd, f⟩ | ⟨xs, rfl, f⟩ | ⟨rfl, f⟩
    · have r := r3.pure hpd
      exact E.nx _ H3 _ m (S3.set i r) ((B0.kp k3).set1 (pure_addr hpd)) f
    · obtain ⟨q, us, rfl, h0, h1, h2, h3, h4⟩ := r3
      refine E.nx _ H3 _ m (S0.setOwn S3 k3 i h0 h1 h2 h3 h4) ((B0.kp k3).set fun r m => ?_) (f q)
      rcases (addrs_set_own (s := some (.own q xs)) (p := q) rfl).1 r m with rfl | m
      · exact .inr (B0.back h0)
      · exact .inl m
    · obtain ⟨q, rfl, h0, h1, h2, h3⟩ := r3
      refine E.nx _ H3 _ m (SlR.setOwnG S0 S3 k3 i (d := .ownK q [] []) rfl h0 h1 h2 fun x Av e => ⟨e, [], h3, rfl, rfl⟩) ((B0.kp k3).set fun r m => ?_) (f q)
      rcases (addrs_set_own (s := some (.ownK q [] [])) (p := q) rfl).1 r m with rfl | m
      · exact .inr (B0.back h0)
      · exact .inl m⟩
end
end DL

/-! Lx01: the exception classes of the written part; errors made. -/
namespace Ax
open PySem PySem.Spec PyProof.Rows L2 DL
def iniArgs (p0 p1 p2 : Pos) : Arguments := { posonlyargs := [], args := [{ arg := "self", annotation := none, pos := p0 }, { arg := "value", annotation := none, pos := p1 }], vararg := none, kwonlyargs := [], kw_defaults := [], kwarg := none, defaults := [.Constant .none 0 p2] }
def iniScope : Scope := { kind := .function, names := [("self", .local), ("value", .local), ("__class__", .free), ("super", .globalImplicit)], isGenerator := false, isCoroutine := false, more := [] }
theorem iniSc : IniSc iniScope := ⟨rfl, rfl, rfl, rfl, rfl, rfl, rfl, by decide +kernel, by decide +kernel⟩
/-- what the written part says of such a class -/
structure XF (P : Program) (K : PySem.W.Frag) (C : Addr) : Prop where
  T : OexC K C
  hdC : PySem.W.hasDictIn K C = true
  ga : PySem.W.findIn K (.ref C) "__getattribute__" = some (some (.builtin "BaseException.__getattribute__"))
  gg : PySem.W.findIn K (.ref C) "__getattr__" = some none
  hc : ∃ cd, PySem.W.clsIn K C = some cd
  ha : PySem.W.findIn K (.ref C) "__class__" = some (some (.builtin "object.__class__"))
  hn : PySem.W.specialIn K (.builtin "object.__class__") "__get__" = some (some (.builtin "getset_descriptor.__get__"))
  ht : PySem.W.takesIn K (.builtin "object.__class__") = some true
  hm : PySem.W.mroIn K C (.type "object") = some true
theorem XF.x {P : Program} {K : PySem.W.Frag} {C : Addr} (F : XF P K C) : ExcX K C := ⟨(by obtain ⟨cd, e⟩ := F.hc; rw [e]; rfl), F.ga, F.gg, F.T.exC, F.ha, F.hn, F.ht, F.hm⟩
/-- and of its __init__ -/
structure XI (P : Program) (K : PySem.W.Frag) (mg : Str → Option Value) (x qual : Str) (C : Addr) : Prop extends XF P K C where
  at_ : mg x = some (.ref C)
  no : PySem.W.findIn K (.ref C) "value" = some none
  ini : ∃ (f cda cc t : Addr) (oc kV doc pm ct ccl cl otc : Value) (od an cdd cld otd : Option Addr) (osl ccs csl otl : Array (Option Value)) (vs : Array Value) (file : Str) (tf : Tok) (n : Nat) (a0 a1 a2 p0 p1 p2 p3 p4 p5 p6 p7 p8 p9 : Pos),
    PySem.W.findIn K (.ref C) "__init__" = some (some (.ref f)) ∧ PySem.W.typeIn K (.ref f) = some (.type "function") ∧
    K.lookup f = some ⟨oc, od, .func (PySem.W.ksFn "__init__" qual (iniArgs a0 a1 a2) (iniBody p0 p1 p2 p3 p4 p5 p6 p7 p8 p9) iniScope (.ref t) kV doc pm an (.ref cda) ct cc), osl⟩ ∧ PySem.W.codeIn K (.ref cda) qual = true ∧ (p2.endLine == p4.line) = true ∧
    K.lookup cda = some ⟨ccl, cdd, .fields vs, ccs⟩ ∧ vs[2]? = some (.str file tf) ∧ ((P.main.file : Str) == file) = true ∧ K.lookup cc = some ⟨cl, cld, .cell (some (.ref C)), csl⟩ ∧ K.lookup t = some ⟨otc, otd, .seq #[.none] n, otl⟩
  htop : (P.main.scope.names.lookup ("super" : Str)).isSome = false
  hsub : PySem.W.mroIn K C (.ref C) = some true
  hsp : PySem.W.ks_superIn K C C "__init__" = some (some (.builtin "ValueError.__init__"))
  hB : PySem.W.subIn K (.ref C) (.type "ValueError") = some true
  ho : PySem.W.nsIn K cStatics "thirdparty.any" = some none
theorem XI.f {P : Program} {K : PySem.W.Frag} {mg : Str → Option Value} {x qual : Str} {C : Addr} (F : XI P K mg x qual C) : ExF K C := ⟨⟨F.ga, F.gg, F.T.exC, F.hdC⟩, F.no⟩
theorem XI.k {P : Program} {w : World} {K : PySem.W.Frag} {mg : Str → Option Value} {base : Heap} {x qual : Str} {C : Addr} (F : XI P K mg x qual C) (hsup : mg "super" = none) : ExK P w K mg base x C 1 := by
  obtain ⟨f, cda, cc, t, oc, kV, doc, pm, ct, ccl, cl, otc, od, an, cdd, cld, otd, osl, ccs, csl, otl, vs, file, tf, n, a0, a1, a2, p0, p1, p2, p3, p4, p5, p6, p7, p8, p9, h1, h2, h3, h4, h5, h6, h7, h8, h9, h10⟩ := F.ini
  have I : IniK P K f C (PySem.W.ksFn "__init__" qual (iniArgs a0 a1 a2) (iniBody p0 p1 p2 p3 p4 p5 p6 p7 p8 p9) iniScope (.ref t) kV doc pm an (.ref cda) ct cc) :=
    ⟨⟨"__init__", qual, iniArgs a0 a1 a2, iniScope, .ref t, kV, doc, pm, ct, oc, ccl, cl, an, od, cdd, cld, osl, ccs, csl, cda, cc, vs, file, tf, _, p0, p1, p2, p3, p4, p5, p6, p7, p8, p9, rfl, h3, h4, iniSc, rfl, rfl, h5, h6, h7, h8, h9⟩, F.htop, F.T, F.hsub, F.hsp, F.hB, F.ho, F.no⟩
  refine ⟨f, _, F.T, h1, h2, ini_ok (k := 0) I hsup, fun s us X hl => ?_, ⟨[.none], .cons rfl .nil, fun s us X hl => ?_⟩, fun s a u X => ?_, F.at_⟩
  · rw [List.append_nil] at hl ⊢
    match us, hl with
    | [a, u], _ => exact PySem.W.binds_K X rfl h10 rfl (k := _) rfl rfl
  · rw [List.length_append] at hl
    obtain ⟨a, rfl⟩ := List.length_eq_one_iff.mp (show us.length = 1 by simp at hl; omega)
    exact PySem.W.binds_K X rfl h10 rfl (k := _) rfl rfl
  · exact PySem.W.binds_K X rfl h10 rfl (k := _) rfl rfl
theorem oexc_mk {K : PySem.W.Frag} {C : Addr} {nm q : Str} {N : Addr} {bs bm : List Value} {sn : List Str} {sub : List Value} {ab : Bool} {col : Option Bool} {dd : Option Addr} {k0 k1 k2 k3 k5 : Option Value}
    (h1 : K.lookup C = some (excClassObj nm q C N bs bm true sn sub ab col dd k0 k1 k2 k3 k5 "ValueError.__new__")) (h2 : PySem.HandSPX.refsVE bm = true) (h3 : PySem.W.findIn K (.ref C) "__setattr__" = some (some (.builtin "object.__setattr__")))
    (h4 : PySem.W.subIn K (.ref C) (.type "BaseException") = some true) (h5 : PySem.W.typeIn K (.ref C) = some (.type "type")) (h6 : PySem.W.keepIn K (.ref C) = true) : OexC K C := ⟨⟨nm, q, N, bs, bm, sn, sub, ab, col, dd, k0, k1, k2, k3, k5, h1, h2⟩, h3, h4, h5, h6⟩
theorem cls_mk {K : PySem.W.Frag} {C : Addr} {cd : ClassData} (h : PySem.W.clsIn K C = some cd) : ∃ cd, PySem.W.clsIn K C = some cd := ⟨cd, h⟩
theorem xi_mk {P : Program} {K : PySem.W.Frag} {mg : Str → Option Value} {x qual : Str} {C : Addr} {f cda cc t : Addr} {oc kV doc pm ct ccl cl otc : Value} {od an cdd cld otd : Option Addr} {osl ccs csl otl : Array (Option Value)} {vs : Array Value} {file : Str} {tf : Tok} {n : Nat} {a0 a1 a2 p0 p1 p2 p3 p4 p5 p6 p7 p8 p9 : Pos}
    (xf : XF P K C) (hat : mg x = some (.ref C)) (no : PySem.W.findIn K (.ref C) "value" = some none)
    (i1 :     PySem.W.findIn K (.ref C) "__init__" = some (some (.ref f))) (i2 : PySem.W.typeIn K (.ref f) = some (.type "function")) (i3 : K.lookup f = some ⟨oc, od, .func (PySem.W.ksFn "__init__" qual (iniArgs a0 a1 a2) (iniBody p0 p1 p2 p3 p4 p5 p6 p7 p8 p9) iniScope (.ref t) kV doc pm an (.ref cda) ct cc), osl⟩) (i4 : PySem.W.codeIn K (.ref cda) qual = true) (i5 : (p2.endLine == p4.line) = true) (i6 : K.lookup cda = some ⟨ccl, cdd, .fields vs, ccs⟩) (i7 : vs[2]? = some (.str file tf)) (i8 : ((P.main.file : Str) == file) = true) (i9 : K.lookup cc = some ⟨cl, cld, .cell (some (.ref C)), csl⟩) (i10 : K.lookup t = some ⟨otc, otd, .seq #[.none] n, otl⟩)
    (top : (P.main.scope.names.lookup ("super" : Str)).isSome = false) (sub : PySem.W.mroIn K C (.ref C) = some true) (sp : PySem.W.ks_superIn K C C "__init__" = some (some (.builtin "ValueError.__init__")))
    (hB : PySem.W.subIn K (.ref C) (.type "ValueError") = some true) (ho : PySem.W.nsIn K cStatics "thirdparty.any" = some none) : XI P K mg x qual C :=
  ⟨xf, hat, no, ⟨f, cda, cc, t, oc, kV, doc, pm, ct, ccl, cl, otc, od, an, cdd, cld, otd, osl, ccs, csl, otl, vs, file, tf, n, a0, a1, a2, p0, p1, p2, p3, p4, p5, p6, p7, p8, p9, i1, i2, i3, i4, i5, i6, i7, i8, i9, i10⟩, top, sub, sp, hB, ho⟩
end Ax

/-! Lw10: counts of rules; the law's own places and fits (shared by k03, k08). -/
namespace Ax
open PySem PySem.Spec PyProof.Rows L2 DL
instance {way : Str} {lim v l h : Int} : Decidable (fitV way lim v l h) := by unfold fitV; exact inferInstance
def sp__law_places : DSp := fun ds Φ => ∃ lo hi v : Int, ds = [.int lo, .int hi, .int v] ∧ (0 < v ∧ Bd 8999 v) ∧ Φ (.tup [.int (lo / v), .int (cdiv lo v), .int (hi / v), .int (cdiv hi v)])
def sp__law_is_fit : DSp := fun ds Φ => ∃ (b : Int) (way : Str) (ms : List Int) (lim lo hi v : Int), ds = [ruD b way ms lim, .int lo, .int hi, .int v] ∧ (1 ≤ lim ∧ lim ≤ 100) ∧ (0 < v ∧ Bd 8999 v) ∧ Φ (.bl (decide (fitV way lim v lo hi)))
def sp__law_scaled : DSp := fun ds Φ => ∃ (b : Int) (way : Str) (ms : List Int) (lim : Int) (s : Int × Int) (lo hi : Int), ds = [ruD b way ms lim, stD s, .int lo, .int hi] ∧ (2 ≤ b ∧ b ≤ 16) ∧ SOk s ∧ Bd 3998 lo ∧ Bd 3998 hi ∧ Φ (.tup [.int (lo * den b s.2), .int (hi * den b s.2), .int (num b s.1 s.2)])
theorem isFit_fitV {r : RD} {s : Int × Int} {lo hi : Int} (ro : ROk r) (hs : -200 ≤ s.2) : isFit r s lo hi = decide (fitV r.way r.lim (num r.b s.1 s.2) (lo * den r.b s.2) (hi * den r.b s.2)) := by
  unfold isFit fitV surely
  by_cases h1 : r.way = "inside"
  · simp only [if_pos h1]
  · by_cases h2 : r.way = "cover"
    · simp only [if_neg h1, if_pos h2]
    · simp only [if_neg h1, if_neg h2, Int.sub_mul]
/-! the next smaller step -/
abbrev g10 (g : Int × Int × Int) : D := .tup [.int g.1, .int g.2.1, .int g.2.2]
def sizes10 (b : Int) (ms : List Int) : List (Int × Int × Int) := ms.map (fun m => (m * b ^ 2, m, 0)) ++ ms.map (fun m => (m * b, m, -1))
structure Smaller (b : Int) (ms : List Int) (s t : Int × Int) : Prop where
  mem : t.1 ∈ ms
  p : t.2 = s.2 ∨ t.2 = s.2 - 1
  lt : t.1 * b ^ (t.2 - s.2 + 2).toNat < s.1 * b ^ 2
def sp__law_smaller : DSp := fun ds Φ => ∃ (b : Int) (way : Str) (ms : List Int) (lim : Int) (s : Int × Int), ds = [ruD b way ms lim, stD s] ∧ RFam b way ms lim ∧ s.1 ∈ ms ∧ ∀ t, Smaller b ms s t → Φ (stD t)
theorem sizes10_mem {b : Int} {ms : List Int} {g : Int × Int × Int} (h : g ∈ sizes10 b ms) : g.2.1 ∈ ms ∧ ((g.2.2 = 0 ∧ g.1 = g.2.1 * b ^ 2) ∨ (g.2.2 = -1 ∧ g.1 = g.2.1 * b)) := by
  rcases List.mem_append.mp h with h | h
  · obtain ⟨m, hm, rfl⟩ := List.mem_map.mp h
    exact ⟨hm, .inl ⟨rfl, rfl⟩⟩
  · obtain ⟨m, hm, rfl⟩ := List.mem_map.mp h
    exact ⟨hm, .inr ⟨rfl, rfl⟩⟩
theorem smaller_of {b : Int} {ms : List Int} {s : Int × Int} {g : Int × Int × Int} (h : g ∈ sizes10 b ms) (l : g.1 < s.1 * b ^ 2) : Smaller b ms s (g.2.1, s.2 + g.2.2) := by
  obtain ⟨h1, ⟨h2, h3⟩ | ⟨h2, h3⟩⟩ := sizes10_mem h
  · refine ⟨h1, .inl (by rw [h2]; simp), ?_⟩
    simp only [h2]
    rw [show (s.2 + 0 - s.2 + 2).toNat = 2 by omega, ← h3]
    exact l
  · refine ⟨h1, .inr (by rw [h2]; simp; omega), ?_⟩
    simp only [h2]
    rw [show (s.2 + -1 - s.2 + 2).toNat = 1 by omega, Int.pow_one, ← h3]
    exact l
theorem smaller_ne {b : Int} {ms : List Int} {s : Int × Int} (hb : 2 ≤ b) (hs : s.1 ∈ ms) (h1 : 1 ≤ s.1) : ((sizes10 b ms).filter fun g => decide (g.1 < s.1 * b ^ 2)) ≠ [] := by
  refine List.ne_nil_of_mem (a := (s.1 * b, s.1, -1)) (List.mem_filter.mpr ⟨List.mem_append_right _ (List.mem_map.mpr ⟨_, hs, rfl⟩), decide_eq_true ?_⟩)
  have e : s.1 * b ^ 2 = s.1 * b * b := by rw [Int.pow_succ, Int.pow_succ, Int.pow_zero, Int.one_mul, Int.mul_assoc]
  have h2 : 0 < s.1 * b := Int.mul_pos (by omega) (by omega)
  have h3 : s.1 * b * 2 ≤ s.1 * b * b := Int.mul_le_mul_of_nonneg_left hb (by omega)
  show s.1 * b < s.1 * b ^ 2
  omega
theorem Smaller.below {b : Int} {ms : List Int} {s t : Int × Int} (hb : 2 ≤ b) (h : Smaller b ms s t) (hs : -20 ≤ s.2) : V b t < V b s := by
  have hB := pow_pos (b := b) (by omega) (s.2 + 198).toNat
  have e1 : V b t = t.1 * b ^ (t.2 - s.2 + 2).toNat * b ^ (s.2 + 198).toNat := by
    unfold Ax.V
    rw [Int.mul_assoc, ← Int.pow_add]
    congr 2
    rcases h.p with e | e <;> omega
  have e2 : V b s = s.1 * b ^ 2 * b ^ (s.2 + 198).toNat := by
    unfold Ax.V
    rw [Int.mul_assoc, ← Int.pow_add]
    congr 2
    omega
  rw [e1, e2]
  exact (Int.mul_lt_mul_right hB).mpr h.lt
theorem Smaller.sok {b lim : Int} {way : Str} {ms : List Int} {s t : Int × Int} (h : Smaller b ms s t) (R : RFam b way ms lim) (p1 : -17 ≤ s.2) (p2 : s.2 ≤ 1001) : SOk t :=
  ⟨(R.fo.ms.hs _ h.mem).1, (R.fo.ms.hs _ h.mem).2, by rcases h.p with e | e <;> omega, by rcases h.p with e | e <;> omega⟩
/-- a smaller step does not fit -/
theorem Smaller.no {r : RD} {lo hi : Int} {s t : Int × Int} (ro : ROk r) {ms : List Int} (pm : r.hs.Perm ms) (hs : LeastFit r lo hi s) (h : Smaller r.b ms s t) : ¬ fitV r.way r.lim (num r.b t.1 t.2) (lo * den r.b t.2) (hi * den r.b t.2) := by
  intro f
  have p1 := hs.p1
  have hl := h.below ro.b2 (by omega)
  have := hs.least t (pm.mem_iff.mpr h.mem) (by rcases h.p with e | e <;> omega) (by rw [isFit_fitV ro (by rcases h.p with e | e <;> omega)]; exact decide_eq_true f)
  omega
/-! counts -/
theorem count_ok {way : Str} {lim v l h : Int} (hv : 0 < v) (hlt : l < h) (f : fitV way lim v l h) :
    (if way = "cover" then cdiv h v else h / v) - (if way = "cover" then l / v else cdiv l v) + 1 ≤ lim + (if way = "inside" then 0 else 1) ∧
    (if way = "cover" then 2 else 0) ≤ (if way = "cover" then cdiv h v else h / v) - (if way = "cover" then l / v else cdiv l v) + 1 := by
  unfold fitV at f
  have a1 := fl1 (a := l) hv
  have a2 := fl2 (a := h) hv
  have a3 := cd1 (a := h) hv
  have a4 := cd2 (a := l) hv
  have a5 := fl1 (a := h) hv
  have a6 := cd1 (a := l) hv
  split at f
  · next e =>
    subst e
    rw [if_neg (by decide), if_neg (by decide), if_pos rfl, if_neg (by decide)]
    refine ⟨by omega, ?_⟩
    have : (cdiv l v - 1) * v < (h / v + 1) * v := by rw [Int.sub_mul, Int.add_mul]; omega
    have := mul_lt_cancel hv this
    omega
  · next e =>
    rw [if_neg e]
    split at f
    · next e2 =>
      simp only [if_pos e2]
      refine ⟨by omega, ?_⟩
      have : l / v * v < cdiv h v * v := by omega
      have := mul_lt_cancel hv this
      omega
    · next e2 =>
      simp only [if_neg e2]
      constructor
      · have : (h / v - cdiv l v) * v < (lim + 1) * v := by rw [Int.sub_mul, Int.add_mul]; omega
        have := mul_lt_cancel hv this
        omega
      · have : (cdiv l v - 1) * v < (h / v + 1) * v := by rw [Int.sub_mul, Int.add_mul]; omega
        have := mul_lt_cancel hv this
        omega
theorem mk_fitV {r : RD} {s : Int × Int} {lo hi : Int} : mk1 r s lo = (if r.way = "cover" then lo * den r.b s.2 / num r.b s.1 s.2 else cdiv (lo * den r.b s.2) (num r.b s.1 s.2)) ∧ mk2 r s hi = (if r.way = "cover" then cdiv (hi * den r.b s.2) (num r.b s.1 s.2) else hi * den r.b s.2 / num r.b s.1 s.2) := ⟨rfl, rfl⟩
def sp__law_right10 (C : Addr) : DSp := fun ds Φ => ∃ (b : Int) (way : Str) (ms ns : List Int) (lim lo hi dg : Int), ds = [ruD b way ms lim, RD.d C ⟨b, way, ns, lim⟩, .int lo, .int hi, .int dg] ∧ RFam b way ms lim ∧ ns.Perm ms ∧ Rng2 lo hi ∧ (0 ≤ dg ∧ dg ≤ 5) ∧ Φ (.bl true)
end Ax
namespace Ax
open PySem PySem.Spec PyProof.Rows L2 DL
theorem count10 {r : RD} {lo hi : Int} {s : Int × Int} (ro : ROk r) (hs : LeastFit r lo hi s) (hlt : lo < hi) :
    mk2 r s hi - mk1 r s lo + 1 ≤ r.lim + (if r.way = "inside" then 0 else 1) ∧ (if r.way = "cover" then 2 else 0) ≤ mk2 r s hi - mk1 r s lo + 1 := by
  have b2 := ro.b2
  have p1 := hs.p1
  have hn := num_pos (b := r.b) (m := s.1) (p := s.2) (by omega) (by have := ro.hs _ hs.mem; omega)
  have hd := den_pos (b := r.b) (p := s.2) (by omega)
  have hf := hs.fit
  rw [isFit_fitV ro (by omega)] at hf
  exact count_ok hn ((Int.mul_lt_mul_right hd).mpr hlt) (of_decide_eq_true hf)
theorem bd_cdiv {a v : Int} {k : Nat} (h : Bd k a) (hv : 0 < v) : Bd k (cdiv a v) := by
  unfold cdiv
  rw [Int.zero_sub, Int.zero_sub]
  exact (h.neg.div hv).neg
theorem mk1_bd {r : RD} {lo : Int} {s : Int × Int} {k : Nat} (ro : ROk r) (so : SOk s) (h : Bd k lo) : Bd (k + 402) (mk1 r s lo) := by
  have b2 := ro.b2
  have hn := num_pos (b := r.b) (m := s.1) (p := s.2) (by omega) (by have := so.m1; omega)
  have hd := h.mul (den_bd (b := r.b) (by omega) ro.b16 so.p1)
  unfold mk1
  split
  · exact hd.div hn
  · exact bd_cdiv hd hn
theorem mk2_bd {r : RD} {hi : Int} {s : Int × Int} {k : Nat} (ro : ROk r) (so : SOk s) (h : Bd k hi) : Bd (k + 402) (mk2 r s hi) := by
  have b2 := ro.b2
  have hn := num_pos (b := r.b) (m := s.1) (p := s.2) (by omega) (by have := so.m1; omega)
  have hd := h.mul (den_bd (b := r.b) (by omega) ro.b16 so.p1)
  unfold mk2
  split
  · exact bd_cdiv hd hn
  · exact hd.div hn
theorem sides_c {a v : Int} (hv : 0 < v) : a / v * v ≤ a ∧ a < (a / v + 1) * v ∧ (cdiv a v - 1) * v < a ∧ a ≤ cdiv a v * v := by
  have h1 := fl1 (a := a) hv
  have h2 := fl2 (a := a) hv
  have h3 := cd1 (a := a) hv
  have h4 := cd2 (a := a) hv
  rw [Int.add_mul, Int.sub_mul]
  refine ⟨h1, by omega, by omega, h3⟩
theorem no10a {m l f lim : Int} {way : Str} (e : m = l - f + 1) (c1 : m ≤ lim + if way = "inside" then 0 else 1) (c2 : (if way = "cover" then 2 else 0) ≤ m)
    (h : (!decide (m = l - f + 1) || (decide (lim + (if (!decide (way = "inside")) = true then 1 else 0) < m) || decide (m < (if decide (way = "cover") = true then 1 else 0) * 2))) = true) : False := by
  have e0 : decide (m = l - f + 1) = true := decide_eq_true e
  rw [e0] at h
  by_cases e1 : way = "inside"
  · have e2 : ¬ way = "cover" := by rw [e1]; decide
    simp only [if_pos e1, if_neg e2] at c1 c2
    simp only [decide_eq_true e1, decide_eq_false e2] at h
    simp at h
    omega
  · by_cases e2 : way = "cover"
    · simp only [if_neg e1, if_pos e2] at c1 c2
      simp only [decide_eq_false e1, decide_eq_true e2] at h
      simp at h
      omega
    · simp only [if_neg e1, if_neg e2] at c1 c2
      simp only [decide_eq_false e1, decide_eq_false e2] at h
      simp at h
      omega
end Ax

/-! Lw03: the law's own least step, found by going up through all steps; the same range with more digits. -/
namespace Ax
open PySem PySem.Spec PyProof.Rows L2 DL
theorem cutD_lo {ds : List D} {k : Nat} (h : k ≤ ds.length) : DL.cutD ds (some (k : Int)) none = ds.drop k := by
  unfold DL.cutD
  rw [HT.sIx_nat, HT.sIx_none, Nat.min_eq_left h]
  exact List.take_of_length_le (by rw [List.length_drop]; exact Nat.le_refl _)
theorem cutD_hi {ds : List D} {k : Nat} (h : k ≤ ds.length) : DL.cutD ds none (some (k : Int)) = ds.take k := by
  unfold DL.cutD
  rw [HT.sIx_nat, HT.sIx_none, Nat.min_eq_left h, List.drop_zero, Nat.sub_zero]
/-! an item put into a sorted list -/
abbrev g3 (g : Int × Int × Nat) : D := .tup [.int g.1, .int g.2.1, .int (g.2.2 : Nat)]
def putAt (fs : List (Int × Int × Nat)) (x : Int × Int × Nat) : List (Int × Int × Nat) :=
  fs.take (fs.filter fun g => decide (g.1 < x.1)).length ++ [x] ++ fs.drop (fs.filter fun g => decide (g.1 < x.1)).length
abbrev Asc (fs : List (Int × Int × Nat)) : Prop := fs.Pairwise fun a c => a.1 ≤ c.1
theorem filter_cut {x : Int} : ∀ {fs : List (Int × Int × Nat)}, Asc fs → (fs.take (fs.filter fun g => decide (g.1 < x)).length = fs.filter fun g => decide (g.1 < x)) ∧ ∀ g ∈ fs.drop (fs.filter fun g => decide (g.1 < x)).length, x ≤ g.1
  | [], _ => ⟨rfl, fun g m => nomatch m⟩
  | a :: as, h => by
    obtain ⟨h1, h2⟩ := List.pairwise_cons.mp h
    obtain ⟨i1, i2⟩ := filter_cut (x := x) h2
    by_cases e : a.1 < x
    · rw [List.filter_cons, if_pos (decide_eq_true e)]
      simp only [List.length_cons, List.take_succ_cons, List.drop_succ_cons]
      exact ⟨by rw [i1], i2⟩
    · have z : (as.filter fun g => decide (g.1 < x)) = [] := List.filter_eq_nil_iff.mpr fun g m => by have := h1 g m; simp; omega
      rw [List.filter_cons, if_neg (by simpa using e), z]
      refine ⟨rfl, fun g m => ?_⟩
      rcases List.mem_cons.mp (by simpa using m) with e2 | e2
      · subst e2; omega
      · have := h1 g e2; omega
theorem mem_putAt {fs : List (Int × Int × Nat)} {x g : Int × Int × Nat} : g ∈ putAt fs x ↔ g ∈ fs ∨ g = x := by
  unfold putAt
  generalize (fs.filter fun g => decide (g.1 < x.1)).length = k
  rw [List.mem_append, List.mem_append, List.mem_singleton]
  have e : g ∈ fs ↔ g ∈ fs.take k ∨ g ∈ fs.drop k := by
    rw [← List.mem_append, List.take_append_drop]
  rw [e]
  constructor
  · rintro ((h | h) | h)
    · exact .inl (.inl h)
    · exact .inr h
    · exact .inl (.inr h)
  · rintro ((h | h) | h)
    · exact .inl (.inl h)
    · exact .inr h
    · exact .inl (.inr h)
theorem asc_putAt {fs : List (Int × Int × Nat)} {x : Int × Int × Nat} (h : Asc fs) : Asc (putAt fs x) := by
  obtain ⟨h1, h2⟩ := filter_cut (x := x.1) h
  have e : fs = fs.take (fs.filter fun g => decide (g.1 < x.1)).length ++ fs.drop (fs.filter fun g => decide (g.1 < x.1)).length := (List.take_append_drop _ _).symm
  have hp : Asc (fs.take (fs.filter fun g => decide (g.1 < x.1)).length ++ fs.drop (fs.filter fun g => decide (g.1 < x.1)).length) := by rw [← e]; exact h
  obtain ⟨p1, p2, p3⟩ := List.pairwise_append.mp hp
  have lt : ∀ g ∈ fs.take (fs.filter fun g => decide (g.1 < x.1)).length, g.1 ≤ x.1 := fun g m => by
    rw [h1] at m
    exact Int.le_of_lt (of_decide_eq_true (List.mem_filter.mp m).2)
  unfold putAt
  refine List.pairwise_append.mpr ⟨List.pairwise_append.mpr ⟨p1, List.pairwise_singleton _ _, fun a ha c hc => ?_⟩, p2, fun a ha c hc => ?_⟩
  · rw [List.mem_singleton.mp hc]; exact lt a ha
  · rcases List.mem_append.mp ha with ha | ha
    · exact p3 a ha c hc
    · rw [List.mem_singleton.mp ha]; exact h2 c hc
theorem len_putAt {fs : List (Int × Int × Nat)} {x : Int × Int × Nat} : (putAt fs x).length = fs.length + 1 := by
  unfold putAt
  rw [List.length_append, List.length_append, List.length_singleton, List.length_take, List.length_drop]
  have := List.length_filter_le (fun g : Int × Int × Nat => decide (g.1 < x.1)) fs
  omega
theorem map_putAt {fs : List (Int × Int × Nat)} {x : Int × Int × Nat} : (fs.map g3).take (fs.filter fun g => decide (g.1 < x.1)).length ++ [g3 x] ++ (fs.map g3).drop (fs.filter fun g => decide (g.1 < x.1)).length = (putAt fs x).map g3 := by
  unfold putAt
  rw [List.map_append, List.map_append, List.map_take, List.map_drop]
  rfl
/-! all steps of some powers -/
structure Upto (b : Int) (ms : List Int) (p0 p : Nat) (fs : List (Int × Int × Nat)) : Prop where
  asc : Asc fs
  ok : ∀ g ∈ fs, g.1 = g.2.1 * b ^ g.2.2 ∧ g.2.1 ∈ ms ∧ p0 ≤ g.2.2 ∧ g.2.2 < p
  all : ∀ h ∈ ms, ∀ q, p0 ≤ q → q < p → (h * b ^ q, h, q) ∈ fs
  len : fs.length = (p - p0) * ms.length
structure Within3 (b : Int) (ms : List Int) (p0 p i : Nat) (fs : List (Int × Int × Nat)) : Prop where
  asc : Asc fs
  ok : ∀ g ∈ fs, g.1 = g.2.1 * b ^ g.2.2 ∧ g.2.1 ∈ ms ∧ p0 ≤ g.2.2 ∧ g.2.2 < p + 1
  all : ∀ h ∈ ms, ∀ q, p0 ≤ q → q < p → (h * b ^ q, h, q) ∈ fs
  now : ∀ h ∈ ms.take i, (h * b ^ p, h, p) ∈ fs
  len : fs.length = (p - p0) * ms.length + i
theorem Upto.open {b : Int} {ms : List Int} {p0 p : Nat} {fs : List (Int × Int × Nat)} (h : Upto b ms p0 p fs) : Within3 b ms p0 p 0 fs :=
  ⟨h.asc, fun g m => ⟨(h.ok g m).1, (h.ok g m).2.1, (h.ok g m).2.2.1, Nat.lt_succ_of_lt (h.ok g m).2.2.2⟩, h.all, fun x m => (nomatch m), h.len⟩
theorem Within3.put {b m : Int} {ms : List Int} {p0 p i : Nat} {fs : List (Int × Int × Nat)} (h : Within3 b ms p0 p i fs) (hp : p0 ≤ p) (hm : ms[i]? = some m) : Within3 b ms p0 p (i + 1) (putAt fs (m * b ^ p, m, p)) := by
  refine ⟨asc_putAt h.asc, fun g hg => ?_, fun x hx q h1 h2 => mem_putAt.mpr (.inl (h.all x hx q h1 h2)), fun x hx => ?_, by rw [len_putAt, h.len]; omega⟩
  · rcases mem_putAt.mp hg with z | z
    · exact h.ok g z
    · subst z; exact ⟨rfl, List.mem_of_getElem? hm, hp, Nat.lt_succ_self _⟩
  · rw [List.take_add_one, hm] at hx
    rcases List.mem_append.mp hx with z | z
    · exact mem_putAt.mpr (.inl (h.now x z))
    · simp at z; subst z; exact mem_putAt.mpr (.inr rfl)
theorem Within3.close {b : Int} {ms : List Int} {p0 p : Nat} {fs : List (Int × Int × Nat)} (h : Within3 b ms p0 p ms.length fs) (hp : p0 ≤ p) : Upto b ms p0 (p + 1) fs := by
  refine ⟨h.asc, h.ok, fun x hx q h1 h2 => ?_, ?_⟩
  · rcases Nat.lt_succ_iff_lt_or_eq.mp h2 with z | z
    · exact h.all x hx q h1 z
    · subst z; exact h.now x (by rw [List.take_length]; exact hx)
  · rw [h.len, show p + 1 - p0 = (p - p0) + 1 by omega, Nat.add_mul, Nat.one_mul]
structure Sizes3 (b : Int) (ms : List Int) (L : Int) (fs : List (Int × Int × Nat)) : Prop where
  ex : ∃ p0 p, Upto b ms p0 p fs ∧ (p0 = 0 ∨ b ^ (p0 - 1) * b * 25 * 9 < L) ∧ 10 * b * L < b ^ p ∧ p ≤ 600
def sp__law_sizes : DSp := fun ds Φ => ∃ (b : Int) (way : Str) (ms : List Int) (lim L : Int), ds = [ruD b way ms lim, .int L] ∧ RFam b way ms lim ∧ (1 ≤ L ∧ L < 2 ^ 500) ∧ ∀ fs, Sizes3 b ms L fs → Φ (.lst (fs.map g3))
theorem Upto.nil {b : Int} {ms : List Int} {p0 : Nat} : Upto b ms p0 p0 [] := ⟨List.Pairwise.nil, (fun g m => nomatch m), (fun h _ q h1 h2 => absurd h2 (by omega)), by rw [Nat.sub_self, Nat.zero_mul]; rfl⟩
theorem Within3.few {b : Int} {ms : List Int} {p0 p i : Nat} {fs : List (Int × Int × Nat)} (h : Within3 b ms p0 p i fs) (hm : ms.length ≤ 16) (hp : p ≤ 600) (hi : i ≤ 16) : fs.length ≤ 10000 := by
  rw [h.len]
  have : (p - p0) * ms.length ≤ 600 * 16 := Nat.mul_le_mul (by omega) hm
  omega
theorem pow_small {b L : Int} (hb : 2 ≤ b) {p k : Nat} (h : b ^ p < L) (hL : L ≤ 2 ^ k) : p < k := by
  have h1 := two_pow_le hb p
  rcases Nat.lt_or_ge p k with g | g
  · exact g
  · have := pow_mono (b := (2 : Int)) (by decide) g
    omega
theorem LeastFit.permN {b lim lo hi : Int} {way : Str} {ms ns : List Int} {s : Int × Int} (p : ns.Perm ms) (h : LeastFit ⟨b, way, ms, lim⟩ lo hi s) : LeastFit ⟨b, way, ns, lim⟩ lo hi s :=
  ⟨p.mem_iff.mpr h.mem, h.p1, h.p2, h.fit, fun t m l f => h.least t (p.mem_iff.mp m) l f⟩
/-! the first that fits is the least -/
theorem fit3 {r : RD} {lo hi h : Int} {p : Nat} (ro : ROk r) (hm : 1 ≤ h) : isFit r (h, (p : Int) - 9) lo hi = true ↔ fitV r.way r.lim (h * r.b ^ p) (lo * r.b ^ 9) (hi * r.b ^ 9) := by
  have b2 := ro.b2
  have e : V r.b (h, (p : Int) - 9) = h * r.b ^ p * r.b ^ 191 := by
    unfold V
    rw [Int.mul_assoc, ← Int.pow_add]
    congr 2
    simp only
    omega
  have e2 : ∀ a : Int, a * r.b ^ 200 = a * r.b ^ 9 * r.b ^ 191 := fun a => by rw [Int.mul_assoc, ← Int.pow_add]
  rw [isFit_V ro (by simp only; omega), e, e2, e2]
  exact fit_times (pow_pos (by omega) _)
theorem fit_big {way : Str} {lim v l h : Int} (hv : 0 < v) (hl : 1 ≤ lim) (hc : way = "cover" → 2 ≤ lim) (g : h - l < v) : fitV way lim v l h := by
  refine sure_fit hv ?_
  have h1 : 1 * v ≤ lim * v := Int.mul_le_mul_of_nonneg_right hl (by omega)
  unfold sureV
  split
  · omega
  · split
    · next e =>
      have := hc e
      have : 1 * v ≤ (lim - 1) * v := Int.mul_le_mul_of_nonneg_right (by omega) (by omega)
      omega
    · omega
/-- a fitting step is not too small -/
theorem fit_not_small {way : Str} {lim v l h : Int} (hv : 0 < v) (hl : lim ≤ 6) (f : fitV way lim v l h) : h - l ≤ 7 * v := by
  have := fit_may hv f
  have h1 : (lim + 1) * v ≤ 7 * v := Int.mul_le_mul_of_nonneg_right (by omega) (by omega)
  have h2 : lim * v ≤ 7 * v := Int.mul_le_mul_of_nonneg_right (by omega) (by omega)
  unfold mayV at this
  split at this <;> omega
structure First3 (fs : List (Int × Int × Nat)) (way : Str) (lim l h : Int) (g : Int × Int × Nat) : Prop where
  ex : ∃ i : Nat, fs[i]? = some g ∧ fitV way lim g.1 l h ∧ ∀ (j : Nat) (x : Int × Int × Nat), j < i → fs[j]? = some x → ¬ fitV way lim x.1 l h
theorem pow_le_of {b : Int} (hb : 2 ≤ b) {m n : Nat} (h : b ^ m ≤ b ^ n) : m ≤ n := by
  rcases Nat.lt_or_ge n m with g | g
  · have h1 := pow_mono (b := b) (by omega) (show n + 1 ≤ m from g)
    rw [Int.pow_succ] at h1
    have h2 := pow_pos (b := b) (by omega) n
    have h3 : b ^ n * 2 ≤ b ^ n * b := Int.mul_le_mul_of_nonneg_left hb (by omega)
    omega
  · exact g
/-- the least power at which a mantissa is greater than a length -/
theorem over3 {b h L : Int} (hb : 2 ≤ b) (hh : 1 ≤ h) (hL : h ≤ L) : ∀ p : Nat, L < h * b ^ p → ∃ q, q < p ∧ h * b ^ q ≤ L ∧ L < h * b ^ (q + 1)
  | 0, g => by rw [Int.pow_zero, Int.mul_one] at g; omega
  | p + 1, g => by
    by_cases c : L < h * b ^ p
    · obtain ⟨q, h1, h2, h3⟩ := over3 hb hh hL p c
      exact ⟨q, by omega, h2, h3⟩
    · exact ⟨p, Nat.lt_succ_self _, by omega, g⟩
theorem First3.least {b lo hi lim : Int} {way : Str} {ms : List Int} {fs : List (Int × Int × Nat)} {g : Int × Int × Nat} (R : RFam b way ms lim) (hlt : lo < hi) (hS : Sizes3 b ms (hi * b ^ 9 - lo * b ^ 9) fs)
    (h : First3 fs way lim (lo * b ^ 9) (hi * b ^ 9) g) : LeastFit ⟨b, way, ms, lim⟩ lo hi (g.2.1, (g.2.2 : Int) - 9) := by
  obtain ⟨p0, p, U, h0, h1, hp⟩ := hS.ex
  obtain ⟨i, gi, gf, gb⟩ := h.ex
  have ro := R.fo.r (List.Perm.refl _)
  have b2 := R.fo.ms.b2
  have l6 := R.lim6
  obtain ⟨o1, o2, o3, o4⟩ := U.ok g (List.mem_of_getElem? gi)
  have hm := R.fo.ms.hs _ o2
  have hB := pow_pos (b := b) (by omega) 191
  have hB9 := pow_pos (b := b) (by omega) 9
  have eV : ∀ (x : Int) (q : Nat), V b (x, (q : Int) - 9) = x * b ^ q * b ^ 191 := fun x q => by
    unfold V
    rw [Int.mul_assoc, ← Int.pow_add]
    congr 2
    simp only
    omega
  have hL : 512 ≤ hi * b ^ 9 - lo * b ^ 9 := by
    have h1 : 1 * b ^ 9 ≤ (hi - lo) * b ^ 9 := Int.mul_le_mul_of_nonneg_right (by omega) (by omega)
    rw [Int.sub_mul] at h1
    have h2 := two_pow_le b2 9
    have : (2 : Int) ^ 9 = 512 := by decide
    omega
  generalize hLe : hi * b ^ 9 - lo * b ^ 9 = L at *
  -- a step in the list that fits surely
  have small : g.1 ≤ b * L := by
    obtain ⟨h0m, hh0⟩ : ∃ x, x ∈ ms := ⟨g.2.1, o2⟩
    have x1 := (R.fo.ms.hs _ hh0).1
    have x2 := R.small _ hh0
    have big : L < h0m * b ^ p := by
      have : 1 * b ^ p ≤ h0m * b ^ p := Int.mul_le_mul_of_nonneg_right x1 (Int.le_of_lt (pow_pos (by omega) _))
      have h3 : 20 * L ≤ 10 * b * L := Int.mul_le_mul_of_nonneg_right (by omega) (by omega)
      omega
    obtain ⟨q, q1, q2, q3⟩ := over3 b2 x1 (by omega) p big
    have qin : q + 1 < p := by
      have e2 : h0m * b ^ (q + 1) ≤ b * L := by
        rw [Int.pow_succ, ← Int.mul_assoc, Int.mul_comm b L]
        exact Int.mul_le_mul_of_nonneg_right q2 (by omega)
      have e3 : 1 * b ^ (q + 1) ≤ h0m * b ^ (q + 1) := Int.mul_le_mul_of_nonneg_right x1 (Int.le_of_lt (pow_pos (by omega) _))
      rcases Nat.lt_or_ge (q + 1) p with z | z
      · exact z
      · have := pow_mono (b := b) (by omega) z
        have h3 : b * L ≤ 10 * b * L := Int.mul_le_mul_of_nonneg_right (by omega) (by omega)
        omega
    have qlo : p0 ≤ q + 1 := by
      rcases h0 with h0 | h0
      · omega
      · rcases Nat.lt_or_ge (q + 1) p0 with z | z
        · exfalso
          have e1 := pow_mono (b := b) (by omega) (show q + 1 ≤ p0 - 1 by omega)
          have e2 : h0m * b ^ (q + 1) ≤ 25 * b ^ (q + 1) := Int.mul_le_mul_of_nonneg_right x2 (Int.le_of_lt (pow_pos (by omega) _))
          have e3 : b ^ (p0 - 1) * 2 ≤ b ^ (p0 - 1) * b := Int.mul_le_mul_of_nonneg_left b2 (Int.le_of_lt (pow_pos (by omega) _))
          have e4 := pow_pos (b := b) (by omega) (p0 - 1)
          omega
        · exact z
    have mem := U.all h0m hh0 (q + 1) qlo qin
    have fits : fitV way lim (h0m * b ^ (q + 1)) (lo * b ^ 9) (hi * b ^ 9) := fit_big (Int.mul_pos (by omega) (pow_pos (by omega) _)) R.fo.l1 R.fo.cov (by omega)
    obtain ⟨j, hj, ej⟩ := List.mem_iff_getElem.mp mem
    have ej2 : fs[j]? = some (h0m * b ^ (q + 1), h0m, q + 1) := by rw [List.getElem?_eq_getElem hj, ej]
    have hij : i ≤ j := by
      rcases Nat.lt_or_ge j i with z | z
      · exact absurd fits (gb j _ z ej2)
      · exact z
    have le : g.1 ≤ h0m * b ^ (q + 1) := by
      rcases Nat.lt_or_eq_of_le hij with z | z
      · have hi2 := (List.getElem?_eq_some_iff.mp gi).1
        have := List.pairwise_iff_getElem.mp U.asc i j hi2 hj z
        rw [ej, (List.getElem?_eq_some_iff.mp gi).2] at this
        exact this
      · subst z; rw [gi] at ej2; cases ej2; exact Int.le_refl _
    refine Int.le_trans le ?_
    rw [Int.pow_succ, ← Int.mul_assoc, Int.mul_comm b L]
    exact Int.mul_le_mul_of_nonneg_right q2 (by omega)
  refine ⟨o2, by simp only; omega, by simp only; omega, ?_, fun t ht tp tf => ?_⟩
  · rw [fit3 ro (by omega)]
    simp only
    rw [← o1]
    exact gf
  · have tm := R.fo.ms.hs _ ht
    have t25 := R.small _ ht
    rw [eV, ← o1]
    rcases Int.lt_or_le t.2 (-9) with z | z
    · exfalso
      -- much too small
      have hf := (isFit_V ro tp).mp tf
      have h7 := fit_not_small (V_pos (by simp only; omega) (by omega)) l6 hf
      have e1 := V_mono (b := b) (m := t.1) (by omega) (by omega) (show t.2 ≤ -10 by omega)
      have e2 : V b (t.1, -10) = t.1 * b ^ 190 := rfl
      have e3 : t.1 * b ^ 190 ≤ 25 * b ^ 190 := Int.mul_le_mul_of_nonneg_right t25 (Int.le_of_lt (pow_pos (by omega) _))
      have e4 : V b t = V b (t.1, t.2) := rfl
      have e5 : hi * b ^ 200 - lo * b ^ 200 = L * (b * b ^ 190) := by
        rw [← hLe, Int.sub_mul]
        have : ∀ a : Int, a * b ^ 200 = a * b ^ 9 * (b * b ^ 190) := fun a => by rw [Int.mul_assoc, ← Int.mul_assoc (b ^ 9), ← Int.pow_succ, ← Int.pow_add]
        rw [this, this]
      have e6 : 512 * (b * b ^ 190) ≤ L * (b * b ^ 190) := Int.mul_le_mul_of_nonneg_right hL (Int.le_of_lt (Int.mul_pos (by omega) (pow_pos (by omega) _)))
      have e7 : 2 * b ^ 190 ≤ b * b ^ 190 := Int.mul_le_mul_of_nonneg_right b2 (Int.le_of_lt (pow_pos (by omega) _))
      have e8 := pow_pos (b := b) (by omega) 190
      simp only at h7
      omega
    · obtain ⟨q, hq⟩ : ∃ q : Nat, t.2 = (q : Int) - 9 := ⟨(t.2 + 9).toNat, by omega⟩
      have et : t = (t.1, (q : Int) - 9) := Prod.ext rfl hq
      rw [et] at tf ⊢
      rw [fit3 ro (by omega)] at tf
      simp only at tf
      rw [eV]
      refine Int.mul_le_mul_of_nonneg_right ?_ (by omega)
      rcases Nat.lt_or_ge q p0 with c | c
      · exfalso
        rcases h0 with h0 | h0
        · omega
        · have h7 := fit_not_small (Int.mul_pos (by omega) (pow_pos (by omega) _)) l6 tf
          have e1 := pow_mono (b := b) (by omega) (show q ≤ p0 - 1 by omega)
          have e2 : t.1 * b ^ q ≤ 25 * b ^ q := Int.mul_le_mul_of_nonneg_right t25 (Int.le_of_lt (pow_pos (by omega) _))
          have e3 : b ^ (p0 - 1) * 2 ≤ b ^ (p0 - 1) * b := Int.mul_le_mul_of_nonneg_left b2 (Int.le_of_lt (pow_pos (by omega) _))
          have e4 := pow_pos (b := b) (by omega) (p0 - 1)
          omega
      · rcases Nat.lt_or_ge q p with d | d
        · have mem := U.all t.1 ht q c d
          obtain ⟨j, hj, ej⟩ := List.mem_iff_getElem.mp mem
          have ej2 : fs[j]? = some (t.1 * b ^ q, t.1, q) := by rw [List.getElem?_eq_getElem hj, ej]
          have hij : i ≤ j := by
            rcases Nat.lt_or_ge j i with z | z
            · exact absurd tf (gb j _ z ej2)
            · exact z
          rcases Nat.lt_or_eq_of_le hij with z | z
          · have hi2 := (List.getElem?_eq_some_iff.mp gi).1
            have := List.pairwise_iff_getElem.mp U.asc i j hi2 hj z
            rw [ej, (List.getElem?_eq_some_iff.mp gi).2] at this
            exact this
          · subst z; rw [gi] at ej2; cases ej2; exact Int.le_refl _
        · have e1 := pow_mono (b := b) (by omega) d
          have e2 : 1 * b ^ q ≤ t.1 * b ^ q := Int.mul_le_mul_of_nonneg_right tm.1 (Int.le_of_lt (pow_pos (by omega) _))
          have h3 : b * L ≤ 10 * b * L := Int.mul_le_mul_of_nonneg_right (by omega) (by omega)
          omega
/-- some step of the list fits -/
theorem Sizes3.some {b lo hi lim : Int} {way : Str} {ms : List Int} {fs : List (Int × Int × Nat)} (R : RFam b way ms lim) (hlt : lo < hi) (hS : Sizes3 b ms (hi * b ^ 9 - lo * b ^ 9) fs) : ∃ g ∈ fs, fitV way lim g.1 (lo * b ^ 9) (hi * b ^ 9) := by
  obtain ⟨p0, p, U, h0, h1, hp⟩ := hS.ex
  have b2 := R.fo.ms.b2
  obtain ⟨m, ms', e⟩ := List.exists_cons_of_ne_nil R.fo.ms.ne
  have hm : m ∈ ms := by rw [e]; exact List.mem_cons_self
  have x1 := (R.fo.ms.hs _ hm).1
  have hB9 := pow_pos (b := b) (by omega) 9
  have hL : 1 ≤ hi * b ^ 9 - lo * b ^ 9 := by
    have h1 : 1 * b ^ 9 ≤ (hi - lo) * b ^ 9 := Int.mul_le_mul_of_nonneg_right (by omega) (by omega)
    rw [Int.sub_mul] at h1
    omega
  generalize hLe : hi * b ^ 9 - lo * b ^ 9 = L at *
  have hp1 : 1 ≤ p := by
    rcases Nat.eq_zero_or_pos p with z | z
    · subst z
      have h3 : 20 * L ≤ 10 * b * L := Int.mul_le_mul_of_nonneg_right (by omega) (by omega)
      rw [Int.pow_zero] at h1
      omega
    · exact z
  have e4 : b ^ p = b ^ (p - 1) * b := by rw [← Int.pow_succ]; congr 1; omega
  have e5 : L < b ^ (p - 1) := by
    rcases Int.lt_or_le L (b ^ (p - 1)) with z | z
    · exact z
    · have := Int.mul_le_mul_of_nonneg_right z (show 0 ≤ b by omega)
      have h3 : b * L ≤ 10 * b * L := Int.mul_le_mul_of_nonneg_right (by omega) (by omega)
      rw [Int.mul_comm L b] at this
      omega
  have lo2 : p0 ≤ p - 1 := by
    rcases h0 with z | z
    · omega
    · rcases Nat.lt_or_ge (p - 1) p0 with c | c
      · have := pow_mono (b := b) (by omega) (show p - 1 ≤ p0 - 1 + 1 by omega)
        rw [Int.pow_succ] at this
        have h6 := pow_pos (b := b) (by omega) (p0 - 1)
        have h7 : 0 < b ^ (p0 - 1) * b := Int.mul_pos h6 (by omega)
        omega
      · exact c
  refine ⟨_, U.all m hm (p - 1) lo2 (by omega), fit_big (Int.mul_pos (by omega) (pow_pos (by omega) _)) R.fo.l1 R.fo.cov ?_⟩
  have : 1 * b ^ (p - 1) ≤ m * b ^ (p - 1) := Int.mul_le_mul_of_nonneg_right x1 (Int.le_of_lt (pow_pos (by omega) _))
  simp only
  omega
def sp__law_step : DSp := fun ds Φ => ∃ (b : Int) (way : Str) (ms : List Int) (lim lo hi : Int), ds = [ruD b way ms lim, .int lo, .int hi] ∧ RFam b way ms lim ∧ (Bd 400 lo ∧ Bd 400 hi ∧ lo < hi) ∧ ∀ s, LeastFit ⟨b, way, ms, lim⟩ lo hi s → Φ (stD s)
def sp__law_marks : DSp := fun ds Φ => ∃ (b : Int) (way : Str) (ms : List Int) (lim lo hi : Int), ds = [ruD b way ms lim, .int lo, .int hi] ∧ RFam b way ms lim ∧ (Bd 400 lo ∧ Bd 400 hi ∧ lo < hi) ∧ ∀ s, LeastFit ⟨b, way, ms, lim⟩ lo hi s → Φ (.tup [.int (mk1 ⟨b, way, ms, lim⟩ s lo), .int (mk2 ⟨b, way, ms, lim⟩ s hi)])
/-! the same range, told with more digits -/
theorem LeastFit.digits {r : RD} {lo hi : Int} {s t : Int × Int} {k : Nat} (ro : ROk r) (h : LeastFit r lo hi s) (g : LeastFit r (lo * r.b ^ k) (hi * r.b ^ k) t) (hk : k ≤ 30) : t = (s.1, s.2 + k) := by
  have b2 := ro.b2
  have h1 := h.p1
  have g1 := g.p1
  have hB := pow_pos (b := r.b) (by omega) k
  have key : ∀ u : Int × Int, -200 ≤ u.2 → (isFit r (u.1, u.2 + k) (lo * r.b ^ k) (hi * r.b ^ k) = true ↔ isFit r u lo hi = true) := fun u hu => by
    rw [isFit_V ro (s := (u.1, u.2 + k)) (by simp only; omega), isFit_V ro hu, V_split (p := u.2) hu (by omega), Int.mul_right_comm lo, Int.mul_right_comm hi, show (u.2 + (k : Int) - u.2).toNat = k by omega]
    exact fit_times hB
  have hs := (key s (by omega)).mpr h.fit
  have e1 := g.least (s.1, s.2 + k) h.mem (by simp only; omega) hs
  have ht : isFit r (t.1, t.2 - k) lo hi = true := by
    rw [← key (t.1, t.2 - k) (by simp only; omega)]
    rw [show ((t.1, t.2 - (k : Int)).1, (t.1, t.2 - (k : Int)).2 + k) = t from Prod.ext rfl (by simp only; omega)]
    exact g.fit
  have e2 := h.least (t.1, t.2 - k) g.mem (by simp only; omega) ht
  have e3 : V r.b t = V r.b (t.1, t.2 - k) * r.b ^ k := by
    have := V_split (b := r.b) (m := t.1) (p := t.2 - k) (q := t.2) (by omega) (by omega)
    rw [show (t.2 - (t.2 - (k : Int))).toNat = k by omega] at this
    exact this
  have e4 : V r.b (s.1, s.2 + k) = V r.b s * r.b ^ k := by
    have := V_split (b := r.b) (m := s.1) (p := s.2) (q := s.2 + k) (by omega) (by omega)
    rw [show (s.2 + (k : Int) - s.2).toNat = k by omega] at this
    exact this
  have e5 : V r.b s * r.b ^ k ≤ V r.b (t.1, t.2 - k) * r.b ^ k := Int.mul_le_mul_of_nonneg_right e2 (by omega)
  exact V_inj b2 (by omega) (by simp only; omega) (ro.prim _ g.mem) (ro.prim _ h.mem) (by omega)
theorem mk_digits {r : RD} {lo hi : Int} {s : Int × Int} {k : Nat} (ro : ROk r) (hs : -100 ≤ s.2) : mk1 r (s.1, s.2 + k) (lo * r.b ^ k) = mk1 r s lo ∧ mk2 r (s.1, s.2 + k) (hi * r.b ^ k) = mk2 r s hi := by
  have b2 := ro.b2
  have hB := pow_pos (b := r.b) (by omega) k
  have e4 : V r.b (s.1, s.2 + k) = V r.b s * r.b ^ k := by
    have := V_split (b := r.b) (m := s.1) (p := s.2) (q := s.2 + k) (by omega) (by omega)
    rw [show (s.2 + (k : Int) - s.2).toNat = k by omega] at this
    exact this
  have f : ∀ a : Int, a * r.b ^ k * r.b ^ 200 / V r.b (s.1, s.2 + k) = a * r.b ^ 200 / V r.b s := fun a => by
    rw [e4, Int.mul_right_comm, Int.mul_ediv_mul_of_pos_left _ _ hB]
  have g : ∀ a : Int, cdiv (a * r.b ^ k * r.b ^ 200) (V r.b (s.1, s.2 + k)) = cdiv (a * r.b ^ 200) (V r.b s) := fun a => by
    unfold cdiv
    rw [show (0 - a * r.b ^ k * r.b ^ 200) = (0 - a) * r.b ^ k * r.b ^ 200 by rw [Int.sub_mul, Int.sub_mul, Int.zero_mul, Int.zero_mul], show (0 - a * r.b ^ 200) = (0 - a) * r.b ^ 200 by rw [Int.sub_mul, Int.zero_mul], f]
  rw [mk1_V ro (by simp only; omega), mk2_V ro (by simp only; omega), mk1_V ro (by omega), mk2_V ro (by omega), f, g, f, g]
  exact ⟨rfl, rfl⟩
def sp__law_right03 (C : Addr) : PSp := fun ds n Φ => ∃ (b : Int) (way : Str) (ms : List Int) (lim : Int) (m : Nat), ds = [ruD b way ms lim] ∧ RFam b way ms lim ∧ n = m + 55 ∧ Φ (.bl true) m
theorem rep2 {a b : Int} (ha : Bd 1900 a) (hb : Bd 1900 b) : repOk (toPy (.tup [.int a, .int b])) := by
  refine repOk_of ?_ ?_ ?_
  · simp only [toPy, toPys, Shw, Shws]
    exact ⟨ha, hb, trivial⟩
  · simp only [toPy, toPys, rcost, rcosts]; decide
  · simp only [toPy, toPys, PyData.depth, PyData.depthAll]; decide
theorem lt_of_bd {x : Int} {k : Nat} (h : Bd k x) : x < 2 ^ k := by
  have e : ((2 ^ k : Nat) : Int) = 2 ^ k := by norm_cast
  unfold Bd at h
  omega
theorem Sizes3.ok3 {b L lim : Int} {way : Str} {ms : List Int} {fs : List (Int × Int × Nat)} {g : Int × Int × Nat} (h : Sizes3 b ms L fs) (R : RFam b way ms lim) (m : g ∈ fs) : 0 < g.1 ∧ Bd 8999 g.1 := by
  obtain ⟨p0, p, U, h0, h1, hp⟩ := h.ex
  obtain ⟨o1, o2, o3, o4⟩ := U.ok g m
  have b2 := R.fo.ms.b2
  have b16 := R.fo.ms.b16
  have hm := R.fo.ms.hs _ o2
  rw [o1]
  exact ⟨Int.mul_pos (by omega) (pow_pos (by omega) _), ((Bd.small (k := 10) (x := g.2.1) 1001 (by omega) (by decide)).mul (Bd.pow (b := b) (by omega) b16 g.2.2)).mono (by omega)⟩
theorem cnt_ok {a b : Int} (h1 : Bd 602 a) (h2 : Bd 602 b) : (b - a + 1).natAbs.log2 < 1920 :=
  log2_lt (((h2.sub h1).add (show Bd 603 (1 : Int) by unfold Bd; decide +kernel)).mono (k := 1900) (by decide))
end Ax

/-! Lw11: rules each of whose steps divides the next one. -/
namespace Ax
open PySem PySem.Spec PyProof.Rows L2 DL
theorem cutD_take {ds : List D} {k : Nat} : DL.cutD ds none (some (k : Int)) = ds.take k := by
  unfold DL.cutD
  rw [HT.sIx_nat, HT.sIx_none, List.drop_zero, Nat.sub_zero]
  rcases Nat.le_total k ds.length with h | h
  · rw [Nat.min_eq_left h]
  · rw [Nat.min_eq_right h, List.take_length, List.take_of_length_le h]
theorem cutD_drop {ds : List D} {k : Nat} : DL.cutD ds (some (k : Int)) none = ds.drop k := by
  unfold DL.cutD
  rw [HT.sIx_nat, HT.sIx_none]
  rcases Nat.le_total k ds.length with h | h
  · rw [Nat.min_eq_left h]
    exact List.take_of_length_le (by rw [List.length_drop]; exact Nat.le_refl _)
  · rw [Nat.min_eq_right h, List.drop_length, List.drop_of_length_le h, List.take_nil]
/-! sorting, plainly -/
def insI (x : Int) : List Int → List Int
  | [] => [x]
  | y :: ys => if x ≤ y then x :: y :: ys else y :: insI x ys
def isort : List Int → List Int
  | [] => []
  | x :: xs => insI x (isort xs)
theorem insI_perm {x : Int} : ∀ {l : List Int}, (insI x l).Perm (x :: l)
  | [] => List.Perm.refl _
  | y :: ys => by
    unfold insI
    split
    · exact List.Perm.refl _
    · exact (insI_perm.cons y).trans (List.Perm.swap x y ys)
theorem isort_perm : ∀ {l : List Int}, (isort l).Perm l
  | [] => List.Perm.refl _
  | x :: xs => (insI_perm).trans (isort_perm.cons x)
theorem insI_asc {x : Int} : ∀ {l : List Int}, l.Pairwise (· ≤ ·) → (insI x l).Pairwise (· ≤ ·)
  | [], _ => List.pairwise_singleton _ _
  | y :: ys, h => by
    obtain ⟨h1, h2⟩ := List.pairwise_cons.mp h
    unfold insI
    split
    · next c => exact List.pairwise_cons.mpr ⟨fun z m => (List.mem_cons.mp m).elim (fun e => by subst e; exact c) (fun e => Int.le_trans c (h1 z e)), h⟩
    · next c =>
      refine List.pairwise_cons.mpr ⟨fun z m => ?_, insI_asc h2⟩
      rcases List.mem_cons.mp (insI_perm.mem_iff.mp m) with e | e
      · subst e; omega
      · exact h1 z e
theorem isort_asc : ∀ {l : List Int}, (isort l).Pairwise (· ≤ ·)
  | [] => List.Pairwise.nil
  | x :: xs => insI_asc isort_asc
theorem sorted_eq : ∀ {a b : List Int}, a.Perm b → a.Pairwise (· ≤ ·) → b.Pairwise (· ≤ ·) → a = b
  | [], b, p, _, _ => p.nil_eq
  | x :: xs, [], p, _, _ => (nomatch p.eq_nil)
  | x :: xs, y :: ys, p, h1, h2 => by
    obtain ⟨a1, a2⟩ := List.pairwise_cons.mp h1
    obtain ⟨b1, b2⟩ := List.pairwise_cons.mp h2
    have e : x = y := by
      rcases List.mem_cons.mp (p.mem_iff.mp List.mem_cons_self) with z | z
      · exact z
      · rcases List.mem_cons.mp (p.mem_iff.mpr (List.mem_cons_self (a := y))) with w | w
        · exact w.symm
        · have := a1 y w; have := b1 x z; omega
    subst e
    rw [sorted_eq (List.Perm.cons_inv p) a2 b2]
theorem eq_isort {l ns : List Int} (p : ns.Perm l) (h : ns.Pairwise (· ≤ ·)) : ns = isort l := sorted_eq (p.trans isort_perm.symm) h isort_asc
/-! the law's own look -/
def szs (b : Int) (hs : List Int) : List Int := hs.flatMap fun h => (List.range 12).map fun k => h * b ^ k
def zs11 (b : Int) (hs : List Int) : List Int := (isort ((szs b hs).filter fun z => decide (100 ≤ z))).take (hs.length + 1)
def dv11 (b : Int) (hs : List Int) : Bool := ((List.range hs.length).filter fun i => decide (0 < (zs11 b hs).getD (i + 1) 0 % (zs11 b hs).getD i 0)).isEmpty
def BS11 : List Int := [10, 2, 6, 3, 4, 10, 5]
def LS11 : List (List Int) := [[1], [3], [1, 2], [1, 5], [1, 3], [1, 2, 6], [7]]
def ok11 (b : Int) (hs : List Int) : Bool := hs.all fun h => decide (h % b ≠ 0)
def some11 (b : Int) : List (List Int) := (LS11.filter (ok11 b)).filter (dv11 b)
theorem zs11_ok : ∀ b ∈ BS11, ∀ hs ∈ LS11, ok11 b hs = true → (zs11 b hs).length = hs.length + 1 ∧ ∀ z ∈ zs11 b hs, 0 < z ∧ z < 2 ^ 40 := by decide +kernel
theorem some11_ne : ∀ b ∈ BS11, some11 b ≠ [] := by decide +kernel
/-! the program's property -/
def upF (b t : Int) : Nat → Int → Int
  | 0, x => x
  | n + 1, x => if x < t then upF b t n (x * b) else x
theorem upF_stop {b t : Int} : ∀ {n : Nat} {x : Int}, ¬ x < t → upF b t n x = x
  | 0, _, _ => rfl
  | n + 1, x, h => by unfold upF; rw [if_neg h]
def topF (b : Int) (hs : List Int) : Int := upF b (hs.getLastD 1) 12 1
def turnF (b : Int) (hs : List Int) : List Int := isort (hs.map fun h => upF b (topF b hs) 12 h)
def turnL (b : Int) (hs : List Int) : List Int := turnF b hs ++ [(turnF b hs).headD 0 * b]
def divL (b : Int) (hs : List Int) : Bool := (((turnL b hs).zip ((turnL b hs).drop 1)).filter fun p => !decide (p.2 - p.2 / p.1 * p.1 = 0)).isEmpty
def T11 : List (Int × List Int) := (BS11.flatMap fun b => (some11 b).map fun hs => (b, hs)) ++ [(10, [2, 5]), (10, [1, 2, 5]), (6, [1, 3])]
structure TOk (b : Int) (hs : List Int) : Prop where
  ne : hs ≠ []
  len : hs.length ≤ 4
  hd : ∀ h ∈ hs, 1 ≤ h ∧ h ≤ 25
  b2 : 2 ≤ b ∧ b ≤ 10
  top : hs.getLastD 1 ≤ topF b hs
  tops : 1 ≤ topF b hs ∧ topF b hs < 2 ^ 40
  up : ∀ h ∈ hs, topF b hs ≤ upF b (topF b hs) 12 h ∧ upF b (topF b hs) 12 h < 2 ^ 40
  pos : ∀ z ∈ turnL b hs, 0 < z ∧ z < 2 ^ 60
  size : (turnL b hs).length = hs.length + 1
instance (b : Int) (hs : List Int) : Decidable (TOk b hs) :=
  decidable_of_iff (hs ≠ [] ∧ hs.length ≤ 4 ∧ (∀ h ∈ hs, 1 ≤ h ∧ h ≤ 25) ∧ (2 ≤ b ∧ b ≤ 10) ∧ hs.getLastD 1 ≤ topF b hs ∧ (1 ≤ topF b hs ∧ topF b hs < 2 ^ 40) ∧ (∀ h ∈ hs, topF b hs ≤ upF b (topF b hs) 12 h ∧ upF b (topF b hs) 12 h < 2 ^ 40) ∧ (∀ z ∈ turnL b hs, 0 < z ∧ z < 2 ^ 60) ∧ (turnL b hs).length = hs.length + 1)
    ⟨fun ⟨a, b, c, d, e, f, g, h, i⟩ => ⟨a, b, c, d, e, f, g, h, i⟩, fun ⟨a, b, c, d, e, f, g, h, i⟩ => ⟨a, b, c, d, e, f, g, h, i⟩⟩
theorem T11_ok : ∀ x ∈ T11, TOk x.1 x.2 := by decide +kernel
theorem T11_div : ∀ b ∈ BS11, ∀ hs ∈ some11 b, divL b hs = true := by decide +kernel
/-- each step divides every greater one -/
def dvd11 (b : Int) (hs : List Int) : Bool :=
  hs.all fun m => hs.all fun x => decide ((m * b ^ 3) % x = 0) && ((List.range 3).all fun d => decide (x ≤ m * b ^ d → (m * b ^ d) % x = 0)) && ((List.range 3).all fun d => decide (x * b ^ d ≤ m → m % (x * b ^ d) = 0)) && decide (m < x * b ^ 3)
theorem some11_dvd : ∀ b ∈ BS11, ∀ hs ∈ some11 b, dvd11 b hs = true ∧ (∀ h ∈ hs, 1 ≤ h ∧ h ≤ 25 ∧ (300300 : Int) % h = 0) ∧ hs.Nodup ∧ hs.Pairwise (· ≤ ·) ∧ hs ≠ [] ∧ hs.length ≤ 4 ∧ ∀ h ∈ hs, h % b ≠ 0 := by decide +kernel

theorem some11_mem {b : Int} {hs : List Int} (h : hs ∈ some11 b) : hs ∈ LS11 ∧ ok11 b hs = true ∧ dv11 b hs = true := by
  obtain ⟨h1, h2⟩ := List.mem_filter.mp h
  obtain ⟨h3, h4⟩ := List.mem_filter.mp h1
  exact ⟨h3, h4, h2⟩
theorem some11_T {b : Int} {hs : List Int} (hb : b ∈ BS11) (h : hs ∈ some11 b) : (b, hs) ∈ T11 :=
  List.mem_append_left _ (List.mem_flatMap.mpr ⟨b, hb, List.mem_map.mpr ⟨hs, h, rfl⟩⟩)
theorem BS11_ok : ∀ b ∈ BS11, 2 ≤ b ∧ b ≤ 10 := by decide
theorem dvd_pow {x m b : Int} {d k : Nat} (h : (m * b ^ d) % x = 0) (hd : d ≤ k) : (m * b ^ k) % x = 0 := by
  obtain ⟨j, rfl⟩ := Nat.le.dest hd
  rw [Int.pow_add, ← Int.mul_assoc]
  obtain ⟨q, hq⟩ := Int.dvd_of_emod_eq_zero h
  rw [hq, Int.mul_assoc, Int.mul_emod_right]
theorem dvd_all {b m x : Int} {hs : List Int} {e d : Nat} (b2 : 2 ≤ b) (h : dvd11 b hs = true) (hm : m ∈ hs) (hx : x ∈ hs) (h1 : 1 ≤ m) (hl : x * b ^ d ≤ m * b ^ e) : (m * b ^ e) % (x * b ^ d) = 0 := by
  have h3 := List.all_eq_true.mp (List.all_eq_true.mp h m hm) x hx
  simp only [Bool.and_eq_true, decide_eq_true_eq, List.all_eq_true, List.mem_range] at h3
  obtain ⟨⟨⟨a1, a2⟩, a3⟩, a4⟩ := h3
  rcases Nat.le_total d e with c | c
  · obtain ⟨k, rfl⟩ := Nat.le.dest c
    have hB := pow_pos (b := b) (by omega) d
    rw [show m * b ^ (d + k) = (m * b ^ k) * b ^ d by rw [Int.pow_add, Int.mul_comm (b ^ d), Int.mul_assoc]] at hl ⊢
    have hl2 : x ≤ m * b ^ k := Int.le_of_mul_le_mul_right hl hB
    have key : (m * b ^ k) % x = 0 := by
      rcases Nat.lt_or_ge k 3 with z | z
      · exact a2 k z hl2
      · exact dvd_pow a1 z
    obtain ⟨q, hq⟩ := Int.dvd_of_emod_eq_zero key
    rw [hq, Int.mul_right_comm]
    exact Int.mul_emod_right _ _
  · obtain ⟨k, rfl⟩ := Nat.le.dest c
    have hB := pow_pos (b := b) (by omega) e
    rw [show x * b ^ (e + k) = (x * b ^ k) * b ^ e by rw [Int.pow_add, Int.mul_comm (b ^ e), Int.mul_assoc]] at hl ⊢
    have hl2 : x * b ^ k ≤ m := Int.le_of_mul_le_mul_right hl hB
    have key : m % (x * b ^ k) = 0 := by
      rcases Nat.lt_or_ge k 3 with z | z
      · exact a3 k z hl2
      · exfalso
        have h5 := pow_mono (b := b) (by omega) z
        rcases Int.lt_or_le x 0 with y | y
        · have := Int.mul_nonneg (Int.le_of_lt (pow_pos (b := b) (by omega) 3)) (show 0 ≤ -x by omega)
          rw [Int.mul_neg, Int.mul_comm] at this
          omega
        · have := Int.mul_le_mul_of_nonneg_left h5 y
          omega
    obtain ⟨q, hq⟩ := Int.dvd_of_emod_eq_zero key
    have e : m * b ^ e = x * b ^ k * b ^ e * q := by rw [Int.mul_right_comm, ← hq]
    rw [e]
    exact Int.mul_emod_right _ _
/-- a drawn dividing rule -/
structure Dv (b : Int) (hs : List Int) : Prop where
  mb : b ∈ BS11
  mh : hs ∈ some11 b
theorem Dv.fam {b : Int} {hs : List Int} (h : Dv b hs) : Fam b hs := by
  obtain ⟨_, h2, h3, _, h5, h6, h7⟩ := some11_dvd b h.mb hs h.mh
  have hb := BS11_ok b h.mb
  exact ⟨⟨hb.1, by omega, h5, by omega, fun x m => by have := h2 x m; omega, h3, h7⟩, fun x m => (h2 x m).2.1, fun x m => (h2 x m).2.2⟩
def sp__law_divides : DSp := fun ds Φ => ∃ (b : Int) (hs : List Int), ds = [.int b, .lst (hs.map D.int)] ∧ b ∈ BS11 ∧ hs ∈ LS11 ∧ ok11 b hs = true ∧ Φ (.bl (dv11 b hs))
def sp__law_rule_dividing : PSp := fun ds n Φ => ∃ m : Nat, ds = [] ∧ n = m + 4 ∧ ∀ b way hs lim, Dv b hs → RFam b way hs lim → Φ (ruD b way hs lim) m
def sp_turn_of_sizes : DSp := fun ds Φ => ∃ (b : Int) (hs : List Int), ds = [.int b, .tup (hs.map D.int)] ∧ TOk b hs ∧ Φ (.new ((turnL b hs).map D.int))
def sp_Rule_dividing (C : Addr) : DSp := fun ds Φ => ∃ r : RD, ds = [r.d C] ∧ TOk r.b r.hs ∧ Φ (.bl (divL r.b r.hs))
/-- the steps of two ranges, one within the other: the less divides the greater -/
theorem Dv.kept {b lim lo hi lo2 hi2 : Int} {way : Str} {hs : List Int} {s t : Int × Int} (D : Dv b hs) (ro : ROk ⟨b, way, hs, lim⟩) (h : LeastFit ⟨b, way, hs, lim⟩ lo hi s) (g : LeastFit ⟨b, way, hs, lim⟩ lo2 hi2 t) (h1 : lo ≤ lo2) (h2 : hi2 ≤ hi) (d : Int) (hd1 : d ≤ s.2) (hd2 : d ≤ t.2) (hd0 : -60 ≤ d) :
    (s.1 * b ^ (s.2 - d).toNat) % (t.1 * b ^ (t.2 - d).toNat) = 0 := by
  have b2 := (BS11_ok b D.mb).1
  have hv := h.within ro g h1 h2
  have hB := pow_pos (b := b) (by omega) (d + 200).toNat
  have e : ∀ u : Int × Int, d ≤ u.2 → V b u = u.1 * b ^ (u.2 - d).toNat * b ^ (d + 200).toNat := fun u hu => by
    unfold V
    rw [Int.mul_assoc, ← Int.pow_add]
    congr 2
    omega
  rw [show V (RD.b ⟨b, way, hs, lim⟩) t = _ from e t hd2, show V (RD.b ⟨b, way, hs, lim⟩) s = _ from e s hd1] at hv
  exact dvd_all b2 (some11_dvd b D.mb hs D.mh).1 h.mem g.mem (ro.hs _ h.mem).1 (Int.le_of_mul_le_mul_right hv hB)
def sp__law_kept (C : Addr) : PSp := fun ds n Φ => ∃ (b : Int) (way : Str) (ms ns : List Int) (lim lo hi lo2 hi2 dg : Int) (m : Nat), ds = [ruD b way ms lim, RD.d C ⟨b, way, ns, lim⟩, .tup [.int lo, .int hi, .int dg], .tup [.int lo2, .int hi2, .int dg]] ∧ Dv b ms ∧ RFam b way ms lim ∧ ns.Perm ms ∧
  (Bd 290 lo ∧ Bd 290 hi ∧ lo ≤ lo2 ∧ hi2 ≤ hi ∧ lo2 < hi2) ∧ (0 ≤ dg ∧ dg ≤ 20) ∧ n = m + 1 ∧ Φ (.bl true) m
def sp__law_lost_right : DSp := fun ds Φ => ds = [] ∧ Φ (.bl true)
theorem LS11_ok : ∀ hs ∈ LS11, hs.length ≤ 4 ∧ ∀ h ∈ hs, 1 ≤ h ∧ h ≤ 25 := by decide
theorem szs_app {b m : Int} {hs : List Int} {i : Nat} (h : hs[i]? = some m) : szs b (hs.take (i + 1)) = szs b (hs.take i) ++ (List.range 12).map fun k => m * b ^ k := by
  unfold szs
  rw [List.take_add_one, h, List.flatMap_append]
  simp
theorem szs_len (b : Int) : ∀ hs : List Int, (szs b hs).length = hs.length * 12
  | [] => rfl
  | h :: hs => by
    have ih := szs_len b hs
    unfold szs at *
    rw [List.flatMap_cons, List.length_append, ih, List.length_map, List.length_range, List.length_cons]
    omega
theorem rangeD_eq (n : Nat) : rangeD 0 n = (List.range n).map fun i : Nat => D.int (0 + (i : Int)) := by
  refine List.ext_getElem? fun i => ?_
  rcases Nat.lt_or_ge i n with h | h
  · rw [rangeD_get h, List.getElem?_map, List.getElem?_range h]
    rfl
  · rw [List.getElem?_eq_none (by rw [rangeD_len]; exact h), List.getElem?_eq_none (by rw [List.length_map, List.length_range]; exact h)]
theorem lc_rangeD {n : Nat} (p : Nat → Bool) {t : D → Bool} {f : D → D} (ht : ∀ i : Nat, t (.int (0 + (i : Int))) = p i) (hf : ∀ i : Nat, f (.int (0 + (i : Int))) = .int (0 + (i : Int))) : ((rangeD 0 n).filter t).map f = (((List.range n).filter p).map fun i : Nat => 0 + (i : Int)).map D.int := by
  rw [rangeD_eq]
  exact lc_map (E := fun i : Nat => D.int (0 + (i : Int))) (F := D.int) (fun i : Nat => 0 + (i : Int)) p ht hf
theorem lc_range12 (g : Nat → Int) {f : D → D} (hf : ∀ k : Nat, f (.int (0 + (k : Int))) = .int (g (0 + (k : Int)).toNat)) : ((rangeD 0 ((12 : Int).toNat)).filter fun _ => true).map f = ((List.range 12).map g).map D.int := by
  rw [rangeD_eq, lc_all (E := fun i : Nat => D.int (0 + (i : Int))) (F := D.int) (fun k => g (0 + (k : Int)).toNat) hf]
  congr 1
theorem new_none {ds : List D} : PyData.eqv (toPy (.new ds)) (toPy (.new [])) = ds.isEmpty := by
  cases ds <;> rfl
abbrev E11 (hs : List Int) : D := .lst (hs.map D.int)
def unI (ds : List D) : List Int := ds.map fun d => match d with | .int i => i | _ => 0
theorem unI_map (hs : List Int) : unI (hs.map D.int) = hs := by
  unfold unI
  rw [List.map_map]
  exact List.map_id' _
theorem ok11_E {b : Int} {hs : List Int} : ((hs.map D.int).filter fun d => match d with | .int h => decide (h % b = 0) | _ => false).isEmpty = ok11 b hs := by
  unfold ok11
  induction hs with
  | nil => rfl
  | cons a as ih =>
    rw [List.map_cons, List.filter_cons, List.all_cons]
    by_cases e : a % b = 0
    · simp [e]
    · simp only [decide_eq_false e, decide_eq_true (show a % b ≠ 0 from e), Bool.true_and, Bool.false_eq_true, if_false]
      exact ih
theorem shp_filter {ds : List D} {t : D → Bool} {k : Nat} (h : ∀ d ∈ ds, shp k d = true) : ∀ d ∈ (ds.filter t).map (fun d => d), shp k d = true := fun d m => by
  rw [List.map_id'] at m
  exact h d (List.mem_filter.mp m).1
theorem all_E11 {ls : List (List Int)} : (ls.map E11).all pureD = true := by
  induction ls with
  | nil => rfl
  | cons a as ih => rw [List.map_cons, List.all_cons, ih]; rfl
theorem hd_small {b l : Int} {hs : List Int} (tk : TOk b hs) (h : hs.getLast? = some l) : l ≤ 25 := (tk.hd l (List.mem_of_getLast? h)).2
theorem turnF_len (b : Int) (hs : List Int) : (turnF b hs).length = hs.length := by
  unfold turnF
  rw [isort_perm.length_eq, List.length_map]
theorem turnF_ne {b : Int} {hs : List Int} (tk : TOk b hs) : turnF b hs ≠ [] := fun e => by
  have := turnF_len b hs
  rw [e] at this
  exact tk.ne (List.eq_nil_of_length_eq_zero this.symm)
theorem turnF_ok {b z : Int} {hs : List Int} (tk : TOk b hs) (m : z ∈ turnF b hs) : 0 < z ∧ z < 2 ^ 60 := tk.pos z (List.mem_append_left _ m)
abbrev E2 (q : Int × Int) : D := .tup [.int q.1, .int q.2]
theorem zip_E {xs : List Int} {k : Nat} : zipD (xs.map D.int) ((xs.map D.int).drop k) = (xs.zip (xs.drop k)).map E2 := by
  unfold zipD
  rw [← List.map_drop, List.zip_map, List.map_map]
  rfl
theorem thaw_ints : ∀ {ns : List Int}, thawOk (.new (ns.map D.int)) = true
  | [] => rfl
  | n :: ns => thaw_ints (ns := ns)
theorem min3_le {x y : Int} (hx : -37 ≤ x) (hy : -37 ≤ y) : min3 x y 0 ≤ x ∧ min3 x y 0 ≤ y ∧ min3 x y 0 ≤ 0 ∧ -37 ≤ min3 x y 0 := by
  unfold min3
  split <;> split at * <;> omega
theorem mod_scale {a c k : Int} (h : a % c = 0) : (a * k) % (c * k) = 0 := by
  obtain ⟨q, hq⟩ := Int.dvd_of_emod_eq_zero h
  rw [hq, Int.mul_right_comm]
  exact Int.mul_emod_right _ _
theorem mod0 {n a c : Int} (h : a % c = 0) : (n * a) % c = 0 := by
  obtain ⟨q, hq⟩ := Int.dvd_of_emod_eq_zero h
  rw [hq, ← Int.mul_assoc, Int.mul_comm n, Int.mul_assoc]
  exact Int.mul_emod_right _ _
theorem mx1 {x : Int} (h : Bd 8000 x) : 1 ≤ (if x > 1 then x else 1) ∧ Bd 8000 (if x > 1 then x else 1) := by
  split
  · exact ⟨by omega, h⟩
  · exact ⟨by omega, by unfold Bd; decide +kernel⟩
theorem bd_lt {r m : Int} {k : Nat} (h0 : 0 ≤ r) (h1 : r < m) (h : Bd k m) : Bd k r := by
  unfold Bd at *
  generalize (2 : Nat) ^ k = z at *
  omega
abbrev lostR : RD := ⟨10, "length", [2, 5], 3⟩
theorem lost_fo : FOk 10 "length" [2, 5] 3 := ⟨⟨by decide, by decide, by decide, by decide, by decide, by decide, by decide⟩, by decide, by decide, by decide, by decide⟩
theorem lost_fo2 : FOk 10 "inside" [1, 2, 5] 2 := ⟨⟨by decide, by decide, by decide, by decide, by decide, by decide, by decide⟩, by decide, by decide, by decide, by decide⟩
theorem lost_fo3 : FOk 6 "cover" [3, 1] 2 := ⟨⟨by decide, by decide, by decide, by decide, by decide, by decide, by decide⟩, by decide, by decide, by decide, by decide⟩
theorem lost_T : TOk 10 [2, 5] ∧ TOk 10 [1, 2, 5] ∧ TOk 6 [1, 3] := ⟨T11_ok (10, [2, 5]) (by decide +kernel), T11_ok (10, [1, 2, 5]) (by decide +kernel), T11_ok (6, [1, 3]) (by decide +kernel)⟩
theorem lost_div : divL 10 [2, 5] = false ∧ divL 10 [1, 2, 5] = false ∧ divL 6 [1, 3] = true := by decide +kernel
theorem lost_step {lo hi m L : Int} {s : Int × Int} (ro : ROk lostR) (h : LeastFit lostR lo hi s) (hL : hi - lo = L) (hm : m = 2 ∨ m = 5) (h1 : L ≤ 3 * m) (h2 : m = 2 → 1 * 3 < L * 2) (h3 : m = 5 → 2 * 3 < L) : s = (m, 0) := by
  have b2 := ro.b2
  refine LeastFit.uniq ro h ⟨by rcases hm with e | e <;> (subst e; decide), by simp only; omega, by simp only; omega, ?_, fun t mt tp tf => ?_⟩
  · rw [isFit_fitV ro (by simp only; omega)]
    refine decide_eq_true ?_
    unfold fitV num den
    simp only [if_neg (show ¬ ("length" : Str) = "inside" by decide), if_neg (show ¬ ("length" : Str) = "cover" by decide)]
    simp
    omega
  · rw [isFit_V ro tp] at tf
    unfold fitV at tf
    rw [if_neg (show ¬ lostR.way = "inside" by decide), if_neg (show ¬ lostR.way = "cover" by decide), ← Int.sub_mul, hL] at tf
    have tf : L * 10 ^ 200 ≤ 3 * V 10 t := tf
    show V 10 (m, 0) ≤ V 10 t
    have e0 : V 10 (m, 0) = m * 10 ^ 200 := rfl
    have em : ∀ x : Int, V 10 (x, -1) = x * 10 ^ 199 := fun _ => rfl
    have e1 : ∀ x : Int, V 10 (x, 1) = x * 10 ^ 201 := fun _ => rfl
    have e00 : ∀ x : Int, V 10 (x, 0) = x * 10 ^ 200 := fun _ => rfl
    have p1 : (10 : Int) ^ 200 = 10 ^ 199 * 10 := by decide +kernel
    have p2 : (10 : Int) ^ 201 = 10 ^ 199 * 100 := by decide +kernel
    have p0 : (0 : Int) < 10 ^ 199 := by decide +kernel
    rw [e0]
    have mt2 : t.1 = 2 ∨ t.1 = 5 := by simpa using mt
    have et : t = (t.1, t.2) := rfl
    have mono : ∀ {p q : Int}, p ≤ q → V 10 (t.1, p) ≤ V 10 (t.1, q) := fun h => V_mono (by decide) (by rcases mt2 with e | e <;> omega) h
    rcases Int.lt_trichotomy t.2 0 with z | z | z
    · have := mono (p := t.2) (q := -1) (by omega)
      rw [em, ← et] at this
      rw [p1] at *
      generalize (10 : Int) ^ 199 = B at *
      exfalso
      have hl : L * (B * 10) = L * B * 10 := by rw [Int.mul_assoc]
      have l2 : 2 * B ≤ L * B := Int.mul_le_mul_of_nonneg_right (by rcases hm with e | e <;> omega) (by omega)
      rcases mt2 with e | e <;> rw [e] at this <;> omega
    · have e : V 10 t = t.1 * 10 ^ 200 := by rw [et, z]; rfl
      rw [e] at tf ⊢
      have B0 : (0 : Int) < 10 ^ 200 := by decide +kernel
      generalize (10 : Int) ^ 200 = B at *
      refine Int.mul_le_mul_of_nonneg_right ?_ (by omega)
      rw [← Int.mul_assoc] at tf
      have := Int.le_of_mul_le_mul_right tf B0
      rcases mt2 with e | e <;> rcases hm with e2 | e2 <;> omega
    · have := mono (p := 1) (q := t.2) (by omega)
      rw [e1, ← et] at this
      rw [p1, p2] at *
      generalize (10 : Int) ^ 199 = B at *
      rcases mt2 with e | e <;> rcases hm with e2 | e2 <;> rw [e] at this <;> subst e2 <;> omega
end Ax

/-! DNq: repr of a tuple some fields of which are empty dicts; len(set(xs)) with numbers twice. -/
namespace DL
open PySem PySem.Spec PyProof.Rows L2
/-- v stands for d: python data without a dict, or an empty dict (locked) -/
inductive Df (K : PySem.W.Frag) (H : Hp) : V → PyData → Prop
  | py {v : V} {d : PyData} (h : Dp K H v d) (s : d.showable = true) (n : d.hasDict = false) : Df K H v d
  | dk {p : Addr} {o : Obj} (h : H p = some (.frz o (.dK []))) : Df K H (.ref p) (.dict [])
theorem df_reads {X : Cx} {pins : List (Addr × Obj)} {σ : L2.St} {H : Hp} {s : Shared} {v : V} {u : Value} {d : PyData} (I : Inv X pins σ H s) (h : Df X.K H v d) (r : RelV v u) :
    ∃ as, Reads s.heap u d as ∧ d.showable = true ∧ (d.hasDict = true → sysModules ∉ as) := by
  cases h with
  | py h sh nd =>
    obtain ⟨as, rd⟩ := Dp.reads I _ _ u h r
    exact ⟨as, rd, sh, fun z => by rw [nd] at z; cases z⟩
  | dk hp =>
    rename_i p o
    obtain rfl : u = Value.ref p := r
    obtain ⟨_, _, hsys, ws, kv, od, es, ep, e1, ex, ed, el⟩ := I.hok p _ hp
    cases kv
    have hes : es.toList = [] := by
      obtain ⟨_, pr, _⟩ := el
      cases hh : es.toList with
      | nil => rfl
      | cons z zs => rw [hh] at pr; cases pr
    refine ⟨p :: [] ++ [], .dict e1 ex.1 ed (by rw [hes]; exact .nil) (by rw [hes]; exact .nil), by rfl, fun _ m => ?_⟩
    have : sysModules = p := by simpa using m
    rw [← this] at hsys
    simp at hsys
theorem dfs_repr {X : Cx} {pins : List (Addr × Obj)} {σ : L2.St} {H : Hp} {s : Shared} (I : Inv X pins σ H s) {D : Nat} : ∀ {vs : List V} {us : List Value} {ds : List PyData}, Paired (Df X.K H) vs ds → Vals vs us → (∀ d ∈ ds, d.depth ≤ D) → (∀ t ∈ PyData.shownAll ds, t.length ≤ sizeLine) →
    ∃ as bs, ReadsAll s.heap us ds as ∧ ReadAtMost s.heap D bs ∧ ReprAllK X.prog X.w bs s.heap D us (PyData.shownAll ds)
  | _, _, _, .nil, .nil, _, _ => by
    obtain ⟨bs, hb, hk⟩ := ReprAllK.of_readsAll (prog := X.prog) (w := X.w) (ReadsAll.nil (h := s.heap)) rfl (fun z => by cases z) (fun t ht => by cases ht)
    exact ⟨[], bs, .nil, hb.mono (Nat.zero_le _), hk.more_le (fun _ m => m) (Nat.zero_le _)⟩
  | v :: vs, u :: us, d :: ds, .cons h hs, .cons r rs, dep, sz => by
    obtain ⟨a1, rd, sh, hsm⟩ := df_reads I h r
    obtain ⟨a2, b2, rs2, hb2, hk2⟩ := dfs_repr I hs rs (fun d m => dep d (List.mem_cons_of_mem _ m)) (fun t m => sz t (by rw [PyData.shownAll]; exact List.mem_cons_of_mem _ m))
    obtain ⟨b1, hb1, hk1⟩ := ReprAllK.of_readsAll (prog := X.prog) (w := X.w) (ReadsAll.cons rd .nil) (by simp [PyData.showableAll, sh]) (fun z m => hsm (by simpa [PyData.hasDictAll] using z) (by simpa using m)) (fun t ht => sz t (by rw [PyData.shownAll] at ht ⊢; rw [PyData.shownAll] at ht; exact List.mem_cons.mpr ((List.mem_cons.mp ht).imp id fun z => by cases z)))
    have hd : PyData.depthAll [d] ≤ D := by
      have := dep d List.mem_cons_self
      simp only [PyData.depthAll]
      omega
    refine ⟨a1 ++ a2, b1 ++ b2, .cons rd rs2, (hb1.mono hd).append hb2, ?_⟩
    have k1 := hk1.more_le (as' := b1 ++ b2) (fun _ m => List.mem_append_left _ m) hd
    have k2 := hk2.more_le (as' := b1 ++ b2) (fun _ m => List.mem_append_right _ m) (Nat.le_refl _)
    rw [PyData.shownAll, PyData.shownAll] at k1
    rw [PyData.shownAll]
    cases k1 with
    | cons x _ => exact .cons x k2
theorem depth_mem : ∀ {ds : List PyData} {d : PyData}, d ∈ ds → d.depth ≤ PyData.depthAll ds
  | e :: ds, d, m => by
    simp only [PyData.depthAll]
    rcases List.mem_cons.mp m with rfl | m
    · omega
    · have := depth_mem m
      omega
/-- repr of a tuple of such fields -/
def rReprT (K : PySem.W.Frag) : List V → Hp → VK → Prop := fun xs H Q => ∃ (t : Addr) (vs : List V) (ds : List PyData), xs = [.ref t] ∧ H t = some (.tup vs) ∧ Paired (Df K H) vs ds ∧ PyData.depthAll ds ≤ 20 ∧ (PyData.shown (.tuple ds)).length ≤ sizeLine ∧ Q (.str (PyData.shown (.tuple ds))) H
theorem call_reprT {X : Cx} (hgd : X.A.guards = some []) (hu : X.A.units + 64 < cLine) : CallR X (.builtin "repr") (rReprT X.K) := by
  rintro pins s σ H xs us Q I r ⟨t, vs, ds, rfl, ht, hf, hd, hz, q⟩
  obtain ⟨u, rfl, ru⟩ := vals1 r
  obtain rfl : u = Value.ref t := ru
  obtain ⟨_, its, rv, o, hget, hcls, n, hdat⟩ := I.hok t _ ht
  have hz' : (tupleText (PyData.shownAll ds)).length ≤ sizeLine := by simpa only [PyData.shown] using hz
  obtain ⟨as, bs, ra, hb, hk⟩ := dfs_repr I (D := PyData.depthAll ds) hf rv (fun d m => depth_mem m) fun t ht => Nat.le_trans (tupleText_mem_le ht) hz'
  have rt : Reads s.heap (.ref t) (.tuple ds) as := .tuple hget hcls hdat (by simpa using ra)
  have hna : t ∉ bs := not_mem_of_deeper rt (by simp only [PyData.depth]; omega) hb
  simp only [PyData.shown] at q
  refine call_repr_slot (by omega) ⟨o, hget, hcls⟩ F.slot_tuple_repr ?_
  exact call_tuple_reprK hget hcls hdat hna (by simpa using hk) hgd (fun b _ => Clear.nil b) (by show X.A.units + 1 + (PyData.depthAll ds + 1) < cLine; omega) (fun _ _ e => e) (fun h' u tk hk => ⟨_, _, rfl, ⟨.str _, H, I.kept hk, ⟨_, rfl⟩, q⟩⟩) hz'
end DL
namespace RZ
open PySem PySem.Spec PyProof.Rows L2
/-- the numbers met, each once -/
def distinct (ns : List Int) : List Int := PyProof.Rows.firstMet (fun i => ns.getD i 0) ns.length
def tLenSetD (K : PySem.W.Frag) (ta : TE) : TE := fun σ H Q => ta σ H fun x H1 => ∃ (l : Addr) (ns : List Int), x = .ref l ∧ SqL K H1 l (ns.map V.int) ∧ ns.length ≤ 4000 ∧ Q (.int ((distinct ns).length : Nat)) H1
theorem pe_lenSetD {X : Cx} {a : Expr} {ta : TE} {p p2 q pos : Pos} (hg : Gl X "len") (hm : X.mg "len" = none) (hg2 : Gl X "set") (hm2 : X.mg "set" = none) (ha : PE X a ta) (hc : X.calm = true := by rfl)
    (na : starEach [a] X.env = (false, eval a X.env) :: starEach [] X.env := by rfl) : PE X (.Call (.Name "len" p) [.Call (.Name "set" p2) [a] [] q] [] pos) (tLenSetD X.K ta) := by
  refine ⟨fun pins s σ H Q I h => ?_⟩
  refine Call_ (ld_blt I hg hm boot_len (callWith_builtin1 (args_cons (Call_ (ld_blt I hg2 hm2 boot_set ?_)) rfl) rfl rfl))
  refine callWith_type1 (args_cons (thn (ha.run pins s σ H _ I h) fun v s1 ⟨x, H1, I1, r1, q1⟩ => args_nil ?_) na) na rfl
  obtain ⟨l, ns, rfl, hq, hl, q1⟩ := q1
  cases r1
  obtain ⟨its, r, pl, hz⟩ := I1.list hq
  have hlen : its.toArray.size = ns.length := by rw [List.size_toArray, ← r.length, List.length_map]
  have hle : (distinct ns).length ≤ ns.length := firstMet_length_le _ _
  refine call_set_list (I1.ok.hd hc) pl.isList (by simpa using intsAre_vals r) (by rw [hlen]; unfold scanBound; omega) fun h' tk hS hk => ?_
  rw [hlen] at hS
  obtain ⟨o, es, ep, t, ho, hex, hd, _, _, _, hf, hn⟩ := hS
  have I2 : Inv X pins σ H1 { s1 with heap := h', toks := tk } := I1.kept fun b o e => hk b o (Heap.lt_size e) e
  have hn : _ = (distinct ns).length := hn
  exact args_nil (call_len_set ho hex hd hf (by rw [hn] <;> omega) ⟨.int (distinct ns).length, H1, I2.tok _, ⟨_, by rw [hn]⟩, q1⟩)
theorem distinct_take {ns : List Int} : ∀ i, i ≤ ns.length → (firstMet (fun i => ns.getD i 0) i).length = i → (ns.take i).Nodup ∧ ∀ k ∈ ns.take i, (firstMet (fun i => ns.getD i 0) i).any (· == k) = true
  | 0, _, _ => ⟨by simp, by simp⟩
  | i + 1, hi, e => by
    have hlt : i < ns.length := hi
    have e1 : ns.getD i 0 = ns[i] := by rw [List.getD_eq_getElem?_getD, List.getElem?_eq_getElem hlt]; rfl
    have e2 : ns.take (i + 1) = ns.take i ++ [ns[i]] := by rw [List.take_add_one, List.getElem?_eq_getElem hlt]; rfl
    have hle := firstMet_length_le (fun i => ns.getD i 0) i
    rw [firstMet_succ] at e ⊢
    unfold step_dedup at e ⊢
    split at e
    · omega
    · rename_i hno
      rw [List.length_append, List.length_singleton] at e
      obtain ⟨h1, h2⟩ := distinct_take i (Nat.le_of_lt hlt) (by omega)
      rw [if_neg hno]
      have hno : ¬ (firstMet (fun i => ns.getD i 0) i).any (· == ns[i]) = true := by
        rwa [e1] at hno
      refine ⟨?_, fun k hk => ?_⟩
      · rw [e2, List.nodup_append]
        refine ⟨h1, by simp, fun a ha b hb z => ?_⟩
        have hb : b = ns[i] := by simpa using hb
        subst hb
        subst z
        exact hno (h2 _ ha)
      · rw [List.any_append, Bool.or_eq_true]
        rw [e2] at hk
        rcases List.mem_append.mp hk with hk | hk
        · exact .inl (h2 k hk)
        · have hk : k = ns[i] := by simpa using hk
          subst hk
          refine .inr ?_
          show ([ns.getD i 0].any fun x => x == ns[i]) = true
          rw [e1]; simp
theorem distinct_ne {ns : List Int} (h : ¬ ns.Nodup) : (distinct ns).length ≠ ns.length := fun e => h (by
  have := (distinct_take ns.length (Nat.le_refl _) e).1
  rwa [List.take_length] at this)
end RZ
namespace DL
open PySem PySem.Spec PyProof.Rows L2
section
variable {c : Ctx} {δ : DE} {n : Nat} {e : Expr} {pos : Pos} {Φ : D → Nat → Prop}
theorem we_lenSetD {p p2 q' : Pos} (hm : c.X.mg "len" = none) (hm2 : c.X.mg "set" = none) (hg : Gl c.X "len") (hg2 : Gl c.X "set") (hc : c.X.calm = true)
    (h : WE c e δ n fun x n1 => ∃ ns : List Int, lstOf x = some (ns.map D.int) ∧ ns.length ≤ 4000 ∧ Φ (.int ((RZ.distinct ns).length : Nat)) n1)
    (na : starEach [e] c.X.env = (false, eval e c.X.env) :: starEach [] c.X.env := by rfl) : WE c (.Call (.Name "len" p) [.Call (.Name "set" p2) [e] [] q'] [] pos) δ n Φ := ⟨fun σ H Q S q => by
  refine pe_to (RZ.pe_lenSetD hg hm hg2 hm2 pe_w hc na) ?_
  refine h.run σ H _ S fun v H2 x n1 k1 S1 r1 ⟨ns, e1, hl, f⟩ => ?_
  obtain ⟨p, vs, rfl, h3, h4⟩ := r1.lstOf e1
  have h5 := h4.ints
  subst h5
  exact ⟨p, ns, rfl, .of h3, hl, q _ H2 (.int ((RZ.distinct ns).length : Nat)) n1 k1 S1 rfl f⟩⟩
end
end DL

/-! DNm: a text so many times. -/
namespace DL
open PySem PySem.Spec PyProof.Rows L2
def rMulS : R2 := fun x y H Q => ∃ i j, x = .str i ∧ y = .int j ∧ MulOk i j ∧ Q (.str (Txt.mul i j)) H
theorem op_mulS {X : Cx} : OpR X (binaryOp .Mult) rMulS := by
  intro pins s σ H x y v u Q I rx ry h
  obtain ⟨i, j, rfl, rfl, ok, q⟩ := h
  obtain ⟨t, rfl⟩ := rx
  obtain ⟨t', rfl⟩ := ry
  exact SB.mul ok fun t' k => ⟨.str (Txt.mul i j), H, I.tok _, ⟨_, rfl⟩, q⟩
def MulSR : D → D → (D → Prop) → Prop
  | .str i, .int j, Φ => MulOk i j ∧ Φ (.str (Txt.mul i j))
  | _, _, _ => False
theorem mulSR_ok {c : Ctx} {δ : DE} : R2ok c δ rMulS MulSR := by
  intro σ H Hs n x y v u Φ Q S hs rx ry h q
  cases x with
  | str i =>
    cases y with
    | int j =>
      have e1 : v = .str i := rx
      have e2 : u = .int j := ry
      subst e1 e2
      exact ⟨i, j, rfl, rfl, h.1, q _ H (.str _) (Same.refl H) rfl h.2⟩
    | _ => exact h.elim
  | _ => cases y <;> exact h.elim
theorem we_mulS {c : Ctx} {δ : DE} {n : Nat} {a b : Expr} {pos : Pos} {Φ : D → Nat → Prop} (h : WE c a δ n fun x n1 => WE c b δ n1 fun y n2 => MulSR x y fun z => Φ z n2) : WE c (.BinOp a .Mult b pos) δ n Φ := we_bin op_mulS mulSR_ok h
theorem mul_x {j : Int} (h0 : 0 ≤ j) (h9 : j < 9) : MulOk "x" j ∧ (Txt.mul "x" j).length ≤ 9 := by
  refine ⟨mulOk_of 1 9 (by decide) (by omega) (by omega) (by decide) (by decide), ?_⟩
  have e := len_mul ("x" : Str) j
  rw [if_neg (by simp; omega), show (("x" : Str).length : Int) = 1 from rfl] at e
  omega
/-- is it a list -/
def isL : D → Option Bool
  | .lkK _ _ => some false
  | d => isTy "list" d
theorem we_isL {c : Ctx} {δ : DE} {n : Nat} {e : Expr} {pos p p2 : Pos} {Φ : D → Nat → Prop} (hm : c.X.mg "isinstance" = none) (hm2 : c.X.mg "list" = none) (hg : Gl c.X "isinstance") (hg2 : Gl c.X "list")
    (h : WE c e δ n fun d n1 => ∃ k, isL d = some k ∧ Φ (.bl k) n1)
    (he : starEach [e, .Name "list" p2] c.X.env = (false, eval e c.X.env) :: starEach [.Name "list" p2] c.X.env := by rfl) (he2 : starEach [.Name "list" p2] c.X.env = (false, eval (.Name "list" p2) c.X.env) :: starEach [] c.X.env := by rfl)
    (hpl : (backTo pos (starEach [.Name "list" p2] c.X.env)).any (·.1) = false := by rfl) : WE c (.Call (.Name "isinstance" p) [e, .Name "list" p2] [] pos) δ n Φ := ⟨fun σ H Q S q => by
  refine pe_to (pe_callB call_isi hg hm (by decide +kernel) (pa_cons pe_w (pa_cons (pe_bltn (v := .ty "list") hg2 hm2 (by decide +kernel) rfl (by decide) (by decide)) pa_nil he2) he) (by decide) (by decide) he hpl) ?_
  refine h.run σ H _ S fun v H2 d n1 k1 S1 r1 ⟨k, hk, f⟩ => ?_
  by_cases hl : ∃ ks ds, d = .lkK ks ds
  · obtain ⟨ks, ds, rfl⟩ := hl
    cases hk
    obtain ⟨a, o, kvs, rfl, _, h1, _⟩ : Rp c.X.K (c.Av δ) H2 (.lkK ks ds) v := r1.pure rfl
    exact ⟨_, .ty "list", _, _, false, rfl, .ty "list", TyX.fDict h1, kit_ty (show kitB "dict" "list" = some false by decide +kernel), q _ H2 (.bl false) n1 k1 S1 rfl f⟩
  · have hk : isTy "list" d = some k := by
      cases d with
      | lkK ks ds => exact absurd ⟨ks, ds, rfl⟩ hl
      | _ => exact hk
    exact ⟨v, .ty "list", _, _, k, rfl, .ty "list", isTy_ty hk r1, kit_ty (isTy_kit (by decide) hk), q _ H2 (.bl k) n1 k1 S1 rfl f⟩⟩
end DL

/-! DNr: isinstance of what may be a dict. -/
namespace DL
open PySem PySem.Spec PyProof.Rows L2
def isTyX (T : String) : D → Option Bool
  | .lkK _ _ => some false
  | d => isTy T d
theorem we_isinstX {c : Ctx} {δ : DE} {n : Nat} {e : Expr} {pos : Pos} {Φ : D → Nat → Prop} (T : String) {x : Str} {p p2 : Pos} (hT : T ∈ ["int", "bool", "str", "tuple", "list"]) (hv : bootBuiltins x = some (.type T)) (hm : c.X.mg "isinstance" = none) (hm2 : c.X.mg x = none) (hg : Gl c.X "isinstance") (hg2 : Gl c.X x)
    (h : WE c e δ n fun d n1 => ∃ k, isTyX T d = some k ∧ Φ (.bl k) n1) (hn : x ≠ "__name__" := by decide) (hdb : (x == ("__debug__" : Str)) = false := by decide)
    (he : starEach [e, .Name x p2] c.X.env = (false, eval e c.X.env) :: starEach [.Name x p2] c.X.env := by rfl) (he2 : starEach [.Name x p2] c.X.env = (false, eval (.Name x p2) c.X.env) :: starEach [] c.X.env := by rfl)
    (hpl : (backTo pos (starEach [.Name x p2] c.X.env)).any (·.1) = false := by rfl) : WE c (.Call (.Name "isinstance" p) [e, .Name x p2] [] pos) δ n Φ := ⟨fun σ H Q S q => by
  refine pe_to (pe_callB call_isi hg hm (by decide +kernel) (pa_cons pe_w (pa_cons (pe_bltn (v := .ty T) hg2 hm2 hv rfl hn hdb) pa_nil he2) he) (by decide) (by decide) he hpl) ?_
  refine h.run σ H _ S fun v H2 d n1 k1 S1 r1 ⟨k, hk, f⟩ => ?_
  by_cases hl : ∃ ks ds, d = .lkK ks ds
  · obtain ⟨ks, ds, rfl⟩ := hl
    cases hk
    obtain ⟨a, o, kvs, rfl, _, h1, _⟩ : Rp c.X.K (c.Av δ) H2 (.lkK ks ds) v := r1.pure rfl
    exact ⟨_, .ty T, _, _, false, rfl, .ty T, TyX.fDict h1, kit_ty ((show ∀ T ∈ ["int", "bool", "str", "tuple", "list"], kitB "dict" T = some false by decide +kernel) T hT), q _ H2 (.bl false) n1 k1 S1 rfl f⟩
  · have hk : isTy T d = some k := by
      cases d with
      | lkK ks ds => exact absurd ⟨ks, ds, rfl⟩ hl
      | _ => exact hk
    exact ⟨v, .ty T, _, _, k, rfl, .ty T, isTy_ty hk r1, kit_ty (isTy_kit hT hk), q _ H2 (.bl k) n1 k1 S1 rfl f⟩⟩
end DL

/-! DNs: how a frame begins, over data; a class is called whose __init__ raises. -/
namespace L2
open PySem PySem.Spec PyProof.Rows
section
variable {X : Cx} {CT : CXT} {n : Nat} {g D : Addr} {gd : FuncData} {qs : List Str} {sq : Sp} {EE : St → XK} {nm : Str} {p pos : Pos} {a1 : Expr} {as : List Expr} {rd : TA}
/-- D(..), its __init__ may raise what the slots at hand wish for -/
theorem mk_run {pp : List (Addr × Obj)} {τ : St} {G : Hp} {z : Shared} {Qv : VK} {us : List Value} {xs : List V} (mk : Mk X.K D g) (ok : FnOk X.prog X.w X.K X.mg X.base CT n g gd qs sq) (room : Room (n + 1) X.A) (bd : Binds X.K gd qs [])
    (ps : PassesAt CT X τ (EE τ)) (J : Inv X pp τ G z) (rel : Vals xs us)
    (hw : ∀ y dy, G y = none → G dy = none → dy ≠ y → sq (.ref y :: xs) (upd (upd G dy (.own y)) y (.ins D dy [])) (fun v H2 => v = .non ∧ Qv (.ref y) H2) (EE τ)) :
    wpAny (model X.prog X.w) X.A (call (.ref D) us) (EP X pp τ Qv) X.xe z := by
  have want := hw (z.heap.objs.size + 1) z.heap.objs.size (J.hok.fresh (Nat.le_succ _)) (J.hok.fresh (Nat.le_refl _)) (Nat.ne_of_lt (Nat.lt_succ_self _))
  have J2 := Inv.made (C := D) J
  have rel2 : Vals (V.ref (z.heap.objs.size + 1) :: xs) (Value.ref (z.heap.objs.size + 1) :: us) := .cons rfl rel
  have len2 : (Value.ref (z.heap.objs.size + 1) :: us).length = qs.length := by
    rw [← rel2.length]
    exact ok.len _ _ _ _ want
  have bound := bd _ (Value.ref (z.heap.objs.size + 1) :: us) J2.kIn (by rw [List.append_nil]; exact len2)
  rw [List.append_nil] at bound
  refine wpAny_call (make_map (f := g) J.kIn mk.makes mk.init (beq_iff_eq.mp mk.fn) (codeAny_mono (ok.run _ X.stack _ _ ⟨Value.ref (z.heap.objs.size + 1) :: us, []⟩ _ _ _ (EE τ) (room.make D us []) (J2.env0.make D us []) bound rel2 want) fun res s' got => ?_))
  rcases res with err | (_ | _ | _ | u)
  · exact ps pp _ _ err s' J2 got
  · exact got.elim
  · exact got.elim
  · exact got.elim
  · obtain ⟨v, H', J3, rv, ev, q3⟩ := J2.after got
    subst ev
    exact ⟨rv, ⟨V.ref (z.heap.objs.size + 1), H', J3, rfl, q3⟩⟩
def tMakeS (D : Addr) (sq : Sp) (EE : St → XK) (rd : TA) : TE := fun τ G Q => rd τ G fun xs G1 => ∀ y dy, G1 y = none → G1 dy = none → dy ≠ y → sq (.ref y :: xs) (upd (upd G1 dy (.own y)) y (.ins D dy [])) (fun v H2 => v = .non ∧ Q (.ref y) H2) (EE τ)
theorem pe_makeS (mk : Mk X.K D g) (ok : FnOk X.prog X.w X.K X.mg X.base CT n g gd qs sq) (room : Room (n + 1) X.A) (gl : Gl X nm) (hm : X.mg nm = some (.ref D)) (bd : Binds X.K gd qs []) (ps : ∀ τ, PassesAt CT X τ (EE τ))
    (ha : PA X (a1 :: as) rd) (hdb : (nm == ("__debug__" : Str)) = false := by decide) (hst : starEach (a1 :: as) X.env = (false, eval a1 X.env) :: starEach as X.env := by rfl) (hpl : (backTo pos (starEach as X.env)).any (·.1) = false := by rfl) :
    PE X (.Call (.Name nm p) (a1 :: as) [] pos) (tMakeS D sq EE rd) := ⟨fun pp s τ G Q J hq => by
  refine wpAny_Call_Name_kw (ld_glob J gl hm ?_ hdb)
  exact PySem.W.callWith_K (h₀ := X.base) J.ok.mod.kin mk.kp (thn (ha.run pos pp s τ G _ J hq) fun us s1 ⟨xs, G1, J1, rel, q⟩ => ⟨J1.kIn, mk_run mk ok room bd (ps τ) J1 rel q⟩) hst hpl⟩
end
end L2
namespace DL
open PySem PySem.Spec PyProof.Rows L2
/-- the slots at a frame's start -/
theorem slr_start {X : Cx} {M : Addr → Prop} {N : List Str} {H : Hp} {ds : List D} {vs : List V} (dom : ∀ a, M a → ∃ o, H a = some o ∧ NT o) (h1 : Rps X.K M H ds vs) : SlR ⟨X, M, none⟩ (L2.start N vs) H (startD N ds) 0 := by
  have ha : addrs (startD N ds) = [] := addrs_pure (rps_pure h1) _
  refine ⟨?_, dom, (fun p z => nomatch z), by rw [ha]; exact List.nodup_nil, fun p z => by rw [ha] at z; (cases z), fun i s' e => ?_⟩
  · unfold startD L2.start
    rw [List.length_append, List.length_append, List.length_map, List.length_map, h1.length, List.length_replicate, List.length_replicate]
  · rcases start_get h1.length e with ⟨d, e1, rfl, e2⟩ | rfl
    · obtain ⟨v, e3, r⟩ := h1.get e1
      rw [e2, e3]
      exact slAt_pure (r.wk (fun a z => z.elim id fun z => z.elim (fun z => nomatch z) fun z => by rw [ha] at z; cases z) fun _ _ _ e => e) rfl
    · trivial
end DL

/-! DNt: a list that was locked ahead of a call; an empty dict as data; promises that know the heap at the call. -/
namespace DL
open PySem PySem.Spec PyProof.Rows L2
/-- the list at a was locked ahead of the frame -/
def Lk (X : Cx) (a : Addr) (ns : List Int) : Prop := ∃ od, X.H_0 a = some (.frz od (.lst (ns.map V.int)))
theorem Lk.at {X : Cx} {a : Addr} {ns : List Int} {pins : List (Addr × Obj)} {σ : L2.St} {H : Hp} {s : Shared} (h : Lk X a ns) (I : Inv X pins σ H s) : ∃ od, H a = some (.frz od (.lst (ns.map V.int))) := by
  obtain ⟨od, e⟩ := h
  exact ⟨od, I.base.frzs a od _ e⟩
theorem addr_frz {c : Ctx} {σ : L2.St} {H : Hp} {δ : DE} {n : Nat} (S : SlR c σ H δ n) {a : Addr} {od : Obj} {u : HO} (h : H a = some (.frz od u)) (nm : ¬ c.M a) : ¬ c.Av δ a := by
  rintro (z | z | z)
  · exact nm z
  · obtain ⟨⟨x, y, w, h0, _⟩, _⟩ := S.pur a z
    rw [h] at h0; cases h0
  · obtain ⟨s, hs, e⟩ := List.mem_flatMap.mp z
    obtain ⟨i, hi⟩ := List.mem_iff_getElem?.mp hs
    have q := S.sl i s hi
    cases s with
    | none => cases e
    | some d =>
      cases d with
      | own p' ds => obtain rfl := List.mem_singleton.mp e; obtain ⟨_, vs, h1, _⟩ := q; rw [h] at h1; cases h1
      | ownK p' ks ds => obtain rfl := List.mem_singleton.mp e; obtain ⟨_, vs, h1, _⟩ := q; rw [h] at h1; cases h1
      | ownT p' ks ds => obtain rfl := List.mem_singleton.mp e; obtain ⟨_, vs, h1, _⟩ := q; rw [h] at h1; cases h1
      | ins p' dx C ns ds => obtain rfl := List.mem_singleton.mp e; obtain ⟨_, vs, h1, _⟩ := q; rw [h] at h1; cases h1
      | ownN p' ks ps ds =>
        obtain ⟨_, h1, _, h2⟩ := q
        rcases List.mem_cons.mp e with rfl | m
        · rw [h] at h1
          cases ks <;> cases h1
        · obtain ⟨us, h3⟩ := h2.some _ m
          rw [h] at h3; cases h3
      | _ => cases e
section
variable {c : Ctx} {δ : DE} {n : Nat} {a b e : Expr} {pos : Pos} {Φ : D → Nat → Prop} {h0 : Addr} {ns : List Int}
/-- as data that is only read -/
theorem we_lk (L : Lk c.X h0 ns) (nm : ¬ c.M h0) (h : WE c e δ n fun y n1 => y = .raw (.ref h0) ∧ Φ (.slst (ns.map D.int)) n1) : WE c e δ n Φ := ⟨fun σ H Q S q pins s I => by
  refine thn (h.run σ H (fun v H2 => ∃ n1, Kp c.pu H H2 ∧ SlR c σ H2 δ n1 ∧ v = .ref h0 ∧ Φ (.slst (ns.map D.int)) n1) S (fun v H2 y n1 k1 S1 r1 ⟨e1, f⟩ => ⟨n1, k1, S1, by subst e1; exact r1, f⟩) pins s I) fun u s1 ⟨v, H2, I2, rv, n1, k1, S1, ev, f⟩ => ?_
  obtain ⟨od, e2⟩ := L.at I2
  exact ⟨v, H2, I2, rv, q v H2 (.slst (ns.map D.int)) n1 k1 S1 ⟨h0, _, ev, .inl ⟨addr_frz S1 e2 nm, .inr ⟨od, e2⟩⟩, Rps.of_ints ns⟩ f⟩⟩
theorem cut_le (ds : List D) (lo hi : Option Int) : (cutD ds lo hi).length ≤ ds.length := by
  unfold cutD
  rw [List.length_take, List.length_drop]
  omega
/-- from here on as data that is only read -/
theorem wb_slst (i : Nat) {sts : List Stmt} {D' : DEnds} (L : Lk c.X h0 ns) (nm : ¬ c.M h0) (hi : δ[i]? = some (some (.raw (.ref h0)))) (h : WB c sts (δ.set i (some (.slst (ns.map D.int)))) n D') : WB c sts δ n D' := ⟨fun b σ H DD S B E pins s I => by
  obtain ⟨od, e2⟩ := L.at I
  obtain ⟨v, e3, e4⟩ := S.sl i _ hi
  have e4 : v = .ref h0 := e4
  subst e4
  have S2 := S.set i (d := .slst (ns.map D.int)) (v := .ref h0) ⟨h0, _, rfl, .inl ⟨addr_frz S e2 nm, .inr ⟨od, e2⟩⟩, Rps.of_ints ns⟩
  have es : σ.set i (some (.ref h0)) = σ := by
    refine List.ext_getElem? fun j => ?_
    by_cases e : i = j
    · subst e
      rw [List.getElem?_set_self (List.getElem?_eq_some_iff.mp e3).1, e3]
    · rw [List.getElem?_set_ne e]
  rw [es] at S2
  exact h.run b σ H DD S2 (B.set1 rfl) E pins s I⟩
/-- xs[:i] of such a list -/
theorem we_slHiS {p2} (h : WE c a δ n fun x n1 => WE c b δ n1 fun y n2 => ∃ xs i, x = .slst xs ∧ y = .int i ∧ Φ (.new (cutD xs none (some i))) n2) : WE c (.Subscript a (.Slice none (some b) none p2) pos) δ n Φ := ⟨fun σ H Q S q => by
  refine pe_to (pe_slice sl_list pe_w po_none (po_some pe_w)) ?_
  refine h.run σ H _ S fun v H2 x n1 k1 S1 r1 h2 => ?_
  refine h2.run σ H2 _ S1 fun u H3 y n2 k2 S2 r2 ⟨xs, i, e, e2, f⟩ => ?_
  subst e e2
  obtain ⟨p, vs, rfl, h3, h4⟩ := r1.kp Ctx.puAv k2
  refine ⟨i, r2, p, vs, rfl, h3.imp (fun z => z.2) id, fun l hl => ?_⟩
  exact q _ _ _ n2 ((k1.trans k2).trans (Kp.new hl)) (S2.grow (same_new hl)) (RpE.mkNew S2 (fun p z => Kp.back S S1 k1 (Kp.back S1 S2 k2 z)) hl (h4.cut none (some i))) f⟩
def TupleOfS : List D → (D → Prop) → Prop := fun ds Φ => ∃ xs, ds = [.slst xs] ∧ Φ (.tup xs)
theorem tupleOfS_ok : RCok c δ (fun xs H Q => ∃ p ys, xs = [.ref p] ∧ ((SqL c.X.K H p ys ∧ ∀ l, H l = none → Q (.ref l) (upd H l (.tup ys))) ∨ (SqT c.X.K H p ys ∧ Q (.ref p) H))) TupleOfS := by
  intro σ H Hs n ds vs Φ Q S hs r h q
  obtain ⟨xs, rfl, f⟩ := h
  obtain ⟨v, rfl, r1⟩ := paired1 r
  obtain ⟨p, ys, rfl, h1, h2⟩ := r1
  exact ⟨p, ys, rfl, .inl ⟨h1.imp (fun z => z.2) id, fun l hl => q _ _ _ (same_new hl) (RpE.mkTup S hl h2) f⟩⟩
theorem we_toTupleS {p : Pos} (hm : c.X.mg "tuple" = none) (hg : Gl c.X "tuple") (h : WA c [e] δ n fun ds n1 => TupleOfS ds fun z => Φ z n1) (he : starEach [e] c.X.env = (false, eval e c.X.env) :: starEach [] c.X.env := by rfl) (hpl : (backTo pos (starEach [] c.X.env)).any (·.1) = false := by rfl) :
    WE c (.Call (.Name "tuple" p) [e] [] pos) δ n Φ := we_callTy call_tuple_of tupleOfS_ok hm hg (by decide +kernel) h (he := he) (hpl := hpl)
end
/-- a list, perhaps one that was locked ahead -/
def LL (X : Cx) (H : Hp) (l : Addr) (xs : List V) : Prop := H l = some (.lst xs) ∨ ∃ od, X.H_0 l = some (.frz od (.lst xs))
theorem LL.ok {X : Cx} {pins : List (Addr × Obj)} {σ : L2.St} {H : Hp} {s : Shared} {l : Addr} {xs : List V} (h : LL X H l xs) (I : Inv X pins σ H s) : ObjOk X.prog X.w H s.heap l (.lst xs) := by
  rcases h with h | ⟨od, h⟩
  · exact I.hok l _ h
  · exact (I.hok l _ (I.base.frzs l od _ h)).2
def rCatR (X : Cx) : R2 := fun x y H Q => ∃ l b xs zs, x = .ref l ∧ y = .ref b ∧ LL X H l xs ∧ LL X H b zs ∧ xs.length + zs.length ≤ sizeLine ∧ ∀ p, H p = none → Q (.ref p) (upd H p (.lst (xs ++ zs)))
theorem op_catR {X : Cx} : OpR X (binaryOp .Add) (rCatR X) := by
  intro pins s σ H x y v u Q I rx ry h
  obtain ⟨l, b, xs, zs, rfl, rfl, h1, h2, hz, q⟩ := h
  cases rx
  cases ry
  obtain ⟨z1, i1, n1, r1, e1⟩ := h1.ok I
  obtain ⟨z2, i2, n2, r2, e2⟩ := h2.ok I
  have l1 := r1.length
  have l2 := r2.length
  refine PySem.P.add_list e1 e2 ?_ (by rw [List.size_toArray, List.size_toArray]; omega)
  rw [show i1.toArray ++ i2.toArray = (i1 ++ i2).toArray by simp]
  exact ⟨.ref _, _, I.lnew (t' := s.toks) (r1.append r2) (by rw [List.length_append]; omega), rfl, q _ I.fresh⟩
def LsR (X : Cx) (x : D) (xs : List D) : Prop := lstOf x = some xs ∨ ∃ (h0 : Addr) (ns : List Int), x = .raw (.ref h0) ∧ Lk X h0 ns ∧ xs = ns.map D.int
def CatR (X : Cx) : D → D → (D → Prop) → Prop := fun x y Φ => ∃ xs ys, LsR X x xs ∧ LsR X y ys ∧ xs.length + ys.length ≤ 16000000 ∧ Φ (.new (xs ++ ys))
theorem LsR.at {c : Ctx} {δ : DE} {Hs H : Hp} {x : D} {v : V} {xs : List D} (h : LsR c.X x xs) (r : RpE c.X.K (c.Av δ) (c.Ow δ) c.pu Hs H x v) : ∃ l vs, v = .ref l ∧ LL c.X H l vs ∧ Rps c.X.K (c.Av δ) H xs vs := by
  rcases h with h | ⟨h0, ns, rfl, ⟨od, e⟩, rfl⟩
  · obtain ⟨l, vs, rfl, h1, h2⟩ := r.lstOf h
    exact ⟨l, vs, rfl, .inl h1, h2⟩
  · have ev : v = .ref h0 := r
    exact ⟨h0, _, ev, .inr ⟨od, e⟩, Rps.of_ints ns⟩
theorem catR_ok {c : Ctx} {δ : DE} : R2ok c δ (rCatR c.X) (CatR c.X) := by
  intro σ H Hs n x y v u Φ Q S hs rx ry h q
  obtain ⟨xs, ys, hx, hy, hl, f⟩ := h
  obtain ⟨l, vs, rfl, h1, h2⟩ := hx.at rx
  obtain ⟨b, ws, rfl, h3, h4⟩ := hy.at ry
  exact ⟨l, b, vs, ws, rfl, rfl, h1, h3, sz (by rw [← h2.length, ← h4.length]; exact hl), fun p hp => q _ _ _ (same_new hp) (RpE.mkNew S hs hp (h2.append h4)) f⟩
theorem we_catR {c : Ctx} {δ : DE} {n : Nat} {a b : Expr} {pos : Pos} {Φ : D → Nat → Prop} (h : WE c a δ n fun x n1 => WE c b δ n1 fun y n2 => CatR c.X x y fun z => Φ z n2) : WE c (.BinOp a .Add b pos) δ n Φ := we_bin op_catR catR_ok h
/-- {} as data -/
theorem we_dictL {c : Ctx} {δ : DE} {n : Nat} {pos : Pos} {Φ : D → Nat → Prop} (h : Φ (.lkK [] []) n) : WE c (.Dict [] [] pos) δ n Φ := ⟨fun σ H Q S q pins s I => by
  refine thn (pe_dnewK.run pins s σ H (fun v H2 => ∃ p, v = .ref p ∧ H p = none ∧ H2 = upd H p (.dK [])) I (fun p hp => ⟨p, rfl, hp, rfl⟩)) fun u s1 ⟨v, H2, I2, rv, p, ev, hp, e2⟩ => ?_
  subst ev e2
  obtain ⟨od, I3⟩ := I2.lock (upd_same) trivial
  have e3 : upd (upd H p (.dK [])) p (.frz od (.dK [])) = upd H p (.frz od (.dK [])) := by
    funext z
    by_cases hz : z = p
    · subst hz; rw [upd_same, upd_same]
    · rw [upd_ne hz, upd_ne hz, upd_ne hz]
  rw [e3] at I3
  exact ⟨.ref p, _, I3, rv, q (.ref p) _ (.lkK [] []) n (Kp.new hp) (S.grow (same_new hp)) ⟨p, od, [], rfl, S.off hp, upd_same, rfl, rfl⟩ h⟩⟩
/-! ### a def whose first argument is the purse; no list that stands ahead of the call is in its answer -/
abbrev HSp := Hp → PSp
def Mls (H : Hp) (p a : Addr) : Prop := (∃ xs, H a = some (.lst xs)) ∧ a ≠ p
def spPL (K : PySem.W.Frag) (sp : HSp) : Sp := fun vs H Q _ => ∃ (p : Addr) (n : Nat) (ds : List D) (us : List V) (Φ : D → Nat → Prop), vs = .ref p :: us ∧ PurseAt H p n ∧ Rps K (fun a => Mls H p a ∨ a = p) H ds us ∧
  sp H ds n Φ ∧ ∀ d m v H2, Φ d m → Kp (some p) H H2 → PurseAt H2 p m → RetV K (fun a => Mls H p a ∨ a = p) H H2 d v → Q v H2
theorem fnPL {P : Program} {w : World} {K : PySem.W.Frag} {mg : Str → Option Value} {base : Heap} {x qual : Str} {st : Stmt} {f : Addr} {fd : FuncData} {N ps : List Str} {k : Nat} {sp : HSp} (F : FunV K x qual st f fd) (S : FnScope N ps (defScope st)) (hl : ∀ H ds n Φ, sp H ds n Φ → ds.length + 1 = ps.length)
    (body : ∀ (cdv : Value) (A : Around) (outer : List Env) (s : Shared) (H : Hp) (E : XK) (p : Addr) (n : Nat) (ds : List D) (Φ : D → Nat → Prop), Room k (A.deeper (envOfC qual (defScope st) s.heap.objs.size f cdv)) → (∀ d ∈ ds, pureD d = true) → sp H ds n Φ →
      WB ⟨(cxOf CX0 P w K mg base N qual (defScope st) f cdv A outer s H E).nox, Mls H p, some p⟩ (defBody st) (startD N (.pur p :: ds)) n { nx := fun _ m => Φ .non m, rt := fun d m => Φ d m }) : FnOk P w K mg base CX0 (k + 1) f fd ps (spPL K sp) := by
  refine F.ok S (fun vs H Q E h => ?_) (fun cdv A outer s H vs Q E hr h => ?_)
  · obtain ⟨p, n, ds, us, Φ, rfl, _, h1, h2, _⟩ := h
    rw [List.length_cons, ← h1.length]; exact hl H ds n _ h2
  · obtain ⟨p, n, ds, us, Φ, rfl, pa, h1, h2, h3⟩ := h
    refine ⟨_, pb_w, (body cdv A outer s H E p n ds Φ hr (rps_pure h1) h2).run ⟨H, fun a => a = p⟩ (L2.start N (.ref p :: us)) H _ ?_ ?_ ?_⟩
    · have ha : addrs (startD N (.pur p :: ds)) = [] := addrs_pure (ds := ds) (rps_pure h1) (N.length - (ds.length + 1))
      refine ⟨?_, (fun a z => by obtain ⟨⟨xs, e⟩, _⟩ := z; exact ⟨_, e, trivial⟩), fun p' z => by cases z; exact ⟨pa, fun z => z.2 rfl⟩, by rw [ha]; exact List.nodup_nil, fun p z => by rw [ha] at z; (cases z), fun i s' e => ?_⟩
      · unfold startD L2.start
        rw [List.length_append, List.length_append, List.length_map, List.length_map, List.length_cons, List.length_cons, h1.length]
        simp
      · rcases start_get (vs := .ref p :: us) (by rw [List.length_cons, List.length_cons, h1.length]) e with ⟨d, e1, rfl, e2⟩ | rfl
        · rw [e2]
          cases i with
          | zero =>
            cases e1
            exact ⟨rfl, rfl⟩
          | succ i =>
            obtain ⟨v, e3, r⟩ := h1.get (by simpa using e1)
            rw [show (V.ref p :: us)[i + 1]? = us[i]? from by simp, e3]
            refine slAt_pure (r.wk (fun a z => ?_) fun _ _ _ e => e) rfl
            rcases z with z | z | z
            · exact .inl z
            · exact .inr (Option.some.inj z).symm
            · rw [ha] at z; cases z
        · trivial
    · exact ⟨fun a o _ e => e, fun q z => .inr (by rw [show addrs (startD N (.pur p :: ds)) = [] from addrs_pure (ds := ds) (rps_pure h1) (N.length - (ds.length + 1))] at z; cases z), fun q z => by cases z; rfl⟩
    · refine ⟨fun σ' H' δ' n' S' B' z => ?_, fun _ _ _ _ _ _ z => z.elim, fun _ _ _ _ _ _ z => z.elim, fun v H' d n' R z => ?_⟩
      · exact h3 .non n' .non H' z (fun a o ne e => B'.keep a o (fun z => ne (by rw [z])) e) (S'.pur p rfl).1 (.inl ⟨rfl, rfl⟩)
      · refine h3 d n' v H' z (fun a o ne e => R.keep a o (fun z => ne (by rw [z])) e) (R.pur p rfl) ?_
        have hav : ∀ a, Mls H p a ∨ a = p → Ctx.Av ⟨(cxOf CX0 P w K mg base N qual (defScope st) f cdv A outer s H E).nox, Mls H p, some p⟩ [] a := fun a z => by
          rcases z with z | rfl
          · exact .inl z
          · exact .inr (.inl rfl)
        exact R.rp.to hav fun p' e4 e3 => e3.elim (fun z => absurd (hav p' (.inr z)) e4) (fun z => z)
end DL

/-! DNu: e.append(k) of a fresh list that nobody keeps; == of an object by its own method, a tuple or None on the right. -/
namespace L2
open PySem PySem.Spec PyProof.Rows
section
variable {X : Cx} {C f : Addr} {fd : FuncData} {ps : List Str} {sp : Sp} {k : Nat}
def rCmpN (K : PySem.W.Frag) (C : Addr) (sp : Sp) : R2 := fun x y H Q => ∃ a dx fs, x = .ref a ∧ H a = some (.ins C dx fs) ∧ ((y = .non ∧ PySem.W.notFirst K C (.type "NoneType") = true) ∨ ∃ b vs, y = .ref b ∧ H b = some (.tup vs) ∧ PySem.W.notFirst K C (.type "tuple") = true) ∧ sp [x, y] H Q E0
theorem op_cmpN {op : CmpOp} (F : FnOk X.prog X.w X.K X.mg X.base CX0 k f fd ps sp) (hs : PySem.W.findIn X.K (.ref C) (cmpInfo op).2.1 = some (some (.ref f))) (hf : PySem.W.isFn X.K (.ref f) = true) (hb : Binds X.K fd ps []) (hr : Room k X.A)
    (hcmp : ∀ a b, compareOp op a b = richCompare op a b := by intros; rfl) : OpR X (compareOp op) (rCmpN X.K C sp) := by
  intro pins s σ H x y v u Q I rx ry h
  obtain ⟨a, dx, fs, rfl, ha, hy, h⟩ := h
  cases rx
  obtain ⟨mA, J, _⟩ := ins_get I.hok ha
  obtain ⟨od, J, _⟩ := J.look
  obtain ⟨m, hF⟩ := I.fr
  have ry0 := ry
  have key : ∀ (tb : Value), PySem.W.Looks (model X.prog X.w) s.heap (typeOf u) tb → PySem.W.notFirst X.K C tb = true → wpAny (model X.prog X.w) X.A (richCompare op (.ref a) u) (EP X pins σ Q) X.xe s := fun tb J' nf => by
    refine PySem.W.cmp_K (op := op) (tb := tb) hr.units0 hF I.ok.mod.kin J J' nf hs hf ?_
    refine wpAny_mono (run_fn (vs := [.ref a, y]) (us := [.ref a, u]) F hr hb .nil pass0 I (.cons rfl (.cons ry0 .nil)) (by rw [List.append_nil]; exact h)) (fun r s' q => ?_) fun _ _ x => x
    obtain ⟨z, H', I', rz, q⟩ := q
    exact back_of rz ⟨z, H', I', rz, q⟩
  rw [hcmp]
  rcases hy with ⟨rfl, nf⟩ | ⟨b, vs, rfl, hb', nf⟩
  · obtain rfl : u = Value.none := ry
    exact key _ (.of_pure rfl) nf
  · obtain rfl : u = Value.ref b := ry
    obtain ⟨_, _, _, o, h1, h2, _⟩ := (show ObjOk X.prog X.w H s.heap b (.tup vs) from I.hok b _ hb')
    exact key _ (h2 ▸ (PySem.W.Looks.ld h1).andThen .now) nf
end
end L2
namespace DL
open PySem PySem.Spec PyProof.Rows L2
/-- a tuple or None -/
def TupN (d : D) : Prop := d = .non ∨ ∃ ds, d = .tup ds
/-- what == of a class's own asks of what stands on the right -/
structure NfC (K : PySem.W.Frag) (C : Addr) : Prop where
  n : PySem.W.notFirst K C (.type "NoneType") = true
  t : PySem.W.notFirst K C (.type "tuple") = true
def CmpN (C : Addr) (ns : List Str) (sp : DSp) : D → D → (D → Prop) → Prop := fun x y Φ => ∃ fs, x = .obj C ns fs ∧ TupN y ∧ sp [x, y] Φ
section
variable {c : Ctx} {δ : DE} {n : Nat} {a b e : Expr} {pos p : Pos} {Φ : D → Nat → Prop} {Ψ : Bool → Nat → Prop} {C : Addr} {ns : List Str} {sp : DSp} {ps : List Str} {k : Nat}
theorem cmpN_ok (NF : NfC c.X.K C) : R2ok c δ (rCmpN c.X.K C (spD c.X.K sp)) (CmpN C ns sp) := by
  intro σ H Hs n x y v u Φ Q S hs rx ry h q
  obtain ⟨fs, rfl, hy, h⟩ := h
  obtain ⟨a, dx, es, rfl, n1, i1, _, _⟩ := id rx
  have py : pureD y = true := by rcases hy with rfl | ⟨ds, rfl⟩ <;> rfl
  refine ⟨a, dx, es, rfl, i1, ?_, c.Av δ, [.obj C ns fs, y], _, fun a m => S.av_nt m, ⟨_, _, rfl, rx.pure rfl, _, _, rfl, ry.pure py, rfl⟩, h, fun d v H4 f sm rv => q v H4 d sm (rv.rpE (fun _ => Iff.rfl) hs S) f⟩
  rcases hy with rfl | ⟨ds, rfl⟩
  · exact .inl ⟨ry, NF.n⟩
  · obtain ⟨b, vs, rfl, _, h1, _⟩ := ry
    exact .inr ⟨b, vs, rfl, h1, NF.t⟩
theorem we_eqN (NF : NfC c.X.K C) (M : Mth c.X.prog c.X.w c.X.K c.X.mg c.X.base C "__eq__" ps k (spD c.X.K sp)) (hr : Room k c.X.A)
    (h : WE c a δ n fun x n1 => WE c b δ n1 fun y n2 => CmpN C ns sp x y fun z => Φ z n2) (hmk : behindInMarks .Eq b = false := by rfl) : WE c (.Compare a [.Eq] [b] pos) δ n Φ := by
  obtain ⟨f, fd, hm, hb, F⟩ := M.ex
  exact we_cmp1 (op_cmpN (op := .Eq) F hm.at_ hm.fn hb hr) hmk (cmpN_ok NF) h
theorem wt_eqN (NF : NfC c.X.K C) (M : Mth c.X.prog c.X.w c.X.K c.X.mg c.X.base C "__eq__" ps k (spD c.X.K sp)) (hr : Room k c.X.A)
    (h : WE c a δ n fun x n1 => WE c b δ n1 fun y n2 => CmpN C ns sp x y fun z => ∃ k, z = .bl k ∧ Ψ k n2) (hmk : behindInMarks .Eq b = false := by rfl) : WT c (.Compare a [.Eq] [b] pos) δ n Ψ := by
  obtain ⟨f, fd, hm, hb, F⟩ := M.ex
  exact wt_cmp1 (op_cmpN (op := .Eq) F hm.at_ hm.fn hb hr) hmk (cmpN_ok NF) h
/-- e.append(k), the list fresh -/
theorem we_appF {i : Int} {j : Nat} {ap cp p' : Pos} (h : WE c e δ n fun x n1 => ∃ ds, x = .new ds ∧ ds.length < 16000000 ∧ Φ .non n1)
    (hbase : attributeBase e "append" c.X.env (eval e c.X.env) = eval e c.X.env := by rfl)
    (hfew : ((backTo cp (starEach [Expr.Constant (.int i) j p'] c.X.env)).all (fun x => !x.1) && (backToKw cp (keywordEach [] c.X.env)).all (fun x => x.1.isSome) && decide ([Expr.Constant (.int i) j p'].length + ([] : List Keyword).length + (if ([] : List Keyword).isEmpty then 0 else 1) < 30)) = true := by rfl)
    (hline : (ap.endLine == cp.line) = true := by rfl) (hs : starEach [Expr.Constant (.int i) j p'] c.X.env = (false, eval (Expr.Constant (.int i) j p') c.X.env) :: starEach [] c.X.env := by rfl) (hpl : (backTo cp (starEach [] c.X.env)).any (·.1) = false := by rfl) :
    WE c (.Call (.Attribute e "append" ap) [.Constant (.int i) j p'] [] cp) δ n Φ := ⟨fun σ H Q S q => by
  refine pe_to (pe_bm PySem.F.plainAttrs_list PySem.F.slot_list_append PySem.F.type_list_append mt_append pe_w (pa_cons pe_int pa_nil hs) hbase hfew hline hs hpl) ?_
  refine h.run σ H _ S fun v H2 x n1 k1 S1 r1 ⟨ds, e1, hl, f⟩ => ?_
  subst e1
  obtain ⟨p, vs, rfl, h0, nav, npu, h3, h4⟩ := r1
  have k2 : Kp c.pu H (upd H2 p (.lst (vs ++ [.int i]))) := fun a o ne e => by
    rw [upd_ne (fun z => by rw [z, h0] at e; cases e)]
    exact k1 a o ne e
  refine ⟨.inl ⟨rfl, vs, .of h3⟩, ?_⟩
  refine ⟨p, vs, .int i, rfl, rfl, h3, by have := sizeLine_eq; rw [← h4.length]; omega, ?_⟩
  refine q .non _ .non n1 k2 (S.kp k2 fun p' e => ?_) rfl f
  obtain ⟨⟨x, y, z, h9, h10⟩, _⟩ := S1.pur p' e
  exact ⟨x, y, z, by rw [upd_ne (fun w => npu (by rw [e, w]))]; exact h9, h10⟩⟩
end
mutual
/-- no list in it -/
def nl : D → Bool
  | .non => true | .bl _ => true | .int _ => true | .str _ => true
  | .tup ds => nls ds | .obj _ _ ds => nls ds
  | _ => false
def nls : List D → Bool
  | [] => true
  | d :: ds => nl d && nls ds
end
mutual
theorem Rp.nl {K : PySem.W.Frag} {Av Av' : Addr → Prop} {H : Hp} {q : Addr} {us : List V} (hq : H q = some (.lst us)) (hs : ∀ a, Av' a → Av a ∨ a = q) : ∀ {d : D} {v : V}, nl d = true → Rp K Av H d v → Rp K Av' H d v
  | .non, _, _, h => h
  | .bl _, _, _, h => h
  | .int _, _, _, h => h
  | .str _, _, _, h => h
  | .tup ds, v, o, h => by
    obtain ⟨a, vs, e, n, h1, h2⟩ := h
    exact ⟨a, vs, e, fun z => (hs a z).elim n fun w => by rw [w, hq] at h1; (cases h1), h1, Rps.nl hq hs (by simpa [DL.nl] using o) h2⟩
  | .obj C ns ds, v, o, h => by
    obtain ⟨a, dx, gs, e, n, h1, h2, h3⟩ := h
    exact ⟨a, dx, gs, e, fun z => (hs a z).elim n fun w => by rw [w, hq] at h1; (cases h1), h1, h2, Rps.nl hq hs (by simpa [DL.nl] using o) h3⟩
  | .ktup _, _, o, _ => by cases o
  | .slst _, _, o, _ => by cases o
  | .lst _, _, o, _ => by cases o
  | .own _ _, _, o, _ => by cases o
  | .new _, _, o, _ => by cases o
  | .pur _, _, o, _ => by cases o
  | .ownK _ _ _, _, o, _ => by cases o
  | .newK, _, o, _ => by cases o
  | .ownT _ _ _, _, o, _ => by cases o
  | .newT, _, o, _ => by cases o
  | .ins _ _ _ _ _, _, o, _ => by cases o
  | .exc _ _, _, o, _ => by cases o
  | .dik _ _ _ _, _, o, _ => by cases o
  | .lkK _ _, _, o, _ => by cases o
  | .lkT _ _, _, o, _ => by cases o
  | .raw _, _, o, _ => by cases o
  | .ownN _ _ _ _, _, o, _ => by cases o
  | .newN _ _, _, o, _ => by cases o
  | .newP _ _, _, o, _ => by cases o
  | .newD _ _, _, o, _ => by cases o
theorem Rps.nl {K : PySem.W.Frag} {Av Av' : Addr → Prop} {H : Hp} {q : Addr} {us : List V} (hq : H q = some (.lst us)) (hs : ∀ a, Av' a → Av a ∨ a = q) : ∀ {ds : List D} {vs : List V}, nls ds = true → Rps K Av H ds vs → Rps K Av' H ds vs
  | [], _, _, h => h
  | d :: ds, vs, o, h => by
    obtain ⟨v, r, e, h1, h2⟩ := h
    have o : DL.nl d = true ∧ nls ds = true := by simpa [nls] using o
    exact ⟨v, r, e, Rp.nl hq hs o.1 h1, Rps.nl hq hs o.2 h2⟩
end
theorem nls_ints : ∀ {ns : List Int}, nls (ns.map D.int) = true
  | [] => rfl
  | n :: ns => nls_ints (ns := ns)
theorem nl_pure : ∀ {d : D}, nl d = true → pureD d = true
  | .non, _ => rfl
  | .bl _, _ => rfl
  | .int _, _ => rfl
  | .str _, _ => rfl
  | .tup _, _ => rfl
  | .obj _ _ _, _ => rfl
  | .ktup _, o => by cases o
  | .slst _, o => by cases o
  | .lst _, o => by cases o
  | .own _ _, o => by cases o
  | .new _, o => by cases o
  | .pur _, o => by cases o
  | .ownK _ _ _, o => by cases o
  | .newK, o => by cases o
  | .ownT _ _ _, o => by cases o
  | .newT, o => by cases o
  | .ins _ _ _ _ _, o => by cases o
  | .exc _ _, o => by cases o
  | .dik _ _ _ _, o => by cases o
  | .lkK _ _, o => by cases o
  | .lkT _ _, o => by cases o
  | .raw _, o => by cases o
  | .ownN _ _ _ _, o => by cases o
  | .newN _ _, o => by cases o
  | .newP _ _, o => by cases o
  | .newD _ _, o => by cases o
section
variable {c : Ctx} {δ : DE} {n : Nat} {e : Expr} {Φ : D → Nat → Prop}
/-- an own list read by a def, which does not keep it -/
theorem we_unown (i : Nat) {q : Addr} {xs : List D} (hi : δ[i]? = some (some (.own q xs))) (h : WE c e (δ.set i (some (.lst xs))) n fun d n1 => nl d = true ∧ Φ d n1) : WE c e δ n Φ := ⟨fun σ H Q S k => by
  have hq : ∃ us, H q = some (.lst us) := by
    obtain ⟨_, vs, h1, _⟩ := S.sl i _ hi
    exact ⟨vs, h1⟩
  obtain ⟨us, hq⟩ := hq
  have npu := (S.dis q (mem_addrs2 hi List.mem_cons_self)).2
  refine h.run σ H _ (S.freeze hi) fun v H2 d n1 k1 S1 r1 ⟨o, f⟩ => ?_
  refine k v H2 d n1 k1 (S.kp k1 fun p e => (S1.pur p e).1) (RpE.of (Rp.nl (k1 q _ npu hq) (fun a z => ?_) o (r1.pure (nl_pure o)))) f
  rcases z with z | z | z
  · exact .inl (.inl z)
  · exact .inl (.inr (.inl z))
  · by_cases ha : a = q
    · exact .inr ha
    · refine .inl (.inr (.inr ?_))
      obtain ⟨s, hs, e⟩ := List.mem_flatMap.mp z
      obtain ⟨j, hj⟩ := List.mem_iff_getElem?.mp hs
      by_cases hji : i = j
      · subst hji
        rw [hi] at hj
        cases hj
        exact absurd (List.mem_singleton.mp e) ha
      · exact mem_addrs2 (i := j) (by rw [List.getElem?_set_ne hji]; exact hj) e⟩
theorem we_callPN {x : Str} {ps : List Str} {k m : Nat} {p pos : Pos} {sp : PSp} (F : GFn c.X.prog c.X.w c.X.K c.X.mg c.X.base x ps k (spP c.X.K sp)) (hgd : c.X.A.guards = some []) (hr : Room k c.X.A) (hg : Gl c.X x)
    (h : WE c e δ n fun d n1 => ∃ x y z : Int, d = .new [.int x, .int y, .int z] ∧ (0 ≤ x ∧ x < 10 ^ 400 ∧ 0 ≤ y ∧ y < 2147483629 ∧ 0 ≤ z ∧ z + m ≤ 2 ^ 60) ∧ sp [] m fun d _ => ∃ b, d = .bl b ∧ Φ (.bl b) n1)
    (hdb : (x == ("__debug__" : Str)) = false := by decide) (he : starEach [e] c.X.env = (false, eval e c.X.env) :: starEach [] c.X.env := by rfl) (hpl : (backTo pos (starEach [] c.X.env)).any (·.1) = false := by rfl) :
    WE c (.Call (.Name x p) [e] [] pos) δ n Φ := ⟨fun σ H Q S kq => by
  obtain ⟨f, fd, hm, hk, hb, F⟩ := F.ex
  refine pe_to (goCall F hgd hr hg hm hk hb (E := fun _ _ _ => False) pass0 (pa_cons pe_w pa_nil he) hdb he hpl) ?_
  refine h.run σ H _ S fun v H2 d n1 k1 S1 r1 ⟨x, y, z, ed, bd, f⟩ => ?_
  subst ed
  obtain ⟨q, vs, rfl, h0, h1, h2, h3, h4⟩ := r1
  have evs : vs = [V.int x, V.int y, V.int z] := Rps.ints (ns := [x, y, z]) h4
  subst evs
  show spP c.X.K sp [.ref q] H2 Q (fun _ _ _ => False)
  refine ⟨fun _ => False, q, m, [], [], _, rfl, fun a z => z.elim, fun z => z, ⟨x, y, z, h3, bd⟩, rfl, f, fun d m2 v H3 f kp pa rv => ?_⟩
  obtain ⟨b, rfl, f⟩ := f
  have k2 : Kp c.pu H H3 := fun a o ne e => kp a o (fun w => by rw [← Option.some.inj w, h0] at e; cases e) (k1 a o ne e)
  rcases rv with ⟨_, rv⟩ | ⟨ds, p, vs, e, _⟩ | ⟨_, _, _, _, e, _⟩ | ⟨_, _, _, _, _, _, e, _⟩
  · have e2 : v = .bl b := rv
    subst e2
    refine kq (.bl b) H3 (.bl b) n1 k2 (S.kp k2 fun p' e => ?_) rfl f
    obtain ⟨⟨x', y', z', h9, h10⟩, _⟩ := S1.pur p' e
    exact ⟨x', y', z', kp _ _ (fun w => h2 (by rw [e, ← Option.some.inj w])) h9, h10⟩
  · cases e
  · cases e
  · cases e⟩
end
end DL

/-! Lw02: fields that no rule has. -/
namespace Ax
open PySem PySem.Spec PyProof.Rows L2 DL
def ltOne : D → Bool
  | .int i => decide (i < 1)
  | _ => false
def divB (b : Int) : D → Bool
  | .int m => decide (m - m / b * b = 0)
  | _ => false
def lowW (d : D) : Bool := !whole d || ltOne d
/-- a list whose items' kinds are known -/
def Kn (ys : List D) : Prop := ∀ y ∈ ys, pureD y = true ∧ ∃ k, isTy "int" y = some k
/-- no mantissas -/
def NoMs (b : Int) (m : D) : Prop := isTyX "list" m = some false ∨ ∃ ys : List D, m = .lst ys ∧ ys.length ≤ 200 ∧ Kn ys ∧ (ys = [] ∨ (∃ y ∈ ys, lowW y = true) ∨ ∃ ns : List Int, ys = ns.map D.int ∧ (∀ x ∈ ns, 1 ≤ x ∧ x ≤ 1000) ∧ ((∃ x ∈ ns, x % b = 0) ∨ ¬ ns.Nodup))
def NoKind (k : D) : Prop := isTyX "str" k = some false ∨ ∃ x : Str, k = .str x ∧ x ≠ "inside" ∧ x ≠ "cover" ∧ x ≠ "length"
def IsKind (way : Str) : Prop := way = "inside" ∨ way = "cover" ∨ way = "length"
def NoMost (way : Str) (m : D) : Prop := (∃ k, isTy "int" m = some k) ∧ ∀ i : Int, m = .int i → i < 1 + (if way = "cover" then 1 else 0)
/-- fields that no rule has -/
inductive Unfit : D → D → D → D → Prop
  | base {b k m l : D} {t : Bool} (h : isTy "int" b = some t) (n : ∀ i : Int, b = .int i → i < 2) : Unfit b k m l
  | kind {b : Int} {k m l : D} (h : 2 ≤ b) (n : NoKind k) : Unfit (.int b) k m l
  | mant {b : Int} {way : Str} {m l : D} (h : 2 ≤ b) (h2 : b ≤ 16) (w : IsKind way) (n : NoMs b m) : Unfit (.int b) (.str way) m l
  | most {b : Int} {way : Str} {ms : List Int} {l : D} (w : IsKind way) (h : MsOk b ms) (n : NoMost way l) : Unfit (.int b) (.str way) (.lst (ms.map D.int)) l
def sp_are_mantissasF : DSp := fun ds Φ => ∃ (b : Int) (m : D), ds = [.int b, m] ∧ 2 ≤ b ∧ b ≤ 16 ∧ NoMs b m ∧ Φ (.bl false)
def sp_are_fieldsF : DSp := fun ds Φ => ∃ b k m l : D, ds = [b, k, m, l] ∧ Unfit b k m l ∧ Φ (.bl false)
theorem low_int {ys : List D} (h : ∀ y ∈ ys, lowW y = false) : ∃ ns : List Int, ys = ns.map D.int ∧ ∀ x ∈ ns, 1 ≤ x := by
  induction ys with
  | nil => exact ⟨[], rfl, by simp⟩
  | cons y ys ih =>
    obtain ⟨ns, rfl, h1⟩ := ih fun z m => h z (List.mem_cons_of_mem _ m)
    have hy := h y List.mem_cons_self
    have hw : whole y = true := by
      unfold lowW at hy
      cases hb : whole y with
      | true => rfl
      | false => rw [hb] at hy; simp at hy
    obtain ⟨i, rfl⟩ := whole_int hw
    have hi : 1 ≤ i := by
      unfold lowW at hy
      rw [hw] at hy
      have : decide (i < 1) = false := hy
      have := of_decide_eq_false this
      omega
    exact ⟨i :: ns, rfl, fun x m => by
      rcases List.mem_cons.mp m with rfl | m
      · exact hi
      · exact h1 x m⟩
theorem kn_all {ys : List D} {i : Nat} {d : D} (h : Kn ys) (e : ys[i]? = some d) : pureD d = true ∧ ∃ k, isTy "int" d = some k := h d (List.mem_of_getElem? e)
theorem filter_none {ys : List D} {t : D → Bool} (h : (ys.filter t).isEmpty = true) : ∀ y ∈ ys, t y = false := fun y m => by
  have e : ys.filter t = [] := List.isEmpty_iff.mp h
  cases hb : t y with
  | false => rfl
  | true =>
    have : y ∈ ys.filter t := List.mem_filter.mpr ⟨m, hb⟩
    rw [e] at this; cases this
theorem filter_some {ys : List D} {t : D → Bool} {y : D} (m : y ∈ ys) (h : t y = true) : (ys.filter t).isEmpty = false := by
  cases hb : (ys.filter t).isEmpty with
  | false => rfl
  | true => rw [filter_none hb y m] at h; cases h
theorem kind_of {x : Str} (h : (!inD (.str x) [.str "inside", .str "cover", .str "length"]) = false) : IsKind x := by
  unfold inD at h
  simp only [List.map_cons, List.map_nil, inV, List.any_cons, List.any_nil, dV, eqV, Bool.or_false, Bool.not_eq_false', Bool.or_eq_true] at h
  rcases h with h | h | h
  · exact .inl (eq_of_beq h).symm
  · exact .inr (.inl (eq_of_beq h).symm)
  · exact .inr (.inr (eq_of_beq h).symm)
theorem most_no {x : Str} {l : D} (nl : NoMost x l) : (whole l && atLeast (1 + (if decide (x = "cover") = true then 1 else 0)) l) = false := by
  cases hl : whole l with
  | false => rfl
  | true =>
    obtain ⟨i, rfl⟩ := whole_int hl
    have z := nl.2 i rfl
    rw [Bool.true_and]
    refine decide_eq_false fun y => ?_
    by_cases cv : x = "cover"
    · simp [cv] at z y; omega
    · simp [cv] at z y; omega
/-- Rule(..) of fields that no rule has: the exception's value is a tuple of the very values -/
def spIR (K : PySem.W.Frag) (CI : Addr) : Sp := fun vs H _ E => ∃ (a : Addr) (M : Addr → Prop) (b k m l : D) (us : List L2.V), vs = .ref a :: us ∧ (∀ a, M a → ∃ o, H a = some o ∧ NT o) ∧ Rps K M H [b, k, m, l] us ∧ Unfit b k m l ∧
  ∀ (dx t : Addr) (H2 : Hp), Same H H2 → H dx = none → H t = none → t ≠ dx → H2 dx = some (.xd [("value", .ref t)]) → H2 t = some (.tup us) → E (.ref CI) (some dx) H2
/-- what a tuple of such fields shows is within bounds -/
def Sh (ts : List PyData) : Prop := PyData.depthAll ts ≤ 20 ∧ (PyData.shown (.tuple ts)).length ≤ sizeLine
/-- _law_refused: fields that no rule has; the third one, if a list, is longer by a word then -/
def spRf (K : PySem.W.Frag) : Sp := fun vs H Q _ => ∃ (b k m l : D) (ts : List PyData), Rps K (fun _ => False) H [b, k, m, l] vs ∧ Unfit b k m l ∧ Paired (Df K H) vs ts ∧ Sh ts ∧
  ((isTyX "list" m = some false ∧ ∀ H2, Same H H2 → Q (.bl true) H2) ∨
   ∃ (xs : List D) (q : Addr) (us : List L2.V), m = .lst xs ∧ vs[2]? = some (.ref q) ∧ H q = some (.lst us) ∧ us.length < 1000 ∧ ∀ H2, Kp (some q) H H2 → H2 q = some (.lst (us ++ [.str "more"])) → (∃ ts2, Paired (Df K H2) vs ts2 ∧ Sh ts2) ∧ Q (.bl true) H2)
/-- the class of rules, called with what does not fit -/
structure RuleNo (P : Program) (w : World) (K : PySem.W.Frag) (mg : Str → Option Value) (base : Heap) (CR CI : Addr) : Prop where
  ex : ∃ (f : Addr) (fd : FuncData), mg "Rule" = some (.ref CR) ∧ L2.Mk K CR f ∧ Binds K fd ["self", "base", "kind", "mantissas", "most"] [] ∧ FnOk P w K mg base (L2.CX P w) 4 f fd ["self", "base", "kind", "mantissas", "most"] (spIR K CI)
/-- what is known of the class InvalidRule -/
structure IvR (K : PySem.W.Frag) (mg : Str → Option Value) (CI : Addr) : Prop where
  m : mg "InvalidRule" = some (.ref CI)
  x : XfC K CI
  v : PySem.W.findIn K (.ref CI) "value" = some none
  e : PySem.W.exmOne K (.ref CI) (.ref CI) = some true
theorem tyX_of {K : PySem.W.Frag} {Av : Addr → Prop} {H : Hp} {T : String} {d : D} {v : L2.V} {k : Bool} (hT : T ∈ ["int", "bool", "str", "tuple", "list"]) (h : isTyX T d = some k) (r : Rp K Av H d v) : ∃ N : String, TyX K H v (.type N) ∧ kitB N T = some k := by
  by_cases hl : ∃ ks ds, d = .lkK ks ds
  · obtain ⟨ks, ds, rfl⟩ := hl
    cases h
    obtain ⟨a, o, kvs, rfl, _, h1, _⟩ := r
    exact ⟨"dict", TyX.fDict h1, (show ∀ T ∈ ["int", "bool", "str", "tuple", "list"], kitB "dict" T = some false by decide +kernel) T hT⟩
  · have hk : isTy T d = some k := by
      cases d with
      | lkK ks ds => exact absurd ⟨ks, ds, rfl⟩ hl
      | _ => exact h
    exact ⟨tyN d, isTy_ty hk (RpE.of (Ow := fun _ => False) (pu := none) (Hs := H) r), isTy_kit hT hk⟩
end Ax
namespace Ax
open PySem PySem.Spec PyProof.Rows L2 DL
abbrev iD (hs : List Int) : List D := hs.map D.int
def O1 : List D := [.int 1, .int 0, .int (0 - 10), .bl true, .non, .str "10", .lst [.int 10], .tup [.int 10]]
def O2 : List D := [.str "Inside", .str "", .non, .int 0, .lst [.str "inside"], .str "ticks", .tup [.str "cover"], .lkK [] []]
def O4 (way : Str) : List D := [.int 0, .int (0 - 1), .bl true, .non, .str "2", .lst [.int 2], .int (if decide (way = "cover") = true then 1 else 0)]
def W02 (b : Int) (h0 : Addr) (z : Int) (hs : List Int) (r : Int) : List D :=
  [.lst (iD hs ++ [.int z]), .lst (iD hs ++ [.int 0]), .lst (iD hs ++ [.int (b * (1 + r))]), .lst ([.int (0 - 1)] ++ iD hs)] ++ [.lst (iD hs ++ [.bl true]), .lst (iD hs ++ [.non]), .lst [], .non, .tup (iD hs), .lkK [] [], .str "12", .int z, .lst [.raw (.ref h0)], .lst [.str "1"]] ++ [.lst (cutD (iD hs) none (some 1) ++ iD hs)]
def rows02 (b : Int) (way : Str) (h0 : Addr) (z : Int) (hs : List Int) (lim r : Int) : List D :=
  O1.map (fun d => .tup [d, .str way, .lst (iD hs), .int lim]) ++ O2.map (fun d => .tup [.int b, d, .lst (iD hs), .int lim]) ++ (W02 b h0 z hs r).map (fun d => .tup [.int b, .str way, d, .int lim]) ++ (O4 way).map (fun d => .tup [.int b, .str way, .lst (iD hs), d])
def sp__law_odd02 : HSp := fun H ds n Φ => ∃ (b : Int) (way : Str) (h0 : Addr) (z : Int) (t : List Int) (lim : Int) (m : Nat), ds = [.int b, .str way, .raw (.ref h0), .int lim] ∧ (2 ≤ b ∧ b ≤ 16) ∧ t.length ≤ 15 ∧ (∃ od, H h0 = some (.frz od (.lst ((z :: t).map L2.V.int)))) ∧ n = m + 1 ∧
  ∀ r, 0 ≤ r → r < 9 → Φ (.new (rows02 b way h0 z (z :: t) lim r)) m
theorem O1_pure : ∀ d ∈ O1, pureD d = true := by simp [O1, pureD]
theorem O2_pure : ∀ d ∈ O2, pureD d = true := by simp [O2, pureD]
theorem O4_pure {way : Str} : ∀ d ∈ O4 way, pureD d = true := by simp [O4, pureD]
theorem W02_pure {b : Int} {h0 : Addr} {z : Int} {hs : List Int} {r : Int} : ∀ d ∈ W02 b h0 z hs r, pureD d = true := by simp [W02, pureD]
end Ax
namespace DL
open PySem PySem.Spec PyProof.Rows L2
theorem sql_kp {K : PySem.W.Frag} {H H' : Hp} {a : Addr} {xs : List V} (k : Same H H') (h : SqL K H a xs) : SqL K H' a xs := h.imp (rd_kp (ex := none) (Kp.of k) (fun z => nomatch z)) id
theorem sqt_kp {K : PySem.W.Frag} {H H' : Hp} {a : Addr} {xs : List V} (k : Same H H') (h : SqT K H a xs) : SqT K H' a xs := h.imp (rd_kp (ex := none) (Kp.of k) (fun z => nomatch z)) id
mutual
theorem dp_kp {K : PySem.W.Frag} {H H' : Hp} (k : Same H H') : ∀ {v : V} {d : PyData}, Dp K H v d → Dp K H' v d
  | _, _, .non => .non
  | _, _, .bl b => .bl b
  | _, _, .int i => .int i
  | _, _, .str x => .str x
  | _, _, .lst h t => .lst (sql_kp k h) (dps_kp k t)
  | _, _, .tup h t => .tup (sqt_kp k h) (dps_kp k t)
theorem dps_kp {K : PySem.W.Frag} {H H' : Hp} (k : Same H H') : ∀ {vs : List V} {ds : List PyData}, DpAll K H vs ds → DpAll K H' vs ds
  | _, _, .nil => .nil
  | _, _, .cons h t => .cons (dp_kp k h) (dps_kp k t)
end
theorem df_kp {K : PySem.W.Frag} {H H' : Hp} (k : Same H H') {v : V} {d : PyData} (h : Df K H v d) : Df K H' v d := by
  cases h with
  | py h s n => exact .py (dp_kp k h) s n
  | dk h => exact .dk (k _ _ h)
theorem dfs_kp {K : PySem.W.Frag} {H H' : Hp} (k : Same H H') {vs : List V} {ds : List PyData} (h : Paired (Df K H) vs ds) : Paired (Df K H') vs ds := Paired.mapP h fun _ _ z => df_kp k z
end DL

/-! Lx02: data some lists of which may have grown by a word, again and again. -/
namespace Ax
open PySem PySem.Spec PyProof.Rows L2 DL
mutual
/-- v stands for d, but lists of F may be longer by at most k words "more"; the raw thing at h0 is a list of the numbers hs -/
def Rw (F : Addr → Prop) (h0 : Addr) (hs : List Int) (H : Hp) (k : Nat) : D → L2.V → Prop
  | .non, v => v = .non
  | .bl b, v => v = .bl b
  | .int i, v => v = .int i
  | .str x, v => v = .str x
  | .tup ds, v => ∃ a vs, v = .ref a ∧ H a = some (.tup vs) ∧ Rws F h0 hs H k ds vs
  | .lst ds, v => ∃ a vs j, v = .ref a ∧ F a ∧ j ≤ k ∧ H a = some (.lst (vs ++ List.replicate j (.str "more"))) ∧ Rws F h0 hs H k ds vs
  | .lkK ks ds, v => ks = [] ∧ ds = [] ∧ ∃ (a : Addr) (o : Obj), v = .ref a ∧ H a = some (.frz o (.dK []))
  | .raw u, v => u = .ref h0 ∧ v = .ref h0 ∧ ¬ F h0 ∧ H h0 = some (.lst (hs.map L2.V.int))
  | _, _ => False
def Rws (F : Addr → Prop) (h0 : Addr) (hs : List Int) (H : Hp) (k : Nat) : List D → List L2.V → Prop
  | [], vs => vs = []
  | d :: ds, vs => ∃ v r, vs = v :: r ∧ Rw F h0 hs H k d v ∧ Rws F h0 hs H k ds r
end
section
variable {F : Addr → Prop} {h0 : Addr} {hs : List Int} {H H' : Hp} {k k' : Nat}
mutual
/-- kept, or longer by one word -/
theorem Rw.go (hk : k ≤ k') (g : ∀ a o, ¬ F a → H a = some o → H' a = some o) (gt : ∀ a vs, H a = some (.tup vs) → H' a = some (.tup vs)) (gd : ∀ a o, H a = some (.frz o (.dK [])) → H' a = some (.frz o (.dK [])))
    (gl : ∀ a us, F a → H a = some (.lst us) → H' a = some (.lst us) ∨ (k + 1 ≤ k' ∧ H' a = some (.lst (us ++ [.str "more"])))) : ∀ {d : D} {v : L2.V}, Rw F h0 hs H k d v → Rw F h0 hs H' k' d v
  | .non, _, h => h
  | .bl _, _, h => h
  | .int _, _, h => h
  | .str _, _, h => h
  | .tup ds, v, h => by
    obtain ⟨a, vs, e, h1, h2⟩ := h
    exact ⟨a, vs, e, gt a vs h1, Rws.go hk g gt gd gl h2⟩
  | .lst ds, v, h => by
    obtain ⟨a, vs, j, e, f, hj, h1, h2⟩ := h
    rcases gl a _ f h1 with z | ⟨z1, z⟩
    · exact ⟨a, vs, j, e, f, Nat.le_trans hj hk, z, Rws.go hk g gt gd gl h2⟩
    · refine ⟨a, vs, j + 1, e, f, by omega, ?_, Rws.go hk g gt gd gl h2⟩
      rw [z, List.append_assoc, List.replicate_succ']
  | .lkK ks ds, v, h => by
    obtain ⟨e1, e2, a, o, e, h1⟩ := h
    exact ⟨e1, e2, a, o, e, gd a o h1⟩
  | .raw u, v, h => by
    obtain ⟨e1, e2, nf, h1⟩ := h
    exact ⟨e1, e2, nf, g h0 _ nf h1⟩
  | .ktup _, _, h => h.elim
  | .slst _, _, h => h.elim
  | .obj _ _ _, _, h => h.elim
  | .own _ _, _, h => h.elim
  | .new _, _, h => h.elim
  | .pur _, _, h => h.elim
  | .ownK _ _ _, _, h => h.elim
  | .newK, _, h => h.elim
  | .ownT _ _ _, _, h => h.elim
  | .newT, _, h => h.elim
  | .ins _ _ _ _ _, _, h => h.elim
  | .exc _ _, _, h => h.elim
  | .dik _ _ _ _, _, h => h.elim
  | .lkT _ _, _, h => h.elim
  | .ownN _ _ _ _, _, h => h.elim
  | .newN _ _, _, h => h.elim
  | .newP _ _, _, h => h.elim
  | .newD _ _, _, h => h.elim
theorem Rws.go (hk : k ≤ k') (g : ∀ a o, ¬ F a → H a = some o → H' a = some o) (gt : ∀ a vs, H a = some (.tup vs) → H' a = some (.tup vs)) (gd : ∀ a o, H a = some (.frz o (.dK [])) → H' a = some (.frz o (.dK [])))
    (gl : ∀ a us, F a → H a = some (.lst us) → H' a = some (.lst us) ∨ (k + 1 ≤ k' ∧ H' a = some (.lst (us ++ [.str "more"])))) : ∀ {ds : List D} {vs : List L2.V}, Rws F h0 hs H k ds vs → Rws F h0 hs H' k' ds vs
  | [], _, h => h
  | _ :: _, _, h => by
    obtain ⟨v, r, e, h1, h2⟩ := h
    exact ⟨v, r, e, Rw.go hk g gt gd gl h1, Rws.go hk g gt gd gl h2⟩
end
theorem Rw.same (g : Same H H') {d : D} {v : L2.V} (h : Rw F h0 hs H k d v) : Rw F h0 hs H' k d v := h.go (Nat.le_refl _) (fun a o _ e => g a o e) (fun a vs e => g a _ e) (fun a o e => g a _ e) fun a us _ e => .inl (g a _ e)
theorem Rws.get : ∀ {ds : List D} {vs : List L2.V} {i : Nat} {v : L2.V}, Rws F h0 hs H k ds vs → vs[i]? = some v → ∃ d, ds[i]? = some d ∧ Rw F h0 hs H k d v
  | [], vs, i, v, h, e => by
    have : vs = [] := h
    subst this; simp at e
  | d :: ds, vs, 0, v, h, e => by
    obtain ⟨v', r, rfl, h1, _⟩ := h
    simp at e; subst e
    exact ⟨d, rfl, h1⟩
  | d :: ds, vs, i + 1, v, h, e => by
    obtain ⟨v', r, rfl, _, h2⟩ := h
    obtain ⟨d', e1, h3⟩ := Rws.get h2 (by simpa using e)
    exact ⟨d', by simpa using e1, h3⟩
theorem Rws.length : ∀ {ds : List D} {vs : List L2.V}, Rws F h0 hs H k ds vs → ds.length = vs.length
  | [], vs, h => by have : vs = [] := h; subst this; rfl
  | d :: ds, vs, h => by
    obtain ⟨v', r, rfl, _, h2⟩ := h
    simp [Rws.length h2]
end
/-! ### the data that it stands for at a time -/
mutual
def Ext (hs : List Int) (k : Nat) : D → D → Prop
  | .lst ds, e => ∃ es j, e = .lst (es ++ List.replicate j (.str "more")) ∧ j ≤ k ∧ Exts hs k ds es
  | .tup ds, e => ∃ es, e = .tup es ∧ Exts hs k ds es
  | .raw _, e => e = .lst (iD hs)
  | d, e => e = d
def Exts (hs : List Int) (k : Nat) : List D → List D → Prop
  | [], es => es = []
  | d :: ds, es => ∃ e r, es = e :: r ∧ Ext hs k d e ∧ Exts hs k ds r
end
theorem rps_app {K : PySem.W.Frag} {Av : Addr → Prop} {H : Hp} {ds es : List D} {vs us : List L2.V} (h : Rps K Av H ds vs) (g : Rps K Av H es us) : Rps K Av H (ds ++ es) (vs ++ us) := h.append g
theorem rps_more {K : PySem.W.Frag} {Av : Addr → Prop} {H : Hp} : ∀ j : Nat, Rps K Av H (List.replicate j (.str "more")) (List.replicate j (.str "more"))
  | 0 => rfl
  | j + 1 => ⟨.str "more", List.replicate j (.str "more"), rfl, rfl, rps_more j⟩
section
variable {K : PySem.W.Frag} {F : Addr → Prop} {h0 : Addr} {hs : List Int} {H : Hp} {k : Nat}
mutual
theorem Rw.ext : ∀ {d : D} {v : L2.V}, Rw F h0 hs H k d v → ∃ e, Ext hs k d e ∧ Rp K (fun _ => False) H e v
  | .non, v, h => ⟨.non, rfl, h⟩
  | .bl b, v, h => ⟨.bl b, rfl, h⟩
  | .int i, v, h => ⟨.int i, rfl, h⟩
  | .str x, v, h => ⟨.str x, rfl, h⟩
  | .tup ds, v, h => by
    obtain ⟨a, vs, e, h1, h2⟩ := h
    obtain ⟨es, x1, x2⟩ := Rws.ext h2
    exact ⟨.tup es, ⟨es, rfl, x1⟩, a, vs, e, id, h1, x2⟩
  | .lst ds, v, h => by
    obtain ⟨a, vs, j, e, f, hj, h1, h2⟩ := h
    obtain ⟨es, x1, x2⟩ := Rws.ext h2
    exact ⟨.lst (es ++ List.replicate j (.str "more")), ⟨es, j, rfl, hj, x1⟩, a, _, e, id, h1, rps_app x2 (rps_more j)⟩
  | .lkK ks ds, v, h => by
    obtain ⟨e1, e2, a, o, e, h1⟩ := h
    subst e1 e2
    exact ⟨.lkK [] [], rfl, a, o, [], e, id, h1, rfl, rfl⟩
  | .raw u, v, h => by
    obtain ⟨e1, e2, nf, h1⟩ := h
    exact ⟨.lst (iD hs), rfl, h0, _, e2, id, h1, Rps.of_ints hs⟩
  | .ktup _, _, h => h.elim
  | .slst _, _, h => h.elim
  | .obj _ _ _, _, h => h.elim
  | .own _ _, _, h => h.elim
  | .new _, _, h => h.elim
  | .pur _, _, h => h.elim
  | .ownK _ _ _, _, h => h.elim
  | .newK, _, h => h.elim
  | .ownT _ _ _, _, h => h.elim
  | .newT, _, h => h.elim
  | .ins _ _ _ _ _, _, h => h.elim
  | .exc _ _, _, h => h.elim
  | .dik _ _ _ _, _, h => h.elim
  | .lkT _ _, _, h => h.elim
  | .ownN _ _ _ _, _, h => h.elim
  | .newN _ _, _, h => h.elim
  | .newP _ _, _, h => h.elim
  | .newD _ _, _, h => h.elim
theorem Rws.ext : ∀ {ds : List D} {vs : List L2.V}, Rws F h0 hs H k ds vs → ∃ es, Exts hs k ds es ∧ Rps K (fun _ => False) H es vs
  | [], vs, h => ⟨[], rfl, h⟩
  | d :: ds, vs, h => by
    obtain ⟨v, r, rfl, h1, h2⟩ := h
    obtain ⟨e, x1, x2⟩ := Rw.ext h1
    obtain ⟨es, y1, y2⟩ := Rws.ext h2
    exact ⟨e :: es, ⟨e, es, rfl, x1, y1⟩, v, r, rfl, x2, y2⟩
end
end
/-! ### rows as they come out of the call -/
mutual
def okR (h0 : Addr) : D → Bool
  | .non => true | .bl _ => true | .int _ => true | .str _ => true
  | .tup ds => okRs h0 ds | .lst ds => okRs h0 ds
  | .lkK ks ds => ks.isEmpty && ds.isEmpty
  | .raw u => decide (u = .ref h0)
  | _ => false
def okRs (h0 : Addr) : List D → Bool
  | [] => true
  | d :: ds => okR h0 d && okRs h0 ds
end
section
variable {K : PySem.W.Frag} {M F : Addr → Prop} {h0 : Addr} {hs : List Int} {H H' : Hp}
mutual
theorem Rw.of (nf : ¬ F h0) (e0 : H' h0 = some (.lst (hs.map L2.V.int))) (g : ∀ a o, a ≠ h0 → H a = some o → H' a = some o) (hf : ∃ o u, H h0 = some (.frz o (.lst u))) (fr : ∀ a us, ¬ M a → H a = some (.lst us) → F a) : ∀ {d : D} {v : L2.V}, okR h0 d = true → Rp K M H d v → Rw F h0 hs H' 0 d v
  | .non, _, _, h => h
  | .bl _, _, _, h => h
  | .int _, _, _, h => h
  | .str _, _, _, h => h
  | .tup ds, v, ok, h => by
    obtain ⟨a, vs, e, n, h1, h2⟩ := h
    obtain ⟨o, u, e9⟩ := hf
    exact ⟨a, vs, e, g a _ (fun z => by rw [z, e9] at h1; cases h1) h1, Rws.of nf e0 g ⟨o, u, e9⟩ fr (by simpa [okR] using ok) h2⟩
  | .lst ds, v, ok, h => by
    obtain ⟨a, vs, e, n, h1, h2⟩ := h
    obtain ⟨o, u, e9⟩ := hf
    exact ⟨a, vs, 0, e, fr a vs n h1, Nat.le_refl _, by rw [List.replicate_zero, List.append_nil]; exact g a _ (fun z => by rw [z, e9] at h1; cases h1) h1, Rws.of nf e0 g ⟨o, u, e9⟩ fr (by simpa [okR] using ok) h2⟩
  | .lkK ks ds, v, ok, h => by
    obtain ⟨a, o, kvs, e, n, h1, h2, h3⟩ := h
    obtain ⟨o9, u9, e9⟩ := hf
    have ok : ks = [] ∧ ds = [] := by simpa [okR] using ok
    obtain ⟨rfl, rfl⟩ := ok
    have : kvs = [] := List.map_eq_nil_iff.mp h2
    subst this
    exact ⟨rfl, rfl, a, o, e, g a _ (fun z => by rw [z, e9] at h1; cases h1) h1⟩
  | .raw u, v, ok, h => by
    have h : v = u := h
    have ok : u = .ref h0 := by simpa [okR] using ok
    exact ⟨ok, h.trans ok, nf, e0⟩
  | .ktup _, _, ok, _ => by simp [okR] at ok
  | .slst _, _, ok, _ => by simp [okR] at ok
  | .obj _ _ _, _, ok, _ => by simp [okR] at ok
  | .own _ _, _, ok, _ => by simp [okR] at ok
  | .new _, _, ok, _ => by simp [okR] at ok
  | .pur _, _, ok, _ => by simp [okR] at ok
  | .ownK _ _ _, _, ok, _ => by simp [okR] at ok
  | .newK, _, ok, _ => by simp [okR] at ok
  | .ownT _ _ _, _, ok, _ => by simp [okR] at ok
  | .newT, _, ok, _ => by simp [okR] at ok
  | .ins _ _ _ _ _, _, ok, _ => by simp [okR] at ok
  | .exc _ _, _, ok, _ => by simp [okR] at ok
  | .dik _ _ _ _, _, ok, _ => by simp [okR] at ok
  | .lkT _ _, _, ok, _ => by simp [okR] at ok
  | .ownN _ _ _ _, _, ok, _ => by simp [okR] at ok
  | .newN _ _, _, ok, _ => by simp [okR] at ok
  | .newP _ _, _, ok, _ => by simp [okR] at ok
  | .newD _ _, _, ok, _ => by simp [okR] at ok
theorem Rws.of (nf : ¬ F h0) (e0 : H' h0 = some (.lst (hs.map L2.V.int))) (g : ∀ a o, a ≠ h0 → H a = some o → H' a = some o) (hf : ∃ o u, H h0 = some (.frz o (.lst u))) (fr : ∀ a us, ¬ M a → H a = some (.lst us) → F a) : ∀ {ds : List D} {vs : List L2.V}, okRs h0 ds = true → Rps K M H ds vs → Rws F h0 hs H' 0 ds vs
  | [], _, _, h => h
  | d :: ds, _, ok, h => by
    obtain ⟨v, r, e, h1, h2⟩ := h
    have ok : okR h0 d = true ∧ okRs h0 ds = true := by simpa [okRs] using ok
    exact ⟨v, r, e, Rw.of nf e0 g hf fr ok.1 h1, Rws.of nf e0 g hf fr ok.2 h2⟩
end
end
/-- a row that _law_refused takes, however often a list of it has grown -/
def dfD (d : D) : Prop := (isPy d = true ∧ (toPy d).showable = true ∧ (toPy d).hasDict = false) ∨ d = .lkK [] []
def toPyX : D → PyData
  | .lkK _ _ => .dict []
  | d => toPy d
theorem dfD.df {K : PySem.W.Frag} {Av : Addr → Prop} {H : Hp} {d : D} {v : L2.V} (h : dfD d) (r : Rp K Av H d v) : Df K H v (toPyX d) := by
  rcases h with ⟨h1, h2, h3⟩ | rfl
  · have e : toPyX d = toPy d := by
      cases d <;> first | rfl | (simp [isPy] at h1)
    rw [e]
    exact .py (Rp.dp r h1) h2 h3
  · obtain ⟨a, o, kvs, rfl, _, hp, ek, _⟩ := r
    have : kvs = [] := List.map_eq_nil_iff.mp ek
    subst this
    exact .dk hp
structure RowE (b k m l : D) : Prop where
  un : Unfit b k m l
  db : dfD b
  dk : dfD k
  dm : dfD m
  dl : dfD l
  sh : Sh [toPyX b, toPyX k, toPyX m, toPyX l]
  ls : isTyX "list" m = some false ∨ ∃ ys, m = .lst ys ∧ ys.length < 1000
def RowG (hs : List Int) (d : D) : Prop := ∃ b0 k0 m0 l0 : D, d = .tup [b0, k0, m0, l0] ∧ (∀ u, m0 ≠ .raw u) ∧ ∀ b k m l, Ext hs 60 b0 b → Ext hs 60 k0 k → Ext hs 60 m0 m → Ext hs 60 l0 l → RowE b k m l
end Ax

/-! Ly02: the comprehension over the rows that are refused. -/
namespace Ax
open PySem PySem.Spec PyProof.Rows L2 DL
/-- one row at one turn: what _law_refused asks -/
theorem row_call {K : PySem.W.Frag} {F : Addr → Prop} {h0 : Addr} {hs : List Int} {H : Hp} {i : Nat} {vb vk vm vl : L2.V} {b0 k0 m0 l0 : D} {Q : VK} {E : XK} (hi : i + 1 ≤ 60)
    (nr : ∀ u, m0 ≠ .raw u) (G : ∀ b k m l, Ext hs 60 b0 b → Ext hs 60 k0 k → Ext hs 60 m0 m → Ext hs 60 l0 l → RowE b k m l)
    (rb : Rw F h0 hs H i b0 vb) (rk : Rw F h0 hs H i k0 vk) (rm : Rw F h0 hs H i m0 vm) (rl : Rw F h0 hs H i l0 vl)
    (q1 : ∀ H2, Same H H2 → Q (.bl true) H2)
    (q2 : ∀ (q : Addr) (us : List L2.V) (H2 : Hp), F q → H q = some (.lst us) → Kp (some q) H H2 → H2 q = some (.lst (us ++ [.str "more"])) → Q (.bl true) H2) : spRf K [vb, vk, vm, vl] H Q E := by
  have up : ∀ {d v}, Rw F h0 hs H i d v → Rw F h0 hs H 60 d v := fun {d v} h => h.go (by omega) (fun _ _ _ e => e) (fun _ _ e => e) (fun _ _ e => e) fun _ _ _ e => .inl e
  obtain ⟨b, xb, pb⟩ := (up rb).ext (K := K)
  obtain ⟨k, xk, pk⟩ := (up rk).ext (K := K)
  obtain ⟨m, xm, pm⟩ := (up rm).ext (K := K)
  obtain ⟨l, xl, pl⟩ := (up rl).ext (K := K)
  have R := G b k m l xb xk xm xl
  refine ⟨b, k, m, l, [toPyX b, toPyX k, toPyX m, toPyX l], ⟨vb, _, rfl, pb, vk, _, rfl, pk, vm, _, rfl, pm, vl, _, rfl, pl, rfl⟩, R.un, .cons (R.db.df pb) (.cons (R.dk.df pk) (.cons (R.dm.df pm) (.cons (R.dl.df pl) .nil))), R.sh, ?_⟩
  rcases R.ls with e | ⟨ys, rfl, hl⟩
  · exact .inl ⟨e, q1⟩
  · -- the third field is a list
    have hm0 : ∃ ds, m0 = .lst ds := by
      cases m0 with
      | lst ds => exact ⟨ds, rfl⟩
      | raw u => exact absurd rfl (nr u)
      | tup ds => obtain ⟨es, e, _⟩ := xm; cases e
      | _ => exact absurd (show D.lst ys = _ from xm) (fun z => nomatch z)
    obtain ⟨ds, rfl⟩ := hm0
    obtain ⟨q, vs, j, rfl, fq, hj, hq, rq⟩ := id rm
    obtain ⟨q', us, e, _, hq', ru⟩ := pm
    cases e
    have eu : vs ++ List.replicate j (.str "more") = us := by
      rw [hq] at hq'; injection hq' with z; injection z
    refine .inr ⟨ys, q, us, rfl, rfl, hq', by rw [← ru.length]; exact hl, fun H2 kp h2 => ?_⟩
    have go : ∀ {d v}, Rw F h0 hs H i d v → Rw F h0 hs H2 60 d v := fun {d v} h => h.go (by omega) (fun a o nf e => kp a o (fun z => nf (by rw [← Option.some.inj z]; exact fq)) e) (fun a vs e => kp a _ (fun z => by rw [← Option.some.inj z, hq'] at e; cases e) e)
      (fun a o e => kp a _ (fun z => by rw [← Option.some.inj z, hq'] at e; cases e) e) fun a us' _ e => by
        by_cases ha : a = q
        · subst ha
          rw [hq'] at e
          cases e
          exact .inr ⟨hi, h2⟩
        · exact .inl (kp a _ (fun z => ha (Option.some.inj z).symm) e)
    obtain ⟨b2, yb, sb⟩ := (go rb).ext (K := K)
    obtain ⟨k2, yk, sk⟩ := (go rk).ext (K := K)
    obtain ⟨m2, ym, sm⟩ := (go rm).ext (K := K)
    obtain ⟨l2, yl, sl⟩ := (go rl).ext (K := K)
    have R2 := G b2 k2 m2 l2 yb yk ym yl
    exact ⟨⟨_, .cons (R2.db.df sb) (.cons (R2.dk.df sk) (.cons (R2.dm.df sm) (.cons (R2.dl.df sl) .nil))), R2.sh⟩, q2 q us H2 fq hq' kp h2⟩
section
variable {X : Cx} {h0 : Addr} {hs : List Int} {F : Addr → Prop} {i1 io : Nat} {q1 q2 q3 q4 q5 q6 q7 q8 q9 qa qb qc qd qe qf qg qh q0 ql : Pos} {j0 j1 j2 j3 : Nat} {scope : Scope}
abbrev oddElt (q1 : Pos) : Expr := .Name "_law_one" q1
abbrev oddLc (q1 q2 q3 q4 q5 q6 q7 q8 q9 qa qb qc qd qe qf qg qh q0 ql : Pos) (j0 j1 j2 j3 : Nat) (scope : Scope) : Expr :=
  .ListComp (.Name "_law_one" q1) [⟨.Name "_law_one" q2, .Name "_law_odd_here" q3, [.UnaryOp .Not (.Call (.Name "_law_refused" q4)
    [.Subscript (.Name "_law_one" q5) (.Constant (.int 0) j0 q6) q7, .Subscript (.Name "_law_one" q8) (.Constant (.int 1) j1 q9) qa, .Subscript (.Name "_law_one" qb) (.Constant (.int 2) j2 qc) qd, .Subscript (.Name "_law_one" qe) (.Constant (.int 3) j3 qf) qg] [] qh) q0], 0⟩] scope ql
def tRf (K : PySem.W.Frag) (i1 : Nat) : TT := tNot (tB fun σ H Q => tCons (tOp (rIxT K) (tVar i1) (tC (.int 0))) (tCons (tOp (rIxT K) (tVar i1) (tC (.int 1))) (tCons (tOp (rIxT K) (tVar i1) (tC (.int 2))) (tCons (tOp (rIxT K) (tVar i1) (tC (.int 3))) tNil))) σ H fun us H1 => spRf K us H1 Q (fun _ _ _ => False))
/-- the comprehension: nothing is left over -/
theorem pe_odd (hc : X.calm = true) (nd : X.N.Nodup) (ok : BlkOk X.N X.env.scope scope [("_law_one", i1)]) (he1 : X.N[i1]? = some ("_law_one" : Str)) (heo : X.N[io]? = some ("_law_odd_here" : Str)) (vo : Vis X.env.scope "_law_odd_here")
    (G : GFn X.prog X.w X.K X.mg X.base "_law_refused" ["_law_base", "_law_kind", "_law_mantissas", "_law_most"] 7 (spRf X.K)) (hgd : X.A.guards = some []) (hr : Room 7 X.A)
    (hgl : ∀ (s : Shared) (H : Hp) (C : Addr) (cl : List (Str × Addr)) (fp : List Addr), Gl (X.blk s H scope (compEnvC scope cl C X.env) fp) "_law_refused")
    (hl1 : ∀ (s : Shared) (H : Hp) (C : Addr) (cl : List (Str × Addr)) (fp : List Addr), (X.blk s H scope (compEnvC scope cl C X.env) fp).env.scope.names.lookup ("_law_one" : Str) = some .local)
    {σ : L2.St} {H : Hp} {Q : VK} {p : Addr} {vs : List L2.V} {rows : List D} (hlen : i1 < σ.length) (hne : i1 ≠ io) (eo : σ[io]? = some (some (.ref p))) (ep : H p = some (.lst vs)) (hR : Rws F h0 hs H 0 rows vs) (hrow : ∀ d ∈ rows, RowG hs d) (hn : rows.length ≤ 59)
    (fs : ∀ a, F a → ∃ o, H a = some o) (np : ¬ F p)
    (k : ∀ (l : Addr) (H' : Hp), H l = none → H' l = some (.lst []) → (∀ a o, ¬ F a → H a = some o → H' a = some o) → Q (.ref l) H') : DL.wE X (oddLc q1 q2 q3 q4 q5 q6 q7 q8 q9 qa qb qc qd qe qf qg qh q0 ql j0 j1 j2 j3 scope) σ H Q := by
  obtain ⟨f, fd, hm, hk, hb, G⟩ := G.ex
  refine pe_to (pe_lc (g := gName i1) (te := tVar i1) (tt := tRf X.K i1) hc nd (pi_list (pe_var heo vo)) ok (fun s H C cl fp => ?_) (fun s H C cl fp => ?_) (fun s H C cl fp => ?_)) ?_
  · exact pg_name nd he1 (.inl (hl1 s H C cl fp)) (.inr (hl1 s H C cl fp))
  · have v1 : ∀ {q : Pos}, PE (X.blk s H scope (compEnvC scope cl C X.env) fp) (.Name "_law_one" q) (tVar i1) := fun {q} => pe_var he1 (.inl (hl1 s H C cl fp))
    exact pts_one (pt_not (pt_val (goCall G hgd hr (hgl s H C cl fp) hm hk hb pass0 (pa_cons (pe_ix ix_tup v1 pe_int (fun _ _ => rfl)) (pa_cons (pe_ix ix_tup v1 pe_int (fun _ _ => rfl)) (pa_cons (pe_ix ix_tup v1 pe_int (fun _ _ => rfl)) (pa_cons (pe_ix ix_tup v1 pe_int (fun _ _ => rfl)) pa_nil rfl) rfl) rfl) rfl) (by decide) rfl rfl) (by intro _; rfl)))
  · exact pe_var he1 (.inl (hl1 s H C cl fp))
  · refine ⟨.ref p, eo, p, rfl, ⟨vs, .of ep⟩, fun D hD => ?_⟩
    have nFD : ¬ F D := fun z => by obtain ⟨o, e⟩ := fs D z; rw [hD] at e; cases e
    have npD : p ≠ D := fun z => by rw [z, hD] at ep; cases ep
    have hl := hR.length
    refine lc_list (xs := vs) (fun i H' => H' D = some (.lst []) ∧ H' p = some (.lst vs) ∧ (∀ a o, ¬ F a → H a = some o → H' a = some o) ∧ Rws F h0 hs H' i rows vs) ?_ (fun i H' _ z => .of z.2.1) ?_ ?_
    · have sm : Same H (upd H D (.lst [])) := same_new hD
      exact ⟨upd_same, sm _ _ ep, fun a o _ e => sm a o e, hR.go (Nat.le_refl _) (fun a o _ e => sm a o e) (fun a vs e => sm a _ e) (fun a o e => sm a _ e) fun a us _ e => .inl (sm a _ e)⟩
    · rintro i x H' hx ⟨z1, z2, z3, z4⟩
      have hi : i < vs.length := (List.getElem?_eq_some_iff.mp hx).1
      obtain ⟨d, ed, rd⟩ := z4.get hx
      obtain ⟨b0, k0, m0, l0, rfl, nr, RG⟩ := hrow d (List.mem_of_getElem? ed)
      obtain ⟨a, us, rfl, ha, ru⟩ := id rd
      obtain ⟨vb, u1, rfl, rb, vk, u2, rfl, rk, vm, u3, rfl, rm, vl, u4, rfl, rl, e4⟩ := ru
      obtain rfl : u4 = [] := e4
      have s1 : ((wipe σ [i1]).set i1 (some (.ref a)))[i1]? = some (some (.ref a)) := by
        rw [List.getElem?_set_self]
        rw [wipe_length]; exact hlen
      show wipe ((wipe σ [i1]).set i1 (some (.ref a))) [i1] = wipe σ [i1] ∧ _
      refine ⟨by show ((σ.set i1 none).set i1 (some (.ref a))).set i1 none = σ.set i1 none; rw [List.set_set, List.set_set], ?_⟩
      have T : SqT X.K H' a [vb, vk, vm, vl] := .of ha
      show tRf X.K i1 _ _ _
      refine ⟨.ref a, s1, a, _, 0, vb, rfl, rfl, T, rfl, ?_⟩
      refine ⟨.ref a, s1, a, _, 1, vk, rfl, rfl, T, rfl, ?_⟩
      refine ⟨.ref a, s1, a, _, 2, vm, rfl, rfl, T, rfl, ?_⟩
      refine ⟨.ref a, s1, a, _, 3, vl, rfl, rfl, T, rfl, ?_⟩
      dsimp only [tNil]
      refine row_call (by omega) nr RG rb rk rm rl (fun H2 sm => ?_) fun q us2 H2 fq hq kp h2 => ?_
      · refine ⟨true, rfl, iteF ?_⟩
        exact ⟨sm _ _ z1, sm _ _ z2, fun a o nf e => sm _ _ (z3 a o nf e), z4.go (by omega) (fun a o _ e => sm a o e) (fun a vs e => sm a _ e) (fun a o e => sm a _ e) fun a us _ e => .inl (sm a _ e)⟩
      · refine ⟨true, rfl, iteF ?_⟩
        have nq : ∀ {a o}, ¬ F a → H' a = some o → H2 a = some o := fun {a o} nf e => kp a o (fun z => nf (by rw [← Option.some.inj z]; exact fq)) e
        refine ⟨nq nFD z1, nq np z2, fun a o nf e => nq nf (z3 a o nf e), z4.go (by omega) (fun a o nf e => nq nf e) (fun a vs e => kp a _ (fun z => by rw [← Option.some.inj z, hq] at e; cases e) e) (fun a o e => kp a _ (fun z => by rw [← Option.some.inj z, hq] at e; cases e) e) fun a us' _ e => ?_⟩
        by_cases hz : a = q
        · subst hz
          rw [hq] at e
          cases e
          exact .inr ⟨Nat.le_refl _, h2⟩
        · exact .inl (kp a _ (fun z => hz (Option.some.inj z).symm) e)
    · rintro H' ⟨z1, z2, z3, z4⟩
      exact k D H' hD z1 z3
end
end Ax

/-! Lz02: the list of odd fields made and gone through, as one rule. -/
namespace Ax
open PySem PySem.Spec PyProof.Rows L2 DL
theorem wb_odd {c : DL.Ctx} {δ : DL.DE} {m : Nat} {D' : DL.DEnds} {rest thn : List Stmt} {ip ib ik id im io i1 : Nat} {p : Addr} {b lim z : Int} {way : Str} {t : List Int} {d0 d1 d3 : D} {scope : Scope}
    {a1 a2 a3 a4 a5 a6 a7 a8 a9 aa ab b1 b2 b3 q1 q2 q3 q4 q5 q6 q7 q8 q9 qa qb qc qd qe qf qg qh q0 ql : Pos} {jj j0 j1 j2 j3 : Nat}
    (O : Fn c.X.prog c.X.w c.X.K c.X.mg c.X.base "_law_odd" ["_law_purse_here", "_law_base", "_law_kind", "_law_heads", "_law_most"] 3 (spPL c.X.K sp__law_odd02))
    (G : GFn c.X.prog c.X.w c.X.K c.X.mg c.X.base "_law_refused" ["_law_base", "_law_kind", "_law_mantissas", "_law_most"] 7 (spRf c.X.K)) (hgd : c.X.A.guards = some []) (hr : Room 7 c.X.A) (hu : c.X.A.units + 64 < cLine)
    (hc : c.X.calm = true) (nd : c.X.N.Nodup) (ok : BlkOk c.X.N c.X.env.scope scope [("_law_one", i1)]) (he1 : c.X.N[i1]? = some ("_law_one" : Str)) (heo : c.X.N[io]? = some ("_law_odd_here" : Str)) (lo : c.X.env.scope.names.lookup ("_law_odd_here" : Str) = some .local)
    (hgl : ∀ (s : Shared) (H : Hp) (C : Addr) (cl : List (Str × Addr)) (fp : List Addr), Gl (c.X.blk s H scope (compEnvC scope cl C c.X.env) fp) "_law_refused")
    (hl1 : ∀ (s : Shared) (H : Hp) (C : Addr) (cl : List (Str × Addr)) (fp : List Addr), (c.X.blk s H scope (compEnvC scope cl C c.X.env) fp).env.scope.names.lookup ("_law_one" : Str) = some .local)
    (hgO : Gl c.X "_law_odd") (np : c.X.N[ip]? = some ("_law_purse_here" : Str)) (vp : Vis c.X.env.scope "_law_purse_here") (nb : c.X.N[ib]? = some ("_law_base" : Str)) (vb : Vis c.X.env.scope "_law_base") (nk : c.X.N[ik]? = some ("_law_kind" : Str)) (vk : Vis c.X.env.scope "_law_kind")
    (nd2 : c.X.N[id]? = some ("_law_due" : Str)) (vd : Vis c.X.env.scope "_law_due") (nm : c.X.N[im]? = some ("_law_most" : Str)) (vm : Vis c.X.env.scope "_law_most")
    (hp : δ[ip]? = some (some (.pur p))) (hb : δ[ib]? = some (some (.int b))) (hk : δ[ik]? = some (some (.str way))) (hd : δ[id]? = some (some (.tup [d0, d1, .lst (iD (z :: t)), d3]))) (hm : δ[im]? = some (some (.int lim))) (ho : δ[io]? = some none) (h1 : i1 < δ.length) (hne : i1 ≠ io)
    (b2' : 2 ≤ b) (b16 : b ≤ 16) (tl : t.length ≤ 15) (rg : ∀ h0 r, 0 ≤ r → r < 9 → okRs h0 (rows02 b way h0 z (z :: t) lim r) = true ∧ ∀ d ∈ rows02 b way h0 z (z :: t) lim r, RowG (z :: t) d)
    (h : WB c rest δ m D') :
    WB c (.Assign [.Name "_law_odd_here" a1] (.Call (.Name "_law_odd" a2) [.Name "_law_purse_here" a3, .Name "_law_base" a4, .Name "_law_kind" a5, .Subscript (.Name "_law_due" a6) (.Constant (.int 2) jj a7) a8, .Name "_law_most" a9] [] aa) ab ::
      .If (.Compare (oddLc q1 q2 q3 q4 q5 q6 q7 q8 q9 qa qb qc qd qe qf qg qh q0 ql j0 j1 j2 j3 scope) [.NotEq] [.List [] b1] b2) thn [] b3 :: rest) δ (m + 1) D' := ⟨fun bs σ H DD S B E => by
  obtain ⟨f, fd, hmO, hkO, hbO, FO⟩ := O.ex
  obtain ⟨e0, hpu⟩ := S.sl ip _ hp
  obtain ⟨_, eb, rfl⟩ := S.sl ib _ hb
  obtain ⟨_, ek, rfl⟩ := S.sl ik _ hk
  obtain ⟨_, em, rfl⟩ := S.sl im _ hm
  obtain ⟨_, ed, ad, us, rfl, _, hd', ru⟩ := S.sl id _ hd
  obtain ⟨u0, w0, rfl, _, u1, w1, rfl, _, u2, w2, rfl, ⟨h0, xs, rfl, nAv, hh0, rx⟩, u3, w3, rfl, _, e4⟩ := ru
  obtain rfl : w3 = [] := e4
  have rx := rx.ints
  subst rx
  have hl0 : io < σ.length := by rw [← S.len]; exact (List.getElem?_eq_some_iff.mp ho).1
  have hl1' : i1 < σ.length := by rw [← S.len]; exact h1
  have hph : p ≠ h0 := fun z => nAv (by rw [← z]; exact .inr (.inl hpu))
  have hah : ad ≠ h0 := fun z => by rw [z, hh0] at hd'; cases hd'
  obtain ⟨pa, nMp⟩ := S.pur p hpu
  have hps : ∃ o, H p = some o := by obtain ⟨x, y, w, h0, _⟩ := pa; exact ⟨_, h0⟩
  refine pb_to (pss_cons (ps_asg (pe_lock (pe_call FO (hr.mono (by decide)) hgO hmO hkO hbO .nil (E := fun _ _ _ => False) pass0 (pa_cons (pe_var np vp) (pa_cons (pe_var nb vb) (pa_cons (pe_var nk vk) (pa_cons (pe_ix ix_tup (pe_var nd2 vd) pe_int (fun _ _ => rfl)) (pa_cons (pe_var nm vm) pa_nil rfl) rfl) rfl) rfl) rfl))) (pg_name nd heo (.inl lo) (.inr lo)))
    (pss_cons (ps_if (pt_cmpR (op_neD hu) pe_w (pe_lst pa_nil) (nomark _)) pb_w pss_nil) pb_w)) ?_
  refine ⟨h0, .lst ((z :: t).map V.int), hh0, trivial, fun od => ?_⟩
  generalize hH1 : upd H h0 (.frz od (.lst ((z :: t).map V.int))) = H1
  have e1 : H1 h0 = some (.frz od (.lst ((z :: t).map V.int))) := by rw [← hH1]; exact upd_same
  have n1 : ∀ a, a ≠ h0 → H1 a = H a := fun a ne => by rw [← hH1]; exact upd_ne ne
  have pa1 : PurseAt H1 p (m + 1) := by
    obtain ⟨x, y, w, h9, h10⟩ := pa
    exact ⟨x, y, w, (n1 p hph).trans h9, h10⟩
  refine ⟨.ref p, e0, .int b, eb, .str way, ek, .ref ad, ed, ad, _, 2, .ref h0, rfl, rfl, .of ((n1 ad hah).trans hd'), rfl, .int lim, em, ?_⟩
  refine ⟨p, m + 1, [.int b, .str way, .raw (.ref h0), .int lim], _, fun d m' => ∃ r, 0 ≤ r ∧ r < 9 ∧ d = .new (rows02 b way h0 z (z :: t) lim r) ∧ m' = m, rfl, pa1, ⟨_, _, rfl, rfl, _, _, rfl, rfl, _, _, rfl, rfl, _, _, rfl, rfl, rfl⟩, ⟨b, way, h0, z, t, lim, m, rfl, ⟨b2', b16⟩, tl, ⟨od, e1⟩, rfl, fun r r0 r9 => ⟨r, r0, r9, rfl, rfl⟩⟩, ?_⟩
  rintro _ m2 v H2 ⟨r, r0, r9, rfl, em2⟩ k2 pa2 rv
  rw [em2] at pa2
  rcases rv with ⟨z, _⟩ | ⟨ds, pl, vs, z, rfl, fr, nav, hpl, rps⟩ | ⟨ks, ds, p', ps, z, _⟩ | ⟨d1, ds, a, p', w, vs, z, _⟩
  · cases z
  rotate_left
  · cases z
  · cases z
  cases z
  have e2 : H2 h0 = some (.frz od (.lst ((z :: t).map V.int))) := k2 h0 _ (fun z => hph (Option.some.inj z)) e1
  refine ⟨e2, ?_⟩
  have e3 : upd H2 h0 (.lst ((z :: t).map V.int)) h0 = some (.lst ((z :: t).map V.int)) := upd_same
  have n3 : ∀ a, a ≠ h0 → upd H2 h0 (.lst ((z :: t).map V.int)) a = H2 a := fun a ne => upd_ne ne
  generalize hH3 : upd H2 h0 (.lst ((z :: t).map V.int)) = H3 at e3 n3
  obtain ⟨okr, good⟩ := rg h0 r r0 r9
  have plh : pl ≠ h0 := fun z => by rw [z, e1] at fr; cases fr
  have hpl0 : H pl = none := by rw [← n1 pl plh]; exact fr
  have plp : p ≠ pl := fun z => by obtain ⟨o, e⟩ := hps; rw [z, hpl0] at e; cases e
  -- what stands behind the call
  have k13 : ∀ a o, a ≠ p → H a = some o → H3 a = some o := fun a o ne e => by
    by_cases ha : a = h0
    · subst ha
      rw [hh0] at e
      rw [e3]; exact e
    · rw [n3 a ha]
      exact k2 a o (fun z => ne (Option.some.inj z).symm) ((n1 a ha).trans e)
  have fsm : ∀ a, (H a = none ∧ (∃ o, H2 a = some o) ∧ a ≠ pl) → ∃ o, H3 a = some o := fun a z => by
    obtain ⟨z1, ⟨o, z2⟩, _⟩ := z
    exact ⟨o, by rw [n3 a (fun y => by rw [y, hh0] at z1; cases z1)]; exact z2⟩
  have rws : Rws (fun a => H a = none ∧ (∃ o, H2 a = some o) ∧ a ≠ pl) h0 (z :: t) H3 0 (rows02 b way h0 z (z :: t) lim r) vs := by
    refine Rws.of (M := fun a => (Mls H1 p a ∨ a = p) ∨ a = pl) (H := H2) (fun z => ?_) e3 (fun a o ne e => (n3 a ne).trans e) ⟨od, _, e2⟩ (fun a us nM e => ?_) okr rps
    · have := z.1
      rw [hh0] at this; cases this
    · refine ⟨?_, ⟨_, e⟩, fun z => nM (.inr z)⟩
      cases hz : H a with
      | none => rfl
      | some o =>
        exfalso
        have ha : a ≠ h0 := fun z => by rw [z, e2] at e; cases e
        have ea : H1 a = some o := (n1 a ha).trans hz
        have ep : a ≠ p := fun z => nM (.inl (.inr z))
        have := k2 a o (fun z => ep (Option.some.inj z).symm) ea
        rw [e] at this
        cases this
        exact nM (.inl (.inl ⟨⟨us, ea⟩, ep⟩))
  have hlen : (rows02 b way h0 z (z :: t) lim r).length ≤ 59 := by
    unfold rows02 O1 O2 W02 O4
    simp
  refine pe_odd (F := fun a => H a = none ∧ (∃ o, H2 a = some o) ∧ a ≠ pl) (rows := rows02 b way h0 z (z :: t) lim r) (vs := vs) (p := pl) (h0 := h0) (hs := z :: t) hc nd ok he1 heo (.inl lo) G hgd hr hgl hl1 (by rw [List.length_set]; exact hl1') hne (List.getElem?_set_self hl0) ((n3 pl plh).trans hpl) rws good hlen fsm (fun z => z.2.2 rfl) (fun l H4 hl0' hl4 kp4 => ?_)
  refine ⟨Nat.zero_le _, fun l2 hl2 => ?_⟩
  have g5 : Same H4 (upd H4 l2 (.lst [])) := same_new hl2
  refine ⟨.list [], .list [], .lst (.of (g5 _ _ hl4)) .nil, .lst (.of upd_same) .nil, rfl, rfl, ?_⟩
  refine ⟨_, rfl, iteF ?_⟩
  generalize upd H4 l2 (.lst []) = H5 at g5
  have k5 : Kp c.pu H H5 := fun a o ne e => g5 _ _ (kp4 a o (fun z => by have := z.1; rw [e] at this; cases this) (k13 a o (fun z => ne (by rw [hpu, z])) e))
  have pa5 : PurseAt H5 p m := by
    obtain ⟨x, y, w, h9, h10⟩ := pa2
    refine ⟨x, y, w, g5 _ _ (kp4 p _ (fun z => ?_) ((n3 p hph).trans h9)), h10⟩
    obtain ⟨o, e⟩ := hps
    have := z.1
    rw [e] at this; cases this
  have es : δ.set io none = δ := by
    refine List.ext_getElem? fun j => ?_
    by_cases e : io = j
    · subst e
      rw [List.getElem?_set_self (List.getElem?_eq_some_iff.mp ho).1, ho]
    · rw [List.getElem?_set_ne e]
  have S5 := (S.kp k5 fun p' e => by rw [hpu] at e; cases e; exact pa5).unset io (some (.ref pl))
  rw [es] at S5
  exact h.run bs _ H5 DD S5 (B.kp k5) E⟩
end Ax

/-! Ma02: every row of odd fields is refused, however often its lists have grown. -/
namespace Ax
open PySem PySem.Spec PyProof.Rows L2 DL
/-- a plain thing of small text -/
def Sc (d : D) : Prop := pureD d = true ∧ (∃ k, isTy "int" d = some k) ∧ isPy d = true ∧ Shw (toPy d) ∧ rcost (toPy d) ≤ 2000 ∧ (toPy d).depth = 0 ∧ (∀ hs k e, Ext hs k d e → e = d)
theorem Sc.int {i : Int} (h : i.natAbs < 2 ^ 1900) : Sc (.int i) := ⟨rfl, ⟨_, rfl⟩, rfl, by simpa only [toPy, Shw] using h, by simp only [toPy, rcost]; omega, rfl, fun _ _ _ h => h⟩
theorem Sc.int' {i : Int} (h : i.natAbs ≤ 2000) : Sc (.int i) := Sc.int (Nat.lt_of_le_of_lt h (by
  have : (2 : Nat) ^ 11 ≤ 2 ^ 1900 := Nat.pow_le_pow_right (by decide) (by decide)
  omega))
theorem Sc.bl (b : Bool) : Sc (.bl b) := ⟨rfl, ⟨_, rfl⟩, rfl, by simp only [toPy, Shw], by simp only [toPy, rcost]; omega, rfl, fun _ _ _ h => h⟩
theorem Sc.non : Sc .non := ⟨rfl, ⟨_, rfl⟩, rfl, by simp only [toPy, Shw], by simp only [toPy, rcost]; omega, rfl, fun _ _ _ h => h⟩
theorem Sc.str {x : Str} (h : (reprText x).length ≤ 2000) : Sc (.str x) := ⟨rfl, ⟨_, rfl⟩, rfl, by simp only [toPy, Shw], by simpa only [toPy, rcost] using h, rfl, fun _ _ _ h => h⟩
/-- a field whose text is small -/
structure FB (d : D) : Prop where
  df : dfD d
  len : (toPyX d).shown.length ≤ 400000
  dep : (toPyX d).depth ≤ 5
theorem toPyX_py {d : D} (h : isPy d = true) : toPyX d = toPy d := by
  cases d <;> first | rfl | (simp [isPy] at h)
theorem FB.of {d : D} (h1 : isPy d = true) (h2 : Shw (toPy d)) (h3 : rcost (toPy d) ≤ 400000) (h4 : (toPy d).depth ≤ 5) : FB d := by
  obtain ⟨a, b, c⟩ := shw_ok _ h2
  exact ⟨.inl ⟨h1, a, b⟩, by rw [toPyX_py h1]; omega, by rw [toPyX_py h1]; exact h4⟩
theorem FB.sc {d : D} (h : Sc d) : FB d := by
  obtain ⟨_, _, h1, h2, h3, h4, _⟩ := h
  exact .of h1 h2 (by omega) (by omega)
theorem FB.dik : FB (.lkK [] []) := ⟨.inr rfl, by simp only [toPyX, PyData.shown]; decide +kernel, by simp only [toPyX, PyData.depth, PyData.depthKv]; decide⟩
theorem sh_of {b k m l : D} (h1 : FB b) (h2 : FB k) (h3 : FB m) (h4 : FB l) : Sh [toPyX b, toPyX k, toPyX m, toPyX l] := by
  refine ⟨?_, ?_⟩
  · have := h1.dep; have := h2.dep; have := h3.dep; have := h4.dep
    simp only [PyData.depthAll]
    omega
  · have := h1.len; have := h2.len; have := h3.len; have := h4.len
    have z := fmt_text (PyData.shownAll [toPyX b, toPyX k, toPyX m, toPyX l])
    simp only [PyData.shown]
    simp only [PyData.shownAll, piled_cons, piled_nil] at z
    rw [sizeLine_eq]
    simp only [PyData.shownAll]
    omega
theorem scs {ds : List D} (h : ∀ d ∈ ds, Sc d) : isPys ds = true ∧ Shws (toPys ds) ∧ rcosts (toPys ds) ≤ 2002 * ds.length ∧ PyData.depthAll (toPys ds) = 0 := by
  induction ds with
  | nil => exact ⟨rfl, by simp only [toPys, Shws], by simp only [toPys, rcosts]; omega, by simp only [toPys, PyData.depthAll]⟩
  | cons d ds ih =>
    obtain ⟨h1, h2, h3, h4⟩ := ih fun x m => h x (List.mem_cons_of_mem _ m)
    obtain ⟨_, _, g1, g2, g3, g4, _⟩ := h d List.mem_cons_self
    refine ⟨by simp only [isPys, g1, h1]; rfl, by simp only [toPys, Shws]; exact ⟨g2, h2⟩, ?_, by simp only [toPys, PyData.depthAll, g4, h4]; rfl⟩
    simp only [toPys, rcosts, List.length_cons]
    omega
theorem FB.lst {ds : List D} (h : ∀ d ∈ ds, Sc d) (hl : ds.length ≤ 150) : FB (.lst ds) := by
  obtain ⟨h1, h2, h3, h4⟩ := scs h
  exact .of (by simpa only [isPy] using h1) (by simpa only [toPy, Shw] using h2) (by simp only [toPy, rcost]; omega) (by simp only [toPy, PyData.depth, h4]; omega)
theorem FB.tup {ds : List D} (h : ∀ d ∈ ds, Sc d) (hl : ds.length ≤ 150) : FB (.tup ds) := by
  obtain ⟨h1, h2, h3, h4⟩ := scs h
  exact .of (by simpa only [isPy] using h1) (by simpa only [toPy, Shw] using h2) (by simp only [toPy, rcost]; omega) (by simp only [toPy, PyData.depth, h4]; omega)
theorem exts_sc {hs : List Int} {k : Nat} : ∀ {ds es : List D}, (∀ d ∈ ds, Sc d) → Exts hs k ds es → es = ds
  | [], _, _, h => h
  | d :: ds, _, g, h => by
    obtain ⟨e, r, rfl, h1, h2⟩ := h
    rw [(g d List.mem_cons_self).2.2.2.2.2.2 _ _ _ h1, exts_sc (fun x m => g x (List.mem_cons_of_mem _ m)) h2]
abbrev mo (j : Nat) : List D := List.replicate j (.str "more")
theorem sc_more : Sc (.str "more") := .str (by decide +kernel)
theorem ext_lst {hs : List Int} {ds : List D} {e : D} (g : ∀ d ∈ ds, Sc d) (hl : ds.length ≤ 50) (h : Ext hs 60 (.lst ds) e) : ∃ j, j ≤ 60 ∧ e = .lst (ds ++ mo j) ∧ FB e := by
  obtain ⟨es, j, rfl, hj, h2⟩ := h
  rw [exts_sc g h2]
  refine ⟨j, hj, rfl, .lst (fun d m => ?_) (by simp; omega)⟩
  rcases List.mem_append.mp m with m | m
  · exact g d m
  · rw [(List.mem_replicate.mp m).2]; exact sc_more
theorem ext_tup {hs : List Int} {ds : List D} {e : D} (g : ∀ d ∈ ds, Sc d) (hl : ds.length ≤ 50) (h : Ext hs 60 (.tup ds) e) : e = .tup ds ∧ FB e := by
  obtain ⟨es, rfl, h2⟩ := h
  rw [exts_sc g h2]
  exact ⟨rfl, .tup g (by omega)⟩
theorem ext_dik {hs : List Int} {k : Nat} {e : D} (h : Ext hs k (.lkK [] []) e) : e = .lkK [] [] ∧ FB e := by
  have : e = .lkK [] [] := h
  subst this
  exact ⟨rfl, .dik⟩
section
variable {b lim z : Int} {way : Str} {t hs : List Int}
theorem IsKind.sc (w : IsKind way) : Sc (.str way) := by
  rcases w with rfl | rfl | rfl <;> exact .str (by decide +kernel)
theorem FOk.heads (R : FOk b way hs lim) : ∀ d ∈ iD hs, Sc d := fun d m => by
  obtain ⟨x, hx, rfl⟩ := List.mem_map.mp m
  have := R.ms.hs x hx
  exact .int' (by omega)
theorem FOk.len' (R : FOk b way hs lim) : (iD hs).length ≤ 16 := by rw [List.length_map]; exact R.ms.len
theorem FOk.sb (R : FOk b way hs lim) : Sc (.int b) := .int' (by have := R.ms.b2; have := R.ms.b16; omega)
theorem FOk.sl (R : FOk b way hs lim) : Sc (.int lim) := .int' (by have := R.l1; have := R.l100; omega)
theorem ext_sc {k : Nat} {d e : D} (h : Sc d) (x : Ext hs k d e) : e = d := h.2.2.2.2.2.2 _ _ _ x
theorem sc_kn {ds : List D} (h : ∀ d ∈ ds, Sc d) : Kn ds := fun y m => ⟨(h y m).1, (h y m).2.1⟩
/-- the wrong base -/
theorem row1 (R : FOk b way hs lim) {d : D} (hd : d ∈ O1) : RowG hs (.tup [d, .str way, .lst (iD hs), .int lim]) := by
  refine ⟨_, _, _, _, rfl, (fun _ z => nomatch z), fun b' k' m' l' xb xk xm xl => ?_⟩
  have ek := ext_sc (IsKind.sc R.wk) xk
  have el := ext_sc R.sl xl
  subst ek el
  obtain ⟨j, hj, rfl, fm⟩ := ext_lst R.heads (by have := R.len'; omega) xm
  have fb : FB b' ∧ (∃ k, isTy "int" b' = some k) ∧ ∀ i : Int, b' = .int i → i < 2 := by
    have hd : d = .int 1 ∨ d = .int 0 ∨ d = .int (0 - 10) ∨ d = .bl true ∨ d = .non ∨ d = .str "10" ∨ d = .lst [.int 10] ∨ d = .tup [.int 10] := by simpa [O1] using hd
    rcases hd with rfl | rfl | rfl | rfl | rfl | rfl | rfl | rfl
    · have e := ext_sc (d := .int 1) (.int' (by decide)) xb
      subst e
      exact ⟨.sc (.int' (by decide)), ⟨_, rfl⟩, fun i z => by cases z; decide⟩
    · have e := ext_sc (d := .int 0) (.int' (by decide)) xb
      subst e
      exact ⟨.sc (.int' (by decide)), ⟨_, rfl⟩, fun i z => by cases z; decide⟩
    · have e := ext_sc (d := .int (0 - 10)) (.int' (by decide)) xb
      subst e
      exact ⟨.sc (.int' (by decide)), ⟨_, rfl⟩, fun i z => by cases z; decide⟩
    · have e := ext_sc (Sc.bl true) xb
      subst e
      exact ⟨.sc (.bl true), ⟨_, rfl⟩, fun i z => by cases z⟩
    · have e := ext_sc Sc.non xb
      subst e
      exact ⟨.sc .non, ⟨_, rfl⟩, fun i z => by cases z⟩
    · have e := ext_sc (d := .str "10") (.str (by decide +kernel)) xb
      subst e
      exact ⟨.sc (.str (by decide +kernel)), ⟨_, rfl⟩, fun i z => by cases z⟩
    · obtain ⟨j, hj, rfl, f⟩ := ext_lst (fun d m => by rw [List.mem_singleton.mp m]; exact .int' (by decide)) (by decide) xb
      exact ⟨f, ⟨_, rfl⟩, fun i z => by cases z⟩
    · obtain ⟨rfl, f⟩ := ext_tup (fun d m => by rw [List.mem_singleton.mp m]; exact .int' (by decide)) (by decide) xb
      exact ⟨f, ⟨_, rfl⟩, fun i z => by cases z⟩
  obtain ⟨fb, ⟨k, tb⟩, nb⟩ := fb
  have fk := FB.sc (IsKind.sc R.wk)
  have fl := FB.sc R.sl
  exact ⟨.base tb nb, fb.df, fk.df, fm.df, fl.df, sh_of fb fk fm fl, .inr ⟨_, rfl, by have := R.len'; simp at this ⊢; omega⟩⟩
/-- the wrong word -/
theorem row2 (R : FOk b way hs lim) {d : D} (hd : d ∈ O2) : RowG hs (.tup [.int b, d, .lst (iD hs), .int lim]) := by
  refine ⟨_, _, _, _, rfl, (fun _ z => nomatch z), fun b' k' m' l' xb xk xm xl => ?_⟩
  have eb := ext_sc R.sb xb
  have el := ext_sc R.sl xl
  subst eb el
  obtain ⟨j, hj, rfl, fm⟩ := ext_lst R.heads (by have := R.len'; omega) xm
  have fk : FB k' ∧ NoKind k' := by
    have hd : d = .str "Inside" ∨ d = .str "" ∨ d = .non ∨ d = .int 0 ∨ d = .lst [.str "inside"] ∨ d = .str "ticks" ∨ d = .tup [.str "cover"] ∨ d = .lkK [] [] := by simpa [O2] using hd
    rcases hd with rfl | rfl | rfl | rfl | rfl | rfl | rfl | rfl
    · have e := ext_sc (d := .str "Inside") (.str (by decide +kernel)) xk
      subst e
      exact ⟨.sc (.str (by decide +kernel)), .inr ⟨_, rfl, by decide, by decide, by decide⟩⟩
    · have e := ext_sc (d := .str "") (.str (by decide +kernel)) xk
      subst e
      exact ⟨.sc (.str (by decide +kernel)), .inr ⟨_, rfl, by decide, by decide, by decide⟩⟩
    · have e := ext_sc Sc.non xk
      subst e
      exact ⟨.sc .non, .inl rfl⟩
    · have e := ext_sc (d := .int 0) (.int' (by decide)) xk
      subst e
      exact ⟨.sc (.int' (by decide)), .inl rfl⟩
    · obtain ⟨j, hj, rfl, f⟩ := ext_lst (fun d m => by rw [List.mem_singleton.mp m]; exact .str (by decide +kernel)) (by decide) xk
      exact ⟨f, .inl rfl⟩
    · have e := ext_sc (d := .str "ticks") (.str (by decide +kernel)) xk
      subst e
      exact ⟨.sc (.str (by decide +kernel)), .inr ⟨_, rfl, by decide, by decide, by decide⟩⟩
    · obtain ⟨rfl, f⟩ := ext_tup (fun d m => by rw [List.mem_singleton.mp m]; exact .str (by decide +kernel)) (by decide) xk
      exact ⟨f, .inl rfl⟩
    · obtain ⟨rfl, f⟩ := ext_dik xk
      exact ⟨f, .inl rfl⟩
  obtain ⟨fk, nk⟩ := fk
  have fb := FB.sc R.sb
  have fl := FB.sc R.sl
  exact ⟨.kind R.ms.b2 nk, fb.df, fk.df, fm.df, fl.df, sh_of fb fk fm fl, .inr ⟨_, rfl, by have := R.len'; simp at this ⊢; omega⟩⟩
/-- a list grown is no list of mantissas -/
theorem noMs_more {ds : List D} {j : Nat} (kn : Kn ds) (hl : ds.length ≤ 100) (hj : j ≤ 60) (h : j = 0 → ds = [] ∨ (∃ y ∈ ds, lowW y = true) ∨ ∃ ns : List Int, ds = ns.map D.int ∧ (∀ x ∈ ns, 1 ≤ x ∧ x ≤ 1000) ∧ ((∃ x ∈ ns, x % b = 0) ∨ ¬ ns.Nodup)) : NoMs b (.lst (ds ++ mo j)) := by
  refine .inr ⟨_, rfl, by simp; omega, fun y m => ?_, ?_⟩
  · rcases List.mem_append.mp m with m | m
    · exact kn y m
    · rw [(List.mem_replicate.mp m).2]; exact ⟨rfl, ⟨_, rfl⟩⟩
  · cases j with
    | zero =>
      rw [show ds ++ mo 0 = ds from List.append_nil ds]
      exact h rfl
    | succ j => exact .inr (.inl ⟨.str "more", List.mem_append_right _ (List.mem_replicate.mpr ⟨by omega, rfl⟩), rfl⟩)
/-- the wrong greatest number -/
theorem row4 (R : FOk b way hs lim) {d : D} (hd : d ∈ O4 way) : RowG hs (.tup [.int b, .str way, .lst (iD hs), d]) := by
  refine ⟨_, _, _, _, rfl, (fun _ z => nomatch z), fun b' k' m' l' xb xk xm xl => ?_⟩
  have eb := ext_sc R.sb xb
  have ek := ext_sc (IsKind.sc R.wk) xk
  subst eb ek
  obtain ⟨j, hj, rfl, fm⟩ := ext_lst R.heads (by have := R.len'; omega) xm
  have fl : FB l' ∧ NoMost way l' := by
    have hd : d = .int 0 ∨ d = .int (0 - 1) ∨ d = .bl true ∨ d = .non ∨ d = .str "2" ∨ d = .lst [.int 2] ∨ d = .int (if way = "cover" then 1 else 0) := by simpa [O4] using hd
    rcases hd with rfl | rfl | rfl | rfl | rfl | rfl | rfl
    · have e := ext_sc (d := .int 0) (.int' (by decide)) xl
      subst e
      exact ⟨.sc (.int' (by decide)), ⟨_, rfl⟩, fun i z => by cases z; split <;> decide⟩
    · have e := ext_sc (d := .int (0 - 1)) (.int' (by decide)) xl
      subst e
      exact ⟨.sc (.int' (by decide)), ⟨_, rfl⟩, fun i z => by cases z; split <;> decide⟩
    · have e := ext_sc (Sc.bl true) xl
      subst e
      exact ⟨.sc (.bl true), ⟨_, rfl⟩, fun i z => by cases z⟩
    · have e := ext_sc Sc.non xl
      subst e
      exact ⟨.sc .non, ⟨_, rfl⟩, fun i z => by cases z⟩
    · have e := ext_sc (d := .str "2") (.str (by decide +kernel)) xl
      subst e
      exact ⟨.sc (.str (by decide +kernel)), ⟨_, rfl⟩, fun i z => by cases z⟩
    · obtain ⟨j, hj, rfl, f⟩ := ext_lst (fun d m => by rw [List.mem_singleton.mp m]; exact .int' (by decide)) (by decide) xl
      exact ⟨f, ⟨_, rfl⟩, fun i z => by cases z⟩
    · have s : Sc (.int (if way = "cover" then 1 else 0)) := .int' (by split <;> decide)
      have e := ext_sc s xl
      subst e
      exact ⟨.sc s, ⟨_, rfl⟩, fun i z => by cases z; split <;> decide⟩
  obtain ⟨fl, nl⟩ := fl
  have fb := FB.sc R.sb
  have fk := FB.sc (IsKind.sc R.wk)
  refine ⟨?_, fb.df, fk.df, fm.df, fl.df, sh_of fb fk fm fl, .inr ⟨_, rfl, by have := R.len'; simp at this ⊢; omega⟩⟩
  cases j with
  | zero =>
    rw [show iD hs ++ mo 0 = iD hs from List.append_nil _]
    exact .most R.wk R.ms nl
  | succ j => exact .mant R.ms.b2 R.ms.b16 R.wk (noMs_more (sc_kn R.heads) (by have := R.len'; omega) hj fun z => by cases z)
/-- what the third field of a row may be -/
structure Th (b : Int) (hs : List Int) (d : D) : Prop where
  nr : ∀ u, d ≠ .raw u
  g : ∀ m, Ext hs 60 d m → FB m ∧ NoMs b m ∧ (isTyX "list" m = some false ∨ ∃ ys, m = .lst ys ∧ ys.length < 1000)
theorem Th.lst {ds : List D} (g : ∀ d ∈ ds, Sc d) (hl : ds.length ≤ 40) (h : ds = [] ∨ (∃ y ∈ ds, lowW y = true) ∨ ∃ ns : List Int, ds = ns.map D.int ∧ (∀ x ∈ ns, 1 ≤ x ∧ x ≤ 1000) ∧ ((∃ x ∈ ns, x % b = 0) ∨ ¬ ns.Nodup)) : Th b hs (.lst ds) := by
  refine ⟨fun u z => (by cases z), fun m x => ?_⟩
  obtain ⟨j, hj, rfl, fm⟩ := ext_lst g (by omega) x
  exact ⟨fm, noMs_more (sc_kn g) (by omega) hj fun _ => h, .inr ⟨_, rfl, by simp; omega⟩⟩
theorem Th.sc {d : D} (g : Sc d) (nr : ∀ u, d ≠ .raw u) (h : isTyX "list" d = some false) : Th b hs d := by
  refine ⟨nr, fun m x => ?_⟩
  have e := ext_sc g x
  subst e
  exact ⟨.sc g, .inl h, .inl h⟩
theorem w02_th (R : FOk b way (z :: t) lim) {h0 : Addr} {r : Int} (r0 : 0 ≤ r) (r9 : r < 9) : ∀ d ∈ W02 b h0 z (z :: t) r, Th b (z :: t) d := by
  have hl := R.len'
  have hz := R.ms.hs z List.mem_cons_self
  have b2 := R.ms.b2
  have b16 := R.ms.b16
  have one : ∀ {d : D}, Sc d → ∀ y ∈ iD (z :: t) ++ [d], Sc y := fun {d} g y m => by
    rcases List.mem_append.mp m with m | m
    · exact R.heads y m
    · rw [List.mem_singleton.mp m]; exact g
  have len1 : ∀ d : D, (iD (z :: t) ++ [d]).length ≤ 40 := fun d => by rw [List.length_append]; simp at hl ⊢; omega
  have low : ∀ {d : D}, lowW d = true → ∃ y ∈ iD (z :: t) ++ [d], lowW y = true := fun {d} h => ⟨d, List.mem_append_right _ List.mem_cons_self, h⟩
  have scz : Sc (.int z) := R.heads _ (List.mem_map.mpr ⟨z, List.mem_cons_self, rfl⟩)
  have hc : cutD (iD (z :: t)) none (some 1) ++ iD (z :: t) = (z :: z :: t).map D.int := by
    have : cutD (iD (z :: t)) none (some 1) = [D.int z] := by
      unfold DL.cutD
      simp [HT.sIx]
    rw [this]; rfl
  have mul : b * (1 + r) ≤ 144 ∧ 1 ≤ b * (1 + r) := by
    constructor
    · have h1 : b * (1 + r) ≤ 16 * (1 + r) := Int.mul_le_mul_of_nonneg_right b16 (by omega)
      omega
    · have h1 : 2 * (1 + r) ≤ b * (1 + r) := Int.mul_le_mul_of_nonneg_right b2 (by omega)
      omega
  intro d hd
  unfold W02 at hd
  simp only [List.cons_append, List.nil_append, List.append_assoc, List.mem_cons, List.not_mem_nil, or_false] at hd
  rcases hd with rfl | rfl | rfl | rfl | rfl | rfl | rfl | rfl | rfl | rfl | rfl | rfl | rfl | rfl | rfl
  · refine .lst (one scz) (len1 _) (.inr (.inr ⟨(z :: t) ++ [z], by simp, fun x m => ?_, .inr ?_⟩))
    · rcases List.mem_append.mp m with m | m
      · exact R.ms.hs x m
      · rw [List.mem_singleton.mp m]; exact hz
    · intro nd
      rw [List.nodup_append] at nd
      exact nd.2.2 z List.mem_cons_self z List.mem_cons_self rfl
  · exact .lst (one (.int' (by decide))) (len1 _) (.inr (.inl (low rfl)))
  · refine .lst (one (.int' (by omega))) (len1 _) (.inr (.inr ⟨(z :: t) ++ [b * (1 + r)], by simp, fun x m => ?_, .inl ⟨b * (1 + r), List.mem_append_right _ List.mem_cons_self, Int.mul_emod_right _ _⟩⟩))
    rcases List.mem_append.mp m with m | m
    · exact R.ms.hs x m
    · rw [List.mem_singleton.mp m]; omega
  · refine .lst (fun y m => ?_) (by simp at hl ⊢; omega) (.inr (.inl ⟨.int (0 - 1), List.mem_cons_self, rfl⟩))
    rcases List.mem_cons.mp m with rfl | m
    · exact .int' (by decide)
    · exact R.heads y m
  · exact .lst (one (.bl true)) (len1 _) (.inr (.inl (low rfl)))
  · exact .lst (one .non) (len1 _) (.inr (.inl (low rfl)))
  · exact .lst (fun y m => by cases m) (by decide) (.inl rfl)
  · exact .sc .non (fun u z => by cases z) rfl
  · refine ⟨fun u z => (by cases z), fun m x => ?_⟩
    obtain ⟨rfl, f⟩ := ext_tup R.heads (by omega) x
    exact ⟨f, .inl rfl, .inl rfl⟩
  · refine ⟨fun u z => (by cases z), fun m x => ?_⟩
    obtain ⟨rfl, f⟩ := ext_dik x
    exact ⟨f, .inl rfl, .inl rfl⟩
  · exact .sc (.str (by decide +kernel)) (fun u z => by cases z) rfl
  · exact .sc scz (fun u z => by cases z) rfl
  · -- the list of the list itself
    refine ⟨fun u z => (by cases z), fun m x => ?_⟩
    obtain ⟨es, j, rfl, hj, e, w, rfl, rfl, rfl⟩ := x
    have g2 := scs (ds := mo j) fun d m => by rw [(List.mem_replicate.mp m).2]; exact sc_more
    have g1 := scs R.heads
    have hm : (mo j).length = j := List.length_replicate
    rw [hm] at g2
    refine ⟨.of ?_ ?_ ?_ ?_, .inr ⟨_, rfl, by simp; omega, fun y m => ?_, .inr (.inl ⟨_, List.mem_cons_self, rfl⟩)⟩, .inr ⟨_, rfl, by simp; omega⟩⟩
    · show isPys (D.lst (iD (z :: t)) :: mo j) = true
      simp only [isPys, isPy, g1.1, g2.1]; rfl
    · show Shw (.list (toPys (D.lst (iD (z :: t)) :: mo j)))
      simp only [Shw, toPys, Shws, toPy]
      exact ⟨g1.2.1, g2.2.1⟩
    · show rcost (.list (toPys (D.lst (iD (z :: t)) :: mo j))) ≤ _
      simp only [toPys, rcost, rcosts, toPy]
      have := g1.2.2.1
      have := g2.2.2.1
      omega
    · show PyData.depth (.list (toPys (D.lst (iD (z :: t)) :: mo j))) ≤ _
      simp only [toPys, PyData.depth, PyData.depthAll, toPy, g1.2.2.2, g2.2.2.2]
      omega
    · rcases List.mem_cons.mp m with rfl | m
      · exact ⟨rfl, ⟨_, rfl⟩⟩
      · rw [(List.mem_replicate.mp m).2]; exact ⟨rfl, ⟨_, rfl⟩⟩
  · exact .lst (fun y m => by rw [List.mem_singleton.mp m]; exact .str (by decide +kernel)) (by decide) (.inr (.inl ⟨_, List.mem_cons_self, rfl⟩))
  · rw [hc]
    refine .lst (fun y m => ?_) (by simp at hl ⊢; omega) (.inr (.inr ⟨_, rfl, fun x m => ?_, .inr fun nd => ?_⟩))
    · rcases List.mem_cons.mp m with rfl | m
      · exact scz
      · exact R.heads y m
    · rcases List.mem_cons.mp m with rfl | m
      · exact hz
      · exact R.ms.hs x m
    · exact (List.nodup_cons.mp nd).1 List.mem_cons_self
theorem row3 (R : FOk b way (z :: t) lim) {h0 : Addr} {r : Int} (r0 : 0 ≤ r) (r9 : r < 9) {d : D} (hd : d ∈ W02 b h0 z (z :: t) r) : RowG (z :: t) (.tup [.int b, .str way, d, .int lim]) := by
  have T := w02_th R r0 r9 d hd
  refine ⟨_, _, _, _, rfl, T.nr, fun b' k' m' l' xb xk xm xl => ?_⟩
  have eb := ext_sc R.sb xb
  have ek := ext_sc (IsKind.sc R.wk) xk
  have el := ext_sc R.sl xl
  subst eb ek el
  obtain ⟨fm, nm, lm⟩ := T.g m' xm
  have fb := FB.sc R.sb
  have fk := FB.sc (IsKind.sc R.wk)
  have fl := FB.sc R.sl
  exact ⟨.mant R.ms.b2 R.ms.b16 R.wk nm, fb.df, fk.df, fm.df, fl.df, sh_of fb fk fm fl, lm⟩
theorem okRs_app {h0 : Addr} : ∀ {xs ys : List D}, okRs h0 xs = true → okRs h0 ys = true → okRs h0 (xs ++ ys) = true
  | [], _, _, h => h
  | x :: xs, ys, h, g => by
    have h : okR h0 x = true ∧ okRs h0 xs = true := by simpa [okRs] using h
    show (okR h0 x && okRs h0 (xs ++ ys)) = true
    rw [h.1, okRs_app h.2 g]; rfl
theorem okRs_all {h0 : Addr} {xs : List D} (h : ∀ x ∈ xs, okR h0 x = true) : okRs h0 xs = true := by
  induction xs with
  | nil => rfl
  | cons x xs ih =>
    show (okR h0 x && okRs h0 xs) = true
    rw [h x List.mem_cons_self, ih fun y m => h y (List.mem_cons_of_mem _ m)]; rfl
theorem okRs_ints {h0 : Addr} (ns : List Int) : okRs h0 (iD ns) = true := okRs_all fun x m => by
  obtain ⟨i, _, rfl⟩ := List.mem_map.mp m
  rfl
theorem rows_good (R : FOk b way (z :: t) lim) (h0 : Addr) (r : Int) (r0 : 0 ≤ r) (r9 : r < 9) : okRs h0 (rows02 b way h0 z (z :: t) lim r) = true ∧ ∀ d ∈ rows02 b way h0 z (z :: t) lim r, RowG (z :: t) d := by
  have i1 := okRs_ints (h0 := h0) (z :: t)
  have hc : cutD (iD (z :: t)) none (some 1) = [D.int z] := by
    unfold DL.cutD
    simp [HT.sIx]
  have okd : ∀ ds, okRs h0 ds = true → okR h0 (.lst ds) = true := fun ds h => by simpa [okR] using h
  have okt : ∀ ds, okRs h0 ds = true → okR h0 (.tup ds) = true := fun ds h => by simpa [okR] using h
  have row : ∀ {a b c d : D}, okR h0 a = true → okR h0 b = true → okR h0 c = true → okR h0 d = true → okR h0 (.tup [a, b, c, d]) = true := fun {a b c d} h1 h2 h3 h4 => okt _ (by
    show (okR h0 a && (okR h0 b && (okR h0 c && (okR h0 d && true)))) = true
    rw [h1, h2, h3, h4]; rfl)
  have sn : ∀ {d : D}, okR h0 d = true → okRs h0 [d] = true := fun {d} h => by
    show (okR h0 d && true) = true
    rw [h]; rfl
  constructor
  · unfold rows02
    refine okRs_app (okRs_app (okRs_app ?_ ?_) ?_) ?_
    · refine okRs_all fun x m => ?_
      obtain ⟨d, hd, rfl⟩ := List.mem_map.mp m
      refine row ?_ rfl (okd _ i1) rfl
      have hd : d = .int 1 ∨ d = .int 0 ∨ d = .int (0 - 10) ∨ d = .bl true ∨ d = .non ∨ d = .str "10" ∨ d = .lst [.int 10] ∨ d = .tup [.int 10] := by simpa [O1] using hd
      rcases hd with rfl | rfl | rfl | rfl | rfl | rfl | rfl | rfl <;> first | rfl | exact okd _ rfl | exact okt _ rfl
    · refine okRs_all fun x m => ?_
      obtain ⟨d, hd, rfl⟩ := List.mem_map.mp m
      refine row rfl ?_ (okd _ i1) rfl
      have hd : d = .str "Inside" ∨ d = .str "" ∨ d = .non ∨ d = .int 0 ∨ d = .lst [.str "inside"] ∨ d = .str "ticks" ∨ d = .tup [.str "cover"] ∨ d = .lkK [] [] := by simpa [O2] using hd
      rcases hd with rfl | rfl | rfl | rfl | rfl | rfl | rfl | rfl <;> first | rfl | exact okd _ rfl | exact okt _ rfl | simp [okR]
    · refine okRs_all fun x m => ?_
      obtain ⟨d, hd, rfl⟩ := List.mem_map.mp m
      refine row rfl rfl ?_ rfl
      unfold W02 at hd
      simp only [List.cons_append, List.nil_append, List.append_assoc, List.mem_cons, List.not_mem_nil, or_false] at hd
      rcases hd with rfl | rfl | rfl | rfl | rfl | rfl | rfl | rfl | rfl | rfl | rfl | rfl | rfl | rfl | rfl
      · exact okd _ (okRs_app i1 (sn rfl))
      · exact okd _ (okRs_app i1 (sn rfl))
      · exact okd _ (okRs_app i1 (sn rfl))
      · exact okd _ (okRs_app (xs := [.int (0 - 1)]) (sn rfl) i1)
      · exact okd _ (okRs_app i1 (sn rfl))
      · exact okd _ (okRs_app i1 (sn rfl))
      · exact okd _ rfl
      · rfl
      · exact okt _ i1
      · simp [okR]
      · rfl
      · rfl
      · exact okd _ (sn (by simp [okR]))
      · exact okd _ (sn rfl)
      · rw [hc]
        exact okd _ (okRs_app (xs := [.int z]) (sn rfl) i1)
    · refine okRs_all fun x m => ?_
      obtain ⟨d, hd, rfl⟩ := List.mem_map.mp m
      refine row rfl rfl (okd _ i1) ?_
      have hd : d = .int 0 ∨ d = .int (0 - 1) ∨ d = .bl true ∨ d = .non ∨ d = .str "2" ∨ d = .lst [.int 2] ∨ d = .int (if way = "cover" then 1 else 0) := by simpa [O4] using hd
      rcases hd with rfl | rfl | rfl | rfl | rfl | rfl | rfl <;> first | rfl | exact okd _ rfl
  · intro d m
    unfold rows02 at m
    rcases List.mem_append.mp m with m | m
    · rcases List.mem_append.mp m with m | m
      · rcases List.mem_append.mp m with m | m
        · obtain ⟨x, hx, rfl⟩ := List.mem_map.mp m
          exact row1 R hx
        · obtain ⟨x, hx, rfl⟩ := List.mem_map.mp m
          exact row2 R hx
      · obtain ⟨x, hx, rfl⟩ := List.mem_map.mp m
        exact row3 R r0 r9 hx
    · obtain ⟨x, hx, rfl⟩ := List.mem_map.mp m
      exact row4 R hx
end
end Ax

/-! Mb02: each once; drawn heads and their dividing. -/
namespace Ax
open PySem PySem.Spec PyProof.Rows L2 DL
/-- each once, the first time that it comes -/
def dd (xs : List Int) : List Int := ((List.range xs.length).filter fun i => !(xs.take i).contains (xs.getD i 0)).map fun i => xs.getD i 0
theorem dd_mem {xs : List Int} {x : Int} (h : x ∈ dd xs) : x ∈ xs := by
  obtain ⟨i, hi, rfl⟩ := List.mem_map.mp h
  have hi := List.mem_range.mp (List.mem_filter.mp hi).1
  rw [List.getD_eq_getElem?_getD, List.getElem?_eq_getElem hi]
  exact List.getElem_mem hi
theorem dd_len (xs : List Int) : (dd xs).length ≤ xs.length := by
  unfold dd
  rw [List.length_map]
  exact Nat.le_trans (List.length_filter_le _ _) (by rw [List.length_range]; exact Nat.le_refl _)
theorem dd_nodup (xs : List Int) : (dd xs).Nodup := by
  unfold dd
  refine List.pairwise_map.mpr ?_
  have h : ((List.range xs.length).filter fun i => !(xs.take i).contains (xs.getD i 0)).Pairwise (· < ·) := List.Pairwise.sublist List.filter_sublist List.pairwise_lt_range
  refine List.Pairwise.imp_of_mem (fun {i j} mi mj lt e => ?_) h
  obtain ⟨hj, nj⟩ := List.mem_filter.mp mj
  have hj := List.mem_range.mp hj
  have hi : i < xs.length := Nat.lt_trans lt hj
  have : xs.getD j 0 ∈ xs.take j := by
    rw [← e, List.getD_eq_getElem?_getD, List.getElem?_eq_getElem hi]
    exact List.mem_take_iff_getElem.mpr ⟨i, by rw [Nat.lt_min]; exact ⟨lt, hi⟩, rfl⟩
  rw [List.contains_iff_mem.mpr this] at nj
  cases nj
theorem dd_ne {xs : List Int} (h : xs ≠ []) : dd xs ≠ [] := by
  cases xs with
  | nil => exact absurd rfl h
  | cons x xs =>
    intro e
    have : x ∈ dd (x :: xs) := List.mem_map.mpr ⟨0, List.mem_filter.mpr ⟨List.mem_range.mpr (Nat.zero_lt_succ _), rfl⟩, rfl⟩
    rw [e] at this; cases this
/-- a family of one of the lists, to a base of one figure or ten -/
structure Fam02 (b : Int) (fs : List Int) : Prop where
  F : Fam b fs
  b10 : b ≤ 10
  g : ∃ g ∈ [1] :: FAMS, ∀ h ∈ fs, h ∈ g
theorem Fam02.one {b : Int} (b2 : 2 ≤ b) (b10 : b ≤ 10) : Fam02 b [1] := ⟨Fam.one b2 (by omega), b10, ⟨[1], List.mem_cons_self, fun h m => m⟩⟩
theorem Fam02.of {b : Int} {fs : List Int} (b2 : 2 ≤ b) (b10 : b ≤ 10) (m : fs ∈ FAMS) (ne : (fs.filter fun h => decide (0 < h % b)) ≠ []) : Fam02 b (fs.filter fun h => decide (0 < h % b)) :=
  ⟨Fam.of b2 (by omega) m ne, b10, ⟨fs, List.mem_cons_of_mem _ m, fun h mh => (List.mem_filter.mp mh).1⟩⟩
/-- what a list is made of, in every way -/
def subs : List Int → List (List Int)
  | [] => [[]]
  | x :: xs => subs xs ++ (subs xs).map (x :: ·)
theorem subs_mem {l xs : List Int} (h : l.Sublist xs) : l ∈ subs xs := by
  induction h with
  | slnil => exact List.mem_cons_self
  | cons a _ ih => exact List.mem_append_left _ ih
  | cons_cons a _ ih => exact List.mem_append_right _ (List.mem_map.mpr ⟨_, ih, rfl⟩)
theorem asc_sub {l g : List Int} (hl : l.Pairwise (· ≤ ·)) (nd : l.Nodup) (hg : g.Pairwise (· ≤ ·)) (ng : g.Nodup) (h : ∀ x ∈ l, x ∈ g) : l.Sublist g := by
  have e : l = g.filter fun x => l.contains x := by
    refine sorted_eq ((List.perm_ext_iff_of_nodup nd (ng.sublist List.filter_sublist)).mpr fun x => ⟨fun m => ?_, fun m => ?_⟩) hl (hg.sublist List.filter_sublist)
    · exact List.mem_filter.mpr ⟨h x m, List.contains_iff_mem.mpr m⟩
    · exact List.contains_iff_mem.mp (List.mem_filter.mp m).2
  rw [e]; exact List.filter_sublist
structure DivOk (b : Int) (hs : List Int) : Prop where
  t : TOk b hs
  len : (zs11 b hs).length = hs.length + 1
  pos : ∀ z ∈ zs11 b hs, 0 < z ∧ z < 2 ^ 60
  dv : divL b hs = dv11 b hs
instance (b : Int) (hs : List Int) : Decidable (DivOk b hs) :=
  decidable_of_iff (TOk b hs ∧ (zs11 b hs).length = hs.length + 1 ∧ (∀ z ∈ zs11 b hs, 0 < z ∧ z < 2 ^ 60) ∧ divL b hs = dv11 b hs) ⟨fun ⟨a, b, c, d⟩ => ⟨a, b, c, d⟩, fun ⟨a, b, c, d⟩ => ⟨a, b, c, d⟩⟩
def BS02 : List Int := [2, 3, 4, 5, 6, 7, 8, 9, 10]
theorem fams_asc : ∀ g ∈ [1] :: FAMS, g.Pairwise (· ≤ ·) ∧ g.Nodup := by decide +kernel
theorem div_all : ∀ b ∈ BS02, ∀ g ∈ [1] :: FAMS, ∀ hs ∈ subs g, hs ≠ [] → hs.all (fun h => decide (h % b ≠ 0)) = true → DivOk b hs := by decide +kernel
theorem div_ok {b : Int} {fs hs : List Int} (F : Fam02 b fs) (h : ∀ x ∈ hs, x ∈ fs) (ne : hs ≠ []) (nd : hs.Nodup) (asc : hs.Pairwise (· ≤ ·)) : DivOk b hs := by
  obtain ⟨g, mg, hg⟩ := F.g
  obtain ⟨ga, gn⟩ := fams_asc g mg
  have b2 := F.F.ms.b2
  have b10 := F.b10
  have mb : b ∈ BS02 := by
    have : b = 2 ∨ b = 3 ∨ b = 4 ∨ b = 5 ∨ b = 6 ∨ b = 7 ∨ b = 8 ∨ b = 9 ∨ b = 10 := by omega
    simpa [BS02] using this
  refine div_all b mb g mg hs (subs_mem (asc_sub asc nd ga gn fun x m => hg x (h x m))) ne (List.all_eq_true.mpr fun x m => decide_eq_true (F.F.ms.prim x (h x m)))
end Ax

/-! Mc02: promises of the defs; _law_refused called with what no rule has. -/
namespace Ax
open PySem PySem.Spec PyProof.Rows L2 DL
instance : DecidableEq RD := fun a c => decidable_of_iff (a.b = c.b ∧ a.way = c.way ∧ a.hs = c.hs ∧ a.lim = c.lim) (by
  obtain ⟨x1, x2, x3, x4⟩ := a
  obtain ⟨y1, y2, y3, y4⟩ := c
  simp)
structure TxI (K : PySem.W.Frag) (mg : Str → Option Value) (CR : Addr) : Prop where
  mgR : mg "Rule" = some (.ref CR)
  ob : ObC K CR
  me : PySem.W.kitOne K (.ref CR) (.ref CR) = some true
  kn : PySem.W.kitOne K (.type "NoneType") (.ref CR) = some false
  kt : PySem.W.kitOne K (.type "tuple") (.ref CR) = some false
theorem kit_self {K : PySem.W.Frag} {C : Addr} : PySem.W.kitOne K (.ref C) (.ref C) = some true := by
  unfold PySem.W.kitOne
  rw [if_pos (by simp)]
theorem kit_no {K : PySem.W.Frag} {C : Addr} {T : String} (hd : PySem.W.hasDictIn K C = true) (ty : PySem.W.typeIn K (.ref C) = some (.type "type")) (nf : PySem.W.notFirst K C (.type T) = true) : PySem.W.kitOne K (.type T) (.ref C) = some false := by
  have hne : ((Value.type T) == (Value.ref C)) = false := beq_eq_false_iff_ne.mpr fun z => nomatch z
  have hs : PySem.W.subIn K (.type T) (.ref C) = some false := by
    unfold PySem.W.notFirst at nf
    rw [hne, Bool.false_or] at nf
    exact eq_of_beq nf
  have hc : ∃ cd, PySem.W.clsIn K C = some cd := by
    cases e : PySem.W.clsIn K C with
    | some cd => exact ⟨cd, rfl⟩
    | none => unfold PySem.W.hasDictIn at hd; rw [e] at hd; cases hd
  unfold PySem.W.kitOne PySem.W.kitCls
  rw [hne]
  simp only [Bool.false_eq_true, if_false]
  rw [if_pos ?_]
  · exact hs
  · obtain ⟨cd, e⟩ := hc
    rw [e, ty]; rfl
/-- ==: two rules, or a rule and a tuple or None -/
def sp_Rule___eq__02 (C : Addr) : DSp := fun ds Φ => (∃ r q : RD, ds = [r.d C, q.d C] ∧ ROk r ∧ ROk q ∧ Φ (.bl (decide (r = q)))) ∨ ∃ (r : RD) (d : D), ds = [r.d C, d] ∧ TupN d ∧ Φ (.bl false)
theorem eqvs_ints : ∀ a b : List Int, PyData.eqvAll (toPys (a.map D.int)) (toPys (b.map D.int)) = decide (a = b)
  | [], [] => rfl
  | [], _ :: _ => rfl
  | _ :: _, [] => rfl
  | x :: xs, y :: ys => by
    show ((x == y) && PyData.eqvAll (toPys (xs.map D.int)) (toPys (ys.map D.int))) = _
    rw [eqvs_ints xs ys]
    by_cases h : x = y
    · subst h; simp
    · simp [h]
theorem eqv_rule {r q : RD} : PyData.eqv (toPy (.tup [.int r.b, .str r.way, .tup (r.hs.map D.int), .int r.lim])) (toPy (.tup [.int q.b, .str q.way, .tup (q.hs.map D.int), .int q.lim])) = decide (r = q) := by
  show ((r.b == q.b) && ((r.way == q.way) && (PyData.eqvAll (toPys (r.hs.map D.int)) (toPys (q.hs.map D.int)) && ((r.lim == q.lim) && true)))) = _
  rw [eqvs_ints]
  obtain ⟨b, w, hs, l⟩ := r
  obtain ⟨b', w', hs', l'⟩ := q
  simp only [RD.mk.injEq, Bool.and_true]
  rw [Bool.eq_iff_iff]
  simp
/-- the same of tuples with lists -/
theorem eqv_rule2 {r q : RD} : PyData.eqv (toPy (.tup [.int r.b, .str r.way, .lst (r.hs.map D.int), .int r.lim])) (toPy (.tup [.int q.b, .str q.way, .lst (q.hs.map D.int), .int q.lim])) = decide (r = q) := by
  rw [← eqv_rule]; rfl
theorem shaped_rule {r : RD} (ro : ROk r) : shapedD (.tup [.int r.b, .str r.way, .tup (r.hs.map D.int), .int r.lim]) = true := by
  refine shaped_tup fun d m => ?_
  simp only [List.mem_cons, List.not_mem_nil, or_false] at m
  rcases m with rfl | rfl | rfl | rfl
  · exact shp_int _ _
  · rcases ro.way with e | e | e <;> (rw [e]; decide +kernel)
  · obtain ⟨a, b, c⟩ := shp_all (k := 62) (ds := r.hs.map D.int) fun d m => by
      obtain ⟨x, _, rfl⟩ := List.mem_map.mp m
      exact shp_int _ _
    simp only [shp, isPy, toPy, PyData.canLay0, PyData.depth, a, b, Bool.true_and, decide_eq_true_eq]
    omega
  · exact shp_int _ _
theorem shaped_rule2 {r : RD} (ro : ROk r) : shapedD (.tup [.int r.b, .str r.way, .lst (r.hs.map D.int), .int r.lim]) = true := by
  refine shaped_tup fun d m => ?_
  simp only [List.mem_cons, List.not_mem_nil, or_false] at m
  rcases m with rfl | rfl | rfl | rfl
  · exact shp_int _ _
  · rcases ro.way with e | e | e <;> (rw [e]; decide +kernel)
  · obtain ⟨a, b, c⟩ := shp_all (k := 62) (ds := r.hs.map D.int) fun d m => by
      obtain ⟨x, _, rfl⟩ := List.mem_map.mp m
      exact shp_int _ _
    simp only [shp, isPy, toPy, PyData.canLay0, PyData.depth, a, b, Bool.true_and, decide_eq_true_eq]
    omega
  · exact shp_int _ _
def sp_Rule_base (C : Addr) : DSp := fun ds Φ => ∃ r : RD, ds = [r.d C] ∧ Φ (.int r.b)
def sp_Rule_kind (C : Addr) : DSp := fun ds Φ => ∃ r : RD, ds = [r.d C] ∧ Φ (.str r.way)
def sp_Rule_mantissas (C : Addr) : DSp := fun ds Φ => ∃ r : RD, ds = [r.d C] ∧ Φ (.new (r.hs.map D.int))
def sp_Rule_most (C : Addr) : DSp := fun ds Φ => ∃ r : RD, ds = [r.d C] ∧ Φ (.int r.lim)
abbrev ruL (r : RD) : D := .tup [.int r.b, .str r.way, .lst (r.hs.map D.int), .int r.lim]
def sp__law_fields (C : Addr) : DSp := fun ds Φ => ∃ r : RD, ds = [r.d C] ∧ Φ (ruL r)
def sp__law_is_dividing : DSp := fun ds Φ => ∃ (b : Int) (hs : List Int), ds = [.int b, .lst (hs.map D.int)] ∧ DivOk b hs ∧ Φ (.bl (dv11 b hs))
def sp__law_family02 : PSp := fun ds n Φ => ∃ m : Nat, ds = [] ∧ n = m + 2 ∧ ∀ b fs, Fam02 b fs → Φ (.tup [.int b, .lst (fs.map D.int)]) m
def sp__law_right02 : PSp := fun ds n Φ => ∃ m : Nat, ds = [] ∧ n = m + 44 ∧ Φ (.bl true) m
section
variable {c : DL.Ctx} {δ : DL.DE} {n : Nat} {Φ : D → Nat → Prop} {p p1 p2 p3 p4 p5 pos : Pos} {j1 j2 j3 j4 : Nat}
theorem we_refN (G : GFn c.X.prog c.X.w c.X.K c.X.mg c.X.base "_law_refused" ["_law_base", "_law_kind", "_law_mantissas", "_law_most"] 7 (spRf c.X.K)) (hgd : c.X.A.guards = some []) (hr : Room 7 c.X.A) (hg : Gl c.X "_law_refused") (h : Φ (.bl true) n) :
    DL.WE c (.Call (.Name "_law_refused" p) [.Constant .none j1 p1, .Constant (.int 0) j2 p2, .Constant .none j3 p3, .Constant .none j4 p4] [] pos) δ n Φ := ⟨fun σ H Q S q => by
  obtain ⟨f, fd, hm, hk, hb, G⟩ := G.ex
  refine pe_to (goCall G hgd hr hg hm hk hb (E := fun _ _ _ => False) pass0 (pa_cons pe_non (pa_cons pe_int (pa_cons pe_non (pa_cons pe_non pa_nil rfl) rfl) rfl) rfl) (by decide) rfl rfl) ?_
  have fn := FB.sc Sc.non
  have f0 := FB.sc (Sc.int' (i := 0) (by decide))
  show spRf c.X.K [.non, .int 0, .non, .non] H Q (fun _ _ _ => False)
  refine ⟨.non, .int 0, .non, .non, [toPyX .non, toPyX (.int 0), toPyX .non, toPyX .non], ⟨_, _, rfl, rfl, _, _, rfl, rfl, _, _, rfl, rfl, _, _, rfl, rfl, rfl⟩, .base (t := false) rfl (fun i z => by cases z),
    .cons (fn.df.df (Av := fun _ => False) (show Rp _ _ H .non .non from rfl)) (.cons (f0.df.df (Av := fun _ => False) (show Rp _ _ H (.int 0) (.int 0) from rfl)) (.cons (fn.df.df (Av := fun _ => False) (show Rp _ _ H .non .non from rfl)) (.cons (fn.df.df (Av := fun _ => False) (show Rp _ _ H .non .non from rfl)) .nil))), sh_of fn f0 fn fn, .inl ⟨rfl, fun H2 sm => ?_⟩⟩
  exact q _ H2 (.bl true) n (Kp.of sm) (S.grow sm) rfl h⟩
theorem we_refB {ib ik : Nat} {b : Int} {way : Str} (G : GFn c.X.prog c.X.w c.X.K c.X.mg c.X.base "_law_refused" ["_law_base", "_law_kind", "_law_mantissas", "_law_most"] 7 (spRf c.X.K)) (hgd : c.X.A.guards = some []) (hr : Room 7 c.X.A) (hg : Gl c.X "_law_refused")
    (nb : c.X.N[ib]? = some ("_law_base" : Str)) (vb : Vis c.X.env.scope "_law_base") (nk : c.X.N[ik]? = some ("_law_kind" : Str)) (vk : Vis c.X.env.scope "_law_kind") (hb : δ[ib]? = some (some (.int b))) (hk' : δ[ik]? = some (some (.str way))) (b2 : 2 ≤ b) (b16 : b ≤ 16) (w : IsKind way) (h : Φ (.bl true) n) :
    DL.WE c (.Call (.Name "_law_refused" p) [.Name "_law_base" p1, .Name "_law_kind" p2, .List [.Name "_law_base" p3] p4, .Constant (.int 0) j1 p5] [] pos) δ n Φ := ⟨fun σ H Q S q => by
  obtain ⟨f, fd, hm, hk, hbd, G⟩ := G.ex
  refine pe_to (goCall G hgd hr hg hm hk hbd (E := fun _ _ _ => False) pass0 (pa_cons (pe_var nb vb) (pa_cons (pe_var nk vk) (pa_cons (pe_lst (pa_cons (pe_var nb vb) pa_nil rfl)) (pa_cons pe_int pa_nil rfl) rfl) rfl) rfl) (by decide) rfl rfl) ?_
  obtain ⟨_, eb, rfl⟩ := S.sl ib _ hb
  obtain ⟨_, ek, rfl⟩ := S.sl ik _ hk'
  refine ⟨.int b, eb, .str way, ek, .int b, eb, (by show 1 ≤ sizeLine; rw [sizeLine_eq]; decide), fun l hl => ?_⟩
  show spRf c.X.K [.int b, .str way, .ref l, .int 0] (upd H l (.lst [.int b])) Q (fun _ _ _ => False)
  have sb : Sc (.int b) := .int' (by omega)
  have fb := FB.sc sb
  have fk := FB.sc (IsKind.sc w)
  have f0 := FB.sc (Sc.int' (i := 0) (by decide))
  have fm : FB (.lst [.int b]) := .lst (fun d m => by rw [List.mem_singleton.mp m]; exact sb) (by simp)
  have fm2 : FB (.lst ([.int b] ++ [.str "more"])) := .lst (fun d m => by
    rcases List.mem_append.mp m with m | m
    · rw [List.mem_singleton.mp m]; exact sb
    · rw [List.mem_singleton.mp m]; exact sc_more) (by simp)
  have rm : Rp c.X.K (fun _ => False) (upd H l (.lst [.int b])) (.lst [.int b]) (.ref l) := ⟨l, [.int b], rfl, fun z => z, upd_same, _, _, rfl, rfl, rfl⟩
  refine ⟨.int b, .str way, .lst [.int b], .int 0, [toPyX (.int b), toPyX (.str way), toPyX (.lst [.int b]), toPyX (.int 0)], ⟨_, _, rfl, rfl, _, _, rfl, rfl, _, _, rfl, rm, _, _, rfl, rfl, rfl⟩,
    .mant b2 b16 w (.inr ⟨[.int b], rfl, by simp, sc_kn (fun d m => by rw [List.mem_singleton.mp m]; exact sb), .inr (.inr ⟨[b], rfl, fun x m => by rw [List.mem_singleton.mp m]; omega, .inl ⟨b, List.mem_cons_self, Int.emod_self⟩⟩)⟩),
    .cons (fb.df.df (Av := fun _ => False) (show Rp _ _ _ (.int b) (.int b) from rfl)) (.cons (fk.df.df (Av := fun _ => False) (show Rp _ _ _ (.str way) (.str way) from rfl)) (.cons (fm.df.df rm) (.cons (f0.df.df (Av := fun _ => False) (show Rp _ _ _ (.int 0) (.int 0) from rfl)) .nil))), sh_of fb fk fm f0,
    .inr ⟨[.int b], l, [.int b], rfl, rfl, upd_same, by simp, fun H2 kp h2 => ?_⟩⟩
  have rm2 : Rp c.X.K (fun _ => False) H2 (.lst ([.int b] ++ [.str "more"])) (.ref l) := ⟨l, _, rfl, fun z => z, h2, _, _, rfl, rfl, _, _, rfl, rfl, rfl⟩
  refine ⟨⟨_, .cons (fb.df.df (Av := fun _ => False) (show Rp _ _ _ (.int b) (.int b) from rfl)) (.cons (fk.df.df (Av := fun _ => False) (show Rp _ _ _ (.str way) (.str way) from rfl)) (.cons (fm2.df.df rm2) (.cons (f0.df.df (Av := fun _ => False) (show Rp _ _ _ (.int 0) (.int 0) from rfl)) .nil))), sh_of fb fk fm2 f0⟩, ?_⟩
  have k2 : Same H H2 := fun a o e => by
    have ne : a ≠ l := fun z => by rw [z, hl] at e; cases e
    exact kp a o (fun z => ne (Option.some.inj z).symm) (by rw [upd_ne ne]; exact e)
  exact q _ H2 (.bl true) n (Kp.of k2) (S.grow k2) rfl h⟩
end
end Ax

/-! Md02: for the walk of _law_right. -/
namespace Ax
open PySem PySem.Spec PyProof.Rows L2 DL
theorem nodup_len {α : Type} [DecidableEq α] : ∀ {l m : List α}, l.Nodup → (∀ x ∈ l, x ∈ m) → l.length ≤ m.length
  | [], _, _, _ => Nat.zero_le _
  | x :: xs, m, h, s => by
    obtain ⟨h1, h2⟩ := List.nodup_cons.mp h
    have ih := nodup_len (m := m.erase x) h2 fun y hy => (List.mem_erase_of_ne (fun e => h1 (by rw [← e]; exact hy))).mpr (s y (List.mem_cons_of_mem _ hy))
    have hx := s x List.mem_cons_self
    rw [List.length_erase_of_mem hx] at ih
    have : 0 < m.length := List.length_pos_of_mem hx
    simp only [List.length_cons]
    omega
section
variable {b lim : Int} {way : Str} {ms fs : List Int}
theorem FOk.sub {ns : List Int} (R : FOk b way ms lim) (ne : ns ≠ []) (nd : ns.Nodup) (s : ∀ x ∈ ns, x ∈ ms) : FOk b way ns lim :=
  ⟨⟨R.ms.b2, R.ms.b16, ne, Nat.le_trans (nodup_len nd s) R.ms.len, fun h m => R.ms.hs h (s h m), nd, fun h m => R.ms.prim h (s h m)⟩, R.wk, R.l1, R.l100, R.cov⟩
theorem given_mem {r0 d0 : Nat} : ∀ x ∈ dd (ms.drop r0 ++ ms.take d0), x ∈ ms := fun x m => by
  rcases List.mem_append.mp (dd_mem m) with m | m
  · exact List.mem_of_mem_drop m
  · exact List.mem_of_mem_take m
theorem FOk.given (R : FOk b way ms lim) {r0 d0 : Nat} (h : r0 < ms.length) : FOk b way (dd (ms.drop r0 ++ ms.take d0)) lim := by
  refine R.sub (dd_ne fun e => ?_) (dd_nodup _) given_mem
  have := congrArg List.length e
  rw [List.length_append, List.length_drop] at this
  simp at this
  omega
theorem FOk.perm {ns : List Int} (R : FOk b way ms lim) (p : ns.Perm ms) : FOk b way ns lim :=
  R.sub (fun e => R.ms.ne (by subst e; exact p.nil_eq.symm)) (p.nodup_iff.mpr R.ms.nd) fun x m => p.mem_iff.mp m
theorem FOk.more (R : FOk b way ms lim) (h : lim ≤ 50) : FOk b way ms (lim + 1) :=
  ⟨R.ms, R.wk, by have := R.l1; omega, by omega, fun e => by have := R.cov e; omega⟩
theorem rep02 {r : RD} (R : FOk r.b r.way r.hs r.lim) : repOk (toPy (ruL r)) := by
  obtain ⟨h1, h2, h3, h4⟩ := scs R.heads
  obtain ⟨_, _, _, _, g2, g3, _⟩ := IsKind.sc R.wk
  have b2 := R.ms.b2
  have b16 := R.ms.b16
  have l1 := R.l1
  have l2 := R.l100
  have le := R.ms.len
  obtain ⟨_, _, _, s1, s2, _, _⟩ := Sc.int' (i := r.b) (by omega)
  obtain ⟨_, _, _, u1, u2, _, _⟩ := Sc.int' (i := r.lim) (by omega)
  obtain ⟨_, _, _, w1, w2, w3, _⟩ := IsKind.sc R.wk
  have hl : (iD r.hs).length = r.hs.length := List.length_map ..
  refine repOk_of ?_ ?_ ?_
  · show Shw (.tuple (toPys [.int r.b, .str r.way, .lst (iD r.hs), .int r.lim]))
    simp only [Shw, toPys, Shws]
    exact ⟨s1, w1, by simpa only [toPy, Shw] using h2, u1, trivial⟩
  · show rcost (.tuple (toPys [.int r.b, .str r.way, .lst (iD r.hs), .int r.lim])) ≤ _
    simp only [rcost, toPys, rcosts]
    have : rcost (toPy (.lst (iD r.hs))) ≤ 2002 * 16 + 2 := by
      simp only [toPy, rcost]
      omega
    omega
  · show PyData.depth (.tuple (toPys [.int r.b, .str r.way, .lst (iD r.hs), .int r.lim])) ≤ 20
    simp only [PyData.depth, toPys, PyData.depthAll, toPy, h4]
    omega
theorem eqv_self02 {r : RD} : PyData.eqv (toPy (ruL r)) (toPy (ruL r)) = true := by
  rw [show ruL r = .tup [.int r.b, .str r.way, .lst (r.hs.map D.int), .int r.lim] from rfl, eqv_rule2]
  simp
/-- what is drawn to compare with -/
theorem pick4 {way2 : Str} {ms2 ns : List Int} {lim2 : Int} {x : D} (R2 : FOk b way2 ms2 lim2) (R : FOk b way ns lim) (l : lim ≤ 50) (h : x ∈ ([ruD b way2 ms2 lim2, .tup [.int b, .str way, .lst (ns.map D.int), .int lim], .tup [.int b, .str way, .lst (ns.map D.int).reverse, .int lim], .tup [.int b, .str way, .lst (ns.map D.int), .int (lim + 1)]] : List D)) :
    ∃ (way3 : Str) (ms3 : List Int) (lim3 : Int), x = ruD b way3 ms3 lim3 ∧ FOk b way3 ms3 lim3 := by
  simp only [List.mem_cons, List.not_mem_nil, or_false] at h
  rcases h with rfl | rfl | rfl | rfl
  · exact ⟨_, _, _, rfl, R2⟩
  · exact ⟨_, _, _, rfl, R⟩
  · exact ⟨way, ns.reverse, lim, by rw [← List.map_reverse], R.perm (List.reverse_perm ns)⟩
  · exact ⟨_, _, _, rfl, R.more l⟩
theorem inD_ints {m : Int} : ∀ {l : List Int}, inD (.int m) (l.map D.int) = decide (m ∈ l)
  | [] => rfl
  | a :: l => by
    have ih := inD_ints (m := m) (l := l)
    unfold inD at ih ⊢
    simp only [List.map_cons, inV, List.any_cons] at ih ⊢
    rw [ih]
    by_cases h : m = a
    · subst h; simp [dV, eqV]
    · have h2 : ¬ a = m := fun e => h e.symm
      simp [dV, eqV, h, h2]
theorem flat_ints : ∀ {l : List Int}, (l.map D.int).all flat = true
  | [] => rfl
  | _ :: l => flat_ints (l := l)
/-- each once, as the comprehension makes it -/
theorem lc_dd {g : List Int} {t : D → Bool} {f : D → D} (ht : ∀ i : Nat, t (.int (0 + (i : Int))) = !(g.take i).contains (g.getD i 0)) (hf : ∀ i : Nat, f (.int (0 + (i : Int))) = .int (g.getD i 0)) : ((rangeD 0 g.length).filter t).map f = (dd g).map D.int := by
  rw [rangeD_eq]
  unfold dd
  exact lc_map (E := fun i : Nat => D.int (0 + (i : Int))) (F := D.int) (fun i : Nat => g.getD i 0) (fun i => !(g.take i).contains (g.getD i 0)) ht hf
theorem nl_rule {C : Addr} {r : RD} : nl (RD.d C r) = true := by
  show nls [.int r.b, .str r.way, .tup (r.hs.map D.int), .int r.lim] = true
  show (true && (true && (nls (r.hs.map D.int) && (true && true)))) = true
  rw [nls_ints]; rfl
theorem isPys_ints : ∀ {ns : List Int}, isPys (ns.map D.int) = true
  | [] => rfl
  | _ :: ns => isPys_ints (ns := ns)
theorem isPy_ru {r : RD} : isPy (ruL r) = true := by
  show (true && (true && (isPys (r.hs.map D.int) && (true && true)))) = true
  rw [isPys_ints]; rfl
/-- == and != of rules and of their fields -/
theorem same02 {r q : RD} : PyData.eqv (toPy (.bl (decide (r = q)))) (toPy (.bl (PyData.eqv (toPy (ruL q)) (toPy (ruL r))))) = true := by
  rw [show PyData.eqv (toPy (ruL q)) (toPy (ruL r)) = decide (q = r) from eqv_rule2]
  show (decide (r = q) == decide (q = r)) = true
  simp [eq_comm]
theorem diff02 {r q : RD} : PyData.eqv (toPy (.bl (!decide (r = q)))) (toPy (.bl (PyData.eqv (toPy (ruL q)) (toPy (ruL r))))) = false := by
  rw [show PyData.eqv (toPy (ruL q)) (toPy (ruL r)) = decide (q = r) from eqv_rule2]
  show ((!decide (r = q)) == decide (q = r)) = false
  by_cases h : r = q
  · subst h; simp
  · have h2 : ¬ q = r := fun e => h e.symm
    simp [h, h2]
end
end Ax

namespace Ax
open PySem PySem.Spec PyProof.Rows L2 DL
def top (i : Nat) : Stmt := PySem.Challenge.pw_axisticks_k02_rules_made.main.body.getD i (.Pass ⟨0, 0, 0, 0⟩)
section
variable {P : Program} {w : World} {K : PySem.W.Frag} {mg : Str → Option Value} {base : Heap} {CR : Addr}

abbrev s_is_whole : Stmt := top 6
abbrev names_is_whole : List Str := ["value"]
theorem sc_is_whole : FnScope names_is_whole ["value"] (defScope s_is_whole) := ⟨rfl, rfl, rfl, by decide +kernel, rfl, by decide +kernel, by decide +kernel⟩
theorem ok_is_whole {f : Addr} {fd : FuncData} (F : FunV K "is_whole" "is_whole" s_is_whole f fd)  (B : Bi mg) : FnOk P w K mg base CX0 (1) f fd ["value"] (spD K (sp_is_whole)) := by
  refine fnD F sc_is_whole (fun ds Φ h => by first | (obtain ⟨_, rfl, _⟩ := h; rfl) | (obtain ⟨_, _, rfl, _⟩ := h; rfl) | (obtain ⟨_, _, _, rfl, _⟩ := h; rfl) | (obtain ⟨_, _, _, _, rfl, _⟩ := h; rfl) | (obtain ⟨_, _, _, _, _, rfl, _⟩ := h; rfl) | (obtain ⟨_, _, _, _, _, _, rfl, _⟩ := h; rfl) | (obtain ⟨_, _, _, _, _, _, _, rfl, _⟩ := h; rfl) | (obtain ⟨_, _, _, _, _, _, _, _, rfl, _⟩ := h; rfl) | (obtain ⟨_, _, _, _, _, _, _, _, _, rfl, _⟩ := h; rfl) | (obtain ⟨_, _, _, _, _, _, _, _, _, _, rfl, _⟩ := h; rfl) | (obtain ⟨_, _, _, _, _, _, _, _, _, _, _, rfl, _⟩ := h; rfl) | (obtain ⟨_, _, _, _, _, _, _, _, _, _, _, _, rfl, _⟩ := h; rfl) | (obtain ⟨_, _, _, _, _, _, _, _, _, _, _, _, _, rfl, _⟩ := h; rfl)) fun cdv A outer s H E M ds Φ hr hpu h => ?_
  have nd := sc_is_whole.nd
  have hu64 := hr.units
  have hu1 := hu_of hr
  obtain ⟨d, rfl, ⟨k1, hk1⟩, k⟩ := h
  obtain ⟨k2, hk2⟩ := isTy_bool hk1
  refine wb_norm (δ' := [_]) rfl ?_
  refine wb_one ?_
  refine ws_ret ?_
  refine we_andJ ?_
  refine we_isinst "int" (by decide) (by decide +kernel) B.isinstance B.int rfl rfl ?_
  refine we_var 0 rfl ?_
  refine ⟨_, hk1, ?_⟩
  apply joinV
  ·
    intro hb1
    refine we_one ?_
    refine we_not ?_
    refine we_isinst "bool" (by decide) (by decide +kernel) B.isinstance B.bool rfl rfl ?_
    refine we_var 0 rfl ?_
    refine ⟨_, hk2, ?_⟩
    refine ⟨_, rfl, ?_⟩
    exact ⟨rfl, rfl⟩
  refine ⟨rfl, ?_⟩
  rw [whole_eq hk1 hk2] at k
  exact k

abbrev s_is_base : Stmt := top 7
abbrev names_is_base : List Str := ["value"]
theorem sc_is_base : FnScope names_is_base ["value"] (defScope s_is_base) := ⟨rfl, rfl, rfl, by decide +kernel, rfl, by decide +kernel, by decide +kernel⟩
theorem ok_is_base {f : Addr} {fd : FuncData} (F : FunV K "is_base" "is_base" s_is_base f fd) (G_is_whole : Fn P w K mg base "is_whole" ["value"] (1) (spD K (sp_is_whole)))  : FnOk P w K mg base CX0 (2) f fd ["value"] (spD K (sp_is_base)) := by
  refine fnD F sc_is_base (fun ds Φ h => by first | (obtain ⟨_, rfl, _⟩ := h; rfl) | (obtain ⟨_, _, rfl, _⟩ := h; rfl) | (obtain ⟨_, _, _, rfl, _⟩ := h; rfl) | (obtain ⟨_, _, _, _, rfl, _⟩ := h; rfl) | (obtain ⟨_, _, _, _, _, rfl, _⟩ := h; rfl) | (obtain ⟨_, _, _, _, _, _, rfl, _⟩ := h; rfl) | (obtain ⟨_, _, _, _, _, _, _, rfl, _⟩ := h; rfl) | (obtain ⟨_, _, _, _, _, _, _, _, rfl, _⟩ := h; rfl) | (obtain ⟨_, _, _, _, _, _, _, _, _, rfl, _⟩ := h; rfl) | (obtain ⟨_, _, _, _, _, _, _, _, _, _, rfl, _⟩ := h; rfl) | (obtain ⟨_, _, _, _, _, _, _, _, _, _, _, rfl, _⟩ := h; rfl) | (obtain ⟨_, _, _, _, _, _, _, _, _, _, _, _, rfl, _⟩ := h; rfl) | (obtain ⟨_, _, _, _, _, _, _, _, _, _, _, _, _, rfl, _⟩ := h; rfl)) fun cdv A outer s H E M ds Φ hr hpu h => ?_
  have nd := sc_is_base.nd
  have hu64 := hr.units
  have hu1 := hu_of hr
  obtain ⟨d, rfl, ⟨k1, hk1⟩, k⟩ := h
  refine wb_norm (δ' := [_]) rfl ?_
  refine wb_one ?_
  refine ws_ret ?_
  refine we_andJ ?_
  refine we_call G_is_whole (hr.mono (by decide)) rfl ?_
  refine wa_cons ?_
  refine we_var 0 rfl ?_
  refine wa_nil ?_
  refine ⟨by simpa using okEl_pure (hpu _ List.mem_cons_self), ?_⟩
  rw [List.map_cons, List.map_nil, frz_pure (hpu _ List.mem_cons_self)]
  refine ⟨_, rfl, ⟨_, hk1⟩, ?_⟩
  apply joinV (k2 := atLeast 2 d)
  ·
    intro hb1
    obtain ⟨i, rfl⟩ := whole_int hb1
    refine we_one ?_
    refine we_ge ?_
    refine we_var 0 rfl ?_
    refine we_int ?_
    exact ⟨rfl, rfl⟩
  refine ⟨rfl, ?_⟩
  exact k _ (by cases d <;> simp [whole, atLeast])

abbrev s_are_mantissas : Stmt := top 26
abbrev names_are_mantissas : List Str := ["base", "value", "one"]
theorem sc_are_mantissas : FnScope names_are_mantissas ["base", "value"] (defScope s_are_mantissas) := ⟨rfl, rfl, rfl, by decide +kernel, rfl, by decide +kernel, by decide +kernel⟩
theorem ok_are_mantissas {f : Addr} {fd : FuncData} (F : FunV K "are_mantissas" "are_mantissas" s_are_mantissas f fd) (G_is_whole : Fn P w K mg base "is_whole" ["value"] (1) (spD K (sp_is_whole))) (B : Bi mg) : FnOk P w K mg base CX0 (2) f fd ["base", "value"] (spD K (sp_are_mantissas)) := by
  refine fnD F sc_are_mantissas (fun ds Φ h => by first | (obtain ⟨_, rfl, _⟩ := h; rfl) | (obtain ⟨_, _, rfl, _⟩ := h; rfl) | (obtain ⟨_, _, _, rfl, _⟩ := h; rfl) | (obtain ⟨_, _, _, _, rfl, _⟩ := h; rfl) | (obtain ⟨_, _, _, _, _, rfl, _⟩ := h; rfl) | (obtain ⟨_, _, _, _, _, _, rfl, _⟩ := h; rfl) | (obtain ⟨_, _, _, _, _, _, _, rfl, _⟩ := h; rfl) | (obtain ⟨_, _, _, _, _, _, _, _, rfl, _⟩ := h; rfl) | (obtain ⟨_, _, _, _, _, _, _, _, _, rfl, _⟩ := h; rfl) | (obtain ⟨_, _, _, _, _, _, _, _, _, _, rfl, _⟩ := h; rfl) | (obtain ⟨_, _, _, _, _, _, _, _, _, _, _, rfl, _⟩ := h; rfl) | (obtain ⟨_, _, _, _, _, _, _, _, _, _, _, _, rfl, _⟩ := h; rfl) | (obtain ⟨_, _, _, _, _, _, _, _, _, _, _, _, _, rfl, _⟩ := h; rfl)) fun cdv A outer s H E M ds Φ hr hpu h => ?_
  have nd := sc_are_mantissas.nd
  have hu64 := hr.units
  have hu1 := hu_of hr
  obtain ⟨b, ms, rfl, mo, k⟩ := h
  have b2 := mo.b2
  have b16 := mo.b16
  refine wb_norm (δ' := [_, _, _]) rfl ?_
  refine wb_cons ?_
  refine ws_if ?_
  refine wt_bo ?_
  refine ww_or ?_
  refine wt_not ?_
  refine wt_val ?_
  refine we_isinst "list" (by decide) (by decide +kernel) B.isinstance B.list rfl rfl ?_
  refine we_var 1 rfl ?_
  refine ⟨true, rfl, ?_⟩
  refine ⟨_, rfl, ?_⟩
  refine ⟨fun hb1 => ?_, fun hb1 => absurd hb1 (by first | (intro h; cases h; done) | (simp; done) | decide)⟩
  refine ww_or ?_
  refine wt_eq hu64 ?_
  refine we_var 1 rfl ?_
  refine we_lst ?_
  refine wa_nil ?_
  refine ⟨rfl, Nat.le_of_ble_eq_true rfl, ?_⟩
  refine ⟨shaped_lst shp_ints, rfl, ?_⟩
  refine ⟨_, rfl, ?_⟩
  refine ⟨fun hb3 => ?_, fun hb3 => False.elim (by rw [List.map_nil, lst_nil] at hb3; exact mo.ne (of_decide_eq_true hb3))⟩
  refine ww_or1 ?_
  refine wt_ne hu64 ?_
  refine we_lc [2] (by decide) rfl nd (blkOk_by (N := names_are_mantissas) (sc := defScope s_are_mantissas) (own := [("one", 2)]) (by decide +kernel)) ?_
  refine lcPure (fun d => match d with | .int m => (!whole (.int m) || decide (m < 1)) | _ => false) (fun d => d) ?_
  refine wi_list ?_
  refine we_var 1 rfl ?_
  refine ⟨_, rfl, ?_⟩
  refine ⟨by rw [List.length_map]; have := mo.len; omega, fun i4 d4 hi4 s4 H4 C4 cl4 fp4 M4 => ?_, ?_⟩
  ·
    obtain ⟨m, hm, rfl⟩ := ints_at hi4
    refine wg_name 2 nd rfl ?_
    refine ⟨rfl, fun s4_2 H4_2 C4_2 cl4_2 fp4_2 M4_2 => ?_⟩
    refine wts_one ?_
    refine wt_bo ?_
    refine ww_orJ ?_
    refine wt_not ?_
    refine wt_val ?_
    refine we_call G_is_whole (hr.mono (by decide)) rfl ?_
    refine wa_cons ?_
    refine we_var 2 rfl ?_
    refine wa_nil ?_
    refine ⟨rfl, ?_⟩
    refine ⟨_, rfl, ⟨true, rfl⟩, ?_⟩
    refine ⟨_, rfl, ?_⟩
    apply joinT
    ·
      intro hb5
      refine ww_or1 ?_
      refine wt_lt ?_
      refine we_var 2 rfl ?_
      refine we_int ?_
      refine ⟨_, rfl, ?_⟩
      exact ⟨rfl, rfl⟩
    refine ⟨rfl, rfl, fun hb4 s4_3 H4_3 C4_3 cl4_3 fp4_3 M4_3 => ?_⟩
    refine we_var 2 rfl ?_
    exact ⟨rfl, rfl, rfl⟩
  rw [none_ints (ns := ms) fun m hm => by have := mo.hs m hm; simp [whole]; omega]
  refine we_lst ?_
  refine wa_nil ?_
  refine ⟨rfl, Nat.le_of_ble_eq_true rfl, ?_⟩
  refine ⟨rfl, rfl, ?_⟩
  refine ⟨_, rfl, ?_⟩
  refine ⟨fun hc7 => absurd hc7 (by first | (intro h; cases h; done) | (simp; done) | decide), fun hc7 => ?_⟩
  refine wb_norm (δ' := [_, _, _]) rfl ?_
  refine wb_nil ?_
  refine wb_norm (δ' := [_, _, _]) rfl ?_
  refine wb_cons ?_
  refine ws_if ?_
  refine wt_ne hu64 ?_
  refine we_lc [2] (by decide) rfl nd (blkOk_by (N := names_are_mantissas) (sc := defScope s_are_mantissas) (own := [("one", 2)]) (by decide +kernel)) ?_
  refine lcPure (fun d => match d with | .int m => decide (m - m / b * b = 0) | _ => false) (fun d => d) ?_
  refine wi_list ?_
  refine we_var 1 rfl ?_
  refine ⟨_, rfl, ?_⟩
  refine ⟨by rw [List.length_map]; have := mo.len; omega, fun i8 d8 hi8 s8 H8 C8 cl8 fp8 M8 => ?_, ?_⟩
  ·
    obtain ⟨m, hm, rfl⟩ := ints_at hi8
    have mh := mo.hs m hm
    refine wg_name 2 nd rfl ?_
    refine ⟨rfl, fun s8_2 H8_2 C8_2 cl8_2 fp8_2 M8_2 => ?_⟩
    refine wts_one ?_
    refine wt_eq hu64 ?_
    refine we_sub ?_
    refine we_var 2 rfl ?_
    refine we_mul ?_
    refine we_fdiv ?_
    refine we_var 2 rfl ?_
    refine we_var 0 rfl ?_
    refine ⟨(Bd.small (k := 5) 17 (by omega) (by decide)).cdiv (by omega) (by decide), ?_⟩
    refine we_var 0 rfl ?_
    refine ⟨((Bd.small (k := 10) 1001 (by omega) (by decide)).div (by omega)).cmul (Bd.small (k := 5) 17 (by omega) (by decide)) (by decide), ?_⟩
    refine we_int ?_
    refine ⟨_, rfl, ?_⟩
    refine ⟨rfl, rfl, fun hb8 s8_3 H8_3 C8_3 cl8_3 fp8_3 M8_3 => ?_⟩
    refine we_var 2 rfl ?_
    exact ⟨rfl, rfl, rfl⟩
  rw [none_ints (ns := ms) fun m hm => by have := mo.prim m hm; rw [Int.emod_def] at this; rw [Int.mul_comm] at this; simpa using this]
  refine we_lst ?_
  refine wa_nil ?_
  refine ⟨rfl, Nat.le_of_ble_eq_true rfl, ?_⟩
  refine ⟨rfl, rfl, ?_⟩
  refine ⟨_, rfl, ?_⟩
  refine ⟨fun hc9 => absurd hc9 (by first | (intro h; cases h; done) | (simp; done) | decide), fun hc9 => ?_⟩
  refine wb_norm (δ' := [_, _, _]) rfl ?_
  refine wb_nil ?_
  refine wb_norm (δ' := [_, _, _]) rfl ?_
  refine wb_one ?_
  refine ws_ret ?_
  refine we_eq hu64 ?_
  refine we_lenSet B.len B.set rfl rfl rfl ?_
  refine we_var 1 rfl ?_
  refine ⟨_, rfl, mo.nd, by have := mo.len; omega, ?_⟩
  refine we_len B.len rfl ?_
  refine wa_cons ?_
  refine we_var 1 rfl ?_
  refine wa_nil ?_
  refine ⟨_, _, rfl, rfl, ?_⟩
  refine ⟨rfl, ?_⟩
  rw [List.length_map]
  rw [← decide_eq_true (rfl : (ms.length : Int) = ms.length)] at k
  exact k

abbrev s_are_fields : Stmt := top 27
abbrev names_are_fields : List Str := ["base", "kind", "mantissas", "most"]
theorem sc_are_fields : FnScope names_are_fields ["base", "kind", "mantissas", "most"] (defScope s_are_fields) := ⟨rfl, rfl, rfl, by decide +kernel, rfl, by decide +kernel, by decide +kernel⟩
theorem ok_are_fields {f : Addr} {fd : FuncData} (F : FunV K "are_fields" "are_fields" s_are_fields f fd) (G_is_whole : Fn P w K mg base "is_whole" ["value"] (1) (spD K (sp_is_whole))) (G_is_base : Fn P w K mg base "is_base" ["value"] (2) (spD K (sp_is_base))) (G_are_mantissas : Fn P w K mg base "are_mantissas" ["base", "value"] (2) (spD K (sp_are_mantissas))) (B : Bi mg) (T : Txt K mg CR) : FnOk P w K mg base CX0 (3) f fd ["base", "kind", "mantissas", "most"] (spD K (sp_are_fields)) := by
  refine fnD F sc_are_fields (fun ds Φ h => by first | (obtain ⟨_, rfl, _⟩ := h; rfl) | (obtain ⟨_, _, rfl, _⟩ := h; rfl) | (obtain ⟨_, _, _, rfl, _⟩ := h; rfl) | (obtain ⟨_, _, _, _, rfl, _⟩ := h; rfl) | (obtain ⟨_, _, _, _, _, rfl, _⟩ := h; rfl) | (obtain ⟨_, _, _, _, _, _, rfl, _⟩ := h; rfl) | (obtain ⟨_, _, _, _, _, _, _, rfl, _⟩ := h; rfl) | (obtain ⟨_, _, _, _, _, _, _, _, rfl, _⟩ := h; rfl) | (obtain ⟨_, _, _, _, _, _, _, _, _, rfl, _⟩ := h; rfl) | (obtain ⟨_, _, _, _, _, _, _, _, _, _, rfl, _⟩ := h; rfl) | (obtain ⟨_, _, _, _, _, _, _, _, _, _, _, rfl, _⟩ := h; rfl) | (obtain ⟨_, _, _, _, _, _, _, _, _, _, _, _, rfl, _⟩ := h; rfl) | (obtain ⟨_, _, _, _, _, _, _, _, _, _, _, _, _, rfl, _⟩ := h; rfl)) fun cdv A outer s H E M ds Φ hr hpu h => ?_
  have nd := sc_are_fields.nd
  have hu64 := hr.units
  have hu1 := hu_of hr
  obtain ⟨b, way, ms, lim, rfl, fo, k⟩ := h
  have mo := fo.ms
  have l1 := fo.l1
  refine wb_norm (δ' := [_, _, _, _]) rfl ?_
  refine wb_cons ?_
  refine ws_if ?_
  refine wt_bo ?_
  refine ww_or ?_
  refine wt_not ?_
  refine wt_val ?_
  refine we_call G_is_base (hr.mono (by decide)) rfl ?_
  refine wa_cons ?_
  refine we_var 0 rfl ?_
  refine wa_nil ?_
  refine ⟨rfl, ?_⟩
  refine ⟨_, rfl, ⟨_, rfl⟩, fun bb hbb => ?_⟩
  obtain rfl : bb = true := hbb.mpr ⟨_, rfl, mo.b2⟩
  refine ⟨_, rfl, ?_⟩
  refine ⟨fun hb1 => ?_, fun hb1 => absurd hb1 (by first | (intro h; cases h; done) | (simp; done) | decide)⟩
  refine ww_or ?_
  refine wt_not ?_
  refine wt_val ?_
  refine we_isinst "str" (by decide) (by decide +kernel) B.isinstance B.str rfl rfl ?_
  refine we_var 1 rfl ?_
  refine ⟨true, rfl, ?_⟩
  refine ⟨_, rfl, ?_⟩
  refine ⟨fun hb3 => ?_, fun hb3 => absurd hb3 (by first | (intro h; cases h; done) | (simp; done) | decide)⟩
  refine ww_or ?_
  refine wt_notin ?_
  refine we_var 1 rfl ?_
  refine we_glob T.KINDS rfl ?_
  refine ⟨_, rfl, rfl, rfl, ?_⟩
  refine ⟨_, rfl, ?_⟩
  refine ⟨fun hb5 => ?_, fun hb5 => False.elim (by rcases fo.wk with e | e | e <;> (subst e; cases hb5))⟩
  refine ww_or1 ?_
  refine wt_not ?_
  refine wt_val ?_
  refine we_call G_are_mantissas (hr.mono (by decide)) rfl ?_
  refine wa_cons ?_
  refine we_var 0 rfl ?_
  refine wa_cons ?_
  refine we_var 2 rfl ?_
  refine wa_nil ?_
  refine ⟨rfl, ?_⟩
  refine ⟨_, ms, rfl, mo, ?_⟩
  refine ⟨_, rfl, ?_⟩
  refine ⟨fun hc7 => absurd hc7 (by first | (intro h; cases h; done) | (simp; done) | decide), fun hc7 => ?_⟩
  refine wb_norm (δ' := [_, _, _, _]) rfl ?_
  refine wb_nil ?_
  refine wb_norm (δ' := [_, _, _, _]) rfl ?_
  refine wb_one ?_
  refine ws_ret ?_
  refine we_andJ ?_
  refine we_call G_is_whole (hr.mono (by decide)) rfl ?_
  refine wa_cons ?_
  refine we_var 3 rfl ?_
  refine wa_nil ?_
  refine ⟨rfl, ?_⟩
  refine ⟨_, rfl, ⟨true, rfl⟩, ?_⟩
  apply joinV
  ·
    intro hb8
    refine we_one ?_
    refine we_ge ?_
    refine we_var 3 rfl ?_
    refine we_add ?_
    refine we_int ?_
    refine we_toInt B.int rfl ?_
    refine wa_cons ?_
    refine we_eq hu64 ?_
    refine we_var 1 rfl ?_
    refine we_str ?_
    refine wa_nil ?_
    refine Or.inr ⟨_, rfl, ?_⟩
    exact ⟨rfl, rfl⟩
  refine ⟨rfl, ?_⟩
  have e : (whole (.int lim) && decide (1 + (if decide (way = "cover") = true then 1 else 0) ≤ lim)) = true := by
    by_cases c : way = "cover"
    · have := fo.cov c
      simp [whole, c]; omega
    · simp [whole, c]; omega
  rw [← e] at k
  exact k

abbrev s_Rule___init__ : Stmt := inClass (top 29) 0
abbrev names_Rule___init__ : List Str := ["self", "base", "kind", "mantissas", "most", "one"]
theorem sc_Rule___init__ : FnScope names_Rule___init__ ["self", "base", "kind", "mantissas", "most"] (defScope s_Rule___init__) := ⟨rfl, rfl, rfl, by decide +kernel, rfl, by decide +kernel, by decide +kernel⟩
theorem ok_Rule___init__ {f : Addr} {fd : FuncData} (F : FunV K "__init__" "Rule.__init__" s_Rule___init__ f fd) (G_are_fields : Fn P w K mg base "are_fields" ["base", "kind", "mantissas", "most"] (3) (spD K (sp_are_fields))) (B : Bi mg) (T : Txt K mg CR) : FnOk P w K mg base CX0 (4) f fd ["self", "base", "kind", "mantissas", "most"] (spI K CR (sp_Rule___init__)) := by
  refine fnI F sc_Rule___init__ (fun ds Φ h => by first | (obtain ⟨_, rfl, _⟩ := h; rfl) | (obtain ⟨_, _, rfl, _⟩ := h; rfl) | (obtain ⟨_, _, _, rfl, _⟩ := h; rfl) | (obtain ⟨_, _, _, _, rfl, _⟩ := h; rfl) | (obtain ⟨_, _, _, _, _, rfl, _⟩ := h; rfl) | (obtain ⟨_, _, _, _, _, _, rfl, _⟩ := h; rfl) | (obtain ⟨_, _, _, _, _, _, _, rfl, _⟩ := h; rfl) | (obtain ⟨_, _, _, _, _, _, _, _, rfl, _⟩ := h; rfl) | (obtain ⟨_, _, _, _, _, _, _, _, _, rfl, _⟩ := h; rfl) | (obtain ⟨_, _, _, _, _, _, _, _, _, _, rfl, _⟩ := h; rfl) | (obtain ⟨_, _, _, _, _, _, _, _, _, _, _, rfl, _⟩ := h; rfl) | (obtain ⟨_, _, _, _, _, _, _, _, _, _, _, _, rfl, _⟩ := h; rfl) | (obtain ⟨_, _, _, _, _, _, _, _, _, _, _, _, _, rfl, _⟩ := h; rfl)) fun cdv A outer s H E M q0 dx ds Φ hr hpu h => ?_
  have nd := sc_Rule___init__.nd
  have hu64 := hr.units
  have hu1 := hu_of hr
  obtain ⟨b, way, ms, lim, rfl, fo, k⟩ := h
  refine wb_norm (δ' := [_, _, _, _, _, _]) rfl ?_
  refine wb_cons ?_
  refine ws_if ?_
  refine wt_not ?_
  refine wt_val ?_
  refine we_call G_are_fields (hr.mono (by decide)) rfl ?_
  refine wa_cons ?_
  refine we_var 1 rfl ?_
  refine wa_cons ?_
  refine we_var 2 rfl ?_
  refine wa_cons ?_
  refine we_var 3 rfl ?_
  refine wa_cons ?_
  refine we_var 4 rfl ?_
  refine wa_nil ?_
  refine ⟨rfl, ?_⟩
  refine ⟨_, _, ms, _, rfl, fo, ?_⟩
  refine ⟨_, rfl, ?_⟩
  refine ⟨fun hc2 => absurd hc2 (by first | (intro h; cases h; done) | (simp; done) | decide), fun hc2 => ?_⟩
  refine wb_norm (δ' := [_, _, _, _, _, _]) rfl ?_
  refine wb_nil ?_
  refine wb_norm (δ' := [_, _, _, _, _, _]) rfl ?_
  refine wb_cons ?_
  refine ws_init 0 T.Rule.cl T.Rule.n_ground (by decide +kernel) (by decide) rfl ?_
  refine we_var 1 rfl ?_
  refine ⟨rfl, ?_⟩
  refine wb_norm (δ' := [_, _, _, _, _, _]) rfl ?_
  refine wb_cons ?_
  refine ws_init 0 T.Rule.cl T.Rule.n_way (by decide +kernel) (by decide) rfl ?_
  refine we_var 2 rfl ?_
  refine ⟨rfl, ?_⟩
  refine wb_norm (δ' := [_, _, _, _, _, _]) rfl ?_
  refine wb_cons ?_
  refine ws_init 0 T.Rule.cl T.Rule.n_heads (by decide +kernel) (by decide) rfl ?_
  refine we_toTuple B.tuple rfl ?_
  refine wa_cons ?_
  refine we_sorted B.sorted rfl ?_
  refine wa_cons ?_
  refine we_lc [5] (by decide) rfl nd (blkOk_by (N := names_Rule___init__) (sc := defScope s_Rule___init__) (own := [("one", 5)]) (by decide +kernel)) ?_
  refine lcPure (fun _ => true) (fun d => d) ?_
  refine wi_list ?_
  refine we_var 3 rfl ?_
  refine ⟨_, rfl, ?_⟩
  refine ⟨by rw [List.length_map]; have := fo.ms.len; omega, fun i5 d5 hi5 s5 H5 C5 cl5 fp5 M5 => ?_, ?_⟩
  ·
    obtain ⟨m, hm, rfl⟩ := ints_at hi5
    refine wg_name 5 nd rfl ?_
    refine ⟨rfl, fun s5_2 H5_2 C5_2 cl5_2 fp5_2 M5_2 => ?_⟩
    refine wts_nil ?_
    refine ⟨rfl, rfl, fun hb5 s5_3 H5_3 C5_3 cl5_3 fp5_3 M5_3 => ?_⟩
    refine we_toInt B.int rfl ?_
    refine wa_cons ?_
    refine we_var 5 rfl ?_
    refine wa_nil ?_
    refine Or.inl ⟨_, rfl, ?_⟩
    exact ⟨rfl, rfl, rfl⟩
  rw [all_ints (ns := ms) fun m => rfl]
  refine wa_nil ?_
  refine ⟨_, ms, rfl, rfl, fun ns pm pw => ?_⟩
  refine wa_nil ?_
  refine ⟨_, _, rfl, rfl, ?_⟩
  refine ⟨rfl, ?_⟩
  refine wb_norm (δ' := [_, _, _, _, _, _]) rfl ?_
  refine wb_one ?_
  refine ws_init 0 T.Rule.cl T.Rule.n_limit (by decide +kernel) (by decide) rfl ?_
  refine we_var 4 rfl ?_
  refine ⟨rfl, ?_⟩
  exact ⟨_, _, rfl, k ns pm pw⟩

theorem okF_are_mantissas {f : Addr} {fd : FuncData} (F : FunV K "are_mantissas" "are_mantissas" s_are_mantissas f fd) (G_is_whole : Fn P w K mg base "is_whole" ["value"] (1) (spD K (sp_is_whole))) (B : Bi mg) : FnOk P w K mg base CX0 (2) f fd ["base", "value"] (spD K (sp_are_mantissasF)) := by
  refine fnD F sc_are_mantissas (fun ds Φ h => by obtain ⟨_, _, rfl, _⟩ := h; rfl) fun cdv A outer s H E M ds Φ hr hpu h => ?_
  have nd := sc_are_mantissas.nd
  have hu64 := hr.units
  have hu1 := hu_of hr
  obtain ⟨b, m, rfl, b2, b16, hm, k⟩ := h
  rcases hm with hm | ⟨ys, rfl, hl, hk, hc⟩
  ·
    refine wb_norm (δ' := [_, _, _]) rfl ?_
    refine wb_cons ?_
    refine ws_if ?_
    refine wt_bo ?_
    refine ww_or ?_
    refine wt_not ?_
    refine wt_val ?_
    refine we_isinstX "list" (by decide) (by decide +kernel) B.isinstance B.list rfl rfl ?_
    refine we_var 1 rfl ?_
    refine ⟨false, hm, ?_⟩
    refine ⟨_, rfl, ?_⟩
    refine ⟨(fun z => by cases z), fun _ => ?_⟩
    refine ⟨fun _ => ?_, fun z => by cases z⟩
    refine wb_one ?_
    refine ws_ret ?_
    refine we_bl ?_
    exact ⟨rfl, k⟩
  ·
    refine wb_norm (δ' := [_, _, _]) rfl ?_
    refine wb_cons ?_
    refine ws_if ?_
    refine wt_bo ?_
    refine ww_or ?_
    refine wt_not ?_
    refine wt_val ?_
    refine we_isinstX "list" (by decide) (by decide +kernel) B.isinstance B.list rfl rfl ?_
    refine we_var 1 rfl ?_
    refine ⟨true, rfl, ?_⟩
    refine ⟨_, rfl, ?_⟩
    refine ⟨fun _ => ?_, fun z => by cases z⟩
    refine ww_or ?_
    refine wt_eqNil hu64 ?_
    refine we_var 1 rfl ?_
    refine we_lst ?_
    refine wa_nil ?_
    refine ⟨rfl, Nat.le_of_ble_eq_true rfl, ?_⟩
    refine ⟨ys, rfl, rfl, ?_⟩
    refine ⟨_, rfl, ?_⟩
    refine ⟨fun h0 => ?_, fun _ => ?_⟩
    rotate_left
    ·
      refine ⟨fun _ => ?_, fun z => by cases z⟩
      refine wb_one ?_
      refine ws_ret ?_
      refine we_bl ?_
      exact ⟨rfl, k⟩
    have h0 : ys.isEmpty = false := h0
    refine ww_or1 ?_
    refine wt_neNil hu64 ?_
    refine we_lc [2] (by decide) rfl nd (blkOk_by (N := names_are_mantissas) (sc := defScope s_are_mantissas) (own := [("one", 2)]) (by decide +kernel)) ?_
    refine lcPure lowW (fun d => d) ?_
    refine wi_list ?_
    refine we_var 1 rfl ?_
    refine ⟨_, rfl, ?_⟩
    refine ⟨by omega, fun i4 d4 hi4 s4 H4 C4 cl4 fp4 M4 => ?_, ?_⟩
    ·
      obtain ⟨p4, k4, hk4⟩ := kn_all hk hi4
      refine wg_name 2 nd p4 ?_
      refine ⟨rfl, fun s4_2 H4_2 C4_2 cl4_2 fp4_2 M4_2 => ?_⟩
      refine wts_one ?_
      refine wt_bo ?_
      refine ww_orJ ?_
      refine wt_not ?_
      refine wt_val ?_
      refine we_call G_is_whole (hr.mono (by decide)) rfl ?_
      refine wa_cons ?_
      refine we_var 2 rfl ?_
      refine wa_nil ?_
      refine ⟨by simpa using okEl_pure p4, ?_⟩
      rw [List.map_cons, List.map_nil, frz_pure p4]
      refine ⟨_, rfl, ⟨k4, hk4⟩, ?_⟩
      refine ⟨_, rfl, ?_⟩
      apply joinT (k2 := ltOne d4)
      ·
        intro hb5
        obtain ⟨i, rfl⟩ := whole_int (by simpa using hb5)
        refine ww_or1 ?_
        refine wt_lt ?_
        refine we_var 2 rfl ?_
        refine we_int ?_
        refine ⟨_, rfl, ?_⟩
        exact ⟨rfl, rfl⟩
      refine ⟨rfl, rfl, fun hb4 s4_3 H4_3 C4_3 cl4_3 fp4_3 M4_3 => ?_⟩
      refine we_var 2 rfl ?_
      exact ⟨rfl, okEl_pure p4, frz_pure p4⟩
    refine we_lst ?_
    refine wa_nil ?_
    refine ⟨rfl, Nat.le_of_ble_eq_true rfl, ?_⟩
    refine ⟨_, rfl, rfl, ?_⟩
    refine ⟨_, rfl, ?_⟩
    rw [List.map_id']
    refine ⟨fun hc7 => ?_, fun hc7 => ?_⟩
    ·
      refine wb_one ?_
      refine ws_ret ?_
      refine we_bl ?_
      exact ⟨rfl, k⟩
    have hlow := filter_none (t := lowW) (by simpa using hc7)
    obtain ⟨ns, rfl, hn, hw⟩ : ∃ ns : List Int, ys = ns.map D.int ∧ (∀ x ∈ ns, 1 ≤ x ∧ x ≤ 1000) ∧ ((∃ x ∈ ns, x % b = 0) ∨ ¬ ns.Nodup) := by
      rcases hc with rfl | ⟨y, my, hy⟩ | hc
      · cases h0
      · rw [hlow y my] at hy; cases hy
      · exact hc
    have hln : ns.length ≤ 200 := by rwa [List.length_map] at hl
    refine wb_norm (δ' := [_, _, _]) rfl ?_
    refine wb_nil ?_
    refine wb_norm (δ' := [_, _, _]) rfl ?_
    refine wb_cons ?_
    refine ws_if ?_
    refine wt_neNil hu64 ?_
    refine we_lc [2] (by decide) rfl nd (blkOk_by (N := names_are_mantissas) (sc := defScope s_are_mantissas) (own := [("one", 2)]) (by decide +kernel)) ?_
    refine lcPure (divB b) (fun d => d) ?_
    refine wi_list ?_
    refine we_var 1 rfl ?_
    refine ⟨_, rfl, ?_⟩
    refine ⟨by rw [List.length_map]; omega, fun i8 d8 hi8 s8 H8 C8 cl8 fp8 M8 => ?_, ?_⟩
    ·
      obtain ⟨m, hm, rfl⟩ := ints_at hi8
      have mh := hn m hm
      refine wg_name 2 nd rfl ?_
      refine ⟨rfl, fun s8_2 H8_2 C8_2 cl8_2 fp8_2 M8_2 => ?_⟩
      refine wts_one ?_
      refine wt_eq hu64 ?_
      refine we_sub ?_
      refine we_var 2 rfl ?_
      refine we_mul ?_
      refine we_fdiv ?_
      refine we_var 2 rfl ?_
      refine we_var 0 rfl ?_
      refine ⟨(Bd.small (k := 5) 17 (by omega) (by decide)).cdiv (by omega) (by decide), ?_⟩
      refine we_var 0 rfl ?_
      refine ⟨((Bd.small (k := 10) 1001 (by omega) (by decide)).div (by omega)).cmul (Bd.small (k := 5) 17 (by omega) (by decide)) (by decide), ?_⟩
      refine we_int ?_
      refine ⟨_, rfl, ?_⟩
      refine ⟨rfl, rfl, fun hb8 s8_3 H8_3 C8_3 cl8_3 fp8_3 M8_3 => ?_⟩
      refine we_var 2 rfl ?_
      exact ⟨rfl, rfl, rfl⟩
    refine we_lst ?_
    refine wa_nil ?_
    refine ⟨rfl, Nat.le_of_ble_eq_true rfl, ?_⟩
    refine ⟨_, rfl, rfl, ?_⟩
    refine ⟨_, rfl, ?_⟩
    rw [List.map_id']
    refine ⟨fun hc9 => ?_, fun hc9 => ?_⟩
    ·
      refine wb_one ?_
      refine ws_ret ?_
      refine we_bl ?_
      exact ⟨rfl, k⟩
    have hno := filter_none (ys := ns.map D.int) (t := divB b) (by simpa using hc9)
    have hdup : ¬ ns.Nodup := by
      rcases hw with ⟨x, mx, hx⟩ | hw
      · have z := hno (.int x) (List.mem_map_of_mem mx)
        exfalso
        rw [Int.emod_def, Int.mul_comm] at hx
        have z : decide (x - x / b * b = 0) = false := z
        exact of_decide_eq_false z hx
      · exact hw
    refine wb_norm (δ' := [_, _, _]) rfl ?_
    refine wb_nil ?_
    refine wb_norm (δ' := [_, _, _]) rfl ?_
    refine wb_one ?_
    refine ws_ret ?_
    refine we_eq hu64 ?_
    refine we_lenSetD B.len B.set rfl rfl rfl ?_
    refine we_var 1 rfl ?_
    refine ⟨ns, rfl, by omega, ?_⟩
    refine we_len B.len rfl ?_
    refine wa_cons ?_
    refine we_var 1 rfl ?_
    refine wa_nil ?_
    refine ⟨_, _, rfl, rfl, ?_⟩
    refine ⟨rfl, ?_⟩
    rw [List.length_map]
    have hd := RZ.distinct_ne hdup
    rw [← decide_eq_false (p := ((RZ.distinct ns).length : Int) = ns.length) (by omega)] at k
    exact k
  
theorem okF_are_fields {f : Addr} {fd : FuncData} (F : FunV K "are_fields" "are_fields" s_are_fields f fd) (G_is_whole : Fn P w K mg base "is_whole" ["value"] (1) (spD K (sp_is_whole))) (G_is_base : Fn P w K mg base "is_base" ["value"] (2) (spD K (sp_is_base))) (G_are_mantissas : Fn P w K mg base "are_mantissas" ["base", "value"] (2) (spD K (sp_are_mantissas))) (GF_are_mantissas : Fn P w K mg base "are_mantissas" ["base", "value"] (2) (spD K (sp_are_mantissasF))) (B : Bi mg) (T : Txt K mg CR) : FnOk P w K mg base CX0 (3) f fd ["base", "kind", "mantissas", "most"] (spD K (sp_are_fieldsF)) := by
  refine fnD F sc_are_fields (fun ds Φ h => by obtain ⟨_, _, _, _, rfl, _⟩ := h; rfl) fun cdv A outer s H E M ds Φ hr hpu h => ?_
  have nd := sc_are_fields.nd
  have hu64 := hr.units
  have hu1 := hu_of hr
  obtain ⟨b, q, m, l, rfl, un, k⟩ := h
  have pb := hpu b (by simp)
  have pq := hpu q (by simp)
  have pm := hpu m (by simp)
  have pl := hpu l (by simp)
  have tyb : ∃ t, isTy "int" b = some t := by
    cases un with
    | base h n => exact ⟨_, h⟩
    | kind h n => exact ⟨_, rfl⟩
    | mant h h2 w n => exact ⟨_, rfl⟩
    | most w h n => exact ⟨_, rfl⟩
  refine wb_norm (δ' := [_, _, _, _]) rfl ?_
  refine wb_cons ?_
  refine ws_if ?_
  refine wt_bo ?_
  refine ww_or ?_
  refine wt_not ?_
  refine wt_val ?_
  refine we_call G_is_base (hr.mono (by decide)) rfl ?_
  refine wa_cons ?_
  refine we_var 0 rfl ?_
  refine wa_nil ?_
  refine ⟨by simpa using okEl_pure pb, ?_⟩
  rw [List.map_cons, List.map_nil, frz_pure pb]
  refine ⟨_, rfl, tyb, fun bb hbb => ?_⟩
  refine ⟨_, rfl, ?_⟩
  refine ⟨fun hb => ?_, fun hb => ?_⟩
  rotate_left
  ·
    refine ⟨fun _ => ?_, fun z => by cases z⟩
    refine wb_one ?_
    refine ws_ret ?_
    refine we_bl ?_
    exact ⟨rfl, k⟩
  have hb : bb = true := by simpa using hb
  obtain ⟨b, rfl, b2⟩ := hbb.mp hb
  refine ww_or ?_
  refine wt_not ?_
  refine wt_val ?_
  refine we_isinstX "str" (by decide) (by decide +kernel) B.isinstance B.str rfl rfl ?_
  refine we_var 1 rfl ?_
  have tyq : (isTyX "str" q = some false ∧ NoKind q) ∨ ∃ x : Str, q = .str x := by
    cases un with
    | base h n => exact absurd b2 (by have := n b rfl; omega)
    | kind h n =>
      rcases n with n | ⟨x, e, _⟩
      · exact .inl ⟨n, .inl n⟩
      · exact .inr ⟨x, e⟩
    | mant h h2 w n => exact .inr ⟨_, rfl⟩
    | most w h n => exact .inr ⟨_, rfl⟩
  rcases tyq with ⟨tq, _⟩ | ⟨x, rfl⟩
  ·
    refine ⟨false, tq, ?_⟩
    refine ⟨_, rfl, ?_⟩
    refine ⟨(fun z => by cases z), fun _ => ?_⟩
    refine ⟨fun _ => ?_, fun z => by cases z⟩
    refine wb_one ?_
    refine ws_ret ?_
    refine we_bl ?_
    exact ⟨rfl, k⟩
  refine ⟨true, rfl, ?_⟩
  refine ⟨_, rfl, ?_⟩
  refine ⟨fun _ => ?_, fun z => by cases z⟩
  refine ww_or ?_
  refine wt_notin ?_
  refine we_var 1 rfl ?_
  refine we_glob T.KINDS rfl ?_
  refine ⟨_, rfl, rfl, rfl, ?_⟩
  refine ⟨_, rfl, ?_⟩
  refine ⟨fun hk => ?_, fun hk => ?_⟩
  rotate_left
  ·
    refine ⟨fun _ => ?_, fun z => by cases z⟩
    refine wb_one ?_
    refine ws_ret ?_
    refine we_bl ?_
    exact ⟨rfl, k⟩
  have wk : IsKind x := kind_of hk
  have un2 : NoMs b m ∧ b ≤ 16 ∨ ∃ ms : List Int, m = .lst (ms.map D.int) ∧ MsOk b ms ∧ NoMost x l := by
    cases un with
    | base h n => exact absurd b2 (by have := n b rfl; omega)
    | kind h n =>
      exfalso
      rcases n with n | ⟨y, e, n1, n2, n3⟩
      · cases n
      · cases e
        rcases wk with z | z | z
        · exact n1 z
        · exact n2 z
        · exact n3 z
    | mant h h2 w n => exact .inl ⟨n, h2⟩
    | most w h n => exact .inr ⟨_, rfl, h, n⟩
  refine ww_or1 ?_
  refine wt_not ?_
  refine wt_val ?_
  rcases un2 with ⟨nm, b16⟩ | ⟨ms, rfl, mo, nl⟩
  ·
    refine we_call GF_are_mantissas (hr.mono (by decide)) rfl ?_
    refine wa_cons ?_
    refine we_var 0 rfl ?_
    refine wa_cons ?_
    refine we_var 2 rfl ?_
    refine wa_nil ?_
    refine ⟨by rw [List.all_cons, List.all_cons, okEl_pure pm]; rfl, ?_⟩
    rw [List.map_cons, List.map_cons, List.map_nil, frz_pure pm]
    refine ⟨_, _, rfl, b2, b16, nm, ?_⟩
    refine ⟨_, rfl, ?_⟩
    refine ⟨fun _ => ?_, fun z => by cases z⟩
    refine wb_one ?_
    refine ws_ret ?_
    refine we_bl ?_
    exact ⟨rfl, k⟩
  refine we_call G_are_mantissas (hr.mono (by decide)) rfl ?_
  refine wa_cons ?_
  refine we_var 0 rfl ?_
  refine wa_cons ?_
  refine we_var 2 rfl ?_
  refine wa_nil ?_
  refine ⟨rfl, ?_⟩
  refine ⟨_, ms, rfl, mo, ?_⟩
  refine ⟨_, rfl, ?_⟩
  refine ⟨(fun z => by cases z), fun _ => ?_⟩
  refine wb_norm (δ' := [_, _, _, _]) rfl ?_
  refine wb_nil ?_
  refine wb_norm (δ' := [_, _, _, _]) rfl ?_
  refine wb_one ?_
  refine ws_ret ?_
  refine we_andJ ?_
  refine we_call G_is_whole (hr.mono (by decide)) rfl ?_
  refine wa_cons ?_
  refine we_var 3 rfl ?_
  refine wa_nil ?_
  refine ⟨by simpa using okEl_pure pl, ?_⟩
  rw [List.map_cons, List.map_nil, frz_pure pl]
  refine ⟨_, rfl, nl.1, ?_⟩
  apply joinV (k2 := atLeast (1 + (if decide (x = "cover") = true then 1 else 0)) l)
  ·
    intro hb8
    obtain ⟨i, rfl⟩ := whole_int hb8
    refine we_one ?_
    refine we_ge ?_
    refine we_var 3 rfl ?_
    refine we_add ?_
    refine we_int ?_
    refine we_toInt B.int rfl ?_
    refine wa_cons ?_
    refine we_eq hu64 ?_
    refine we_var 1 rfl ?_
    refine we_str ?_
    refine wa_nil ?_
    refine Or.inr ⟨_, rfl, ?_⟩
    exact ⟨rfl, rfl⟩
  refine ⟨rfl, ?_⟩
  have e : (whole l && atLeast (1 + (if decide (x = "cover") = true then 1 else 0)) l) = false := most_no nl
  rw [← e] at k
  exact k

theorem okF_init {f : Addr} {fd : FuncData} {CI : Addr} (F : FunV K "__init__" "Rule.__init__" s_Rule___init__ f fd) (GF_are_fields : Fn P w K mg base "are_fields" ["base", "kind", "mantissas", "most"] (3) (spD K (sp_are_fieldsF))) (ME : ExM P w K mg base "InvalidRule" CI 1) : FnOk P w K mg base (L2.CX P w) (4) f fd ["self", "base", "kind", "mantissas", "most"] (spIR K CI) := by
  obtain ⟨oc, od, dV, kV, doc, pmo, an, cdv, ct, osl, rfl, lk, hcd⟩ := F.ex
  obtain ⟨fI, fdI, TO, iC, tI, F1, hbI, hmI⟩ := ME.ex
  refine fn_of lk hcd sc_Rule___init__ (fun vs H Q E h => by obtain ⟨a, M, b, k, m, l, us, rfl, _, h1, _⟩ := h; rw [List.length_cons, ← h1.length]; rfl) fun A outer s H vs Q E hr hsp => ?_
  obtain ⟨a, M, b, k, m, l, us, rfl, dom, h1, un, hE⟩ := hsp
  have hpu := rps_pure h1
  have pb := hpu b (by simp)
  have pk := hpu k (by simp)
  have pm := hpu m (by simp)
  have pl := hpu l (by simp)
  obtain ⟨vb, u1, rfl, rb, h2⟩ := id h1
  obtain ⟨vk, u2, rfl, rk, h3⟩ := h2
  obtain ⟨vm, u3, rfl, rm, h4⟩ := h3
  obtain ⟨vl, u4, rfl, rl, h5⟩ := h4
  obtain rfl : u4 = [] := h5
  have tk : L2.Takes (cxOf (L2.CX P w) P w K mg base names_Rule___init__ "Rule.__init__" (defScope s_Rule___init__) f cdv A outer s H E) (fun cls d _ H => E cls d H) := L2.takes_of rfl rfl rfl rfl
  have S : SlR ⟨cxOf (L2.CX P w) P w K mg base names_Rule___init__ "Rule.__init__" (defScope s_Rule___init__) f cdv A outer s H E, M, none⟩ (L2.start names_Rule___init__ [.ref a, vb, vk, vm, vl]) H [some (.raw (.ref a)), some b, some k, some m, some l, none] 0 := slr_start (ds := [.raw (.ref a), b, k, m, l]) dom ⟨_, _, rfl, rfl, h1⟩
  refine ⟨wB _ (defBody s_Rule___init__), pb_w, ?_⟩
  refine pb_to (pss_cons (ps_if pt_w pb_w pb_w) pb_w) ?_
  refine WT.run (c := ⟨_, M, none⟩) (Φ := fun q _ => q = true) ?_ _ H _ S fun q H2 n2 k2 S2 e => ?_
  · refine wt_not ?_
    refine wt_val ?_
    refine we_call GF_are_fields (hr.mono (by decide)) rfl ?_
    refine wa_cons ?_
    refine we_var 1 rfl ?_
    refine wa_cons ?_
    refine we_var 2 rfl ?_
    refine wa_cons ?_
    refine we_var 3 rfl ?_
    refine wa_cons ?_
    refine we_var 4 rfl ?_
    refine wa_nil ?_
    refine ⟨by rw [List.all_cons, List.all_cons, List.all_cons, List.all_cons, okEl_pure pb, okEl_pure pk, okEl_pure pm, okEl_pure pl]; rfl, ?_⟩
    rw [List.map_cons, List.map_cons, List.map_cons, List.map_cons, List.map_nil, frz_pure pb, frz_pure pk, frz_pure pm, frz_pure pl]
    exact ⟨_, _, _, _, rfl, un, _, rfl, rfl⟩
  subst e
  refine iteT ?_
  refine pb_to (pss_cons (ps_raise rfl tk (pmk_oex (x := "InvalidRule") TO iC tI F1 (hr.mono (by decide)) hbI .nil pass0 rfl hmI (pa_cons (pe_tup (pa_cons (pv 1) (pa_cons (pv 2) (pa_cons (pv 3) (pa_cons (pv 4) pa_nil rfl) rfl) rfl) rfl)) pa_nil rfl))) pb_w) ?_
  refine ⟨vb, rfl, vk, rfl, vm, rfl, vl, rfl, (by show 4 ≤ sizeLine; rw [sizeLine_eq]; decide), fun t ht => ⟨(by show 1 ≤ 1000; decide), fun e he => ⟨e, .ref t, rfl, upd_same, fun dx hdx ne => ?_⟩⟩⟩
  have hdt : L2.upd H2 t (.tup [vb, vk, vm, vl]) dx = none := by rwa [upd_ne ne] at hdx
  have ntd : t ≠ dx := fun z => by rw [← z, upd_same] at hdt; cases hdt
  have hd2 : H2 dx = none := by rwa [upd_ne (Ne.symm ntd)] at hdt
  have same : ∀ y u, L2.upd H2 t (.tup [vb, vk, vm, vl]) y = some u → L2.upd (L2.del (L2.upd (L2.upd (L2.upd (L2.upd H2 t (.tup [vb, vk, vm, vl])) e (exo e CI none)) dx (exd dx [("value", .ref t)])) e (exo e CI (some dx))) e) dx (.xd [("value", .ref t)]) y = some u := fun y u q => by
    have n1 : y ≠ dx := ne_of_none q hdt
    have n2 : y ≠ e := ne_of_none q he
    rw [upd_ne n1, del_ne n2, upd_ne n2, upd_ne n1, upd_ne n2]
    exact q
  have old : ∀ y, H2 y = none → H y = none := fun y z => by
    cases q : H y with
    | none => rfl
    | some u => rw [k2 y u (fun w => nomatch w) q] at z; cases z
  refine ⟨rfl, dx, [("value", .ref t)], upd_same, by rw [upd_ne ne]; exact upd_same, hdt, ?_⟩
  exact hE dx t _ (fun y u q => same y u (by rw [upd_ne (ne_of_none (k2 y u (fun w => nomatch w) q) ht)]; exact k2 y u (fun w => nomatch w) q)) (old dx hd2) (old t ht) ntd upd_same (same t _ upd_same)

abbrev s_Rule_base : Stmt := inClass (top 29) 1
abbrev names_Rule_base : List Str := ["self"]
theorem sc_Rule_base : FnScope names_Rule_base ["self"] (defScope s_Rule_base) := ⟨rfl, rfl, rfl, by decide +kernel, rfl, by decide +kernel, by decide +kernel⟩
theorem ok_Rule_base {f : Addr} {fd : FuncData} (F : FunV K "base" "Rule.base" s_Rule_base f fd)  (T : Txt K mg CR) : FnOk P w K mg base CX0 (1) f fd ["self"] (spD K (sp_Rule_base CR)) := by
  refine fnD F sc_Rule_base (fun ds Φ h => by first | (obtain ⟨_, rfl, _⟩ := h; rfl) | (obtain ⟨_, _, rfl, _⟩ := h; rfl) | (obtain ⟨_, _, _, rfl, _⟩ := h; rfl) | (obtain ⟨_, _, _, _, rfl, _⟩ := h; rfl) | (obtain ⟨_, _, _, _, _, rfl, _⟩ := h; rfl) | (obtain ⟨_, _, _, _, _, _, rfl, _⟩ := h; rfl) | (obtain ⟨_, _, _, _, _, _, _, rfl, _⟩ := h; rfl) | (obtain ⟨_, _, _, _, _, _, _, _, rfl, _⟩ := h; rfl) | (obtain ⟨_, _, _, _, _, _, _, _, _, rfl, _⟩ := h; rfl) | (obtain ⟨_, _, _, _, _, _, _, _, _, _, rfl, _⟩ := h; rfl) | (obtain ⟨_, _, _, _, _, _, _, _, _, _, _, rfl, _⟩ := h; rfl) | (obtain ⟨_, _, _, _, _, _, _, _, _, _, _, _, rfl, _⟩ := h; rfl) | (obtain ⟨_, _, _, _, _, _, _, _, _, _, _, _, _, rfl, _⟩ := h; rfl)) fun cdv A outer s H E M ds Φ hr hpu h => ?_
  have nd := sc_Rule_base.nd
  have hu64 := hr.units
  have hu1 := hu_of hr
  obtain ⟨r, rfl, k⟩ := h
  refine wb_norm (δ' := [_]) rfl ?_
  refine wb_one ?_
  refine ws_ret ?_
  refine we_fld (ns := nsR) 0 T.Rule.cl T.Rule.n_ground (by decide +kernel) ?_
  refine we_var 0 rfl ?_
  refine ⟨_, _, rfl, rfl, ?_⟩
  refine ⟨rfl, ?_⟩
  exact k

abbrev s_Rule_kind : Stmt := inClass (top 29) 2
abbrev names_Rule_kind : List Str := ["self"]
theorem sc_Rule_kind : FnScope names_Rule_kind ["self"] (defScope s_Rule_kind) := ⟨rfl, rfl, rfl, by decide +kernel, rfl, by decide +kernel, by decide +kernel⟩
theorem ok_Rule_kind {f : Addr} {fd : FuncData} (F : FunV K "kind" "Rule.kind" s_Rule_kind f fd)  (T : Txt K mg CR) : FnOk P w K mg base CX0 (1) f fd ["self"] (spD K (sp_Rule_kind CR)) := by
  refine fnD F sc_Rule_kind (fun ds Φ h => by first | (obtain ⟨_, rfl, _⟩ := h; rfl) | (obtain ⟨_, _, rfl, _⟩ := h; rfl) | (obtain ⟨_, _, _, rfl, _⟩ := h; rfl) | (obtain ⟨_, _, _, _, rfl, _⟩ := h; rfl) | (obtain ⟨_, _, _, _, _, rfl, _⟩ := h; rfl) | (obtain ⟨_, _, _, _, _, _, rfl, _⟩ := h; rfl) | (obtain ⟨_, _, _, _, _, _, _, rfl, _⟩ := h; rfl) | (obtain ⟨_, _, _, _, _, _, _, _, rfl, _⟩ := h; rfl) | (obtain ⟨_, _, _, _, _, _, _, _, _, rfl, _⟩ := h; rfl) | (obtain ⟨_, _, _, _, _, _, _, _, _, _, rfl, _⟩ := h; rfl) | (obtain ⟨_, _, _, _, _, _, _, _, _, _, _, rfl, _⟩ := h; rfl) | (obtain ⟨_, _, _, _, _, _, _, _, _, _, _, _, rfl, _⟩ := h; rfl) | (obtain ⟨_, _, _, _, _, _, _, _, _, _, _, _, _, rfl, _⟩ := h; rfl)) fun cdv A outer s H E M ds Φ hr hpu h => ?_
  have nd := sc_Rule_kind.nd
  have hu64 := hr.units
  have hu1 := hu_of hr
  obtain ⟨r, rfl, k⟩ := h
  refine wb_norm (δ' := [_]) rfl ?_
  refine wb_one ?_
  refine ws_ret ?_
  refine we_fld (ns := nsR) 1 T.Rule.cl T.Rule.n_way (by decide +kernel) ?_
  refine we_var 0 rfl ?_
  refine ⟨_, _, rfl, rfl, ?_⟩
  refine ⟨rfl, ?_⟩
  exact k

abbrev s_Rule_mantissas : Stmt := inClass (top 29) 3
abbrev names_Rule_mantissas : List Str := ["self"]
theorem sc_Rule_mantissas : FnScope names_Rule_mantissas ["self"] (defScope s_Rule_mantissas) := ⟨rfl, rfl, rfl, by decide +kernel, rfl, by decide +kernel, by decide +kernel⟩
theorem ok_Rule_mantissas {f : Addr} {fd : FuncData} (F : FunV K "mantissas" "Rule.mantissas" s_Rule_mantissas f fd)  (T : Txt K mg CR) (B : Bi mg) : FnOk P w K mg base CX0 (1) f fd ["self"] (spD K (sp_Rule_mantissas CR)) := by
  refine fnD F sc_Rule_mantissas (fun ds Φ h => by first | (obtain ⟨_, rfl, _⟩ := h; rfl) | (obtain ⟨_, _, rfl, _⟩ := h; rfl) | (obtain ⟨_, _, _, rfl, _⟩ := h; rfl) | (obtain ⟨_, _, _, _, rfl, _⟩ := h; rfl) | (obtain ⟨_, _, _, _, _, rfl, _⟩ := h; rfl) | (obtain ⟨_, _, _, _, _, _, rfl, _⟩ := h; rfl) | (obtain ⟨_, _, _, _, _, _, _, rfl, _⟩ := h; rfl) | (obtain ⟨_, _, _, _, _, _, _, _, rfl, _⟩ := h; rfl) | (obtain ⟨_, _, _, _, _, _, _, _, _, rfl, _⟩ := h; rfl) | (obtain ⟨_, _, _, _, _, _, _, _, _, _, rfl, _⟩ := h; rfl) | (obtain ⟨_, _, _, _, _, _, _, _, _, _, _, rfl, _⟩ := h; rfl) | (obtain ⟨_, _, _, _, _, _, _, _, _, _, _, _, rfl, _⟩ := h; rfl) | (obtain ⟨_, _, _, _, _, _, _, _, _, _, _, _, _, rfl, _⟩ := h; rfl)) fun cdv A outer s H E M ds Φ hr hpu h => ?_
  have nd := sc_Rule_mantissas.nd
  have hu64 := hr.units
  have hu1 := hu_of hr
  obtain ⟨r, rfl, k⟩ := h
  refine wb_norm (δ' := [_]) rfl ?_
  refine wb_one ?_
  refine ws_ret ?_
  refine we_toList B.list rfl ?_
  refine wa_cons ?_
  refine we_fld (ns := nsR) 2 T.Rule.cl T.Rule.n_heads (by decide +kernel) ?_
  refine we_var 0 rfl ?_
  refine ⟨_, _, rfl, rfl, ?_⟩
  refine wa_nil ?_
  refine ⟨_, _, rfl, rfl, ?_⟩
  refine ⟨rfl, ?_⟩
  exact k

abbrev s_Rule_most : Stmt := inClass (top 29) 4
abbrev names_Rule_most : List Str := ["self"]
theorem sc_Rule_most : FnScope names_Rule_most ["self"] (defScope s_Rule_most) := ⟨rfl, rfl, rfl, by decide +kernel, rfl, by decide +kernel, by decide +kernel⟩
theorem ok_Rule_most {f : Addr} {fd : FuncData} (F : FunV K "most" "Rule.most" s_Rule_most f fd)  (T : Txt K mg CR) : FnOk P w K mg base CX0 (1) f fd ["self"] (spD K (sp_Rule_most CR)) := by
  refine fnD F sc_Rule_most (fun ds Φ h => by first | (obtain ⟨_, rfl, _⟩ := h; rfl) | (obtain ⟨_, _, rfl, _⟩ := h; rfl) | (obtain ⟨_, _, _, rfl, _⟩ := h; rfl) | (obtain ⟨_, _, _, _, rfl, _⟩ := h; rfl) | (obtain ⟨_, _, _, _, _, rfl, _⟩ := h; rfl) | (obtain ⟨_, _, _, _, _, _, rfl, _⟩ := h; rfl) | (obtain ⟨_, _, _, _, _, _, _, rfl, _⟩ := h; rfl) | (obtain ⟨_, _, _, _, _, _, _, _, rfl, _⟩ := h; rfl) | (obtain ⟨_, _, _, _, _, _, _, _, _, rfl, _⟩ := h; rfl) | (obtain ⟨_, _, _, _, _, _, _, _, _, _, rfl, _⟩ := h; rfl) | (obtain ⟨_, _, _, _, _, _, _, _, _, _, _, rfl, _⟩ := h; rfl) | (obtain ⟨_, _, _, _, _, _, _, _, _, _, _, _, rfl, _⟩ := h; rfl) | (obtain ⟨_, _, _, _, _, _, _, _, _, _, _, _, _, rfl, _⟩ := h; rfl)) fun cdv A outer s H E M ds Φ hr hpu h => ?_
  have nd := sc_Rule_most.nd
  have hu64 := hr.units
  have hu1 := hu_of hr
  obtain ⟨r, rfl, k⟩ := h
  refine wb_norm (δ' := [_]) rfl ?_
  refine wb_one ?_
  refine ws_ret ?_
  refine we_fld (ns := nsR) 3 T.Rule.cl T.Rule.n_limit (by decide +kernel) ?_
  refine we_var 0 rfl ?_
  refine ⟨_, _, rfl, rfl, ?_⟩
  refine ⟨rfl, ?_⟩
  exact k

abbrev s_Rule___eq__ : Stmt := inClass (top 29) 9
abbrev names_Rule___eq__ : List Str := ["self", "other", "mine"]
theorem sc_Rule___eq__ : FnScope names_Rule___eq__ ["self", "other"] (defScope s_Rule___eq__) := ⟨rfl, rfl, rfl, by decide +kernel, rfl, by decide +kernel, by decide +kernel⟩
theorem ok_Rule___eq__ {f : Addr} {fd : FuncData} (F : FunV K "__eq__" "Rule.__eq__" s_Rule___eq__ f fd)  (B : Bi mg) (T : Txt K mg CR) (TI : TxI K mg CR) : FnOk P w K mg base CX0 (2) f fd ["self", "other"] (spD K (sp_Rule___eq__02 CR)) := by
  refine fnD F sc_Rule___eq__ (fun ds Φ h => by rcases h with ⟨_, _, rfl, _⟩ | ⟨_, _, rfl, _⟩ <;> rfl) fun cdv A outer s H E M ds Φ hr hpu h => ?_
  have nd := sc_Rule___eq__.nd
  have hu64 := hr.units
  have hu1 := hu_of hr
  rcases h with ⟨r, q, rfl, ro, qo, k⟩ | ⟨r, d, rfl, hd, k⟩
  rotate_left
  · have hy : ∃ t, TyD K d t ∧ PySem.W.kitOne K t (.ref CR) = some false := by
      rcases hd with rfl | ⟨ds, rfl⟩
      · exact ⟨_, rfl, TI.kn⟩
      · exact ⟨_, rfl, TI.kt⟩
    obtain ⟨t, ht, hk⟩ := hy
    refine wb_norm (δ' := [_, _, _]) rfl ?_
    refine wb_cons ?_
    refine ws_if ?_
    refine wt_not ?_
    refine wt_val ?_
    refine we_isC CR TI.mgR rfl B.isinstance rfl ?_
    refine we_var 1 rfl ?_
    refine ⟨t, false, ht, hk, ?_⟩
    refine ⟨_, rfl, ?_⟩
    refine ⟨fun _ => ?_, fun z => by cases z⟩
    refine wb_one ?_
    refine ws_ret ?_
    refine we_bl ?_
    exact ⟨rfl, k⟩
  refine wb_norm (δ' := [_, _, _]) rfl ?_
  refine wb_cons ?_
  refine ws_if ?_
  refine wt_not ?_
  refine wt_val ?_
  refine we_isC CR TI.mgR rfl B.isinstance rfl ?_
  refine we_var 1 rfl ?_
  refine ⟨_, true, ⟨rfl, TI.ob⟩, TI.me, ?_⟩
  refine ⟨_, rfl, ?_⟩
  refine ⟨fun hc2 => absurd hc2 (by first | (intro h; cases h; done) | (simp; done) | decide), fun hc2 => ?_⟩
  refine wb_norm (δ' := [_, _, _]) rfl ?_
  refine wb_nil ?_
  refine wb_norm (δ' := [_, _, _]) rfl ?_
  refine wb_cons ?_
  refine ws_asg 2 nd ?_
  refine we_tup ?_
  refine wa_cons ?_
  refine we_fld (ns := nsR) 0 T.Rule.cl T.Rule.n_ground (by decide +kernel) ?_
  refine we_var 0 rfl ?_
  refine ⟨_, _, rfl, rfl, ?_⟩
  refine wa_cons ?_
  refine we_fld (ns := nsR) 1 T.Rule.cl T.Rule.n_way (by decide +kernel) ?_
  refine we_var 0 rfl ?_
  refine ⟨_, _, rfl, rfl, ?_⟩
  refine wa_cons ?_
  refine we_fld (ns := nsR) 2 T.Rule.cl T.Rule.n_heads (by decide +kernel) ?_
  refine we_var 0 rfl ?_
  refine ⟨_, _, rfl, rfl, ?_⟩
  refine wa_cons ?_
  refine we_fld (ns := nsR) 3 T.Rule.cl T.Rule.n_limit (by decide +kernel) ?_
  refine we_var 0 rfl ?_
  refine ⟨_, _, rfl, rfl, ?_⟩
  refine wa_nil ?_
  refine ⟨rfl, Nat.le_of_ble_eq_true rfl, ?_⟩
  refine ⟨rfl, ?_⟩
  refine wb_norm (δ' := [_, _, _]) rfl ?_
  refine wb_one ?_
  refine ws_ret ?_
  refine we_eq hu64 ?_
  refine we_var 2 rfl ?_
  refine we_tup ?_
  refine wa_cons ?_
  refine we_fld (ns := nsR) 0 T.Rule.cl T.Rule.n_ground (by decide +kernel) ?_
  refine we_var 1 rfl ?_
  refine ⟨_, _, rfl, rfl, ?_⟩
  refine wa_cons ?_
  refine we_fld (ns := nsR) 1 T.Rule.cl T.Rule.n_way (by decide +kernel) ?_
  refine we_var 1 rfl ?_
  refine ⟨_, _, rfl, rfl, ?_⟩
  refine wa_cons ?_
  refine we_fld (ns := nsR) 2 T.Rule.cl T.Rule.n_heads (by decide +kernel) ?_
  refine we_var 1 rfl ?_
  refine ⟨_, _, rfl, rfl, ?_⟩
  refine wa_cons ?_
  refine we_fld (ns := nsR) 3 T.Rule.cl T.Rule.n_limit (by decide +kernel) ?_
  refine we_var 1 rfl ?_
  refine ⟨_, _, rfl, rfl, ?_⟩
  refine wa_nil ?_
  refine ⟨rfl, Nat.le_of_ble_eq_true rfl, ?_⟩
  refine ⟨shaped_rule ro, shaped_rule qo, ?_⟩
  refine ⟨rfl, ?_⟩
  rw [← eqv_rule] at k
  exact k

abbrev s_turn_of_sizes : Stmt := top 28
abbrev names_turn_of_sizes : List Str := ["base", "heads", "top", "found", "head", "size"]
theorem sc_turn_of_sizes : FnScope names_turn_of_sizes ["base", "heads"] (defScope s_turn_of_sizes) := ⟨rfl, rfl, rfl, by decide +kernel, rfl, by decide +kernel, by decide +kernel⟩
theorem ok_turn_of_sizes {f : Addr} {fd : FuncData} (F : FunV K "turn_of_sizes" "turn_of_sizes" s_turn_of_sizes f fd)  (B : Bi mg) : FnOk P w K mg base CX0 (1) f fd ["base", "heads"] (spD K (sp_turn_of_sizes)) := by
  refine fnD F sc_turn_of_sizes (fun ds Φ h => by first | (obtain ⟨_, rfl, _⟩ := h; rfl) | (obtain ⟨_, _, rfl, _⟩ := h; rfl) | (obtain ⟨_, _, _, rfl, _⟩ := h; rfl) | (obtain ⟨_, _, _, _, rfl, _⟩ := h; rfl) | (obtain ⟨_, _, _, _, _, rfl, _⟩ := h; rfl) | (obtain ⟨_, _, _, _, _, _, rfl, _⟩ := h; rfl) | (obtain ⟨_, _, _, _, _, _, _, rfl, _⟩ := h; rfl) | (obtain ⟨_, _, _, _, _, _, _, _, rfl, _⟩ := h; rfl) | (obtain ⟨_, _, _, _, _, _, _, _, _, rfl, _⟩ := h; rfl) | (obtain ⟨_, _, _, _, _, _, _, _, _, _, rfl, _⟩ := h; rfl) | (obtain ⟨_, _, _, _, _, _, _, _, _, _, _, rfl, _⟩ := h; rfl) | (obtain ⟨_, _, _, _, _, _, _, _, _, _, _, _, rfl, _⟩ := h; rfl) | (obtain ⟨_, _, _, _, _, _, _, _, _, _, _, _, _, rfl, _⟩ := h; rfl)) fun cdv A outer s H E M ds Φ hr hpu h => ?_
  have nd := sc_turn_of_sizes.nd
  have hu64 := hr.units
  have hu1 := hu_of hr
  obtain ⟨b, hs, rfl, tk, k⟩ := h
  have hb := tk.b2
  have bb : Bd 5 b := Bd.small 17 (by omega) (by decide)
  have hl := tk.len
  obtain ⟨l, hl2⟩ : ∃ l, hs.getLast? = some l := ⟨_, List.getLast?_eq_some_getLast tk.ne⟩
  have el : hs.getLastD 1 = l := by rw [List.getLastD_eq_getLast?, hl2]; rfl
  have ht := tk.top
  have hts := tk.tops
  rw [el] at ht
  refine wb_norm (δ' := [_, _, _, _, _, _]) rfl ?_
  refine wb_cons ?_
  refine ws_asg 2 nd ?_
  refine we_int ?_
  refine ⟨rfl, ?_⟩
  refine wb_norm (δ' := [_, _, _, _, _, _]) rfl ?_
  refine wb_cons ?_
  refine ws_whileK [2] PassesOwn.never (fun j ss _ => ∃ x : Int, ss = [some (.int x)] ∧ upF b l j x = topF b hs ∧ 0 < x) (12) [some (.int 1)] ⟨rfl, ?_⟩ ?_
  · exact ⟨1, rfl, by unfold topF; rw [el], by decide⟩
  ·
    intro m1 ss1 n1 I1
    obtain ⟨x, rfl, hx, x0⟩ := I1
    refine wt_lt ?_
    refine we_var 2 rfl ?_
    refine we_ix ?_
    refine we_var 1 rfl ?_
    refine we_neg ?_
    refine we_int ?_
    refine ⟨_, rfl, ?_⟩
    refine ⟨_, _, _, rfl, rfl, atI_last (by rw [List.getLast?_map, hl2]; rfl), ?_⟩
    refine ⟨_, rfl, ?_⟩
    refine ⟨fun hc1 => ?_, fun hc1 => ?_⟩
    ·
      have hc := of_decide_eq_true hc1
      obtain ⟨j, rfl⟩ : ∃ j, m1 = j + 1 := by
        rcases m1 with _ | j
        · exfalso; have hx2 : x = topF b hs := hx; omega
        · exact ⟨j, rfl⟩
      rw [upF, if_pos hc] at hx
      have xb : Bd 200 x := by
        have := hd_small tk hl2
        exact Bd.mono (Bd.small (k := 5) 26 (by omega) (by decide)) (by decide)
      refine wb_norm (δ' := [_, _, _, _, _, _]) rfl ?_
      refine wb_one ?_
      refine ws_asg 2 nd ?_
      refine we_mul ?_
      refine we_var 2 rfl ?_
      refine we_var 0 rfl ?_
      refine ⟨xb.cmul bb (by decide), ?_⟩
      refine ⟨rfl, ?_⟩
      exact ⟨[some (.int (x * b))], rfl, j, Nat.lt_succ_self _, _, rfl, hx, Int.mul_pos x0 (by omega)⟩
    ·
      have hc := of_decide_eq_false hc1
      rw [upF_stop hc] at hx
      subst hx
      refine wb_norm (δ' := [_, _, _, _, _, _]) rfl ?_
      refine wb_cons ?_
      refine ws_asgO 3 nd ?_
      refine we_lst ?_
      refine wa_nil ?_
      refine ⟨rfl, Nat.le_of_ble_eq_true rfl, ?_⟩
      refine ⟨_, rfl, fun q_found => ?_⟩
      refine wb_norm (δ' := [_, _, _, _, _, _]) rfl ?_
      refine wb_cons ?_
      refine ws_forK [3, 4, 5] (is := [4]) PassesOwn.never rfl ?_
      refine wi_tup ?_
      refine we_var 1 rfl ?_
      refine ⟨_, rfl, ?_⟩
      refine ⟨fun i ss _ => ∃ s1 s2 : Option D, ss = [some (.own q_found (((hs.take i).map fun h => upF b (topF b hs) 12 h).map D.int)), s1, s2], [some (.own q_found []), none, none], ⟨rfl, none, none, rfl⟩, fun i2 d2 ss2 n2 hi2 I2 => ?_, fun ss2 n2 I2 => ?_⟩
      ·
        obtain ⟨s1, s2, rfl⟩ := I2
        obtain ⟨m, hm, rfl⟩ := map_at (f := D.int) hi2
        have mm := tk.hd m (List.mem_of_getElem? hm)
        obtain ⟨u1, u2⟩ := tk.up m (List.mem_of_getElem? hm)
        have tl := List.length_take_le i2 hs
        refine wg_name 4 nd rfl ?_
        refine wb_norm (δ' := [_, _, _, _, _, _]) rfl ?_
        refine wb_cons ?_
        refine ws_asg 5 nd ?_
        refine we_var 4 rfl ?_
        refine ⟨rfl, ?_⟩
        refine wb_norm (δ' := [_, _, _, _, _, _]) rfl ?_
        refine wb_cons ?_
        refine ws_whileK [5] PassesOwn.never (fun j ss _ => ∃ x : Int, ss = [some (.int x)] ∧ upF b (topF b hs) j x = upF b (topF b hs) 12 m ∧ 0 < x) (12) [some (.int m)] ⟨rfl, ?_⟩ ?_
        · exact ⟨m, rfl, rfl, by omega⟩
        ·
          intro m3 ss3 n3 I3
          obtain ⟨x, rfl, hx, x0⟩ := I3
          refine wt_lt ?_
          refine we_var 5 rfl ?_
          refine we_var 2 rfl ?_
          refine ⟨_, rfl, ?_⟩
          refine ⟨fun hc3 => ?_, fun hc3 => ?_⟩
          ·
            have hc := of_decide_eq_true hc3
            obtain ⟨j, rfl⟩ : ∃ j, m3 = j + 1 := by
              rcases m3 with _ | j
              · exfalso; have hx2 : x = upF b (topF b hs) 12 m := hx; omega
              · exact ⟨j, rfl⟩
            rw [upF, if_pos hc] at hx
            have xb : Bd 200 x := Bd.mono (bd_of (k := 40) (by omega) (by omega)) (by decide)
            refine wb_norm (δ' := [_, _, _, _, _, _]) rfl ?_
            refine wb_one ?_
            refine ws_asg 5 nd ?_
            refine we_mul ?_
            refine we_var 5 rfl ?_
            refine we_var 0 rfl ?_
            refine ⟨xb.cmul bb (by decide), ?_⟩
            refine ⟨rfl, ?_⟩
            exact ⟨[some (.int (x * b))], rfl, j, Nat.lt_succ_self _, _, rfl, hx, Int.mul_pos x0 (by omega)⟩
          ·
            have hc := of_decide_eq_false hc3
            rw [upF_stop hc] at hx
            subst hx
            refine wb_norm (δ' := [_, _, _, _, _, _]) rfl ?_
            refine wb_one ?_
            refine ws_append 3 rfl ?_
            refine we_var 5 rfl ?_
            refine ⟨rfl, by rw [List.length_map, List.length_map, List.length_take]; omega, ?_⟩
            exact ⟨[some (.own q_found (((hs.take (i2 + 1)).map fun h => upF b (topF b hs) 12 h).map D.int)), _, _], by rw [List.take_add_one, hm, List.map_append, List.map_append]; rfl, _, _, rfl⟩
      ·
        obtain ⟨s1, s2, rfl⟩ := I2
        rw [List.length_map, List.take_length]
        refine wb_norm (δ' := [_, _, _, _, _, _]) rfl ?_
        refine wb_cons ?_
        refine ws_asgO 3 nd ?_
        refine we_sorted B.sorted rfl ?_
        refine wa_cons ?_
        refine we_frz 3 rfl ?_
        refine we_lc [5] (by decide) rfl nd (blkOk_by (N := names_turn_of_sizes) (sc := defScope s_turn_of_sizes) (own := [("size", 5)]) (by decide +kernel)) ?_
        refine lcPure (fun _ => true) (fun d => d) ?_
        refine wi_list ?_
        refine we_var 3 rfl ?_
        refine ⟨_, rfl, ?_⟩
        refine ⟨by rw [List.length_map, List.length_map]; omega, fun i5 d5 hi5 s5 H5 C5 cl5 fp5 M5 => ?_, ?_⟩
        ·
          obtain ⟨x, mx, rfl⟩ := ints_at hi5
          refine wg_name 5 nd rfl ?_
          refine ⟨rfl, fun s5_2 H5_2 C5_2 cl5_2 fp5_2 M5_2 => ?_⟩
          refine wts_nil ?_
          refine ⟨rfl, rfl, fun hb5 s5_3 H5_3 C5_3 cl5_3 fp5_3 M5_3 => ?_⟩
          refine we_toInt B.int rfl ?_
          refine wa_cons ?_
          refine we_var 5 rfl ?_
          refine wa_nil ?_
          refine Or.inl ⟨_, rfl, ?_⟩
          exact ⟨rfl, rfl, rfl⟩
        rw [all_ints fun m => rfl]
        refine ⟨thaw_ints, ?_⟩
        refine wa_nil ?_
        refine ⟨_, _, rfl, rfl, fun ns pm pw => ?_⟩
        rw [eq_isort pm pw]
        obtain ⟨z, zs, ez⟩ : ∃ z zs, turnF b hs = z :: zs := List.exists_cons_of_ne_nil (turnF_ne tk)
        have zf := turnF_ok tk (z := z) (by rw [ez]; exact List.mem_cons_self)
        have zl := turnF_len b hs
        refine ⟨_, rfl, fun q_found => ?_⟩
        refine wb_norm (δ' := [_, _, _, _, _, _]) rfl ?_
        refine wb_one ?_
        refine ws_ret ?_
        refine we_add ?_
        refine we_var 3 rfl ?_
        refine we_lst ?_
        refine wa_cons ?_
        refine we_mul ?_
        refine we_ix ?_
        refine we_var 3 rfl ?_
        refine we_int ?_
        refine ⟨_, _, _, rfl, rfl, atI_map (f := D.int) (xs := turnF b hs) (k := 0) (x := z) (by rw [ez]; rfl) rfl, ?_⟩
        refine we_var 0 rfl ?_
        refine ⟨(bd_of (k := 60) (by omega) zf.2).cmul bb (by decide), ?_⟩
        refine wa_nil ?_
        refine ⟨rfl, Nat.le_of_ble_eq_true rfl, ?_⟩
        refine ⟨_, _, rfl, rfl, by show ((turnF b hs).map D.int).length + (List.map frz [D.int (z * b)]).length ≤ 16000000; simp; omega, ?_⟩
        refine ⟨rfl, ?_⟩
        have e : (turnF b hs).map D.int ++ List.map frz [D.int (z * b)] = (turnL b hs).map D.int := by unfold turnL; rw [List.map_append, ez]; rfl
        rw [← e] at k
        exact k

abbrev s_Rule_dividing : Stmt := inClass (top 29) 5
abbrev names_Rule_dividing : List Str := ["self", "sizes", "one", "other"]
theorem sc_Rule_dividing : FnScope names_Rule_dividing ["self"] (defScope s_Rule_dividing) := ⟨rfl, rfl, rfl, by decide +kernel, rfl, by decide +kernel, by decide +kernel⟩
theorem ok_Rule_dividing {f : Addr} {fd : FuncData} (F : FunV K "dividing" "Rule.dividing" s_Rule_dividing f fd) (G_turn_of_sizes : Fn P w K mg base "turn_of_sizes" ["base", "heads"] (1) (spD K (sp_turn_of_sizes))) (B : Bi mg) (T : Txt K mg CR) : FnOk P w K mg base CX0 (2) f fd ["self"] (spD K (sp_Rule_dividing CR)) := by
  refine fnD F sc_Rule_dividing (fun ds Φ h => by first | (obtain ⟨_, rfl, _⟩ := h; rfl) | (obtain ⟨_, _, rfl, _⟩ := h; rfl) | (obtain ⟨_, _, _, rfl, _⟩ := h; rfl) | (obtain ⟨_, _, _, _, rfl, _⟩ := h; rfl) | (obtain ⟨_, _, _, _, _, rfl, _⟩ := h; rfl) | (obtain ⟨_, _, _, _, _, _, rfl, _⟩ := h; rfl) | (obtain ⟨_, _, _, _, _, _, _, rfl, _⟩ := h; rfl) | (obtain ⟨_, _, _, _, _, _, _, _, rfl, _⟩ := h; rfl) | (obtain ⟨_, _, _, _, _, _, _, _, _, rfl, _⟩ := h; rfl) | (obtain ⟨_, _, _, _, _, _, _, _, _, _, rfl, _⟩ := h; rfl) | (obtain ⟨_, _, _, _, _, _, _, _, _, _, _, rfl, _⟩ := h; rfl) | (obtain ⟨_, _, _, _, _, _, _, _, _, _, _, _, rfl, _⟩ := h; rfl) | (obtain ⟨_, _, _, _, _, _, _, _, _, _, _, _, _, rfl, _⟩ := h; rfl)) fun cdv A outer s H E M ds Φ hr hpu h => ?_
  have nd := sc_Rule_dividing.nd
  have hu64 := hr.units
  have hu1 := hu_of hr
  obtain ⟨r, rfl, tk, k⟩ := h
  have tl := tk.size
  have tl2 := tk.len
  refine wb_norm (δ' := [_, _, _, _]) rfl ?_
  refine wb_cons ?_
  refine ws_asg 1 nd ?_
  refine we_call G_turn_of_sizes (hr.mono (by decide)) rfl ?_
  refine wa_cons ?_
  refine we_fld (ns := nsR) 0 T.Rule.cl T.Rule.n_ground (by decide +kernel) ?_
  refine we_var 0 rfl ?_
  refine ⟨_, _, rfl, rfl, ?_⟩
  refine wa_cons ?_
  refine we_fld (ns := nsR) 2 T.Rule.cl T.Rule.n_heads (by decide +kernel) ?_
  refine we_var 0 rfl ?_
  refine ⟨_, _, rfl, rfl, ?_⟩
  refine wa_nil ?_
  refine ⟨rfl, ?_⟩
  refine ⟨_, _, rfl, tk, ?_⟩
  refine ⟨rfl, ?_⟩
  refine wb_norm (δ' := [_, _, _, _]) rfl ?_
  refine wb_one ?_
  refine ws_ret ?_
  refine we_eq hu64 ?_
  refine we_lc ([2] ++ ([3] ++ [])) (by decide) rfl nd (blkOk_by (N := names_Rule_dividing) (sc := defScope s_Rule_dividing) (own := [("one", 2), ("other", 3)]) (by decide +kernel)) ?_
  refine lcPure (fun d => match d with | .tup [.int a, .int c] => !decide (c - c / a * a = 0) | _ => false) (fun d => match d with | .tup [a, c] => a | d => d) ?_
  refine wi_zip B.zip rfl ?_
  refine wa_cons ?_
  refine we_var 1 rfl ?_
  refine wa_cons ?_
  refine we_slLo ?_
  refine we_var 1 rfl ?_
  refine we_int ?_
  refine ⟨_, ((1 : Nat) : Int), rfl, rfl, ?_⟩
  rw [cutD_drop]
  refine wa_nil ?_
  refine ⟨_, _, _, _, rfl, rfl, rfl, ?_⟩
  refine ⟨by rw [zip_E]; rw [List.length_map, List.length_zip]; omega, fun i2 d2 hi2 s2 H2 C2 cl2 fp2 M2 => ?_, ?_⟩
  ·
    rw [zip_E] at hi2
    obtain ⟨q, hq, rfl⟩ := map_at hi2
    have mq := List.mem_of_getElem? hq
    have q1 := tk.pos q.1 (List.of_mem_zip mq).1
    have q2 := tk.pos q.2 (List.mem_of_mem_drop (List.of_mem_zip mq).2)
    have b1 := bd_of (k := 60) (Int.le_of_lt q1.1) q1.2
    have b2 := bd_of (k := 60) (Int.le_of_lt q2.1) q2.2
    refine wg_tup rfl ⟨_, rfl, rfl, ?_⟩
    refine wgs_cons ?_
    refine wg_name 2 nd rfl ?_
    refine wgs_cons ?_
    refine wg_name 3 nd rfl ?_
    refine wgs_nil ?_
    refine ⟨rfl, fun s2_2 H2_2 C2_2 cl2_2 fp2_2 M2_2 => ?_⟩
    refine wts_one ?_
    refine wt_ne hu64 ?_
    refine we_sub ?_
    refine we_var 3 rfl ?_
    refine we_mul ?_
    refine we_fdiv ?_
    refine we_var 3 rfl ?_
    refine we_var 2 rfl ?_
    refine ⟨b1.cdiv q1.1 (by decide), ?_⟩
    refine we_var 2 rfl ?_
    refine ⟨(b2.div q1.1).cmul b1 (by decide), ?_⟩
    refine we_int ?_
    refine ⟨_, rfl, ?_⟩
    refine ⟨rfl, rfl, fun hb2 s2_3 H2_3 C2_3 cl2_3 fp2_3 M2_3 => ?_⟩
    refine we_var 2 rfl ?_
    exact ⟨rfl, rfl, rfl⟩
  rw [zip_E, lc_map (E := E2) (F := D.int) (fun q => q.1) (fun q => !decide (q.2 - q.2 / q.1 * q.1 = 0)) (fun q => rfl) (fun q => rfl)]
  refine we_lst ?_
  refine wa_nil ?_
  refine ⟨rfl, Nat.le_of_ble_eq_true rfl, ?_⟩
  refine ⟨shaped_new shp_ints, rfl, ?_⟩
  refine ⟨rfl, ?_⟩
  rw [List.map_nil, new_none, List.isEmpty_map, List.isEmpty_map]
  exact k

abbrev s__law_purse : Stmt := top 31
abbrev names__law_purse : List Str := ["_law_script", "_law_at", "_law_cell"]
theorem sc__law_purse : FnScope names__law_purse ["_law_script", "_law_at"] (defScope s__law_purse) := ⟨rfl, rfl, rfl, by decide +kernel, rfl, by decide +kernel, by decide +kernel⟩
theorem ok__law_purse {f : Addr} {fd : FuncData} (F : FunV K "_law_purse" "_law_purse" s__law_purse f fd)  (B : Bi mg) : FnOk P w K mg base CX0 (1) f fd ["_law_script", "_law_at"] (spD K (sp__law_purse)) := by
  refine fnD F sc__law_purse (fun ds Φ h => by first | (obtain ⟨_, rfl, _⟩ := h; rfl) | (obtain ⟨_, _, rfl, _⟩ := h; rfl) | (obtain ⟨_, _, _, rfl, _⟩ := h; rfl) | (obtain ⟨_, _, _, _, rfl, _⟩ := h; rfl) | (obtain ⟨_, _, _, _, _, rfl, _⟩ := h; rfl) | (obtain ⟨_, _, _, _, _, _, rfl, _⟩ := h; rfl) | (obtain ⟨_, _, _, _, _, _, _, rfl, _⟩ := h; rfl) | (obtain ⟨_, _, _, _, _, _, _, _, rfl, _⟩ := h; rfl) | (obtain ⟨_, _, _, _, _, _, _, _, _, rfl, _⟩ := h; rfl) | (obtain ⟨_, _, _, _, _, _, _, _, _, _, rfl, _⟩ := h; rfl) | (obtain ⟨_, _, _, _, _, _, _, _, _, _, _, rfl, _⟩ := h; rfl) | (obtain ⟨_, _, _, _, _, _, _, _, _, _, _, _, rfl, _⟩ := h; rfl) | (obtain ⟨_, _, _, _, _, _, _, _, _, _, _, _, _, rfl, _⟩ := h; rfl)) fun cdv A outer s H E M ds Φ hr hpu h => ?_
  have nd := sc__law_purse.nd
  have hu64 := hr.units
  have hu1 := hu_of hr
  obtain ⟨ns, at_, rfl, a0, k⟩ := h
  refine wb_norm (δ' := [_, _, _]) rfl ?_
  refine wb_cons ?_
  refine ws_asg 2 nd ?_
  refine we_int ?_
  refine ⟨rfl, ?_⟩
  refine wb_norm (δ' := [_, _, _]) rfl ?_
  refine wb_cons ?_
  refine ws_if ?_
  refine wt_lt ?_
  refine we_var 1 rfl ?_
  refine we_len B.len rfl ?_
  refine wa_cons ?_
  refine we_var 0 rfl ?_
  refine wa_nil ?_
  refine ⟨_, _, rfl, rfl, ?_⟩
  refine ⟨_, rfl, ?_⟩
  refine ⟨fun hc2 => ?_, fun hc2 => ?_⟩
  ·
    have hc := of_decide_eq_true hc2
    rw [List.length_map] at hc
    obtain ⟨cell, hcell⟩ := some_at (xs := ns) (k := at_.toNat) (by omega)
    refine wb_norm (δ' := [_, _, _]) rfl ?_
    refine wb_one ?_
    refine ws_asg 2 nd ?_
    refine we_ix ?_
    refine we_var 0 rfl ?_
    refine we_var 1 rfl ?_
    refine ⟨_, _, _, rfl, rfl, atI_map hcell (by omega), ?_⟩
    refine ⟨rfl, ?_⟩
    refine wb_norm (δ' := [_, _, _]) rfl ?_
    refine wb_one ?_
    refine ws_ret ?_
    refine we_lst ?_
    refine wa_cons ?_
    refine we_mod ?_
    refine we_toInt B.int rfl ?_
    refine wa_cons ?_
    refine we_max2 rfl B.max rfl ?_
    refine wa_cons ?_
    refine we_sub ?_
    refine we_var 2 rfl ?_
    refine we_pow ?_
    refine we_int ?_
    refine we_int ?_
    refine ⟨⟨by decide, by decide +kernel⟩, ?_⟩
    refine wa_cons ?_
    refine we_int ?_
    refine wa_nil ?_
    refine ⟨_, _, rfl, ?_⟩
    refine wa_nil ?_
    refine Or.inl ⟨_, rfl, ?_⟩
    refine we_pow ?_
    refine we_pow ?_
    refine we_int ?_
    refine we_int ?_
    refine ⟨⟨by decide, by decide +kernel⟩, ?_⟩
    refine we_int ?_
    refine ⟨⟨by decide, by decide +kernel⟩, ?_⟩
    refine ⟨by decide +kernel, ?_⟩
    refine wa_cons ?_
    refine we_mod ?_
    refine we_toInt B.int rfl ?_
    refine wa_cons ?_
    refine we_var 2 rfl ?_
    refine wa_nil ?_
    refine Or.inl ⟨_, rfl, ?_⟩
    refine we_int ?_
    refine ⟨by decide, ?_⟩
    refine wa_cons ?_
    refine we_int ?_
    refine wa_nil ?_
    refine ⟨rfl, Nat.le_of_ble_eq_true rfl, ?_⟩
    refine ⟨rfl, ?_⟩
    exact k _ _ ⟨Int.emod_nonneg _ (by decide +kernel), by refine Int.lt_of_lt_of_le (Int.emod_lt_of_pos _ (by decide +kernel)) (by decide +kernel)⟩ ⟨Int.emod_nonneg _ (by decide), Int.emod_lt_of_pos _ (by decide)⟩
  ·
    refine wb_norm (δ' := [_, _, _]) rfl ?_
    refine wb_nil ?_
    refine wb_norm (δ' := [_, _, _]) rfl ?_
    refine wb_one ?_
    refine ws_ret ?_
    refine we_lst ?_
    refine wa_cons ?_
    refine we_mod ?_
    refine we_toInt B.int rfl ?_
    refine wa_cons ?_
    refine we_max2 rfl B.max rfl ?_
    refine wa_cons ?_
    refine we_sub ?_
    refine we_var 2 rfl ?_
    refine we_pow ?_
    refine we_int ?_
    refine we_int ?_
    refine ⟨⟨by decide, by decide +kernel⟩, ?_⟩
    refine wa_cons ?_
    refine we_int ?_
    refine wa_nil ?_
    refine ⟨_, _, rfl, ?_⟩
    refine wa_nil ?_
    refine Or.inl ⟨_, rfl, ?_⟩
    refine we_pow ?_
    refine we_pow ?_
    refine we_int ?_
    refine we_int ?_
    refine ⟨⟨by decide, by decide +kernel⟩, ?_⟩
    refine we_int ?_
    refine ⟨⟨by decide, by decide +kernel⟩, ?_⟩
    refine ⟨by decide +kernel, ?_⟩
    refine wa_cons ?_
    refine we_mod ?_
    refine we_toInt B.int rfl ?_
    refine wa_cons ?_
    refine we_var 2 rfl ?_
    refine wa_nil ?_
    refine Or.inl ⟨_, rfl, ?_⟩
    refine we_int ?_
    refine ⟨by decide, ?_⟩
    refine wa_cons ?_
    refine we_int ?_
    refine wa_nil ?_
    refine ⟨rfl, Nat.le_of_ble_eq_true rfl, ?_⟩
    refine ⟨rfl, ?_⟩
    exact k _ _ ⟨Int.emod_nonneg _ (by decide +kernel), by refine Int.lt_of_lt_of_le (Int.emod_lt_of_pos _ (by decide +kernel)) (by decide +kernel)⟩ ⟨Int.emod_nonneg _ (by decide), Int.emod_lt_of_pos _ (by decide)⟩

abbrev s__law_draw : Stmt := top 32
abbrev names__law_draw : List Str := ["_law_purse_here", "_law_many", "_law_drawn", "_law_turn", "_law_number"]
theorem sc__law_draw : FnScope names__law_draw ["_law_purse_here", "_law_many"] (defScope s__law_draw) := ⟨rfl, rfl, rfl, by decide +kernel, rfl, by decide +kernel, by decide +kernel⟩
theorem ok__law_draw {f : Addr} {fd : FuncData} (F : FunV K "_law_draw" "_law_draw" s__law_draw f fd)  (B : Bi mg) : FnOk P w K mg base CX0 (1) f fd ["_law_purse_here", "_law_many"] (spP K (sp__law_draw)) := by
  refine fnP F sc__law_draw (fun ds n Φ h => by first | (obtain ⟨_, rfl, _⟩ := h; rfl) | (obtain ⟨_, _, rfl, _⟩ := h; rfl) | (obtain ⟨_, _, _, rfl, _⟩ := h; rfl) | (obtain ⟨_, _, _, _, rfl, _⟩ := h; rfl) | (obtain ⟨_, _, _, _, _, rfl, _⟩ := h; rfl) | (obtain ⟨_, _, _, _, _, _, rfl, _⟩ := h; rfl) | (obtain ⟨_, _, _, _, _, _, _, rfl, _⟩ := h; rfl) | (obtain ⟨_, _, _, _, _, _, _, _, rfl, _⟩ := h; rfl) | (obtain ⟨_, _, _, _, _, _, _, _, _, rfl, _⟩ := h; rfl) | (obtain ⟨_, _, _, _, _, _, _, _, _, _, rfl, _⟩ := h; rfl) | (obtain ⟨_, _, _, _, _, _, _, _, _, _, _, rfl, _⟩ := h; rfl) | (obtain ⟨_, _, _, _, _, _, _, _, _, _, _, _, rfl, _⟩ := h; rfl) | (obtain ⟨_, _, _, _, _, _, _, _, _, _, _, _, _, rfl, _⟩ := h; rfl)) fun cdv A outer s H E M p n ds Φ hr hpu h => ?_
  have nd := sc__law_draw.nd
  have hu64 := hr.units
  have hu1 := hu_of hr
  obtain ⟨many, m, rfl, ⟨m1, mb⟩, rfl, k⟩ := h
  refine wb_norm (δ' := [_, _, _, _, _]) rfl ?_
  refine wb_cons ?_
  refine ws_if ?_
  refine wt_gt ?_
  refine we_pix ?_
  refine we_var 0 rfl ?_
  refine we_int ?_
  refine ⟨_, _, rfl, rfl, by decide, fun v_1 hv_1 => ?_⟩
  refine we_int ?_
  refine ⟨_, rfl, ?_⟩
  refine ⟨fun hc1 => ?_, fun hc1 => ?_⟩
  ·
    refine wb_norm (δ' := [_, _, _, _, _]) rfl ?_
    refine wb_cons ?_
    refine ws_asg 2 nd ?_
    refine we_mod ?_
    refine we_toInt B.int rfl ?_
    refine wa_cons ?_
    refine we_pix ?_
    refine we_var 0 rfl ?_
    refine we_int ?_
    refine ⟨_, _, rfl, rfl, by decide, fun v_2 hv_2 => ?_⟩
    refine wa_nil ?_
    refine Or.inl ⟨_, rfl, ?_⟩
    refine we_var 1 rfl ?_
    refine ⟨by omega, ?_⟩
    refine ⟨rfl, ?_⟩
    refine wb_norm (δ' := [_, _, _, _, _]) rfl ?_
    refine wb_cons ?_
    refine ws_pset 0 rfl ?_
    refine we_fdiv ?_
    refine we_pix ?_
    refine we_var 0 rfl ?_
    refine we_int ?_
    refine ⟨_, _, rfl, rfl, by decide, fun v_3 hv_3 => ?_⟩
    refine we_var 1 rfl ?_
    refine ⟨mb.cdiv (by omega) (by decide), ?_⟩
    refine ⟨_, rfl, ?_⟩
    refine we_int ?_
    refine ⟨0, m, rfl, by omega, Or.inl ⟨rfl, Int.ediv_nonneg hv_3.p0.1 (by omega), Int.lt_of_le_of_lt (Int.ediv_le_self _ hv_3.p0.1) hv_3.p0.2⟩, ?_⟩
    refine wb_norm (δ' := [_, _, _, _, _]) rfl ?_
    refine wb_one ?_
    refine ws_ret ?_
    refine we_var 2 rfl ?_
    refine ⟨rfl, ?_⟩
    exact k _ (Int.emod_nonneg _ (by omega)) (Int.emod_lt_of_pos _ (by omega))
  ·
    refine wb_norm (δ' := [_, _, _, _, _]) rfl ?_
    refine wb_nil ?_
    refine wb_norm (δ' := [_, _, _, _, _]) rfl ?_
    refine wb_cons ?_
    refine ws_asg 3 nd ?_
    refine we_add ?_
    refine we_pix ?_
    refine we_var 0 rfl ?_
    refine we_int ?_
    refine ⟨_, _, rfl, rfl, by decide, fun v_4 hv_4 => ?_⟩
    refine we_int ?_
    refine ⟨rfl, ?_⟩
    refine wb_norm (δ' := [_, _, _, _, _]) rfl ?_
    refine wb_cons ?_
    refine ws_pset 0 rfl ?_
    refine we_var 3 rfl ?_
    refine ⟨_, rfl, ?_⟩
    refine we_int ?_
    refine ⟨2, m, rfl, by omega, Or.inr ⟨rfl, by have := hv_4.p2; omega, by have := hv_4.p2; omega⟩, ?_⟩
    have ht := bd_turn hv_4.p2
    refine wb_norm (δ' := [_, _, _, _, _]) rfl ?_
    refine wb_cons ?_
    refine ws_asg 4 nd ?_
    refine we_mod ?_
    refine we_toInt B.int rfl ?_
    refine wa_cons ?_
    refine we_mul ?_
    refine we_add ?_
    refine we_pix ?_
    refine we_var 0 rfl ?_
    refine we_int ?_
    refine ⟨_, _, rfl, rfl, by decide, fun v_5 hv_5 => ?_⟩
    refine we_mul ?_
    refine we_int ?_
    refine we_var 3 rfl ?_
    refine ⟨(Bd.small (k := 17) 104730 (by decide) (by decide)).cmul ht (by decide), ?_⟩
    refine we_add ?_
    refine we_mul ?_
    refine we_var 3 rfl ?_
    refine we_var 3 rfl ?_
    refine ⟨ht.cmul ht (by decide), ?_⟩
    refine we_int ?_
    refine ⟨bd_num hv_5.p1 ht, ?_⟩
    refine wa_nil ?_
    refine Or.inl ⟨_, rfl, ?_⟩
    refine we_int ?_
    refine ⟨by decide, ?_⟩
    refine ⟨rfl, ?_⟩
    refine wb_norm (δ' := [_, _, _, _, _]) rfl ?_
    refine wb_cons ?_
    refine ws_asg 4 nd ?_
    refine we_mod ?_
    refine we_toInt B.int rfl ?_
    refine wa_cons ?_
    refine we_add ?_
    refine we_mul ?_
    refine we_var 4 rfl ?_
    refine we_var 4 rfl ?_
    refine ⟨(bd_mod (k := 31) (by decide) (by decide)).cmul (bd_mod (k := 31) (by decide) (by decide)) (by decide), ?_⟩
    refine we_var 3 rfl ?_
    refine wa_nil ?_
    refine Or.inl ⟨_, rfl, ?_⟩
    refine we_int ?_
    refine ⟨by decide, ?_⟩
    refine ⟨rfl, ?_⟩
    refine wb_norm (δ' := [_, _, _, _, _]) rfl ?_
    refine wb_one ?_
    refine ws_ret ?_
    refine we_mod ?_
    refine we_fdiv ?_
    refine we_mod ?_
    refine we_toInt B.int rfl ?_
    refine wa_cons ?_
    refine we_mul ?_
    refine we_var 4 rfl ?_
    refine we_int ?_
    refine ⟨(bd_mod (k := 31) (by decide) (by decide)).cmul (Bd.small (k := 16) 48272 (by decide) (by decide)) (by decide), ?_⟩
    refine wa_nil ?_
    refine Or.inl ⟨_, rfl, ?_⟩
    refine we_int ?_
    refine ⟨by decide, ?_⟩
    refine we_int ?_
    refine ⟨(Bd.small (k := 7) 65 (by decide) (by decide)).cdiv (by decide) (by decide), ?_⟩
    refine we_var 1 rfl ?_
    refine ⟨by omega, ?_⟩
    refine ⟨rfl, ?_⟩
    exact k _ (Int.emod_nonneg _ (by omega)) (Int.emod_lt_of_pos _ (by omega))

abbrev s__law_pick : Stmt := top 33
abbrev names__law_pick : List Str := ["_law_purse_here", "_law_items"]
theorem sc__law_pick : FnScope names__law_pick ["_law_purse_here", "_law_items"] (defScope s__law_pick) := ⟨rfl, rfl, rfl, by decide +kernel, rfl, by decide +kernel, by decide +kernel⟩
theorem ok__law_pick {f : Addr} {fd : FuncData} (F : FunV K "_law_pick" "_law_pick" s__law_pick f fd) (G__law_draw : Fn P w K mg base "_law_draw" ["_law_purse_here", "_law_many"] (1) (spP K (sp__law_draw))) (B : Bi mg) : FnOk P w K mg base CX0 (2) f fd ["_law_purse_here", "_law_items"] (spP K (sp__law_pick)) := by
  refine fnP F sc__law_pick (fun ds n Φ h => by first | (obtain ⟨_, rfl, _⟩ := h; rfl) | (obtain ⟨_, _, rfl, _⟩ := h; rfl) | (obtain ⟨_, _, _, rfl, _⟩ := h; rfl) | (obtain ⟨_, _, _, _, rfl, _⟩ := h; rfl) | (obtain ⟨_, _, _, _, _, rfl, _⟩ := h; rfl) | (obtain ⟨_, _, _, _, _, _, rfl, _⟩ := h; rfl) | (obtain ⟨_, _, _, _, _, _, _, rfl, _⟩ := h; rfl) | (obtain ⟨_, _, _, _, _, _, _, _, rfl, _⟩ := h; rfl) | (obtain ⟨_, _, _, _, _, _, _, _, _, rfl, _⟩ := h; rfl) | (obtain ⟨_, _, _, _, _, _, _, _, _, _, rfl, _⟩ := h; rfl) | (obtain ⟨_, _, _, _, _, _, _, _, _, _, _, rfl, _⟩ := h; rfl) | (obtain ⟨_, _, _, _, _, _, _, _, _, _, _, _, rfl, _⟩ := h; rfl) | (obtain ⟨_, _, _, _, _, _, _, _, _, _, _, _, _, rfl, _⟩ := h; rfl)) fun cdv A outer s H E M p n ds Φ hr hpu h => ?_
  have nd := sc__law_pick.nd
  have hu64 := hr.units
  have hu1 := hu_of hr
  obtain ⟨xs, m, rfl, ne, hl, hp, rfl, k⟩ := h
  have hl0 : 0 < xs.length := List.length_pos_iff.mpr ne
  refine wb_norm (δ' := [_, _]) rfl ?_
  refine wb_one ?_
  refine ws_ret ?_
  refine we_ix ?_
  refine we_var 1 rfl ?_
  refine we_callP G__law_draw (hr.mono (by decide)) rfl ?_
  refine wa_cons ?_
  refine we_var 0 rfl ?_
  refine wa_cons ?_
  refine we_len B.len rfl ?_
  refine wa_cons ?_
  refine we_var 1 rfl ?_
  refine wa_nil ?_
  refine ⟨_, _, rfl, rfl, ?_⟩
  refine wa_nil ?_
  refine ⟨_, _, rfl, rfl, ?_⟩
  refine ⟨_, m, rfl, ⟨by omega, Bd.mono (Bd.small (k := 20) 100000 (by omega) (by decide)) (by decide)⟩, rfl, fun r ra rb => ?_⟩
  obtain ⟨x, hx⟩ := some_at (xs := xs) (k := r.toNat) (by omega)
  have mx := List.mem_of_getElem? hx
  have px := List.all_eq_true.mp hp x mx
  refine ⟨_, _, _, rfl, rfl, atI_of ra hx, ?_⟩
  refine ⟨retOk_pure px, ?_⟩
  rw [retD_pure px]
  exact k x mx

abbrev s__law_family : Stmt := top 34
abbrev names__law_family : List Str := ["_law_purse_here", "_law_base", "_law_some", "_law_family_here", "_law_one"]
theorem sc__law_family : FnScope names__law_family ["_law_purse_here"] (defScope s__law_family) := ⟨rfl, rfl, rfl, by decide +kernel, rfl, by decide +kernel, by decide +kernel⟩
theorem ok__law_family {f : Addr} {fd : FuncData} (F : FunV K "_law_family" "_law_family" s__law_family f fd) (G__law_pick : Fn P w K mg base "_law_pick" ["_law_purse_here", "_law_items"] (2) (spP K (sp__law_pick))) (B : Bi mg) : FnOk P w K mg base CX0 (3) f fd ["_law_purse_here"] (spP K (sp__law_family02)) := by
  refine fnP F sc__law_family (fun ds n Φ h => by first | (obtain ⟨_, rfl, _⟩ := h; rfl) | (obtain ⟨_, _, rfl, _⟩ := h; rfl) | (obtain ⟨_, _, _, rfl, _⟩ := h; rfl) | (obtain ⟨_, _, _, _, rfl, _⟩ := h; rfl) | (obtain ⟨_, _, _, _, _, rfl, _⟩ := h; rfl) | (obtain ⟨_, _, _, _, _, _, rfl, _⟩ := h; rfl) | (obtain ⟨_, _, _, _, _, _, _, rfl, _⟩ := h; rfl) | (obtain ⟨_, _, _, _, _, _, _, _, rfl, _⟩ := h; rfl) | (obtain ⟨_, _, _, _, _, _, _, _, _, rfl, _⟩ := h; rfl) | (obtain ⟨_, _, _, _, _, _, _, _, _, _, rfl, _⟩ := h; rfl) | (obtain ⟨_, _, _, _, _, _, _, _, _, _, _, rfl, _⟩ := h; rfl) | (obtain ⟨_, _, _, _, _, _, _, _, _, _, _, _, rfl, _⟩ := h; rfl) | (obtain ⟨_, _, _, _, _, _, _, _, _, _, _, _, _, rfl, _⟩ := h; rfl)) fun cdv A outer s H E M p n ds Φ hr hpu h => ?_
  have nd := sc__law_family.nd
  have hu64 := hr.units
  have hu1 := hu_of hr
  obtain ⟨m, rfl, rfl, k⟩ := h
  refine wb_norm (δ' := [_, _, _, _, _]) rfl ?_
  refine wb_cons ?_
  refine ws_asg 1 nd ?_
  refine we_callP G__law_pick (hr.mono (by decide)) rfl ?_
  refine wa_cons ?_
  refine we_var 0 rfl ?_
  refine wa_cons ?_
  refine we_lst ?_
  refine wa_cons ?_
  refine we_int ?_
  refine wa_cons ?_
  refine we_int ?_
  refine wa_cons ?_
  refine we_int ?_
  refine wa_cons ?_
  refine we_int ?_
  refine wa_cons ?_
  refine we_int ?_
  refine wa_cons ?_
  refine we_int ?_
  refine wa_cons ?_
  refine we_int ?_
  refine wa_cons ?_
  refine we_int ?_
  refine wa_cons ?_
  refine we_int ?_
  refine wa_cons ?_
  refine we_int ?_
  refine wa_nil ?_
  refine ⟨rfl, Nat.le_of_ble_eq_true rfl, ?_⟩
  refine wa_nil ?_
  refine ⟨_, _, rfl, rfl, ?_⟩
  refine ⟨_, _, rfl, by simp, by simp, rfl, rfl, fun x1 hx1 => ?_⟩
  obtain ⟨b, hb, rfl⟩ := pick_ints [10, 2, 10, 3, 10, 4, 6, 5, 7, 10] hx1 rfl
  have hb2 : 2 ≤ b ∧ b ≤ 10 := by simp at hb; omega
  refine ⟨rfl, ?_⟩
  refine wb_norm (δ' := [_, _, _, _, _]) rfl ?_
  refine wb_cons ?_
  refine ws_asg 2 nd ?_
  refine we_lst ?_
  refine wa_cons ?_
  refine we_lst ?_
  refine wa_cons ?_
  refine we_int ?_
  refine wa_cons ?_
  refine we_int ?_
  refine wa_cons ?_
  refine we_int ?_
  refine wa_nil ?_
  refine ⟨rfl, Nat.le_of_ble_eq_true rfl, ?_⟩
  refine wa_cons ?_
  refine we_lst ?_
  refine wa_cons ?_
  refine we_int ?_
  refine wa_cons ?_
  refine we_int ?_
  refine wa_cons ?_
  refine we_int ?_
  refine wa_cons ?_
  refine we_int ?_
  refine wa_nil ?_
  refine ⟨rfl, Nat.le_of_ble_eq_true rfl, ?_⟩
  refine wa_cons ?_
  refine we_lst ?_
  refine wa_cons ?_
  refine we_int ?_
  refine wa_cons ?_
  refine we_int ?_
  refine wa_cons ?_
  refine we_int ?_
  refine wa_cons ?_
  refine we_int ?_
  refine wa_nil ?_
  refine ⟨rfl, Nat.le_of_ble_eq_true rfl, ?_⟩
  refine wa_cons ?_
  refine we_lst ?_
  refine wa_cons ?_
  refine we_int ?_
  refine wa_cons ?_
  refine we_int ?_
  refine wa_cons ?_
  refine we_int ?_
  refine wa_nil ?_
  refine ⟨rfl, Nat.le_of_ble_eq_true rfl, ?_⟩
  refine wa_cons ?_
  refine we_lst ?_
  refine wa_cons ?_
  refine we_int ?_
  refine wa_cons ?_
  refine we_int ?_
  refine wa_nil ?_
  refine ⟨rfl, Nat.le_of_ble_eq_true rfl, ?_⟩
  refine wa_cons ?_
  refine we_lst ?_
  refine wa_cons ?_
  refine we_int ?_
  refine wa_cons ?_
  refine we_int ?_
  refine wa_cons ?_
  refine we_int ?_
  refine wa_nil ?_
  refine ⟨rfl, Nat.le_of_ble_eq_true rfl, ?_⟩
  refine wa_cons ?_
  refine we_lst ?_
  refine wa_cons ?_
  refine we_int ?_
  refine wa_cons ?_
  refine we_int ?_
  refine wa_nil ?_
  refine ⟨rfl, Nat.le_of_ble_eq_true rfl, ?_⟩
  refine wa_cons ?_
  refine we_lst ?_
  refine wa_cons ?_
  refine we_int ?_
  refine wa_cons ?_
  refine we_int ?_
  refine wa_cons ?_
  refine we_int ?_
  refine wa_nil ?_
  refine ⟨rfl, Nat.le_of_ble_eq_true rfl, ?_⟩
  refine wa_cons ?_
  refine we_lst ?_
  refine wa_cons ?_
  refine we_int ?_
  refine wa_cons ?_
  refine we_int ?_
  refine wa_cons ?_
  refine we_int ?_
  refine wa_nil ?_
  refine ⟨rfl, Nat.le_of_ble_eq_true rfl, ?_⟩
  refine wa_nil ?_
  refine ⟨rfl, Nat.le_of_ble_eq_true rfl, ?_⟩
  refine ⟨rfl, ?_⟩
  refine wb_norm (δ' := [_, _, _, _, _]) rfl ?_
  refine wb_cons ?_
  refine ws_asg 2 nd ?_
  refine we_add ?_
  refine we_var 2 rfl ?_
  refine we_lst ?_
  refine wa_cons ?_
  refine we_lst ?_
  refine wa_cons ?_
  refine we_int ?_
  refine wa_cons ?_
  refine we_int ?_
  refine wa_nil ?_
  refine ⟨rfl, Nat.le_of_ble_eq_true rfl, ?_⟩
  refine wa_cons ?_
  refine we_lst ?_
  refine wa_cons ?_
  refine we_int ?_
  refine wa_cons ?_
  refine we_int ?_
  refine wa_nil ?_
  refine ⟨rfl, Nat.le_of_ble_eq_true rfl, ?_⟩
  refine wa_cons ?_
  refine we_lst ?_
  refine wa_cons ?_
  refine we_int ?_
  refine wa_cons ?_
  refine we_int ?_
  refine wa_nil ?_
  refine ⟨rfl, Nat.le_of_ble_eq_true rfl, ?_⟩
  refine wa_nil ?_
  refine ⟨rfl, Nat.le_of_ble_eq_true rfl, ?_⟩
  refine ⟨_, _, rfl, rfl, by simp, ?_⟩
  refine ⟨rfl, ?_⟩
  refine wb_norm (δ' := [_, _, _, _, _]) rfl ?_
  refine wb_cons ?_
  refine ws_asgLc 3 [4] (by decide) rfl nd (blkOk_by (N := names__law_family) (sc := defScope s__law_family) (own := [("_law_one", 4)]) (by decide +kernel)) (sw_true rfl rfl rfl (by decide +kernel)) ?_
  refine lcPure (fun d => match d with | .int m => decide (0 < m % b) | _ => false) (fun d => d) ?_
  refine wi_list ?_
  refine we_callP G__law_pick (hr.mono (by decide)) rfl ?_
  refine wa_cons ?_
  refine we_var 0 rfl ?_
  refine wa_cons ?_
  refine we_var 2 rfl ?_
  refine wa_nil ?_
  refine ⟨_, _, rfl, rfl, ?_⟩
  refine ⟨_, _, rfl, by simp, by simp, rfl, rfl, fun x3 hx3 => ?_⟩
  obtain ⟨fs, hfs, rfl⟩ := pick_lists FAMS hx3 rfl
  obtain ⟨ff1, ff2, ff3⟩ := fams_ok fs hfs
  refine ⟨_, rfl, ?_⟩
  refine ⟨by rw [List.length_map]; omega, fun i2 d2 hi2 s2 H2 C2 cl2 fp2 M2 => ?_, ?_⟩
  ·
    obtain ⟨x, mx, rfl⟩ := ints_at hi2
    refine wg_name 4 nd rfl ?_
    refine ⟨rfl, fun s2_2 H2_2 C2_2 cl2_2 fp2_2 M2_2 => ?_⟩
    refine wts_one ?_
    refine wt_gt ?_
    refine we_mod ?_
    refine we_toInt B.int rfl ?_
    refine wa_cons ?_
    refine we_var 4 rfl ?_
    refine wa_nil ?_
    refine Or.inl ⟨_, rfl, ?_⟩
    refine we_var 1 rfl ?_
    refine ⟨by omega, ?_⟩
    refine we_int ?_
    refine ⟨_, rfl, ?_⟩
    refine ⟨rfl, rfl, fun hb2 s2_3 H2_3 C2_3 cl2_3 fp2_3 M2_3 => ?_⟩
    refine we_var 4 rfl ?_
    exact ⟨rfl, rfl, rfl⟩
  rw [filter_ints (fun h => decide (0 < h % b)) (fun m => rfl) (fun m => rfl)]
  refine ⟨_, rfl, ?_⟩
  refine wb_norm (δ' := [_, _, _, _, _]) rfl ?_
  refine wb_cons ?_
  refine ws_if ?_
  refine wt_eq hu64 ?_
  refine we_var 3 rfl ?_
  refine we_lst ?_
  refine wa_nil ?_
  refine ⟨rfl, Nat.le_of_ble_eq_true rfl, ?_⟩
  refine ⟨shaped_lst shp_ints, rfl, ?_⟩
  refine ⟨_, rfl, ?_⟩
  refine ⟨fun hc5 => ?_, fun hc5 => ?_⟩
  ·
    refine wb_norm (δ' := [_, _, _, _, _]) rfl ?_
    refine wb_one ?_
    refine ws_asg 3 nd ?_
    refine we_lst ?_
    refine wa_cons ?_
    refine we_int ?_
    refine wa_nil ?_
    refine ⟨rfl, Nat.le_of_ble_eq_true rfl, ?_⟩
    refine ⟨rfl, ?_⟩
    refine wb_norm (δ' := [_, _, _, _, _]) rfl ?_
    refine wb_one ?_
    refine ws_ret ?_
    refine we_tup ?_
    refine wa_cons ?_
    refine we_var 1 rfl ?_
    refine wa_cons ?_
    refine we_var 3 rfl ?_
    refine wa_nil ?_
    refine ⟨rfl, Nat.le_of_ble_eq_true rfl, ?_⟩
    refine ⟨rfl, ?_⟩
    exact k b [1] (Fam02.one (by omega) (by omega))
  ·
    rw [List.map_nil, lst_nil] at hc5
    have ne := of_decide_eq_false hc5
    refine wb_norm (δ' := [_, _, _, _, _]) rfl ?_
    refine wb_nil ?_
    refine wb_norm (δ' := [_, _, _, _, _]) rfl ?_
    refine wb_one ?_
    refine ws_ret ?_
    refine we_tup ?_
    refine wa_cons ?_
    refine we_var 1 rfl ?_
    refine wa_cons ?_
    refine we_var 3 rfl ?_
    refine wa_nil ?_
    refine ⟨rfl, Nat.le_of_ble_eq_true rfl, ?_⟩
    refine ⟨rfl, ?_⟩
    exact k b _ (Fam02.of (by omega) (by omega) hfs ne)

abbrev s__law_rule : Stmt := top 35
abbrev names__law_rule : List Str := ["_law_purse_here", "_law_family_here", "_law_base", "_law_some", "_law_kind", "_law_heads", "_law_one"]
theorem sc__law_rule : FnScope names__law_rule ["_law_purse_here", "_law_family_here"] (defScope s__law_rule) := ⟨rfl, rfl, rfl, by decide +kernel, rfl, by decide +kernel, by decide +kernel⟩
theorem ok__law_rule {f : Addr} {fd : FuncData} (F : FunV K "_law_rule" "_law_rule" s__law_rule f fd) (G__law_pick : Fn P w K mg base "_law_pick" ["_law_purse_here", "_law_items"] (2) (spP K (sp__law_pick))) (G__law_draw : Fn P w K mg base "_law_draw" ["_law_purse_here", "_law_many"] (1) (spP K (sp__law_draw))) (B : Bi mg) : FnOk P w K mg base CX0 (3) f fd ["_law_purse_here", "_law_family_here"] (spP K (sp__law_rule)) := by
  refine fnP F sc__law_rule (fun ds n Φ h => by first | (obtain ⟨_, rfl, _⟩ := h; rfl) | (obtain ⟨_, _, rfl, _⟩ := h; rfl) | (obtain ⟨_, _, _, rfl, _⟩ := h; rfl) | (obtain ⟨_, _, _, _, rfl, _⟩ := h; rfl) | (obtain ⟨_, _, _, _, _, rfl, _⟩ := h; rfl) | (obtain ⟨_, _, _, _, _, _, rfl, _⟩ := h; rfl) | (obtain ⟨_, _, _, _, _, _, _, rfl, _⟩ := h; rfl) | (obtain ⟨_, _, _, _, _, _, _, _, rfl, _⟩ := h; rfl) | (obtain ⟨_, _, _, _, _, _, _, _, _, rfl, _⟩ := h; rfl) | (obtain ⟨_, _, _, _, _, _, _, _, _, _, rfl, _⟩ := h; rfl) | (obtain ⟨_, _, _, _, _, _, _, _, _, _, _, rfl, _⟩ := h; rfl) | (obtain ⟨_, _, _, _, _, _, _, _, _, _, _, _, rfl, _⟩ := h; rfl) | (obtain ⟨_, _, _, _, _, _, _, _, _, _, _, _, _, rfl, _⟩ := h; rfl)) fun cdv A outer s H E M p n ds Φ hr hpu h => ?_
  have nd := sc__law_rule.nd
  have hu64 := hr.units
  have hu1 := hu_of hr
  obtain ⟨b, fs, m, rfl, F, rfl, k⟩ := h
  have fl := F.ms.len
  refine wb_norm (δ' := [_, _, _, _, _, _, _]) rfl ?_
  refine wb_cons ?_
  refine ws_asgG (is := ([2] ++ ([3] ++ []))) ?_
  refine we_var 1 rfl ?_
  refine ⟨?_, rfl⟩
  refine wg_tup rfl ⟨_, rfl, rfl, ?_⟩
  refine wgs_cons ?_
  refine wg_name 2 nd rfl ?_
  refine wgs_cons ?_
  refine wg_name 3 nd rfl ?_
  refine wgs_nil ?_
  refine wb_norm (δ' := [_, _, _, _, _, _, _]) rfl ?_
  refine wb_cons ?_
  refine ws_asg 4 nd ?_
  refine we_callP G__law_pick (hr.mono (by decide)) rfl ?_
  refine wa_cons ?_
  refine we_var 0 rfl ?_
  refine wa_cons ?_
  refine we_lst ?_
  refine wa_cons ?_
  refine we_str ?_
  refine wa_cons ?_
  refine we_str ?_
  refine wa_cons ?_
  refine we_str ?_
  refine wa_cons ?_
  refine we_str ?_
  refine wa_cons ?_
  refine we_str ?_
  refine wa_nil ?_
  refine ⟨rfl, Nat.le_of_ble_eq_true rfl, ?_⟩
  refine wa_nil ?_
  refine ⟨_, _, rfl, rfl, ?_⟩
  refine ⟨_, _, rfl, by simp, by simp, rfl, rfl, fun x1 hx1 => ?_⟩
  obtain ⟨way, hway, rfl⟩ := pick_strs ["inside", "cover", "length", "inside", "cover"] hx1 rfl
  have hw := ways_ok hway
  refine ⟨rfl, ?_⟩
  refine wb_norm (δ' := [_, _, _, _, _, _, _]) rfl ?_
  refine wb_cons ?_
  refine ws_asgLc 5 [6] (by decide) rfl nd (blkOk_by (N := names__law_rule) (sc := defScope s__law_rule) (own := [("_law_one", 6)]) (by decide +kernel)) (sw_true rfl rfl rfl (by decide +kernel)) ?_
  refine wi_list ?_
  refine we_var 3 rfl ?_
  refine ⟨_, rfl, ?_⟩
  refine ⟨fun i acc m2 => ∃ ms, acc = ms.map D.int ∧ ms.Sublist (fs.take i) ∧ m2 + i = m + 18, ⟨[], rfl, List.nil_sublist _, rfl⟩, fun i2 d2 acc2 m2 hi2 I2 s2 H2 C2 cl2 fp2 M2 => ?_, fun acc2 m2 I2 => ?_⟩
  ·
    obtain ⟨ms, rfl, sl, hm⟩ := I2
    obtain ⟨x, hx, rfl⟩ := map_at hi2
    have hlt := (List.getElem?_eq_some_iff.mp hx).1
    refine wg_name 6 nd rfl ?_
    intro s2_2 H2_2 C2_2 cl2_2 fp2_2 M2_2
    refine wts_one ?_
    refine wt_gt ?_
    refine we_callP G__law_draw (hr.mono (by decide)) rfl ?_
    refine wa_cons ?_
    refine we_var 0 rfl ?_
    refine wa_cons ?_
    refine we_int ?_
    refine wa_nil ?_
    refine ⟨_, _, rfl, rfl, ?_⟩
    refine ⟨_, m2 - 1, rfl, ⟨by decide, Bd.mono (Bd.small (k := 20) 100000 (by decide) (by decide)) (by decide)⟩, by omega, fun r ra rb => ?_⟩
    refine we_int ?_
    refine ⟨_, rfl, ?_⟩
    refine ⟨fun hb2 s2_3 H2_3 C2_3 cl2_3 fp2_3 M2_3 => ?_, fun hb2 => ?_⟩
    ·
      refine we_var 6 rfl ?_
      exact ⟨rfl, by have := sl.length_le; rw [List.length_take] at this; rw [List.length_map]; omega, ms ++ [x], by rw [List.map_append]; rfl, sub_app sl hx, by omega⟩
    · exact ⟨ms, rfl, sub_skip sl hx, by omega⟩
  obtain ⟨ms, rfl, sl, hm⟩ := I2
  rw [List.length_map] at sl hm
  rw [List.take_length] at sl
  obtain ⟨n1, rfl, hn1⟩ : ∃ n1, m2 = n1 + 2 ∧ m ≤ n1 := ⟨m2 - 2, by omega, by omega⟩
  refine ⟨_, rfl, ?_⟩
  refine wb_norm (δ' := [_, _, _, _, _, _, _]) rfl ?_
  refine wb_cons ?_
  refine ws_if ?_
  refine wt_eq hu64 ?_
  refine we_var 5 rfl ?_
  refine we_lst ?_
  refine wa_nil ?_
  refine ⟨rfl, Nat.le_of_ble_eq_true rfl, ?_⟩
  refine ⟨shaped_lst shp_ints, rfl, ?_⟩
  refine ⟨_, rfl, ?_⟩
  refine ⟨fun hc4 => ?_, fun hc4 => ?_⟩
  ·
    refine wb_norm (δ' := [_, _, _, _, _, _, _]) rfl ?_
    refine wb_one ?_
    refine ws_asg 5 nd ?_
    refine we_lst ?_
    refine wa_cons ?_
    refine we_callP G__law_pick (hr.mono (by decide)) rfl ?_
    refine wa_cons ?_
    refine we_var 0 rfl ?_
    refine wa_cons ?_
    refine we_var 3 rfl ?_
    refine wa_nil ?_
    refine ⟨_, _, rfl, rfl, ?_⟩
    refine ⟨_, _, rfl, by simpa using F.ms.ne, by rw [List.length_map]; omega, by simp [pureD], rfl, fun x5 hx5 => ?_⟩
    obtain ⟨h0, hh0, rfl⟩ := pick_ints fs hx5 rfl
    refine wa_nil ?_
    refine ⟨rfl, Nat.le_of_ble_eq_true rfl, ?_⟩
    refine ⟨rfl, ?_⟩
    refine wb_norm (δ' := [_, _, _, _, _, _, _]) rfl ?_
    refine WB.less (m := m + 1) ?_ (by omega)
    refine wb_one ?_
    refine ws_ret ?_
    refine we_tup ?_
    refine wa_cons ?_
    refine we_var 2 rfl ?_
    refine wa_cons ?_
    refine we_var 4 rfl ?_
    refine wa_cons ?_
    refine we_var 5 rfl ?_
    refine wa_cons ?_
    refine we_add ?_
    refine we_callP G__law_pick (hr.mono (by decide)) rfl ?_
    refine wa_cons ?_
    refine we_var 0 rfl ?_
    refine wa_cons ?_
    refine we_lst ?_
    refine wa_cons ?_
    refine we_int ?_
    refine wa_cons ?_
    refine we_int ?_
    refine wa_cons ?_
    refine we_int ?_
    refine wa_cons ?_
    refine we_int ?_
    refine wa_cons ?_
    refine we_int ?_
    refine wa_cons ?_
    refine we_int ?_
    refine wa_cons ?_
    refine we_int ?_
    refine wa_nil ?_
    refine ⟨rfl, Nat.le_of_ble_eq_true rfl, ?_⟩
    refine wa_nil ?_
    refine ⟨_, _, rfl, rfl, ?_⟩
    refine ⟨_, _, rfl, by simp, by simp, rfl, rfl, fun x6 hx6 => ?_⟩
    obtain ⟨l, hl, rfl⟩ := pick_ints [1, 2, 3, 4, 5, 2, 3] hx6 rfl
    have hl2 : 1 ≤ l ∧ l ≤ 5 := by simp at hl; omega
    refine we_toInt B.int rfl ?_
    refine wa_cons ?_
    refine we_eq hu64 ?_
    refine we_var 4 rfl ?_
    refine we_str ?_
    refine wa_nil ?_
    refine Or.inr ⟨_, rfl, ?_⟩
    refine wa_nil ?_
    refine ⟨rfl, Nat.le_of_ble_eq_true rfl, ?_⟩
    refine ⟨rfl, ?_⟩
    exact k way [h0] _ (RFam.of (F.some hh0) hw hl2) (by simpa using hh0)
  ·
    rw [List.map_nil, lst_nil] at hc4
    have ne := of_decide_eq_false hc4
    refine wb_norm (δ' := [_, _, _, _, _, _, _]) rfl ?_
    refine wb_nil ?_
    refine wb_norm (δ' := [_, _, _, _, _, _, _]) rfl ?_
    refine WB.less (m := m + 1) ?_ (by omega)
    refine wb_one ?_
    refine ws_ret ?_
    refine we_tup ?_
    refine wa_cons ?_
    refine we_var 2 rfl ?_
    refine wa_cons ?_
    refine we_var 4 rfl ?_
    refine wa_cons ?_
    refine we_var 5 rfl ?_
    refine wa_cons ?_
    refine we_add ?_
    refine we_callP G__law_pick (hr.mono (by decide)) rfl ?_
    refine wa_cons ?_
    refine we_var 0 rfl ?_
    refine wa_cons ?_
    refine we_lst ?_
    refine wa_cons ?_
    refine we_int ?_
    refine wa_cons ?_
    refine we_int ?_
    refine wa_cons ?_
    refine we_int ?_
    refine wa_cons ?_
    refine we_int ?_
    refine wa_cons ?_
    refine we_int ?_
    refine wa_cons ?_
    refine we_int ?_
    refine wa_cons ?_
    refine we_int ?_
    refine wa_nil ?_
    refine ⟨rfl, Nat.le_of_ble_eq_true rfl, ?_⟩
    refine wa_nil ?_
    refine ⟨_, _, rfl, rfl, ?_⟩
    refine ⟨_, _, rfl, by simp, by simp, rfl, rfl, fun x8 hx8 => ?_⟩
    obtain ⟨l, hl, rfl⟩ := pick_ints [1, 2, 3, 4, 5, 2, 3] hx8 rfl
    have hl2 : 1 ≤ l ∧ l ≤ 5 := by simp at hl; omega
    refine we_toInt B.int rfl ?_
    refine wa_cons ?_
    refine we_eq hu64 ?_
    refine we_var 4 rfl ?_
    refine we_str ?_
    refine wa_nil ?_
    refine Or.inr ⟨_, rfl, ?_⟩
    refine wa_nil ?_
    refine ⟨rfl, Nat.le_of_ble_eq_true rfl, ?_⟩
    refine ⟨rfl, ?_⟩
    exact k way ms _ (RFam.of (F.sub sl ne) hw hl2) (fun h m => sl.subset m)

abbrev s__law_made : Stmt := top 36
abbrev names__law_made : List Str := ["_law_rule_here"]
theorem sc__law_made : FnScope names__law_made ["_law_rule_here"] (defScope s__law_made) := ⟨rfl, rfl, rfl, by decide +kernel, rfl, by decide +kernel, by decide +kernel⟩
theorem ok__law_made {f : Addr} {fd : FuncData} (F : FunV K "_law_made" "_law_made" s__law_made f fd) (G_Rule : Mkr P w K mg base "Rule" CR ["self", "base", "kind", "mantissas", "most"] (4) (spI K CR (sp_Rule___init__))) (B : Bi mg) : FnOk P w K mg base CX0 (6) f fd ["_law_rule_here"] (spD K (sp__law_made CR)) := by
  refine fnD F sc__law_made (fun ds Φ h => by first | (obtain ⟨_, rfl, _⟩ := h; rfl) | (obtain ⟨_, _, rfl, _⟩ := h; rfl) | (obtain ⟨_, _, _, rfl, _⟩ := h; rfl) | (obtain ⟨_, _, _, _, rfl, _⟩ := h; rfl) | (obtain ⟨_, _, _, _, _, rfl, _⟩ := h; rfl) | (obtain ⟨_, _, _, _, _, _, rfl, _⟩ := h; rfl) | (obtain ⟨_, _, _, _, _, _, _, rfl, _⟩ := h; rfl) | (obtain ⟨_, _, _, _, _, _, _, _, rfl, _⟩ := h; rfl) | (obtain ⟨_, _, _, _, _, _, _, _, _, rfl, _⟩ := h; rfl) | (obtain ⟨_, _, _, _, _, _, _, _, _, _, rfl, _⟩ := h; rfl) | (obtain ⟨_, _, _, _, _, _, _, _, _, _, _, rfl, _⟩ := h; rfl) | (obtain ⟨_, _, _, _, _, _, _, _, _, _, _, _, rfl, _⟩ := h; rfl) | (obtain ⟨_, _, _, _, _, _, _, _, _, _, _, _, _, rfl, _⟩ := h; rfl)) fun cdv A outer s H E M ds Φ hr hpu h => ?_
  have nd := sc__law_made.nd
  have hu64 := hr.units
  have hu1 := hu_of hr
  obtain ⟨b, way, ms, lim, rfl, fo, k⟩ := h
  refine wb_norm (δ' := [_]) rfl ?_
  refine wb_one ?_
  refine ws_ret ?_
  refine we_make G_Rule (hr.mono (by decide)) rfl ?_
  refine wa_cons ?_
  refine we_ix ?_
  refine we_var 0 rfl ?_
  refine we_int ?_
  refine ⟨_, _, _, rfl, rfl, rfl, ?_⟩
  refine wa_cons ?_
  refine we_ix ?_
  refine we_var 0 rfl ?_
  refine we_int ?_
  refine ⟨_, _, _, rfl, rfl, rfl, ?_⟩
  refine wa_cons ?_
  refine we_toList B.list rfl ?_
  refine wa_cons ?_
  refine we_ix ?_
  refine we_var 0 rfl ?_
  refine we_int ?_
  refine ⟨_, _, _, rfl, rfl, rfl, ?_⟩
  refine wa_nil ?_
  refine ⟨_, _, rfl, rfl, ?_⟩
  refine wa_cons ?_
  refine we_ix ?_
  refine we_var 0 rfl ?_
  refine we_int ?_
  refine ⟨_, _, _, rfl, rfl, rfl, ?_⟩
  refine wa_nil ?_
  refine ⟨rfl, ?_⟩
  refine ⟨_, _, ms, _, rfl, fo, fun ns pm pw => ?_⟩
  refine ⟨rfl, ?_⟩
  exact k ns pm pw

abbrev s__law_times : Stmt := top 37
abbrev names__law_times : List Str := ["_law_base", "_law_many", "_law_found", "_law_turn"]
theorem sc__law_times : FnScope names__law_times ["_law_base", "_law_many"] (defScope s__law_times) := ⟨rfl, rfl, rfl, by decide +kernel, rfl, by decide +kernel, by decide +kernel⟩
theorem ok__law_times {f : Addr} {fd : FuncData} (F : FunV K "_law_times" "_law_times" s__law_times f fd)  (B : Bi mg) : FnOk P w K mg base CX0 (1) f fd ["_law_base", "_law_many"] (spD K (sp__law_times)) := by
  refine fnD F sc__law_times (fun ds Φ h => by first | (obtain ⟨_, rfl, _⟩ := h; rfl) | (obtain ⟨_, _, rfl, _⟩ := h; rfl) | (obtain ⟨_, _, _, rfl, _⟩ := h; rfl) | (obtain ⟨_, _, _, _, rfl, _⟩ := h; rfl) | (obtain ⟨_, _, _, _, _, rfl, _⟩ := h; rfl) | (obtain ⟨_, _, _, _, _, _, rfl, _⟩ := h; rfl) | (obtain ⟨_, _, _, _, _, _, _, rfl, _⟩ := h; rfl) | (obtain ⟨_, _, _, _, _, _, _, _, rfl, _⟩ := h; rfl) | (obtain ⟨_, _, _, _, _, _, _, _, _, rfl, _⟩ := h; rfl) | (obtain ⟨_, _, _, _, _, _, _, _, _, _, rfl, _⟩ := h; rfl) | (obtain ⟨_, _, _, _, _, _, _, _, _, _, _, rfl, _⟩ := h; rfl) | (obtain ⟨_, _, _, _, _, _, _, _, _, _, _, _, rfl, _⟩ := h; rfl) | (obtain ⟨_, _, _, _, _, _, _, _, _, _, _, _, _, rfl, _⟩ := h; rfl)) fun cdv A outer s H E M ds Φ hr hpu h => ?_
  have nd := sc__law_times.nd
  have hu64 := hr.units
  have hu1 := hu_of hr
  obtain ⟨b, m, rfl, ⟨b0, b1⟩, ⟨m0, m1⟩, k⟩ := h
  refine wb_norm (δ' := [_, _, _, _]) rfl ?_
  refine wb_cons ?_
  refine ws_asg 2 nd ?_
  refine we_int ?_
  refine ⟨rfl, ?_⟩
  refine wb_norm (δ' := [_, _, _, _]) rfl ?_
  refine wb_cons ?_
  refine ws_for (is := [3]) PassesOwn.never rfl ?_
  refine wi_range1 B.range rfl ?_
  refine we_var 1 rfl ?_
  refine ⟨_, rfl, by omega, by omega, ?_⟩
  refine ⟨fun i δ _ => ∃ s, δ = [some (.int b), some (.int m), some (.int (b ^ i)), s], ⟨none, by rw [Int.pow_zero]; rfl⟩, fun i1 d1 δ1 n1 hi1 I1 => ?_, fun δ1 n1 I1 => ?_⟩
  ·
    obtain ⟨s, rfl⟩ := I1
    obtain ⟨hi, rfl⟩ := rangeD_at hi1
    refine wg_name 3 nd rfl ?_
    refine wb_norm (δ' := [_, _, _, _]) rfl ?_
    refine wb_one ?_
    refine ws_asg 2 nd ?_
    refine we_mul ?_
    refine we_var 2 rfl ?_
    refine we_var 0 rfl ?_
    refine ⟨((Bd.pow b0 b1 _).mono (k := 20001) (by omega)).cmul (k := 5) (Bd.small 17 (by omega) (by decide)) (by decide), ?_⟩
    refine ⟨rfl, ?_⟩
    exact ⟨_, by rw [Int.pow_succ]; rfl⟩
  ·
    obtain ⟨s, rfl⟩ := I1
    rw [rangeD_len]
    refine wb_norm (δ' := [_, _, _, _]) rfl ?_
    refine wb_one ?_
    refine ws_ret ?_
    refine we_var 2 rfl ?_
    refine ⟨rfl, ?_⟩
    exact k

abbrev s__law_fields : Stmt := top 39
abbrev names__law_fields : List Str := ["_law_made_here"]
theorem sc__law_fields : FnScope names__law_fields ["_law_made_here"] (defScope s__law_fields) := ⟨rfl, rfl, rfl, by decide +kernel, rfl, by decide +kernel, by decide +kernel⟩
theorem ok__law_fields {f : Addr} {fd : FuncData} (F : FunV K "_law_fields" "_law_fields" s__law_fields f fd) (G_Rule_base : Prp P w K mg base CR "base" (1) (spD K (sp_Rule_base CR))) (G_Rule_kind : Prp P w K mg base CR "kind" (1) (spD K (sp_Rule_kind CR))) (G_Rule_mantissas : Prp P w K mg base CR "mantissas" (1) (spD K (sp_Rule_mantissas CR))) (G_Rule_most : Prp P w K mg base CR "most" (1) (spD K (sp_Rule_most CR))) (T : Txt K mg CR) : FnOk P w K mg base CX0 (3) f fd ["_law_made_here"] (spD K (sp__law_fields CR)) := by
  refine fnD F sc__law_fields (fun ds Φ h => by first | (obtain ⟨_, rfl, _⟩ := h; rfl) | (obtain ⟨_, _, rfl, _⟩ := h; rfl) | (obtain ⟨_, _, _, rfl, _⟩ := h; rfl) | (obtain ⟨_, _, _, _, rfl, _⟩ := h; rfl) | (obtain ⟨_, _, _, _, _, rfl, _⟩ := h; rfl) | (obtain ⟨_, _, _, _, _, _, rfl, _⟩ := h; rfl) | (obtain ⟨_, _, _, _, _, _, _, rfl, _⟩ := h; rfl) | (obtain ⟨_, _, _, _, _, _, _, _, rfl, _⟩ := h; rfl) | (obtain ⟨_, _, _, _, _, _, _, _, _, rfl, _⟩ := h; rfl) | (obtain ⟨_, _, _, _, _, _, _, _, _, _, rfl, _⟩ := h; rfl) | (obtain ⟨_, _, _, _, _, _, _, _, _, _, _, rfl, _⟩ := h; rfl) | (obtain ⟨_, _, _, _, _, _, _, _, _, _, _, _, rfl, _⟩ := h; rfl) | (obtain ⟨_, _, _, _, _, _, _, _, _, _, _, _, _, rfl, _⟩ := h; rfl)) fun cdv A outer s H E M ds Φ hr hpu h => ?_
  have nd := sc__law_fields.nd
  have hu64 := hr.units
  have hu1 := hu_of hr
  obtain ⟨r, rfl, k⟩ := h
  refine wb_norm (δ' := [_]) rfl ?_
  refine wb_one ?_
  refine ws_ret ?_
  refine we_tup ?_
  refine wa_cons ?_
  refine we_prop (ns := nsR) T.Rule.cl G_Rule_base (hr.mono (by decide)) ?_
  refine we_var 0 rfl ?_
  refine ⟨_, rfl, ?_⟩
  refine ⟨_, rfl, ?_⟩
  refine wa_cons ?_
  refine we_prop (ns := nsR) T.Rule.cl G_Rule_kind (hr.mono (by decide)) ?_
  refine we_var 0 rfl ?_
  refine ⟨_, rfl, ?_⟩
  refine ⟨_, rfl, ?_⟩
  refine wa_cons ?_
  refine we_prop (ns := nsR) T.Rule.cl G_Rule_mantissas (hr.mono (by decide)) ?_
  refine we_var 0 rfl ?_
  refine ⟨_, rfl, ?_⟩
  refine ⟨_, rfl, ?_⟩
  refine wa_cons ?_
  refine we_prop (ns := nsR) T.Rule.cl G_Rule_most (hr.mono (by decide)) ?_
  refine we_var 0 rfl ?_
  refine ⟨_, rfl, ?_⟩
  refine ⟨_, rfl, ?_⟩
  refine wa_nil ?_
  refine ⟨rfl, Nat.le_of_ble_eq_true rfl, ?_⟩
  refine ⟨rfl, ?_⟩
  exact k

abbrev s__law_is_dividing : Stmt := top 41
abbrev names__law_is_dividing : List Str := ["_law_base", "_law_heads", "_law_sizes", "_law_head", "_law_at", "_law_many", "_law_size"]
theorem sc__law_is_dividing : FnScope names__law_is_dividing ["_law_base", "_law_heads"] (defScope s__law_is_dividing) := ⟨rfl, rfl, rfl, by decide +kernel, rfl, by decide +kernel, by decide +kernel⟩
theorem ok__law_is_dividing {f : Addr} {fd : FuncData} (F : FunV K "_law_is_dividing" "_law_is_dividing" s__law_is_dividing f fd) (G__law_times : Fn P w K mg base "_law_times" ["_law_base", "_law_many"] (1) (spD K (sp__law_times))) (B : Bi mg) : FnOk P w K mg base CX0 (2) f fd ["_law_base", "_law_heads"] (spD K (sp__law_is_dividing)) := by
  refine fnD F sc__law_is_dividing (fun ds Φ h => by first | (obtain ⟨_, rfl, _⟩ := h; rfl) | (obtain ⟨_, _, rfl, _⟩ := h; rfl) | (obtain ⟨_, _, _, rfl, _⟩ := h; rfl) | (obtain ⟨_, _, _, _, rfl, _⟩ := h; rfl) | (obtain ⟨_, _, _, _, _, rfl, _⟩ := h; rfl) | (obtain ⟨_, _, _, _, _, _, rfl, _⟩ := h; rfl) | (obtain ⟨_, _, _, _, _, _, _, rfl, _⟩ := h; rfl) | (obtain ⟨_, _, _, _, _, _, _, _, rfl, _⟩ := h; rfl) | (obtain ⟨_, _, _, _, _, _, _, _, _, rfl, _⟩ := h; rfl) | (obtain ⟨_, _, _, _, _, _, _, _, _, _, rfl, _⟩ := h; rfl) | (obtain ⟨_, _, _, _, _, _, _, _, _, _, _, rfl, _⟩ := h; rfl) | (obtain ⟨_, _, _, _, _, _, _, _, _, _, _, _, rfl, _⟩ := h; rfl) | (obtain ⟨_, _, _, _, _, _, _, _, _, _, _, _, _, rfl, _⟩ := h; rfl)) fun cdv A outer s H E M ds Φ hr hpu h => ?_
  have nd := sc__law_is_dividing.nd
  have hu64 := hr.units
  have hu1 := hu_of hr
  obtain ⟨b, hs, rfl, DV, k⟩ := h
  have hb := DV.t.b2
  have hl := And.intro DV.t.len DV.t.hd
  have z1 := DV.len
  have z2 := DV.pos
  refine wb_norm (δ' := [_, _, _, _, _, _, _]) rfl ?_
  refine wb_cons ?_
  refine ws_asg 2 nd ?_
  refine we_lst ?_
  refine wa_nil ?_
  refine ⟨rfl, Nat.le_of_ble_eq_true rfl, ?_⟩
  refine ⟨rfl, ?_⟩
  refine wb_norm (δ' := [_, _, _, _, _, _, _]) rfl ?_
  refine wb_cons ?_
  refine ws_forK [2, 3] (is := [3]) PassesOwn.never rfl ?_
  refine wi_list ?_
  refine we_var 1 rfl ?_
  refine ⟨_, rfl, ?_⟩
  refine ⟨fun i ss _ => ∃ s1 : Option D, ss = [some (.lst ((szs b (hs.take i)).map D.int)), s1], [some (.lst []), none], ⟨rfl, none, rfl⟩, fun i1 d1 ss1 n1 hi1 I1 => ?_, fun ss1 n1 I1 => ?_⟩
  ·
    obtain ⟨s1, rfl⟩ := I1
    obtain ⟨m, hm, rfl⟩ := map_at (f := D.int) hi1
    have mm := hl.2 m (List.mem_of_getElem? hm)
    have il := (List.getElem?_eq_some_iff.mp hm).1
    have sl12 := szs_len b (hs.take i1)
    have tl := List.length_take_le i1 hs
    refine wg_name 3 nd rfl ?_
    refine wb_norm (δ' := [_, _, _, _, _, _, _]) rfl ?_
    refine wb_one ?_
    refine ws_asg 2 nd ?_
    refine we_add ?_
    refine we_var 2 rfl ?_
    refine we_lc [5] (by decide) rfl nd (blkOk_by (N := names__law_is_dividing) (sc := defScope s__law_is_dividing) (own := [("_law_many", 5)]) (by decide +kernel)) ?_
    refine lcPure (fun _ => true) (fun d => match d with | .int j => .int (m * b ^ j.toNat) | d => d) ?_
    refine wi_range1 B.range rfl ?_
    refine we_int ?_
    refine ⟨_, rfl, by decide, by decide, ?_⟩
    refine ⟨by rw [rangeD_len]; decide, fun i2 d2 hi2 s2 H2 C2 cl2 fp2 M2 => ?_, ?_⟩
    ·
      obtain ⟨hj, rfl⟩ := rangeD_at hi2
      have hk : i2 < 12 := hj
      refine wg_name 5 nd rfl ?_
      refine ⟨rfl, fun s2_2 H2_2 C2_2 cl2_2 fp2_2 M2_2 => ?_⟩
      refine wts_nil ?_
      refine ⟨rfl, rfl, fun hb2 s2_3 H2_3 C2_3 cl2_3 fp2_3 M2_3 => ?_⟩
      refine we_mul ?_
      refine we_var 3 rfl ?_
      refine we_call G__law_times (hr.mono (by decide)) rfl ?_
      refine wa_cons ?_
      refine we_var 0 rfl ?_
      refine wa_cons ?_
      refine we_var 5 rfl ?_
      refine wa_nil ?_
      refine ⟨rfl, ?_⟩
      refine ⟨_, _, rfl, ⟨by omega, by omega⟩, ⟨by omega, by omega⟩, ?_⟩
      refine ⟨(Bd.small (k := 10) 1001 (by omega) (by decide)).cmul ((Bd.pow (by omega) (by omega) _).mono (k := 100) (by omega)) (by decide), ?_⟩
      exact ⟨rfl, rfl, rfl⟩
    rw [lc_range12 (fun k => m * b ^ k) (fun k => rfl)]
    refine ⟨_, _, rfl, rfl, by simp; omega, ?_⟩
    refine ⟨rfl, ?_⟩
    exact ⟨[some (.lst ((szs b (hs.take (i1 + 1))).map D.int)), _], by rw [szs_app hm, List.map_append]; rfl, _, rfl⟩
  ·
    obtain ⟨s1, rfl⟩ := I1
    rw [List.length_map, List.take_length]
    have sl12 := szs_len b hs
    refine wb_norm (δ' := [_, _, _, _, _, _, _]) rfl ?_
    refine wb_cons ?_
    refine ws_asg 2 nd ?_
    refine we_slHi ?_
    refine we_sorted B.sorted rfl ?_
    refine wa_cons ?_
    refine we_lc [6] (by decide) rfl nd (blkOk_by (N := names__law_is_dividing) (sc := defScope s__law_is_dividing) (own := [("_law_size", 6)]) (by decide +kernel)) ?_
    refine lcPure (fun d => match d with | .int v => decide (100 ≤ v) | _ => false) (fun d => d) ?_
    refine wi_list ?_
    refine we_var 2 rfl ?_
    refine ⟨_, rfl, ?_⟩
    refine ⟨by rw [List.length_map]; omega, fun i5 d5 hi5 s5 H5 C5 cl5 fp5 M5 => ?_, ?_⟩
    ·
      obtain ⟨x, mx, rfl⟩ := ints_at hi5
      refine wg_name 6 nd rfl ?_
      refine ⟨rfl, fun s5_2 H5_2 C5_2 cl5_2 fp5_2 M5_2 => ?_⟩
      refine wts_one ?_
      refine wt_ge ?_
      refine we_var 6 rfl ?_
      refine we_int ?_
      refine ⟨_, rfl, ?_⟩
      refine ⟨rfl, rfl, fun hb5 s5_3 H5_3 C5_3 cl5_3 fp5_3 M5_3 => ?_⟩
      refine we_toInt B.int rfl ?_
      refine wa_cons ?_
      refine we_var 6 rfl ?_
      refine wa_nil ?_
      refine Or.inl ⟨_, rfl, ?_⟩
      exact ⟨rfl, rfl, rfl⟩
    rw [filter_ints (fun v => decide (100 ≤ v)) (fun m => rfl) (fun m => rfl)]
    refine wa_nil ?_
    refine ⟨_, _, rfl, rfl, fun ns pm pw => ?_⟩
    rw [eq_isort pm pw]
    refine we_add ?_
    refine we_len B.len rfl ?_
    refine wa_cons ?_
    refine we_var 1 rfl ?_
    refine wa_nil ?_
    refine ⟨_, _, rfl, rfl, ?_⟩
    refine we_int ?_
    refine ⟨_, ((hs.length + 1 : Nat) : Int), rfl, by rw [List.length_map]; rfl, ?_⟩
    rw [cutD_take, ← List.map_take]
    refine ⟨rfl, ?_⟩
    refine wb_norm (δ' := [_, _, _, _, _, _, _]) rfl ?_
    refine wb_one ?_
    refine ws_ret ?_
    refine we_eq hu64 ?_
    refine we_lc [4] (by decide) rfl nd (blkOk_by (N := names__law_is_dividing) (sc := defScope s__law_is_dividing) (own := [("_law_at", 4)]) (by decide +kernel)) ?_
    refine lcPure (fun d => match d with | .int j => decide (0 < (zs11 b hs).getD (j.toNat + 1) 0 % (zs11 b hs).getD j.toNat 0) | _ => false) (fun d => d) ?_
    refine wi_range1 B.range rfl ?_
    refine we_len B.len rfl ?_
    refine wa_cons ?_
    refine we_var 1 rfl ?_
    refine wa_nil ?_
    refine ⟨_, _, rfl, rfl, ?_⟩
    refine ⟨_, rfl, by rw [List.length_map]; omega, by rw [List.length_map]; omega, ?_⟩
    refine ⟨by rw [rangeD_len, List.length_map]; omega, fun i8 d8 hi8 s8 H8 C8 cl8 fp8 M8 => ?_, ?_⟩
    ·
      obtain ⟨hj, rfl⟩ := rangeD_at hi8
      have hk : i8 < hs.length := by simpa using hj
      obtain ⟨za, hza⟩ := some_at (xs := zs11 b hs) (k := i8) (by omega)
      obtain ⟨zb, hzb⟩ := some_at (xs := zs11 b hs) (k := i8 + 1) (by omega)
      have za2 := z2 za (List.mem_of_getElem? hza)
      refine wg_name 4 nd rfl ?_
      refine ⟨rfl, fun s8_2 H8_2 C8_2 cl8_2 fp8_2 M8_2 => ?_⟩
      refine wts_one ?_
      refine wt_gt ?_
      refine we_mod ?_
      refine we_toInt B.int rfl ?_
      refine wa_cons ?_
      refine we_ix ?_
      refine we_var 2 rfl ?_
      refine we_add ?_
      refine we_var 4 rfl ?_
      refine we_int ?_
      refine ⟨_, _, _, rfl, rfl, atI_map (f := D.int) (xs := zs11 b hs) (k := i8 + 1) hzb (by omega), ?_⟩
      refine wa_nil ?_
      refine Or.inl ⟨_, rfl, ?_⟩
      refine we_ix ?_
      refine we_var 2 rfl ?_
      refine we_var 4 rfl ?_
      refine ⟨_, _, _, rfl, rfl, atI_map (f := D.int) (xs := zs11 b hs) hza (by omega), ?_⟩
      refine ⟨za2.1, ?_⟩
      refine we_int ?_
      refine ⟨_, rfl, ?_⟩
      refine ⟨rfl, by simp only [Int.zero_add, Int.toNat_natCast, List.getD_eq_getElem?_getD, hza, hzb]; rfl, fun hb8 s8_3 H8_3 C8_3 cl8_3 fp8_3 M8_3 => ?_⟩
      refine we_var 4 rfl ?_
      exact ⟨rfl, rfl, rfl⟩
    rw [List.length_map, show ((hs.length : Nat) : Int).toNat = hs.length by omega, lc_rangeD (fun i => decide (0 < (zs11 b hs).getD (i + 1) 0 % (zs11 b hs).getD i 0)) (fun i => by simp only [Int.zero_add, Int.toNat_natCast]) fun i => rfl]
    refine we_lst ?_
    refine wa_nil ?_
    refine ⟨rfl, Nat.le_of_ble_eq_true rfl, ?_⟩
    refine ⟨shaped_new shp_ints, rfl, ?_⟩
    refine ⟨rfl, ?_⟩
    rw [List.map_nil, new_none, List.isEmpty_map, List.isEmpty_map]
    exact k

abbrev s__law_odd : Stmt := top 40
abbrev names__law_odd : List Str := ["_law_purse_here", "_law_base", "_law_kind", "_law_heads", "_law_most", "_law_wrong", "_law_some", "_law_words", "_law_odd_here"]
theorem sc__law_odd : FnScope names__law_odd ["_law_purse_here", "_law_base", "_law_kind", "_law_heads", "_law_most"] (defScope s__law_odd) := ⟨rfl, rfl, rfl, by decide +kernel, rfl, by decide +kernel, by decide +kernel⟩
theorem ok__law_odd {f : Addr} {fd : FuncData} (F : FunV K "_law_odd" "_law_odd" s__law_odd f fd) (G__law_draw : Fn P w K mg base "_law_draw" ["_law_purse_here", "_law_many"] (1) (spP K (sp__law_draw))) (B : Bi mg) : FnOk P w K mg base CX0 (3) f fd ["_law_purse_here", "_law_base", "_law_kind", "_law_heads", "_law_most"] (spPL K (sp__law_odd02)) := by
  refine fnPL F sc__law_odd (fun H ds n Φ h => by obtain ⟨_, _, _, _, _, _, _, rfl, _⟩ := h; rfl) fun cdv A outer s H E p n ds Φ hr hpu h => ?_
  have nd := sc__law_odd.nd
  have hu64 := hr.units
  have hu1 := hu_of hr
  obtain ⟨b, way, h0, z, t, lim, m, rfl, ⟨b2, b16⟩, tl, lk0, rfl, k⟩ := h
  have lk : Lk (cxOf CX0 P w K mg base names__law_odd "_law_odd" (defScope s__law_odd) f cdv A outer s H E).nox h0 (z :: t) := lk0
  have nmh : ¬ Mls H p h0 := by
    rintro ⟨⟨xs, e⟩, _⟩
    obtain ⟨od, e2⟩ := lk0
    rw [e2] at e; cases e
  refine wb_norm (δ' := [_, _, _, _, _, _, _, _, _]) rfl ?_
  refine wb_cons ?_
  refine ws_asgO 5 nd ?_
  refine we_lst ?_
  refine wa_cons ?_
  refine we_catR ?_
  refine we_var 3 rfl ?_
  refine we_lst ?_
  refine wa_cons ?_
  refine we_ix ?_
  refine we_lk lk nmh ?_
  refine we_var 3 rfl ?_
  refine ⟨rfl, ?_⟩
  refine we_int ?_
  refine ⟨_, _, .int z, rfl, rfl, atI_map (f := D.int) (xs := z :: t) (k := 0) (x := z) rfl rfl, ?_⟩
  refine wa_nil ?_
  refine ⟨rfl, Nat.le_of_ble_eq_true rfl, ?_⟩
  refine ⟨_, _, .inr ⟨h0, _, rfl, lk, rfl⟩, .inl rfl, by simp; omega, ?_⟩
  refine wa_cons ?_
  refine we_catR ?_
  refine we_var 3 rfl ?_
  refine we_lst ?_
  refine wa_cons ?_
  refine we_int ?_
  refine wa_nil ?_
  refine ⟨rfl, Nat.le_of_ble_eq_true rfl, ?_⟩
  refine ⟨_, _, .inr ⟨h0, _, rfl, lk, rfl⟩, .inl rfl, by simp; omega, ?_⟩
  refine wa_cons ?_
  refine we_catR ?_
  refine we_var 3 rfl ?_
  refine we_lst ?_
  refine wa_cons ?_
  refine we_mul ?_
  refine we_var 1 rfl ?_
  refine we_add ?_
  refine we_int ?_
  refine we_callP G__law_draw (hr.mono (by decide)) rfl ?_
  refine wa_cons ?_
  refine we_var 0 rfl ?_
  refine wa_cons ?_
  refine we_int ?_
  refine wa_nil ?_
  refine ⟨_, _, rfl, rfl, ?_⟩
  refine ⟨_, _, rfl, ⟨by decide, Bd.mono (Bd.small (k := 20) 1000 (by decide) (by decide)) (by decide)⟩, rfl, fun r r0 r9 => ?_⟩
  refine ⟨(Bd.small (k := 5) 17 (by omega) (by decide)).cmul (Bd.small (k := 5) 11 (by omega) (by decide)) (by decide), ?_⟩
  refine wa_nil ?_
  refine ⟨rfl, Nat.le_of_ble_eq_true rfl, ?_⟩
  refine ⟨_, _, .inr ⟨h0, _, rfl, lk, rfl⟩, .inl rfl, by simp; omega, ?_⟩
  refine wa_cons ?_
  refine we_catR ?_
  refine we_lst ?_
  refine wa_cons ?_
  refine we_sub ?_
  refine we_int ?_
  refine we_int ?_
  refine wa_nil ?_
  refine ⟨rfl, Nat.le_of_ble_eq_true rfl, ?_⟩
  refine we_var 3 rfl ?_
  refine ⟨_, _, .inl rfl, .inr ⟨h0, _, rfl, lk, rfl⟩, by simp; omega, ?_⟩
  refine wa_nil ?_
  refine ⟨rfl, Nat.le_of_ble_eq_true rfl, ?_⟩
  refine ⟨_, rfl, fun q__law_wrong => ?_⟩
  refine wb_norm (δ' := [_, _, _, _, _, _, _, _, _]) rfl ?_
  refine wb_cons ?_
  refine ws_asgO 5 nd ?_
  refine we_add ?_
  refine we_var 5 rfl ?_
  refine we_lst ?_
  refine wa_cons ?_
  refine we_catR ?_
  refine we_var 3 rfl ?_
  refine we_lst ?_
  refine wa_cons ?_
  refine we_bl ?_
  refine wa_nil ?_
  refine ⟨rfl, Nat.le_of_ble_eq_true rfl, ?_⟩
  refine ⟨_, _, .inr ⟨h0, _, rfl, lk, rfl⟩, .inl rfl, by simp; omega, ?_⟩
  refine wa_cons ?_
  refine we_catR ?_
  refine we_var 3 rfl ?_
  refine we_lst ?_
  refine wa_cons ?_
  refine we_non ?_
  refine wa_nil ?_
  refine ⟨rfl, Nat.le_of_ble_eq_true rfl, ?_⟩
  refine ⟨_, _, .inr ⟨h0, _, rfl, lk, rfl⟩, .inl rfl, by simp; omega, ?_⟩
  refine wa_cons ?_
  refine we_lst ?_
  refine wa_nil ?_
  refine ⟨rfl, Nat.le_of_ble_eq_true rfl, ?_⟩
  refine wa_cons ?_
  refine we_non ?_
  refine wa_cons ?_
  refine we_toTupleS B.tuple rfl ?_
  refine wa_cons ?_
  refine we_lk lk nmh ?_
  refine we_var 3 rfl ?_
  refine ⟨rfl, ?_⟩
  refine wa_nil ?_
  refine ⟨_, rfl, ?_⟩
  refine wa_cons ?_
  refine we_dictL ?_
  refine wa_cons ?_
  refine we_str ?_
  refine wa_cons ?_
  refine we_ix ?_
  refine we_lk lk nmh ?_
  refine we_var 3 rfl ?_
  refine ⟨rfl, ?_⟩
  refine we_int ?_
  refine ⟨_, _, .int z, rfl, rfl, atI_map (f := D.int) (xs := z :: t) (k := 0) (x := z) rfl rfl, ?_⟩
  refine wa_cons ?_
  refine we_lst ?_
  refine wa_cons ?_
  refine we_var 3 rfl ?_
  refine wa_nil ?_
  refine ⟨rfl, Nat.le_of_ble_eq_true rfl, ?_⟩
  refine wa_cons ?_
  refine we_lst ?_
  refine wa_cons ?_
  refine we_str ?_
  refine wa_nil ?_
  refine ⟨rfl, Nat.le_of_ble_eq_true rfl, ?_⟩
  refine wa_nil ?_
  refine ⟨rfl, Nat.le_of_ble_eq_true rfl, ?_⟩
  refine ⟨_, _, rfl, rfl, by simp, ?_⟩
  refine ⟨_, rfl, fun q__law_wrong => ?_⟩
  refine wb_norm (δ' := [_, _, _, _, _, _, _, _, _]) rfl ?_
  refine wb_cons ?_
  refine ws_append 5 rfl ?_
  refine we_catR ?_
  refine we_slHiS ?_
  refine we_lk lk nmh ?_
  refine we_var 3 rfl ?_
  refine ⟨rfl, ?_⟩
  refine we_int ?_
  refine ⟨_, _, rfl, rfl, ?_⟩
  refine we_var 3 rfl ?_
  refine ⟨_, _, .inl rfl, .inr ⟨h0, _, rfl, lk, rfl⟩, by have := cut_le (iD (z :: t)) none (some 1); simp at this ⊢; omega, ?_⟩
  refine ⟨rfl, by simp, ?_⟩
  refine wb_norm (δ' := [_, _, _, _, _, _, _, _, _]) rfl ?_
  refine wb_slst 3 lk nmh rfl ?_
  refine wb_freeze 5 rfl ?_
  refine wb_norm (δ' := [_, _, _, _, _, _, _, _, _]) rfl ?_
  refine wb_cons ?_
  refine ws_asgLc 6 [8] (by decide) rfl nd (blkOk_by (N := names__law_odd) (sc := defScope s__law_odd) (own := [("_law_odd_here", 8)]) (by decide +kernel)) (sw_true rfl rfl rfl (by decide +kernel)) ?_
  refine lcPure (fun _ => true) (fun d => .tup [d, .str way, .lst (iD (z :: t)), .int lim]) ?_
  refine wi_list ?_
  refine we_lst ?_
  refine wa_cons ?_
  refine we_int ?_
  refine wa_cons ?_
  refine we_int ?_
  refine wa_cons ?_
  refine we_sub ?_
  refine we_int ?_
  refine we_int ?_
  refine wa_cons ?_
  refine we_bl ?_
  refine wa_cons ?_
  refine we_non ?_
  refine wa_cons ?_
  refine we_str ?_
  refine wa_cons ?_
  refine we_lst ?_
  refine wa_cons ?_
  refine we_int ?_
  refine wa_nil ?_
  refine ⟨rfl, Nat.le_of_ble_eq_true rfl, ?_⟩
  refine wa_cons ?_
  refine we_tup ?_
  refine wa_cons ?_
  refine we_int ?_
  refine wa_nil ?_
  refine ⟨rfl, Nat.le_of_ble_eq_true rfl, ?_⟩
  refine wa_nil ?_
  refine ⟨rfl, Nat.le_of_ble_eq_true rfl, ?_⟩
  refine ⟨_, rfl, ?_⟩
  refine ⟨by simp, fun i2 d2 hi2 s2 H2 C2 cl2 fp2 M2 => ?_, ?_⟩
  ·
    have pd := O1_pure d2 (List.mem_of_getElem? hi2)
    refine wg_name 8 nd pd ?_
    refine ⟨rfl, fun s2_2 H2_2 C2_2 cl2_2 fp2_2 M2_2 => ?_⟩
    refine wts_nil ?_
    refine ⟨rfl, rfl, fun hb2 s2_3 H2_3 C2_3 cl2_3 fp2_3 M2_3 => ?_⟩
    refine we_tup ?_
    refine wa_cons ?_
    refine we_var 8 rfl ?_
    refine wa_cons ?_
    refine we_var 2 rfl ?_
    refine wa_cons ?_
    refine we_toList B.list rfl ?_
    refine wa_cons ?_
    refine we_var 3 rfl ?_
    refine wa_nil ?_
    refine ⟨_, _, rfl, rfl, ?_⟩
    refine wa_cons ?_
    refine we_var 4 rfl ?_
    refine wa_nil ?_
    refine ⟨(by rw [List.all_cons, List.all_cons, List.all_cons, List.all_cons, okEl_pure pd]; rfl), Nat.le_of_ble_eq_true rfl, ?_⟩
    exact ⟨rfl, rfl, by show D.tup _ = D.tup _; simp only [List.map_cons, List.map_nil, frz_pure pd]; rfl⟩
  refine ⟨_, rfl, ?_⟩
  refine wb_norm (δ' := [_, _, _, _, _, _, _, _, _]) rfl ?_
  refine wb_cons ?_
  refine ws_asg 7 nd ?_
  refine we_lst ?_
  refine wa_cons ?_
  refine we_str ?_
  refine wa_cons ?_
  refine we_str ?_
  refine wa_cons ?_
  refine we_non ?_
  refine wa_cons ?_
  refine we_int ?_
  refine wa_cons ?_
  refine we_lst ?_
  refine wa_cons ?_
  refine we_str ?_
  refine wa_nil ?_
  refine ⟨rfl, Nat.le_of_ble_eq_true rfl, ?_⟩
  refine wa_cons ?_
  refine we_str ?_
  refine wa_cons ?_
  refine we_tup ?_
  refine wa_cons ?_
  refine we_str ?_
  refine wa_nil ?_
  refine ⟨rfl, Nat.le_of_ble_eq_true rfl, ?_⟩
  refine wa_cons ?_
  refine we_dictL ?_
  refine wa_nil ?_
  refine ⟨rfl, Nat.le_of_ble_eq_true rfl, ?_⟩
  refine ⟨rfl, ?_⟩
  refine wb_norm (δ' := [_, _, _, _, _, _, _, _, _]) rfl ?_
  refine wb_cons ?_
  refine ws_asg 6 nd ?_
  refine we_add ?_
  refine we_var 6 rfl ?_
  refine we_lc [8] (by decide) rfl nd (blkOk_by (N := names__law_odd) (sc := defScope s__law_odd) (own := [("_law_odd_here", 8)]) (by decide +kernel)) ?_
  refine lcPure (fun _ => true) (fun d => .tup [.int b, d, .lst (iD (z :: t)), .int lim]) ?_
  refine wi_list ?_
  refine we_var 7 rfl ?_
  refine ⟨_, rfl, ?_⟩
  refine ⟨by simp, fun i4 d4 hi4 s4 H4 C4 cl4 fp4 M4 => ?_, ?_⟩
  ·
    have pd := O2_pure d4 (List.mem_of_getElem? hi4)
    refine wg_name 8 nd pd ?_
    refine ⟨rfl, fun s4_2 H4_2 C4_2 cl4_2 fp4_2 M4_2 => ?_⟩
    refine wts_nil ?_
    refine ⟨rfl, rfl, fun hb4 s4_3 H4_3 C4_3 cl4_3 fp4_3 M4_3 => ?_⟩
    refine we_tup ?_
    refine wa_cons ?_
    refine we_var 1 rfl ?_
    refine wa_cons ?_
    refine we_var 8 rfl ?_
    refine wa_cons ?_
    refine we_toList B.list rfl ?_
    refine wa_cons ?_
    refine we_var 3 rfl ?_
    refine wa_nil ?_
    refine ⟨_, _, rfl, rfl, ?_⟩
    refine wa_cons ?_
    refine we_var 4 rfl ?_
    refine wa_nil ?_
    refine ⟨(by rw [List.all_cons, List.all_cons, List.all_cons, List.all_cons, okEl_pure pd]; rfl), Nat.le_of_ble_eq_true rfl, ?_⟩
    exact ⟨rfl, rfl, by show D.tup _ = D.tup _; simp only [List.map_cons, List.map_nil, frz_pure pd]; rfl⟩
  refine ⟨_, _, rfl, rfl, by simp, ?_⟩
  refine ⟨rfl, ?_⟩
  refine wb_norm (δ' := [_, _, _, _, _, _, _, _, _]) rfl ?_
  refine wb_cons ?_
  refine ws_asg 6 nd ?_
  refine we_add ?_
  refine we_var 6 rfl ?_
  refine we_lc [8] (by decide) rfl nd (blkOk_by (N := names__law_odd) (sc := defScope s__law_odd) (own := [("_law_odd_here", 8)]) (by decide +kernel)) ?_
  refine lcPure (fun _ => true) (fun d => .tup [.int b, .str way, d, .int lim]) ?_
  refine wi_list ?_
  refine we_var 5 rfl ?_
  refine ⟨_, rfl, ?_⟩
  refine ⟨by simp, fun i6 d6 hi6 s6 H6 C6 cl6 fp6 M6 => ?_, ?_⟩
  ·
    have pd := W02_pure d6 (List.mem_of_getElem? hi6)
    refine wg_name 8 nd pd ?_
    refine ⟨rfl, fun s6_2 H6_2 C6_2 cl6_2 fp6_2 M6_2 => ?_⟩
    refine wts_nil ?_
    refine ⟨rfl, rfl, fun hb6 s6_3 H6_3 C6_3 cl6_3 fp6_3 M6_3 => ?_⟩
    refine we_tup ?_
    refine wa_cons ?_
    refine we_var 1 rfl ?_
    refine wa_cons ?_
    refine we_var 2 rfl ?_
    refine wa_cons ?_
    refine we_var 8 rfl ?_
    refine wa_cons ?_
    refine we_var 4 rfl ?_
    refine wa_nil ?_
    refine ⟨(by rw [List.all_cons, List.all_cons, List.all_cons, List.all_cons, okEl_pure pd]; rfl), Nat.le_of_ble_eq_true rfl, ?_⟩
    exact ⟨rfl, rfl, by show D.tup _ = D.tup _; simp only [List.map_cons, List.map_nil, frz_pure pd]; rfl⟩
  refine ⟨_, _, rfl, rfl, by simp, ?_⟩
  refine ⟨rfl, ?_⟩
  refine wb_norm (δ' := [_, _, _, _, _, _, _, _, _]) rfl ?_
  refine wb_one ?_
  refine ws_ret ?_
  refine we_add ?_
  refine we_var 6 rfl ?_
  refine we_lc [8] (by decide) rfl nd (blkOk_by (N := names__law_odd) (sc := defScope s__law_odd) (own := [("_law_odd_here", 8)]) (by decide +kernel)) ?_
  refine lcPure (fun _ => true) (fun d => .tup [.int b, .str way, .lst (iD (z :: t)), d]) ?_
  refine wi_list ?_
  refine we_lst ?_
  refine wa_cons ?_
  refine we_int ?_
  refine wa_cons ?_
  refine we_sub ?_
  refine we_int ?_
  refine we_int ?_
  refine wa_cons ?_
  refine we_bl ?_
  refine wa_cons ?_
  refine we_non ?_
  refine wa_cons ?_
  refine we_str ?_
  refine wa_cons ?_
  refine we_lst ?_
  refine wa_cons ?_
  refine we_int ?_
  refine wa_nil ?_
  refine ⟨rfl, Nat.le_of_ble_eq_true rfl, ?_⟩
  refine wa_cons ?_
  refine we_toInt B.int rfl ?_
  refine wa_cons ?_
  refine we_eq hu64 ?_
  refine we_var 2 rfl ?_
  refine we_str ?_
  refine wa_nil ?_
  refine Or.inr ⟨_, rfl, ?_⟩
  refine wa_nil ?_
  refine ⟨rfl, Nat.le_of_ble_eq_true rfl, ?_⟩
  refine ⟨_, rfl, ?_⟩
  refine ⟨by simp, fun i7 d7 hi7 s7 H7 C7 cl7 fp7 M7 => ?_, ?_⟩
  ·
    have pd := O4_pure d7 (List.mem_of_getElem? hi7)
    refine wg_name 8 nd pd ?_
    refine ⟨rfl, fun s7_2 H7_2 C7_2 cl7_2 fp7_2 M7_2 => ?_⟩
    refine wts_nil ?_
    refine ⟨rfl, rfl, fun hb7 s7_3 H7_3 C7_3 cl7_3 fp7_3 M7_3 => ?_⟩
    refine we_tup ?_
    refine wa_cons ?_
    refine we_var 1 rfl ?_
    refine wa_cons ?_
    refine we_var 2 rfl ?_
    refine wa_cons ?_
    refine we_toList B.list rfl ?_
    refine wa_cons ?_
    refine we_var 3 rfl ?_
    refine wa_nil ?_
    refine ⟨_, _, rfl, rfl, ?_⟩
    refine wa_cons ?_
    refine we_var 8 rfl ?_
    refine wa_nil ?_
    refine ⟨(by rw [List.all_cons, List.all_cons, List.all_cons, List.all_cons, okEl_pure pd]; rfl), Nat.le_of_ble_eq_true rfl, ?_⟩
    exact ⟨rfl, rfl, by show D.tup _ = D.tup _; simp only [List.map_cons, List.map_nil, frz_pure pd]; rfl⟩
  refine ⟨_, _, rfl, rfl, by simp, ?_⟩
  refine ⟨rfl, ?_⟩
  exact k r r0 r9

abbrev s__law_refused : Stmt := top 38
abbrev names__law_refused : List Str := ["_law_base", "_law_kind", "_law_mantissas", "_law_most", "_law_due", "_law_caught", "error"]
theorem sc__law_refused : FnScope names__law_refused ["_law_base", "_law_kind", "_law_mantissas", "_law_most"] (defScope s__law_refused) := ⟨rfl, rfl, rfl, by decide +kernel, rfl, by decide +kernel, by decide +kernel⟩
theorem ok__law_refused {f : Addr} {fd : FuncData} {CI : Addr} (F : FunV K "_law_refused" "_law_refused" s__law_refused f fd) (RN : RuleNo P w K mg base CR CI) (IV : IvR K mg CI) (B : Bi mg) : GOk P w K mg base CX0 7 f fd ["_law_base", "_law_kind", "_law_mantissas", "_law_most"] (spRf K) := by
  obtain ⟨fR, fdR, hmR, mkR, hbR, FR⟩ := RN.ex
  refine goBody F sc__law_refused (fun vs H Q E h => by obtain ⟨b, k, m, l, ts, h1, _⟩ := h; rw [← h1.length]; rfl) fun cdv A outer s H vs Q E hgd hr hsp => ?_
  obtain ⟨b, k, m, l, ts, h1, un, hdf, hsh, hq⟩ := hsp
  obtain ⟨vb, u1, rfl, rb, h2⟩ := id h1
  obtain ⟨vk, u2, rfl, rk, h3⟩ := h2
  obtain ⟨vm, u3, rfl, rm, h4⟩ := h3
  obtain ⟨vl, u4, rfl, rl, h5⟩ := h4
  obtain rfl : u4 = [] := h5
  have nd := sc__law_refused.nd
  have hu64 := hr.units
  refine ⟨_, PSs.nox pb_w, ?_⟩
  let X : Cx := (cxOf CX0 P w K mg base names__law_refused "_law_refused" (defScope s__law_refused) f cdv A outer s H E).nox
  show wB X (defBody s__law_refused) _ _ _
  have hu1 : X.A.units + 1 < cLine := by have : X.A.units + 64 < cLine := hu64; omega
  have peR : ∀ {p p1 p2 p3 p4 pt pc : Pos} {kk : Nat}, PE X (.Call (.Name "repr" p) [.Tuple [.Name "_law_base" p1, .Name "_law_kind" p2, .Name "_law_mantissas" p3, .Name "_law_most" p4] kk pt] [] pc) (tCB (rReprT K) (tCons (tTup (tCons (tVar 0) (tCons (tVar 1) (tCons (tVar 2) (tCons (tVar 3) tNil))))) tNil)) :=
    fun {p p1 p2 p3 p4 pt pc kk} => pe_callB (X := X) (call_reprT hgd hu64) rfl B.repr (by decide +kernel) (pa_cons (pe_tup (pa_cons (pv 0) (pa_cons (pv 1) (pa_cons (pv 2) (pa_cons (pv 3) pa_nil rfl) rfl) rfl) rfl)) pa_nil rfl) (by decide) (by decide) rfl rfl
  have peV : ∀ {p p2 pc p3 : Pos}, PE X (.Call (.Name "repr" p) [.Attribute (.Name "_law_caught" p2) "value" p3] [] pc) (tCB (rReprT K) (tCons (tXq K "value" (tVar 5)) tNil)) :=
    fun {p p2 pc p3} => pe_callB (X := X) (call_reprT hgd hu64) rfl B.repr (by decide +kernel) (pa_cons (pe_xq (pv 5)) pa_nil rfl) (by decide) (by decide) rfl rfl
  refine pb_to (pss_cons (ps_par (X := X) (i := 4) (j := 5) rfl nd rfl rfl (by decide) rfl rfl (pa_cons peR (pa_cons pe_non pa_nil rfl) rfl) rfl) pb_w) ?_
  refine ⟨vb, rfl, vk, rfl, vm, rfl, vl, rfl, (by show 4 ≤ sizeLine; rw [sizeLine_eq]; decide), fun t1 ht1 => ?_⟩
  have g1 : Same H (L2.upd H t1 (.tup [vb, vk, vm, vl])) := same_new ht1
  refine ⟨t1, [vb, vk, vm, vl], ts, rfl, upd_same, dfs_kp g1 hdf, hsh.1, hsh.2, ?_⟩
  refine ⟨_, _, rfl, ?_⟩
  generalize L2.upd H t1 (.tup [vb, vk, vm, vl]) = H1 at g1
  -- the second statement
  refine pb_to (pss_cons (ps_try_keep (X := X) (x := "InvalidRule") (i := 6) (j := 5) (c := .ref CI) (tb := fun W => tDrop (tMakeS CR (spIR K CI) (L2.WE W) (tCons (tVar 0) (tCons (tVar 1) (tCons (tVar 2) (tCons (tVar 3) tNil)))))) rfl rfl rfl nd rfl rfl rfl rfl ⟨rfl, by decide, .inl IV.m⟩ (by decide) (by decide) fun W pn xe tk _ => pss_one (ps_expr (pe_makeS (X := X.tr pn xe) (nm := "Rule") (EE := L2.WE W) mkR FR (hr.mono (by decide)) rfl hmR hbR (fun σ => passAt tk σ) (pa_cons (pv 0) (pa_cons (pv 1) (pa_cons (pv 2) (pa_cons (pv 3) pa_nil rfl) rfl) rfl) rfl)))) pb_w) ?_
  refine ⟨vb, rfl, vk, rfl, vm, rfl, vl, rfl, fun y dy hy hdy ne => ?_⟩
  have g2 : Same H1 (L2.upd (L2.upd H1 dy (.own y)) y (.ins CR dy [])) := fun z o e => by rw [upd_ne (ne_of_none e hy), upd_ne (ne_of_none e hdy)]; exact e
  have r2 := Rps.kp (ex := none) (fun _ z => nomatch z) (Kp.of fun z o e => g2 z o (g1 z o e)) h1
  refine ⟨y, fun _ => False, b, k, m, l, _, rfl, fun _ z => z.elim, r2, un, fun dx t2 H3 sm hdx ht2 ntd edx et2 => ?_⟩
  refine ⟨IV.e, CI, dx, rfl, rfl, fun a ha => ?_⟩
  have g3 : Same H (L2.upd H3 a (exq a CI dx)) := fun z o e => by
    have e3 := sm _ _ (g2 _ _ (g1 _ _ e))
    rw [upd_ne (ne_of_none e3 ha)]
    exact e3
  have ea : L2.upd H3 a (exq a CI dx) a = some (exq a CI dx) := upd_same
  have edx : L2.upd H3 a (exq a CI dx) dx = some (.xd [("value", .ref t2)]) := by rw [upd_ne (ne_of_none edx ha)]; exact edx
  have et2 : L2.upd H3 a (exq a CI dx) t2 = some (.tup [vb, vk, vm, vl]) := by rw [upd_ne (ne_of_none et2 ha)]; exact et2
  generalize L2.upd H3 a (exq a CI dx) = H4 at g3 ea edx et2
  -- the third statement
  refine pb_to (pss_cons (ps_if (PW.pt (pw_or (pt_cmpR (X := X) op_isN (pv 5) pe_non (nomark _)) (pw_or (pt_not (pt_val (pe_callB (X := X) (x := "isinstance") call_isi rfl B.isinstance (by decide +kernel) (pa_cons (pe_xq (pv 5)) (pa_cons (pe_bltn (x := "tuple") (v := .ty "tuple") rfl B.tuple (by decide +kernel) rfl (by decide) (by decide)) pa_nil rfl) rfl) (by decide) (by decide) rfl rfl))) (pw_or1 (pt_cmpR (X := X) op_ne peV (pv 4) (nomark _)))))) pb_w pb_w) pb_w) ?_
  refine ⟨.ref a, rfl, rfl, _, rfl, ?_⟩
  rw [show decide (V.ref a = V.non) = false from decide_eq_false (fun z => nomatch z)]
  refine iteF ?_
  refine ⟨.ref a, rfl, a, CI, dx, _, .ref t2, rfl, IV.x, IV.v, ea, edx, rfl, ?_⟩
  refine ⟨_, .ty "tuple", .type "tuple", .type "tuple", true, rfl, .ty "tuple", .base (.tup et2), kit_ty (by decide +kernel), ?_⟩
  refine ⟨_, rfl, ?_⟩
  refine iteF ?_
  refine ⟨.ref a, rfl, a, CI, dx, _, .ref t2, rfl, IV.x, IV.v, ea, edx, rfl, ?_⟩
  refine ⟨t2, [vb, vk, vm, vl], ts, rfl, et2, dfs_kp g3 hdf, hsh.1, hsh.2, ?_⟩
  refine ⟨_, rfl, ?_⟩
  refine ⟨rfl, _, rfl, ?_⟩
  rw [show (!decide (V.str (PyData.shown (.tuple ts)) = V.str (PyData.shown (.tuple ts)))) = false by simp]
  refine iteF ?_
  refine pb_to pss_nil ?_
  have r4 := Rps.kp (ex := none) (fun _ z => nomatch z) (Kp.of g3) h1
  obtain ⟨_, _, e1, _, _, _, e2, _, vm4, _, e3, rm4, _⟩ := r4
  cases e1; cases e2; cases e3
  -- the end: what holds in the heap then
  have fin : ∀ (H5 : Hp) (ts5 : List PyData), H5 a = some (exq a CI dx) → H5 dx = some (.xd [("value", .ref t2)]) → H5 t2 = some (.tup [vb, vk, vm, vl]) → Paired (Df K H5) [vb, vk, vm, vl] ts5 → Sh ts5 → (∀ H6, Same H5 H6 → Q (.bl true) H6) →
      wB X [(defBody s__law_refused).getD 4 (.Pass ⟨0, 0, 0, 0⟩)] { nx := fun _ H' => Q .non H', rt := Q } ((((L2.start names__law_refused [vb, vk, vm, vl]).set 4 (some (.str (PyData.shown (.tuple ts))))).set 5 (some (.ref a))).set 6 none) H5 := by
    intro H5 ts5 ea5 ed5 et5 hf5 hs5 hq5
    refine pb_to (pss_one (ps_ret (pe_cmpR (X := X) op_eq peV peR (nomark _)))) ?_
    refine ⟨.ref a, rfl, a, CI, dx, _, .ref t2, rfl, IV.x, IV.v, ea5, ed5, rfl, ?_⟩
    refine ⟨t2, [vb, vk, vm, vl], ts5, rfl, et5, hf5, hs5.1, hs5.2, ?_⟩
    refine ⟨vb, rfl, vk, rfl, vm, rfl, vl, rfl, (by show 4 ≤ sizeLine; rw [sizeLine_eq]; decide), fun t6 ht6 => ?_⟩
    refine ⟨t6, [vb, vk, vm, vl], ts5, rfl, upd_same, dfs_kp (same_new ht6) hf5, hs5.1, hs5.2, ?_⟩
    refine ⟨rfl, ?_⟩
    rw [show decide (V.str (PyData.shown (.tuple ts5)) = V.str (PyData.shown (.tuple ts5))) = true by simp]
    exact hq5 _ (same_new ht6)
  refine pb_to (pss_cons (ps_if (pt_val (pe_callB (X := X) (x := "isinstance") call_isi rfl B.isinstance (by decide +kernel) (pa_cons (pv 2) (pa_cons (pe_bltn (x := "list") (v := .ty "list") rfl B.list (by decide +kernel) rfl (by decide) (by decide)) pa_nil rfl) rfl) (by decide) (by decide) rfl rfl)) pb_w pb_w) pb_w) ?_
  refine ⟨vm, rfl, ?_⟩
  rcases hq with ⟨nl, hq⟩ | ⟨xs, q, us, rfl, e3, eq, lu, hq⟩
  · obtain ⟨N, ty, kb⟩ := tyX_of (by decide) nl rm4
    refine ⟨vm, .ty "list", .type N, .type "list", false, rfl, .ty "list", ty, kit_ty kb, ?_⟩
    refine ⟨_, rfl, ?_⟩
    refine iteF ?_
    refine pb_to pss_nil ?_
    exact fin H4 ts ea edx et2 (dfs_kp g3 hdf) hsh fun H6 g6 => hq H6 fun z o e => g6 _ _ (g3 _ _ e)
  · cases e3
    obtain ⟨N, ty, kb⟩ := tyX_of (T := "list") (k := true) (by decide) rfl rm4
    refine ⟨.ref q, .ty "list", .type N, .type "list", true, rfl, .ty "list", ty, kit_ty kb, ?_⟩
    refine ⟨_, rfl, ?_⟩
    refine iteT ?_
    refine pb_to (pss_one (ps_expr (pe_bm (X := X) PySem.F.plainAttrs_list PySem.F.slot_list_append PySem.F.type_list_append mt_append (pv 2) (pa_cons pe_str pa_nil rfl)))) ?_
    have eq4 := g3 _ _ eq
    refine ⟨.ref q, rfl, .inl ⟨rfl, us, .of eq4⟩, ?_⟩
    refine ⟨q, us, .str "more", rfl, rfl, eq4, Nat.lt_of_lt_of_le lu (by rw [sizeLine_eq]; decide), ?_⟩
    have k5 : Kp (some q) H (L2.upd H4 q (.lst (us ++ [.str "more"]))) := fun z o ne e => by rw [upd_ne (fun w => ne (by rw [w]))]; exact g3 _ _ e
    have q5 : L2.upd H4 q (.lst (us ++ [.str "more"])) q = some (.lst (us ++ [.str "more"])) := upd_same
    have na : a ≠ q := fun z => by rw [z, eq4] at ea; cases ea
    have nd5 : dx ≠ q := fun z => by rw [z, eq4] at edx; cases edx
    have nt : t2 ≠ q := fun z => by rw [z, eq4] at et2; cases et2
    obtain ⟨⟨ts2, hf2, hs2⟩, _⟩ := hq _ k5 q5
    exact fin _ ts2 (by rw [upd_ne na]; exact ea) (by rw [upd_ne nd5]; exact edx) (by rw [upd_ne nt]; exact et2) hf2 hs2 fun H6 g6 => (hq H6 (fun z o ne e => g6 _ _ (k5 z o ne e)) (g6 _ _ q5)).2

abbrev s__law_right : Stmt := top 42
abbrev names__law_right : List Str := ["_law_purse_here", "_law_family_here", "_law_base", "_law_kind", "_law_heads", "_law_most", "_law_given", "_law_made_here", "_law_due", "_law_some", "_law_other", "_law_same", "_law_odd_here", "_law_at", "_law_one"]
theorem sc__law_right : FnScope names__law_right ["_law_purse_here"] (defScope s__law_right) := ⟨rfl, rfl, rfl, by decide +kernel, rfl, by decide +kernel, by decide +kernel⟩
theorem ok__law_right {f : Addr} {fd : FuncData} (F : FunV K "_law_right" "_law_right" s__law_right f fd) (G__law_family : Fn P w K mg base "_law_family" ["_law_purse_here"] (3) (spP K (sp__law_family02))) (G__law_rule : Fn P w K mg base "_law_rule" ["_law_purse_here", "_law_family_here"] (3) (spP K (sp__law_rule))) (G__law_draw : Fn P w K mg base "_law_draw" ["_law_purse_here", "_law_many"] (1) (spP K (sp__law_draw))) (G_Rule : Mkr P w K mg base "Rule" CR ["self", "base", "kind", "mantissas", "most"] (4) (spI K CR (sp_Rule___init__))) (G__law_fields : Fn P w K mg base "_law_fields" ["_law_made_here"] (3) (spD K (sp__law_fields CR))) (G_Rule_dividing : Prp P w K mg base CR "dividing" (2) (spD K (sp_Rule_dividing CR))) (G__law_is_dividing : Fn P w K mg base "_law_is_dividing" ["_law_base", "_law_heads"] (2) (spD K (sp__law_is_dividing))) (G_Rule_mantissas : Prp P w K mg base CR "mantissas" (1) (spD K (sp_Rule_mantissas CR))) (G__law_pick : Fn P w K mg base "_law_pick" ["_law_purse_here", "_law_items"] (2) (spP K (sp__law_pick))) (G__law_made : Fn P w K mg base "_law_made" ["_law_rule_here"] (6) (spD K (sp__law_made CR))) (G_Rule___eq__ : Mth P w K mg base CR "__eq__" ["self", "other"] (2) (spD K (sp_Rule___eq__02 CR))) (B : Bi mg) (T : Txt K mg CR) (TI : TxI K mg CR) (NR : DL.NeC K CR) (NF : DL.NfC K CR) (G__law_odd : Fn P w K mg base "_law_odd" ["_law_purse_here", "_law_base", "_law_kind", "_law_heads", "_law_most"] 3 (spPL K sp__law_odd02)) (G__law_refused : GFn P w K mg base "_law_refused" ["_law_base", "_law_kind", "_law_mantissas", "_law_most"] 7 (spRf K)) : GOk P w K mg base CX0 (8) f fd ["_law_purse_here"] (spP K (sp__law_right02)) := by
  refine fnPG F sc__law_right (fun ds n Φ h => by first | (obtain ⟨_, rfl, _⟩ := h; rfl) | (obtain ⟨_, _, rfl, _⟩ := h; rfl) | (obtain ⟨_, _, _, rfl, _⟩ := h; rfl) | (obtain ⟨_, _, _, _, rfl, _⟩ := h; rfl) | (obtain ⟨_, _, _, _, _, rfl, _⟩ := h; rfl) | (obtain ⟨_, _, _, _, _, _, rfl, _⟩ := h; rfl) | (obtain ⟨_, _, _, _, _, _, _, rfl, _⟩ := h; rfl) | (obtain ⟨_, _, _, _, _, _, _, _, rfl, _⟩ := h; rfl) | (obtain ⟨_, _, _, _, _, _, _, _, _, rfl, _⟩ := h; rfl) | (obtain ⟨_, _, _, _, _, _, _, _, _, _, rfl, _⟩ := h; rfl) | (obtain ⟨_, _, _, _, _, _, _, _, _, _, _, rfl, _⟩ := h; rfl) | (obtain ⟨_, _, _, _, _, _, _, _, _, _, _, _, rfl, _⟩ := h; rfl) | (obtain ⟨_, _, _, _, _, _, _, _, _, _, _, _, _, rfl, _⟩ := h; rfl)) fun cdv A outer s H E M p n ds Φ hgd hr hpu h => ?_
  have nd := sc__law_right.nd
  have hu64 := hr.units
  have hu1 := hu_of hr
  obtain ⟨m, rfl, rfl, k⟩ := h
  refine wb_norm (δ' := [_, _, _, _, _, _, _, _, _, _, _, _, _, _, _]) rfl ?_
  refine wb_cons ?_
  refine ws_asg 1 nd ?_
  refine we_callP G__law_family (hr.mono (by decide)) rfl ?_
  refine wa_cons ?_
  refine we_var 0 rfl ?_
  refine wa_nil ?_
  refine ⟨_, _, rfl, rfl, ?_⟩
  refine ⟨_, rfl, rfl, fun b fs F => ?_⟩
  refine ⟨rfl, ?_⟩
  refine wb_norm (δ' := [_, _, _, _, _, _, _, _, _, _, _, _, _, _, _]) rfl ?_
  refine wb_cons ?_
  refine ws_asgG (is := ([2] ++ ([3] ++ ([4] ++ ([5] ++ []))))) ?_
  refine we_callP G__law_rule (hr.mono (by decide)) rfl ?_
  refine wa_cons ?_
  refine we_var 0 rfl ?_
  refine wa_cons ?_
  refine we_var 1 rfl ?_
  refine wa_nil ?_
  refine ⟨_, _, rfl, rfl, ?_⟩
  refine ⟨b, fs, _, rfl, F.F, rfl, fun way ms lim R hsub => ?_⟩
  have b2 := R.fo.ms.b2
  have b10 := F.b10
  have ml := R.fo.ms.len
  have ne0 := R.fo.ms.ne
  have ml0 : 0 < ms.length := List.length_pos_iff.mpr ne0
  have lim6 := R.lim6
  refine ⟨?_, rfl⟩
  refine wg_tup rfl ⟨_, rfl, rfl, ?_⟩
  refine wgs_cons ?_
  refine wg_name 2 nd rfl ?_
  refine wgs_cons ?_
  refine wg_name 3 nd rfl ?_
  refine wgs_cons ?_
  refine wg_name 4 nd rfl ?_
  refine wgs_cons ?_
  refine wg_name 5 nd rfl ?_
  refine wgs_nil ?_
  refine wb_norm (δ' := [_, _, _, _, _, _, _, _, _, _, _, _, _, _, _]) rfl ?_
  refine wb_cons ?_
  refine ws_asgO 6 nd ?_
  refine we_add ?_
  refine we_slLo ?_
  refine we_var 4 rfl ?_
  refine we_callP G__law_draw (hr.mono (by decide)) rfl ?_
  refine wa_cons ?_
  refine we_var 0 rfl ?_
  refine wa_cons ?_
  refine we_len B.len rfl ?_
  refine wa_cons ?_
  refine we_var 4 rfl ?_
  refine wa_nil ?_
  refine ⟨_, _, rfl, rfl, ?_⟩
  refine wa_nil ?_
  refine ⟨_, _, rfl, rfl, ?_⟩
  refine ⟨_, _, rfl, ⟨by rw [List.length_map]; omega, Bd.mono (Bd.small (k := 20) 100000 (by rw [List.length_map]; omega) (by decide)) (by decide)⟩, rfl, fun ri ra rb => ?_⟩
  obtain ⟨r0, rfl⟩ := Int.eq_ofNat_of_zero_le ra
  rw [List.length_map] at rb
  have rl : r0 < ms.length := by omega
  refine ⟨_, (r0 : Int), rfl, rfl, ?_⟩
  rw [cutD_drop, ← List.map_drop]
  refine we_slHi ?_
  refine we_var 4 rfl ?_
  refine we_callP G__law_draw (hr.mono (by decide)) rfl ?_
  refine wa_cons ?_
  refine we_var 0 rfl ?_
  refine wa_cons ?_
  refine we_int ?_
  refine wa_nil ?_
  refine ⟨_, _, rfl, rfl, ?_⟩
  refine ⟨_, _, rfl, ⟨by decide, Bd.mono (Bd.small (k := 20) 100000 (by decide) (by decide)) (by decide)⟩, rfl, fun di da db => ?_⟩
  obtain ⟨d0, rfl⟩ := Int.eq_ofNat_of_zero_le da
  obtain ⟨g, hg⟩ : ∃ g, g = ms.drop r0 ++ ms.take d0 := ⟨_, rfl⟩
  have fo : FOk b way (dd g) lim := by rw [hg]; exact R.fo.given rl
  have gm : ∀ x ∈ dd g, x ∈ ms := by rw [hg]; exact given_mem
  have gl : g.length ≤ 40 := by rw [hg, List.length_append, List.length_drop, List.length_take]; omega
  refine ⟨_, (d0 : Int), rfl, rfl, ?_⟩
  rw [cutD_take, ← List.map_take]
  refine ⟨_, _, rfl, rfl, by simp; omega, ?_⟩
  refine ⟨_, rfl, fun q__law_given => ?_⟩
  refine wb_norm (δ' := [_, _, _, _, _, _, _, _, _, _, _, _, _, _, _]) rfl ?_
  rw [← List.map_append, ← hg]
  refine wb_freeze 6 rfl ?_
  refine wb_norm (δ' := [_, _, _, _, _, _, _, _, _, _, _, _, _, _, _]) rfl ?_
  refine wb_cons ?_
  refine ws_asgO 6 nd ?_
  refine we_lc [13] (by decide) rfl nd (blkOk_by (N := names__law_right) (sc := defScope s__law_right) (own := [("_law_at", 13)]) (by decide +kernel)) ?_
  refine lcPure (fun d => match d with | .int j => !(g.take j.toNat).contains (g.getD j.toNat 0) | _ => false) (fun d => match d with | .int j => D.int (g.getD j.toNat 0) | d => d) ?_
  refine wi_range1 B.range rfl ?_
  refine we_len B.len rfl ?_
  refine wa_cons ?_
  refine we_var 6 rfl ?_
  refine wa_nil ?_
  refine ⟨_, _, rfl, rfl, ?_⟩
  refine ⟨_, rfl, by rw [List.length_map]; omega, by rw [List.length_map]; omega, ?_⟩
  refine ⟨by rw [rangeD_len, List.length_map]; omega, fun i6 d6 hi6 s6 H6 C6 cl6 fp6 M6 => ?_, ?_⟩
  ·
    obtain ⟨hj, rfl⟩ := rangeD_at hi6
    have hk : i6 < g.length := by simpa using hj
    obtain ⟨x, hx⟩ := some_at (xs := g) (k := i6) hk
    have hx2 : g.getD i6 0 = x := by rw [List.getD_eq_getElem?_getD, hx]; rfl
    refine wg_name 13 nd rfl ?_
    refine ⟨rfl, fun s6_2 H6_2 C6_2 cl6_2 fp6_2 M6_2 => ?_⟩
    refine wts_one ?_
    refine wt_notin ?_
    refine we_ix ?_
    refine we_var 6 rfl ?_
    refine we_var 13 rfl ?_
    refine ⟨_, _, _, rfl, rfl, atI_map (f := D.int) (xs := g) hx (by omega), ?_⟩
    refine we_slHi ?_
    refine we_var 6 rfl ?_
    refine we_var 13 rfl ?_
    refine ⟨_, ((i6 : Nat) : Int), rfl, by rw [Int.zero_add], ?_⟩
    rw [cutD_take, ← List.map_take]
    refine ⟨_, rfl, rfl, flat_ints, ?_⟩
    refine ⟨_, rfl, ?_⟩
    refine ⟨rfl, by simp only [Int.zero_add, Int.toNat_natCast, hx2, inD_ints, List.contains_eq_mem]; simp, fun hb6 s6_3 H6_3 C6_3 cl6_3 fp6_3 M6_3 => ?_⟩
    refine we_ix ?_
    refine we_var 6 rfl ?_
    refine we_var 13 rfl ?_
    refine ⟨_, _, _, rfl, rfl, atI_map (f := D.int) (xs := g) hx (by omega), ?_⟩
    exact ⟨rfl, rfl, by simp only [Int.zero_add, Int.toNat_natCast, hx2]; rfl⟩
  rw [List.length_map, show ((g.length : Nat) : Int).toNat = g.length by omega, lc_dd (g := g) (fun i => by simp only [Int.zero_add, Int.toNat_natCast]) (fun i => by simp only [Int.zero_add, Int.toNat_natCast])]
  refine ⟨_, rfl, fun q__law_given => ?_⟩
  refine wb_norm (δ' := [_, _, _, _, _, _, _, _, _, _, _, _, _, _, _]) rfl ?_
  refine wb_cons ?_
  refine ws_asg 7 nd ?_
  refine we_unown 6 rfl ?_
  refine we_make G_Rule (hr.mono (by decide)) rfl ?_
  refine wa_cons ?_
  refine we_var 2 rfl ?_
  refine wa_cons ?_
  refine we_var 3 rfl ?_
  refine wa_cons ?_
  refine we_var 6 rfl ?_
  refine wa_cons ?_
  refine we_var 5 rfl ?_
  refine wa_nil ?_
  refine ⟨rfl, ?_⟩
  refine ⟨_, _, dd g, _, rfl, fo, fun ns pm pw => ?_⟩
  obtain ⟨z, t, rfl⟩ := List.exists_cons_of_ne_nil (l := ns) (fun e => fo.ms.ne (by subst e; exact pm.nil_eq.symm))
  have fo3 : FOk b way (z :: t) lim := fo.perm pm
  have tl15 : t.length ≤ 15 := by have := fo3.ms.len; simp at this; omega
  have ro : ROk ⟨b, way, z :: t, lim⟩ := fo3.r (List.Perm.refl _)
  have DV : DivOk b (z :: t) := div_ok F (fun x m => hsub x (gm x (pm.mem_iff.mp m))) (by simp) fo3.ms.nd pw
  have es : PyData.eqv (toPy (ruL ⟨b, way, z :: t, lim⟩)) (toPy (ruL ⟨b, way, z :: t, lim⟩)) = true := eqv_self02
  refine ⟨nl_rule (C := CR) (r := ⟨b, way, z :: t, lim⟩), ?_⟩
  refine ⟨rfl, ?_⟩
  refine wb_norm (δ' := [_, _, _, _, _, _, _, _, _, _, _, _, _, _, _]) rfl ?_
  refine wb_cons ?_
  refine ws_asg 8 nd ?_
  refine we_tup ?_
  refine wa_cons ?_
  refine we_var 2 rfl ?_
  refine wa_cons ?_
  refine we_var 3 rfl ?_
  refine wa_cons ?_
  refine we_sorted B.sorted rfl ?_
  refine wa_cons ?_
  refine we_frz 6 rfl ?_
  refine we_lc [14] (by decide) rfl nd (blkOk_by (N := names__law_right) (sc := defScope s__law_right) (own := [("_law_one", 14)]) (by decide +kernel)) ?_
  refine lcPure (fun _ => true) (fun d => d) ?_
  refine wi_list ?_
  refine we_var 6 rfl ?_
  refine ⟨_, rfl, ?_⟩
  refine ⟨by rw [List.length_map]; have := dd_len g; omega, fun i10 d10 hi10 s10 H10 C10 cl10 fp10 M10 => ?_, ?_⟩
  ·
    obtain ⟨x, mx, rfl⟩ := ints_at hi10
    refine wg_name 14 nd rfl ?_
    refine ⟨rfl, fun s10_2 H10_2 C10_2 cl10_2 fp10_2 M10_2 => ?_⟩
    refine wts_nil ?_
    refine ⟨rfl, rfl, fun hb10 s10_3 H10_3 C10_3 cl10_3 fp10_3 M10_3 => ?_⟩
    refine we_toInt B.int rfl ?_
    refine wa_cons ?_
    refine we_var 14 rfl ?_
    refine wa_nil ?_
    refine Or.inl ⟨_, rfl, ?_⟩
    exact ⟨rfl, rfl, rfl⟩
  rw [all_ints fun m => rfl]
  refine ⟨thaw_ints, ?_⟩
  refine wa_nil ?_
  refine ⟨_, _, rfl, rfl, fun ns9 pm9 pw9 => ?_⟩
  obtain rfl : ns9 = z :: t := sorted_eq (pm9.trans pm.symm) pw9 pw
  refine wa_cons ?_
  refine we_var 5 rfl ?_
  refine wa_nil ?_
  refine ⟨rfl, Nat.le_of_ble_eq_true rfl, ?_⟩
  refine ⟨rfl, ?_⟩
  refine wb_norm (δ' := [_, _, _, _, _, _, _, _, _, _, _, _, _, _, _]) rfl ?_
  refine wb_cons ?_
  refine ws_if ?_
  refine wt_bo ?_
  refine ww_or ?_
  refine wt_ne hu64 ?_
  refine we_call G__law_fields (hr.mono (by decide)) rfl ?_
  refine wa_cons ?_
  refine we_var 7 rfl ?_
  refine wa_nil ?_
  refine ⟨rfl, ?_⟩
  refine ⟨⟨b, way, z :: t, lim⟩, rfl, ?_⟩
  refine we_var 8 rfl ?_
  refine ⟨shaped_rule2 (r := ⟨b, way, z :: t, lim⟩) ro, shaped_rule2 (r := ⟨b, way, z :: t, lim⟩) ro, ?_⟩
  refine ⟨_, rfl, ?_⟩
  refine ⟨fun hb12 => ?_, fun hb12 => False.elim (by have hz := hb12; rw [Bool.not_eq_true'] at hz; exact Bool.noConfusion (hz.symm.trans es))⟩
  refine ww_or1 ?_
  refine wt_ne hu64 ?_
  refine we_repr hgd hu64 B.repr rfl ?_
  refine wa_cons ?_
  refine we_call G__law_fields (hr.mono (by decide)) rfl ?_
  refine wa_cons ?_
  refine we_var 7 rfl ?_
  refine wa_nil ?_
  refine ⟨rfl, ?_⟩
  refine ⟨⟨b, way, z :: t, lim⟩, rfl, ?_⟩
  refine wa_nil ?_
  refine ⟨_, rfl, .inr ⟨rfl, isPy_ru (r := ⟨b, way, z :: t, lim⟩), rep02 (r := ⟨b, way, z :: t, lim⟩) fo3⟩, ?_⟩
  refine we_repr hgd hu64 B.repr rfl ?_
  refine wa_cons ?_
  refine we_var 8 rfl ?_
  refine wa_nil ?_
  refine ⟨_, rfl, .inr ⟨rfl, isPy_ru (r := ⟨b, way, z :: t, lim⟩), rep02 (r := ⟨b, way, z :: t, lim⟩) fo3⟩, ?_⟩
  refine ⟨_, rfl, ?_⟩
  refine ⟨fun hc17 => False.elim (by simp [ruL] at hc17; exact hc17 rfl), fun hc17 => ?_⟩
  refine wb_norm (δ' := [_, _, _, _, _, _, _, _, _, _, _, _, _, _, _]) rfl ?_
  refine wb_nil ?_
  refine wb_norm (δ' := [_, _, _, _, _, _, _, _, _, _, _, _, _, _, _]) rfl ?_
  refine wb_cons ?_
  refine ws_if ?_
  refine wt_ne hu64 ?_
  refine we_reprB B.repr rfl ?_
  refine wa_cons ?_
  refine we_prop (ns := nsR) T.Rule.cl G_Rule_dividing (hr.mono (by decide)) ?_
  refine we_var 7 rfl ?_
  refine ⟨_, rfl, ?_⟩
  refine ⟨⟨b, way, z :: t, lim⟩, rfl, DV.t, ?_⟩
  rw [show divL (RD.b ⟨b, way, z :: t, lim⟩) (RD.hs ⟨b, way, z :: t, lim⟩) = dv11 b (z :: t) from DV.dv]
  refine wa_nil ?_
  refine ⟨_, rfl, ?_⟩
  refine we_reprB B.repr rfl ?_
  refine wa_cons ?_
  refine we_call G__law_is_dividing (hr.mono (by decide)) rfl ?_
  refine wa_cons ?_
  refine we_var 2 rfl ?_
  refine wa_cons ?_
  refine we_ix ?_
  refine we_var 8 rfl ?_
  refine we_int ?_
  refine ⟨_, _, _, rfl, rfl, rfl, ?_⟩
  refine wa_nil ?_
  refine ⟨rfl, ?_⟩
  refine ⟨_, _, rfl, DV, ?_⟩
  refine wa_nil ?_
  refine ⟨_, rfl, ?_⟩
  refine ⟨_, rfl, ?_⟩
  refine ⟨fun hc22 => False.elim (by simp at hc22), fun hc22 => ?_⟩
  refine wb_norm (δ' := [_, _, _, _, _, _, _, _, _, _, _, _, _, _, _]) rfl ?_
  refine wb_nil ?_
  refine wb_norm (δ' := [_, _, _, _, _, _, _, _, _, _, _, _, _, _, _]) rfl ?_
  refine wb_cons ?_
  refine ws_expr ?_
  refine we_appF ?_
  refine we_prop (ns := nsR) T.Rule.cl G_Rule_mantissas (hr.mono (by decide)) ?_
  refine we_var 7 rfl ?_
  refine ⟨_, rfl, ?_⟩
  refine ⟨⟨b, way, z :: t, lim⟩, rfl, ?_⟩
  refine ⟨_, rfl, by have := fo3.ms.len; simp at this ⊢; omega, ?_⟩
  refine wb_norm (δ' := [_, _, _, _, _, _, _, _, _, _, _, _, _, _, _]) rfl ?_
  refine wb_cons ?_
  refine ws_append 6 rfl ?_
  refine we_var 2 rfl ?_
  refine ⟨rfl, by rw [List.length_map]; have := dd_len g; omega, ?_⟩
  refine wb_norm (δ' := [_, _, _, _, _, _, _, _, _, _, _, _, _, _, _]) rfl ?_
  refine wb_cons ?_
  refine ws_if ?_
  refine wt_ne hu64 ?_
  refine we_call G__law_fields (hr.mono (by decide)) rfl ?_
  refine wa_cons ?_
  refine we_var 7 rfl ?_
  refine wa_nil ?_
  refine ⟨rfl, ?_⟩
  refine ⟨⟨b, way, z :: t, lim⟩, rfl, ?_⟩
  refine we_var 8 rfl ?_
  refine ⟨shaped_rule2 (r := ⟨b, way, z :: t, lim⟩) ro, shaped_rule2 (r := ⟨b, way, z :: t, lim⟩) ro, ?_⟩
  refine ⟨_, rfl, ?_⟩
  refine ⟨fun hc25 => False.elim (by have hz := hc25; rw [Bool.not_eq_true'] at hz; exact Bool.noConfusion (hz.symm.trans es)), fun hc25 => ?_⟩
  refine wb_norm (δ' := [_, _, _, _, _, _, _, _, _, _, _, _, _, _, _]) rfl ?_
  refine wb_nil ?_
  refine wb_norm (δ' := [_, _, _, _, _, _, _, _, _, _, _, _, _, _, _]) rfl ?_
  refine wb_cons ?_
  refine ws_asg 9 nd ?_
  refine we_lst ?_
  refine wa_cons ?_
  refine we_callP G__law_rule (hr.mono (by decide)) rfl ?_
  refine wa_cons ?_
  refine we_var 0 rfl ?_
  refine wa_cons ?_
  refine we_var 1 rfl ?_
  refine wa_nil ?_
  refine ⟨_, _, rfl, rfl, ?_⟩
  refine ⟨b, fs, _, rfl, F.F, rfl, fun way2 ms2 lim2 R2 hsub2 => ?_⟩
  refine wa_cons ?_
  refine we_var 8 rfl ?_
  refine wa_cons ?_
  refine we_tup ?_
  refine wa_cons ?_
  refine we_var 2 rfl ?_
  refine wa_cons ?_
  refine we_var 3 rfl ?_
  refine wa_cons ?_
  refine we_revL ?_
  refine we_ix ?_
  refine we_var 8 rfl ?_
  refine we_int ?_
  refine ⟨_, _, _, rfl, rfl, rfl, ?_⟩
  refine ⟨_, rfl, ?_⟩
  refine wa_cons ?_
  refine we_var 5 rfl ?_
  refine wa_nil ?_
  refine ⟨rfl, Nat.le_of_ble_eq_true rfl, ?_⟩
  refine wa_cons ?_
  refine we_tup ?_
  refine wa_cons ?_
  refine we_var 2 rfl ?_
  refine wa_cons ?_
  refine we_var 3 rfl ?_
  refine wa_cons ?_
  refine we_ix ?_
  refine we_var 8 rfl ?_
  refine we_int ?_
  refine ⟨_, _, _, rfl, rfl, rfl, ?_⟩
  refine wa_cons ?_
  refine we_add ?_
  refine we_var 5 rfl ?_
  refine we_int ?_
  refine wa_nil ?_
  refine ⟨rfl, Nat.le_of_ble_eq_true rfl, ?_⟩
  refine wa_nil ?_
  refine ⟨rfl, Nat.le_of_ble_eq_true rfl, ?_⟩
  refine ⟨rfl, ?_⟩
  refine wb_norm (δ' := [_, _, _, _, _, _, _, _, _, _, _, _, _, _, _]) rfl ?_
  refine wb_cons ?_
  refine ws_asg 10 nd ?_
  refine we_callP G__law_pick (hr.mono (by decide)) rfl ?_
  refine wa_cons ?_
  refine we_var 0 rfl ?_
  refine wa_cons ?_
  refine we_var 9 rfl ?_
  refine wa_nil ?_
  refine ⟨_, _, rfl, rfl, ?_⟩
  refine ⟨_, _, rfl, by simp, by simp, rfl, rfl, fun x27 hx27 => ?_⟩
  obtain ⟨way3, ms3, lim3, rfl, fo4⟩ := pick4 R2.fo fo3 (by omega) hx27
  refine ⟨rfl, ?_⟩
  refine wb_norm (δ' := [_, _, _, _, _, _, _, _, _, _, _, _, _, _, _]) rfl ?_
  refine wb_cons ?_
  refine ws_asg 11 nd ?_
  refine we_eq hu64 ?_
  refine we_tup ?_
  refine wa_cons ?_
  refine we_ix ?_
  refine we_var 10 rfl ?_
  refine we_int ?_
  refine ⟨_, _, _, rfl, rfl, rfl, ?_⟩
  refine wa_cons ?_
  refine we_ix ?_
  refine we_var 10 rfl ?_
  refine we_int ?_
  refine ⟨_, _, _, rfl, rfl, rfl, ?_⟩
  refine wa_cons ?_
  refine we_sorted B.sorted rfl ?_
  refine wa_cons ?_
  refine we_lc [14] (by decide) rfl nd (blkOk_by (N := names__law_right) (sc := defScope s__law_right) (own := [("_law_one", 14)]) (by decide +kernel)) ?_
  refine lcPure (fun _ => true) (fun d => d) ?_
  refine wi_list ?_
  refine we_ix ?_
  refine we_var 10 rfl ?_
  refine we_int ?_
  refine ⟨_, _, _, rfl, rfl, rfl, ?_⟩
  refine ⟨_, rfl, ?_⟩
  refine ⟨by rw [List.length_map]; have := fo4.ms.len; omega, fun i29 d29 hi29 s29 H29 C29 cl29 fp29 M29 => ?_, ?_⟩
  ·
    obtain ⟨x, mx, rfl⟩ := ints_at hi29
    refine wg_name 14 nd rfl ?_
    refine ⟨rfl, fun s29_2 H29_2 C29_2 cl29_2 fp29_2 M29_2 => ?_⟩
    refine wts_nil ?_
    refine ⟨rfl, rfl, fun hb29 s29_3 H29_3 C29_3 cl29_3 fp29_3 M29_3 => ?_⟩
    refine we_toInt B.int rfl ?_
    refine wa_cons ?_
    refine we_var 14 rfl ?_
    refine wa_nil ?_
    refine Or.inl ⟨_, rfl, ?_⟩
    exact ⟨rfl, rfl, rfl⟩
  rw [all_ints fun m => rfl]
  refine wa_nil ?_
  refine ⟨_, _, rfl, rfl, fun ns5 pm5 pw5 => ?_⟩
  have fo5 : FOk b way3 ns5 lim3 := fo4.perm pm5
  have qo : ROk ⟨b, way3, ns5, lim3⟩ := fo5.r (List.Perm.refl _)
  refine wa_cons ?_
  refine we_ix ?_
  refine we_var 10 rfl ?_
  refine we_int ?_
  refine ⟨_, _, _, rfl, rfl, rfl, ?_⟩
  refine wa_nil ?_
  refine ⟨rfl, Nat.le_of_ble_eq_true rfl, ?_⟩
  refine we_var 8 rfl ?_
  refine ⟨shaped_rule2 (r := ⟨b, way3, ns5, lim3⟩) qo, shaped_rule2 (r := ⟨b, way, z :: t, lim⟩) ro, ?_⟩
  refine ⟨rfl, ?_⟩
  refine wb_norm (δ' := [_, _, _, _, _, _, _, _, _, _, _, _, _, _, _]) rfl ?_
  refine wb_cons ?_
  refine ws_if ?_
  refine wt_bo ?_
  refine ww_or ?_
  refine wt_ne hu64 ?_
  refine we_cmpO (ns := nsR) rfl G_Rule___eq__ (hr.mono (by decide)) ?_
  refine we_var 7 rfl ?_
  refine we_call G__law_made (hr.mono (by decide)) rfl ?_
  refine wa_cons ?_
  refine we_var 10 rfl ?_
  refine wa_nil ?_
  refine ⟨rfl, ?_⟩
  refine ⟨_, _, ms3, _, rfl, fo4, fun ns6 pm6 pw6 => ?_⟩
  obtain rfl : ns5 = ns6 := (sorted_eq (pm6.trans pm5.symm) pw6 pw5).symm
  refine ⟨_, _, rfl, rfl, ?_⟩
  refine Or.inl ⟨⟨b, way, z :: t, lim⟩, ⟨b, way3, ns5, lim3⟩, rfl, ro, qo, ?_⟩
  refine we_var 11 rfl ?_
  refine ⟨by rfl, by rfl, ?_⟩
  refine ⟨_, rfl, ?_⟩
  refine ⟨fun hb31 => ?_, fun hb31 => False.elim (by have hz := hb31; rw [Bool.not_eq_true'] at hz; exact Bool.noConfusion (hz.symm.trans (same02 (r := ⟨b, way, z :: t, lim⟩) (q := ⟨b, way3, ns5, lim3⟩))))⟩
  refine ww_or ?_
  refine wt_eq hu64 ?_
  refine we_neO (ns := nsR) NR G_Rule___eq__ (hr.mono (by decide)) ?_
  refine we_var 7 rfl ?_
  refine we_call G__law_made (hr.mono (by decide)) rfl ?_
  refine wa_cons ?_
  refine we_var 10 rfl ?_
  refine wa_nil ?_
  refine ⟨rfl, ?_⟩
  refine ⟨_, _, ms3, _, rfl, fo4, fun ns7 pm7 pw7 => ?_⟩
  obtain rfl : ns5 = ns7 := (sorted_eq (pm7.trans pm5.symm) pw7 pw5).symm
  refine ⟨_, _, rfl, rfl, ?_⟩
  refine Or.inl ⟨⟨b, way, z :: t, lim⟩, ⟨b, way3, ns5, lim3⟩, rfl, ro, qo, ?_⟩
  refine ⟨_, rfl, ?_⟩
  refine we_var 11 rfl ?_
  refine ⟨by rfl, by rfl, ?_⟩
  refine ⟨_, rfl, ?_⟩
  refine ⟨fun hb34 => ?_, fun hb34 => False.elim (Bool.noConfusion (hb34.symm.trans (diff02 (r := ⟨b, way, z :: t, lim⟩) (q := ⟨b, way3, ns5, lim3⟩))))⟩
  refine ww_or ?_
  refine wt_eqN (ns := nsR) NF G_Rule___eq__ (hr.mono (by decide)) ?_
  refine we_var 7 rfl ?_
  refine we_var 8 rfl ?_
  refine ⟨_, rfl, Or.inr ⟨_, rfl⟩, ?_⟩
  refine Or.inr ⟨⟨b, way, z :: t, lim⟩, _, rfl, Or.inr ⟨_, rfl⟩, ?_⟩
  refine ⟨_, rfl, ?_⟩
  refine ⟨fun hb37 => ?_, fun hb37 => absurd hb37 (by first | (intro h; cases h; done) | (simp; done) | decide)⟩
  refine ww_or1 ?_
  refine wt_eqN (ns := nsR) NF G_Rule___eq__ (hr.mono (by decide)) ?_
  refine we_var 7 rfl ?_
  refine we_non ?_
  refine ⟨_, rfl, Or.inl rfl, ?_⟩
  refine Or.inr ⟨⟨b, way, z :: t, lim⟩, _, rfl, Or.inl rfl, ?_⟩
  refine ⟨_, rfl, ?_⟩
  refine ⟨fun hc38 => absurd hc38 (by first | (intro h; cases h; done) | (simp; done) | decide), fun hc38 => ?_⟩
  refine wb_norm (δ' := [_, _, _, _, _, _, _, _, _, _, _, _, _, _, _]) rfl ?_
  refine wb_nil ?_
  refine wb_norm (δ' := [_, _, _, _, _, _, _, _, _, _, _, _, _, _, _]) rfl ?_
  refine wb_odd (ip := 0) (ib := 2) (ik := 3) (id := 8) (im := 5) (io := 12) (i1 := 14) G__law_odd G__law_refused hgd (hr.mono (by decide)) hu64 rfl nd (blkOk_by (N := names__law_right) (sc := defScope s__law_right) (own := [("_law_one", 14)]) (by decide +kernel)) rfl rfl rfl (fun _ _ _ _ _ => rfl) (fun _ _ _ _ _ => rfl) rfl rfl (.inl rfl) rfl (.inl rfl) rfl (.inl rfl) rfl (.inl rfl) rfl (.inl rfl) rfl rfl rfl rfl rfl rfl (Nat.le_of_ble_eq_true rfl) (by decide) b2 (by omega) tl15 (fun h0 r r0 r9 => rows_good fo3 h0 r r0 r9) ?_
  refine wb_norm (δ' := [_, _, _, _, _, _, _, _, _, _, _, _, _, _, _]) rfl ?_
  refine wb_one ?_
  refine ws_ret ?_
  refine we_and ?_
  refine we_refN G__law_refused hgd (hr.mono (by decide)) rfl ?_
  refine ⟨_, rfl, fun hb39 => ?_, fun hb39 => absurd hb39 (by first | (intro h; cases h; done) | (simp; done) | decide)⟩
  refine we_and ?_
  refine we_refB (ib := 2) (ik := 3) G__law_refused hgd (hr.mono (by decide)) rfl rfl (.inl rfl) rfl (.inl rfl) rfl rfl b2 (by omega) R.fo.wk ?_
  refine ⟨_, rfl, fun hb40 => ?_, fun hb40 => absurd hb40 (by first | (intro h; cases h; done) | (simp; done) | decide)⟩
  refine we_one ?_
  refine we_eq hu64 ?_
  refine we_call G__law_fields (hr.mono (by decide)) rfl ?_
  refine wa_cons ?_
  refine we_var 7 rfl ?_
  refine wa_nil ?_
  refine ⟨rfl, ?_⟩
  refine ⟨⟨b, way, z :: t, lim⟩, rfl, ?_⟩
  refine we_var 8 rfl ?_
  refine ⟨shaped_rule2 (r := ⟨b, way, z :: t, lim⟩) ro, shaped_rule2 (r := ⟨b, way, z :: t, lim⟩) ro, ?_⟩
  refine ⟨rfl, ?_⟩
  have e : Φ (.bl (PyData.eqv (toPy (ruL ⟨b, way, z :: t, lim⟩)) (toPy (ruL ⟨b, way, z :: t, lim⟩)))) m := by rw [es]; exact k
  exact e

abbrev s_law : Stmt := top 43
abbrev names_law : List Str := ["_law_script", "_law_turn"]
theorem sc_law : FnScope names_law ["_law_script"] (defScope s_law) := ⟨rfl, rfl, rfl, by decide +kernel, rfl, by decide +kernel, by decide +kernel⟩
theorem ok_law {f : Addr} {fd : FuncData} (F : FunV K "law" "law" s_law f fd) (G__law_purse : Fn P w K mg base "_law_purse" ["_law_script", "_law_at"] (1) (spD K (sp__law_purse))) (G__law_right : GFn P w K mg base "_law_right" ["_law_purse_here"] (8) (spP K (sp__law_right02))) (B : Bi mg) : GOk P w K mg base CX0 (9) f fd ["_law_script"] (spLaw K) := by
  refine fnLG F sc_law fun cdv A outer s H E M ns hgd hr hlen => ?_
  have nd := sc_law.nd
  have hu64 := hr.units
  have hu1 := hu_of hr
  refine wb_norm (δ' := [_, _]) rfl ?_
  refine wb_cons ?_
  refine ws_forK [1] (is := [1]) PassesOwn.never rfl ?_
  refine wi_range1 B.range rfl ?_
  refine we_int ?_
  refine ⟨_, rfl, by omega, by omega, ?_⟩
  refine ⟨fun i ss _ => ∃ s1 : Option D, ss = [s1], [none], ⟨rfl, none, rfl⟩, fun i1 d1 ss1 n1 hi1 I1 => ?_, fun ss1 n1 I1 => ?_⟩
  ·
    obtain ⟨s1, rfl⟩ := I1
    obtain ⟨hj, rfl⟩ := rangeD_at hi1
    refine wg_name 1 nd rfl ?_
    refine wb_norm (δ' := [_, _]) rfl ?_
    refine wb_one ?_
    refine ws_if ?_
    refine wt_not ?_
    refine wt_val ?_
    refine we_callPN (m := 44) G__law_right hgd (hr.mono (by decide)) rfl ?_
    refine we_call G__law_purse (hr.mono (by decide)) rfl ?_
    refine wa_cons ?_
    refine we_var 0 rfl ?_
    refine wa_cons ?_
    refine we_var 1 rfl ?_
    refine wa_nil ?_
    refine ⟨rfl, ?_⟩
    refine ⟨ns, _, rfl, by omega, fun x y hx hy => ?_⟩
    refine ⟨x, y, 0, rfl, ⟨hx.1, hx.2, hy.1, hy.2, by decide, by decide⟩, ?_⟩
    refine ⟨0, rfl, rfl, true, rfl, ?_⟩
    refine ⟨_, rfl, ?_⟩
    refine ⟨fun hc3 => absurd hc3 (by first | (intro h; cases h; done) | (simp; done) | decide), fun hc3 => ?_⟩
    refine wb_norm (δ' := [_, _]) rfl ?_
    refine wb_nil ?_
    exact ⟨[_], rfl, _, rfl⟩
  ·
    obtain ⟨s1, rfl⟩ := I1
    refine wb_norm (δ' := [_, _]) rfl ?_
    refine wb_one ?_
    refine ws_ret ?_
    refine we_bl ?_
    refine ⟨rfl, ?_⟩
    rfl

end
end Ax

namespace Ax
open PySem PySem.Spec PyProof.Rows L2 DL
theorem all_mk {l : PySem.W.OpenLaw} {w : World} {K : PySem.W.Frag} {h : Heap} {mg : Str → Option Value} {fa CR f_is_whole f_is_base f_are_mantissas f_are_fields f_Rule___init__ f_Rule_base f_Rule_kind f_Rule_mantissas f_Rule_most f_Rule___eq__ f_turn_of_sizes f_Rule_dividing f__law_purse f__law_draw f__law_pick f__law_family f__law_rule f__law_made f__law_times f__law_fields f__law_is_dividing f__law_odd f__law_refused f__law_right f_law k_KINDS p_Rule_base p_Rule_kind p_Rule_mantissas p_Rule_most p_Rule_dividing : Addr} (X : K.In h) (G : h.Ns mainGlobals mg) (hfa : mg "law" = some (.ref fa))
    {od_is_whole an_is_whole od_is_base an_is_base od_are_mantissas an_are_mantissas od_are_fields an_are_fields od_Rule___init__ an_Rule___init__ od_Rule_base an_Rule_base od_Rule_kind an_Rule_kind od_Rule_mantissas an_Rule_mantissas od_Rule_most an_Rule_most od_Rule___eq__ an_Rule___eq__ od_turn_of_sizes an_turn_of_sizes od_Rule_dividing an_Rule_dividing od__law_purse an__law_purse od__law_draw an__law_draw od__law_pick an__law_pick od__law_family an__law_family od__law_rule an__law_rule od__law_made an__law_made od__law_times an__law_times od__law_fields an__law_fields od__law_is_dividing an__law_is_dividing od__law_odd an__law_odd od__law_refused an__law_refused od__law_right an__law_right od_law an_law od_KINDS : Option Addr} {sl_is_whole sl_is_base sl_are_mantissas sl_are_fields sl_Rule___init__ sl_Rule_base sl_Rule_kind sl_Rule_mantissas sl_Rule_most sl_Rule___eq__ sl_turn_of_sizes sl_Rule_dividing sl__law_purse sl__law_draw sl__law_pick sl__law_family sl__law_rule sl__law_made sl__law_times sl__law_fields sl__law_is_dividing sl__law_odd sl__law_refused sl__law_right sl_law sl_KINDS : Array (Option Value)} {oc_is_whole kV_is_whole dc_is_whole pm_is_whole cd_is_whole ct_is_whole oc_is_base kV_is_base dc_is_base pm_is_base cd_is_base ct_is_base oc_are_mantissas kV_are_mantissas dc_are_mantissas pm_are_mantissas cd_are_mantissas ct_are_mantissas oc_are_fields kV_are_fields dc_are_fields pm_are_fields cd_are_fields ct_are_fields oc_Rule___init__ kV_Rule___init__ dc_Rule___init__ pm_Rule___init__ cd_Rule___init__ ct_Rule___init__ oc_Rule_base kV_Rule_base dc_Rule_base pm_Rule_base cd_Rule_base ct_Rule_base oc_Rule_kind kV_Rule_kind dc_Rule_kind pm_Rule_kind cd_Rule_kind ct_Rule_kind oc_Rule_mantissas kV_Rule_mantissas dc_Rule_mantissas pm_Rule_mantissas cd_Rule_mantissas ct_Rule_mantissas oc_Rule_most kV_Rule_most dc_Rule_most pm_Rule_most cd_Rule_most ct_Rule_most oc_Rule___eq__ kV_Rule___eq__ dc_Rule___eq__ pm_Rule___eq__ cd_Rule___eq__ ct_Rule___eq__ oc_turn_of_sizes kV_turn_of_sizes dc_turn_of_sizes pm_turn_of_sizes cd_turn_of_sizes ct_turn_of_sizes oc_Rule_dividing kV_Rule_dividing dc_Rule_dividing pm_Rule_dividing cd_Rule_dividing ct_Rule_dividing oc__law_purse kV__law_purse dc__law_purse pm__law_purse cd__law_purse ct__law_purse oc__law_draw kV__law_draw dc__law_draw pm__law_draw cd__law_draw ct__law_draw oc__law_pick kV__law_pick dc__law_pick pm__law_pick cd__law_pick ct__law_pick oc__law_family kV__law_family dc__law_family pm__law_family cd__law_family ct__law_family oc__law_rule kV__law_rule dc__law_rule pm__law_rule cd__law_rule ct__law_rule oc__law_made kV__law_made dc__law_made pm__law_made cd__law_made ct__law_made oc__law_times kV__law_times dc__law_times pm__law_times cd__law_times ct__law_times oc__law_fields kV__law_fields dc__law_fields pm__law_fields cd__law_fields ct__law_fields oc__law_is_dividing kV__law_is_dividing dc__law_is_dividing pm__law_is_dividing cd__law_is_dividing ct__law_is_dividing oc__law_odd kV__law_odd dc__law_odd pm__law_odd cd__law_odd ct__law_odd oc__law_refused kV__law_refused dc__law_refused pm__law_refused cd__law_refused ct__law_refused oc__law_right kV__law_right dc__law_right pm__law_right cd__law_right ct__law_right oc_law kV_law dc_law pm_law cd_law ct_law : Value} {its_KINDS : Array Value} {n_KINDS : Nat} {rest_Rule_base rest_Rule_kind rest_Rule_mantissas rest_Rule_most rest_Rule_dividing : List Value}
    {E1 : Addr}
    (a_Rule : PySem.W.nsIn K mainGlobals "Rule" = some (some (.ref CR)))
    (a_KINDS : PySem.W.nsIn K mainGlobals "KINDS" = some (some (.ref k_KINDS)))
    (l_KINDS : K.lookup k_KINDS = some ⟨.type "tuple", od_KINDS, .seq its_KINDS n_KINDS, sl_KINDS⟩)
    (v_KINDS : Vals [.str "inside", .str "cover", .str "length"] its_KINDS.toList)
    (z_KINDS : its_KINDS.size ≤ sizeLine)
    (a_is_whole : PySem.W.nsIn K mainGlobals "is_whole" = some (some (.ref f_is_whole)))
    (l_is_whole : K.lookup f_is_whole = some ⟨oc_is_whole, od_is_whole, .func (PySem.W.fnOf "is_whole" "is_whole" (defArgs s_is_whole) (defBody s_is_whole) (defScope s_is_whole) .none kV_is_whole dc_is_whole pm_is_whole an_is_whole cd_is_whole ct_is_whole), sl_is_whole⟩)
    (c_is_whole : PySem.W.codeIn K cd_is_whole "is_whole" = true)
    (k_is_whole : PySem.W.keepIn K (.ref f_is_whole) = true)
    (a_is_base : PySem.W.nsIn K mainGlobals "is_base" = some (some (.ref f_is_base)))
    (l_is_base : K.lookup f_is_base = some ⟨oc_is_base, od_is_base, .func (PySem.W.fnOf "is_base" "is_base" (defArgs s_is_base) (defBody s_is_base) (defScope s_is_base) .none kV_is_base dc_is_base pm_is_base an_is_base cd_is_base ct_is_base), sl_is_base⟩)
    (c_is_base : PySem.W.codeIn K cd_is_base "is_base" = true)
    (k_is_base : PySem.W.keepIn K (.ref f_is_base) = true)
    (a_are_mantissas : PySem.W.nsIn K mainGlobals "are_mantissas" = some (some (.ref f_are_mantissas)))
    (l_are_mantissas : K.lookup f_are_mantissas = some ⟨oc_are_mantissas, od_are_mantissas, .func (PySem.W.fnOf "are_mantissas" "are_mantissas" (defArgs s_are_mantissas) (defBody s_are_mantissas) (defScope s_are_mantissas) .none kV_are_mantissas dc_are_mantissas pm_are_mantissas an_are_mantissas cd_are_mantissas ct_are_mantissas), sl_are_mantissas⟩)
    (c_are_mantissas : PySem.W.codeIn K cd_are_mantissas "are_mantissas" = true)
    (k_are_mantissas : PySem.W.keepIn K (.ref f_are_mantissas) = true)
    (a_are_fields : PySem.W.nsIn K mainGlobals "are_fields" = some (some (.ref f_are_fields)))
    (l_are_fields : K.lookup f_are_fields = some ⟨oc_are_fields, od_are_fields, .func (PySem.W.fnOf "are_fields" "are_fields" (defArgs s_are_fields) (defBody s_are_fields) (defScope s_are_fields) .none kV_are_fields dc_are_fields pm_are_fields an_are_fields cd_are_fields ct_are_fields), sl_are_fields⟩)
    (c_are_fields : PySem.W.codeIn K cd_are_fields "are_fields" = true)
    (k_are_fields : PySem.W.keepIn K (.ref f_are_fields) = true)
    (a_Rule___init__ : PySem.W.findIn K (.ref CR) "__init__" = some (some (.ref f_Rule___init__)))
    (i_Rule___init__ : PySem.W.isFn K (.ref f_Rule___init__) = true)
    (l_Rule___init__ : K.lookup f_Rule___init__ = some ⟨oc_Rule___init__, od_Rule___init__, .func (PySem.W.fnOf "__init__" "Rule.__init__" (defArgs s_Rule___init__) (defBody s_Rule___init__) (defScope s_Rule___init__) .none kV_Rule___init__ dc_Rule___init__ pm_Rule___init__ an_Rule___init__ cd_Rule___init__ ct_Rule___init__), sl_Rule___init__⟩)
    (c_Rule___init__ : PySem.W.codeIn K cd_Rule___init__ "Rule.__init__" = true)
    (k_Rule___init__ : PySem.W.keepIn K (.ref f_Rule___init__) = true)
    (a_Rule_base : PySem.W.findIn K (.ref CR) "base" = some (some (.ref p_Rule_base)))
    (g_Rule_base : PySem.W.specialIn K (.ref p_Rule_base) "__get__" = some (some (.builtin "property.__get__")))
    (t_Rule_base : PySem.W.takesIn K (.ref p_Rule_base) = some true)
    (r_Rule_base : PySem.W.recIn K p_Rule_base "property" = some (.ref f_Rule_base :: rest_Rule_base))
    (l_Rule_base : K.lookup f_Rule_base = some ⟨oc_Rule_base, od_Rule_base, .func (PySem.W.fnOf "base" "Rule.base" (defArgs s_Rule_base) (defBody s_Rule_base) (defScope s_Rule_base) .none kV_Rule_base dc_Rule_base pm_Rule_base an_Rule_base cd_Rule_base ct_Rule_base), sl_Rule_base⟩)
    (c_Rule_base : PySem.W.codeIn K cd_Rule_base "Rule.base" = true)
    (k_Rule_base : PySem.W.keepIn K (.ref f_Rule_base) = true)
    (a_Rule_kind : PySem.W.findIn K (.ref CR) "kind" = some (some (.ref p_Rule_kind)))
    (g_Rule_kind : PySem.W.specialIn K (.ref p_Rule_kind) "__get__" = some (some (.builtin "property.__get__")))
    (t_Rule_kind : PySem.W.takesIn K (.ref p_Rule_kind) = some true)
    (r_Rule_kind : PySem.W.recIn K p_Rule_kind "property" = some (.ref f_Rule_kind :: rest_Rule_kind))
    (l_Rule_kind : K.lookup f_Rule_kind = some ⟨oc_Rule_kind, od_Rule_kind, .func (PySem.W.fnOf "kind" "Rule.kind" (defArgs s_Rule_kind) (defBody s_Rule_kind) (defScope s_Rule_kind) .none kV_Rule_kind dc_Rule_kind pm_Rule_kind an_Rule_kind cd_Rule_kind ct_Rule_kind), sl_Rule_kind⟩)
    (c_Rule_kind : PySem.W.codeIn K cd_Rule_kind "Rule.kind" = true)
    (k_Rule_kind : PySem.W.keepIn K (.ref f_Rule_kind) = true)
    (a_Rule_mantissas : PySem.W.findIn K (.ref CR) "mantissas" = some (some (.ref p_Rule_mantissas)))
    (g_Rule_mantissas : PySem.W.specialIn K (.ref p_Rule_mantissas) "__get__" = some (some (.builtin "property.__get__")))
    (t_Rule_mantissas : PySem.W.takesIn K (.ref p_Rule_mantissas) = some true)
    (r_Rule_mantissas : PySem.W.recIn K p_Rule_mantissas "property" = some (.ref f_Rule_mantissas :: rest_Rule_mantissas))
    (l_Rule_mantissas : K.lookup f_Rule_mantissas = some ⟨oc_Rule_mantissas, od_Rule_mantissas, .func (PySem.W.fnOf "mantissas" "Rule.mantissas" (defArgs s_Rule_mantissas) (defBody s_Rule_mantissas) (defScope s_Rule_mantissas) .none kV_Rule_mantissas dc_Rule_mantissas pm_Rule_mantissas an_Rule_mantissas cd_Rule_mantissas ct_Rule_mantissas), sl_Rule_mantissas⟩)
    (c_Rule_mantissas : PySem.W.codeIn K cd_Rule_mantissas "Rule.mantissas" = true)
    (k_Rule_mantissas : PySem.W.keepIn K (.ref f_Rule_mantissas) = true)
    (a_Rule_most : PySem.W.findIn K (.ref CR) "most" = some (some (.ref p_Rule_most)))
    (g_Rule_most : PySem.W.specialIn K (.ref p_Rule_most) "__get__" = some (some (.builtin "property.__get__")))
    (t_Rule_most : PySem.W.takesIn K (.ref p_Rule_most) = some true)
    (r_Rule_most : PySem.W.recIn K p_Rule_most "property" = some (.ref f_Rule_most :: rest_Rule_most))
    (l_Rule_most : K.lookup f_Rule_most = some ⟨oc_Rule_most, od_Rule_most, .func (PySem.W.fnOf "most" "Rule.most" (defArgs s_Rule_most) (defBody s_Rule_most) (defScope s_Rule_most) .none kV_Rule_most dc_Rule_most pm_Rule_most an_Rule_most cd_Rule_most ct_Rule_most), sl_Rule_most⟩)
    (c_Rule_most : PySem.W.codeIn K cd_Rule_most "Rule.most" = true)
    (k_Rule_most : PySem.W.keepIn K (.ref f_Rule_most) = true)
    (a_Rule___eq__ : PySem.W.findIn K (.ref CR) "__eq__" = some (some (.ref f_Rule___eq__)))
    (i_Rule___eq__ : PySem.W.isFn K (.ref f_Rule___eq__) = true)
    (l_Rule___eq__ : K.lookup f_Rule___eq__ = some ⟨oc_Rule___eq__, od_Rule___eq__, .func (PySem.W.fnOf "__eq__" "Rule.__eq__" (defArgs s_Rule___eq__) (defBody s_Rule___eq__) (defScope s_Rule___eq__) .none kV_Rule___eq__ dc_Rule___eq__ pm_Rule___eq__ an_Rule___eq__ cd_Rule___eq__ ct_Rule___eq__), sl_Rule___eq__⟩)
    (c_Rule___eq__ : PySem.W.codeIn K cd_Rule___eq__ "Rule.__eq__" = true)
    (k_Rule___eq__ : PySem.W.keepIn K (.ref f_Rule___eq__) = true)
    (a_turn_of_sizes : PySem.W.nsIn K mainGlobals "turn_of_sizes" = some (some (.ref f_turn_of_sizes)))
    (l_turn_of_sizes : K.lookup f_turn_of_sizes = some ⟨oc_turn_of_sizes, od_turn_of_sizes, .func (PySem.W.fnOf "turn_of_sizes" "turn_of_sizes" (defArgs s_turn_of_sizes) (defBody s_turn_of_sizes) (defScope s_turn_of_sizes) .none kV_turn_of_sizes dc_turn_of_sizes pm_turn_of_sizes an_turn_of_sizes cd_turn_of_sizes ct_turn_of_sizes), sl_turn_of_sizes⟩)
    (c_turn_of_sizes : PySem.W.codeIn K cd_turn_of_sizes "turn_of_sizes" = true)
    (k_turn_of_sizes : PySem.W.keepIn K (.ref f_turn_of_sizes) = true)
    (a_Rule_dividing : PySem.W.findIn K (.ref CR) "dividing" = some (some (.ref p_Rule_dividing)))
    (g_Rule_dividing : PySem.W.specialIn K (.ref p_Rule_dividing) "__get__" = some (some (.builtin "property.__get__")))
    (t_Rule_dividing : PySem.W.takesIn K (.ref p_Rule_dividing) = some true)
    (r_Rule_dividing : PySem.W.recIn K p_Rule_dividing "property" = some (.ref f_Rule_dividing :: rest_Rule_dividing))
    (l_Rule_dividing : K.lookup f_Rule_dividing = some ⟨oc_Rule_dividing, od_Rule_dividing, .func (PySem.W.fnOf "dividing" "Rule.dividing" (defArgs s_Rule_dividing) (defBody s_Rule_dividing) (defScope s_Rule_dividing) .none kV_Rule_dividing dc_Rule_dividing pm_Rule_dividing an_Rule_dividing cd_Rule_dividing ct_Rule_dividing), sl_Rule_dividing⟩)
    (c_Rule_dividing : PySem.W.codeIn K cd_Rule_dividing "Rule.dividing" = true)
    (k_Rule_dividing : PySem.W.keepIn K (.ref f_Rule_dividing) = true)
    (a__law_purse : PySem.W.nsIn K mainGlobals "_law_purse" = some (some (.ref f__law_purse)))
    (l__law_purse : K.lookup f__law_purse = some ⟨oc__law_purse, od__law_purse, .func (PySem.W.fnOf "_law_purse" "_law_purse" (defArgs s__law_purse) (defBody s__law_purse) (defScope s__law_purse) .none kV__law_purse dc__law_purse pm__law_purse an__law_purse cd__law_purse ct__law_purse), sl__law_purse⟩)
    (c__law_purse : PySem.W.codeIn K cd__law_purse "_law_purse" = true)
    (k__law_purse : PySem.W.keepIn K (.ref f__law_purse) = true)
    (a__law_draw : PySem.W.nsIn K mainGlobals "_law_draw" = some (some (.ref f__law_draw)))
    (l__law_draw : K.lookup f__law_draw = some ⟨oc__law_draw, od__law_draw, .func (PySem.W.fnOf "_law_draw" "_law_draw" (defArgs s__law_draw) (defBody s__law_draw) (defScope s__law_draw) .none kV__law_draw dc__law_draw pm__law_draw an__law_draw cd__law_draw ct__law_draw), sl__law_draw⟩)
    (c__law_draw : PySem.W.codeIn K cd__law_draw "_law_draw" = true)
    (k__law_draw : PySem.W.keepIn K (.ref f__law_draw) = true)
    (a__law_pick : PySem.W.nsIn K mainGlobals "_law_pick" = some (some (.ref f__law_pick)))
    (l__law_pick : K.lookup f__law_pick = some ⟨oc__law_pick, od__law_pick, .func (PySem.W.fnOf "_law_pick" "_law_pick" (defArgs s__law_pick) (defBody s__law_pick) (defScope s__law_pick) .none kV__law_pick dc__law_pick pm__law_pick an__law_pick cd__law_pick ct__law_pick), sl__law_pick⟩)
    (c__law_pick : PySem.W.codeIn K cd__law_pick "_law_pick" = true)
    (k__law_pick : PySem.W.keepIn K (.ref f__law_pick) = true)
    (a__law_family : PySem.W.nsIn K mainGlobals "_law_family" = some (some (.ref f__law_family)))
    (l__law_family : K.lookup f__law_family = some ⟨oc__law_family, od__law_family, .func (PySem.W.fnOf "_law_family" "_law_family" (defArgs s__law_family) (defBody s__law_family) (defScope s__law_family) .none kV__law_family dc__law_family pm__law_family an__law_family cd__law_family ct__law_family), sl__law_family⟩)
    (c__law_family : PySem.W.codeIn K cd__law_family "_law_family" = true)
    (k__law_family : PySem.W.keepIn K (.ref f__law_family) = true)
    (a__law_rule : PySem.W.nsIn K mainGlobals "_law_rule" = some (some (.ref f__law_rule)))
    (l__law_rule : K.lookup f__law_rule = some ⟨oc__law_rule, od__law_rule, .func (PySem.W.fnOf "_law_rule" "_law_rule" (defArgs s__law_rule) (defBody s__law_rule) (defScope s__law_rule) .none kV__law_rule dc__law_rule pm__law_rule an__law_rule cd__law_rule ct__law_rule), sl__law_rule⟩)
    (c__law_rule : PySem.W.codeIn K cd__law_rule "_law_rule" = true)
    (k__law_rule : PySem.W.keepIn K (.ref f__law_rule) = true)
    (a__law_made : PySem.W.nsIn K mainGlobals "_law_made" = some (some (.ref f__law_made)))
    (l__law_made : K.lookup f__law_made = some ⟨oc__law_made, od__law_made, .func (PySem.W.fnOf "_law_made" "_law_made" (defArgs s__law_made) (defBody s__law_made) (defScope s__law_made) .none kV__law_made dc__law_made pm__law_made an__law_made cd__law_made ct__law_made), sl__law_made⟩)
    (c__law_made : PySem.W.codeIn K cd__law_made "_law_made" = true)
    (k__law_made : PySem.W.keepIn K (.ref f__law_made) = true)
    (a__law_times : PySem.W.nsIn K mainGlobals "_law_times" = some (some (.ref f__law_times)))
    (l__law_times : K.lookup f__law_times = some ⟨oc__law_times, od__law_times, .func (PySem.W.fnOf "_law_times" "_law_times" (defArgs s__law_times) (defBody s__law_times) (defScope s__law_times) .none kV__law_times dc__law_times pm__law_times an__law_times cd__law_times ct__law_times), sl__law_times⟩)
    (c__law_times : PySem.W.codeIn K cd__law_times "_law_times" = true)
    (k__law_times : PySem.W.keepIn K (.ref f__law_times) = true)
    (a__law_fields : PySem.W.nsIn K mainGlobals "_law_fields" = some (some (.ref f__law_fields)))
    (l__law_fields : K.lookup f__law_fields = some ⟨oc__law_fields, od__law_fields, .func (PySem.W.fnOf "_law_fields" "_law_fields" (defArgs s__law_fields) (defBody s__law_fields) (defScope s__law_fields) .none kV__law_fields dc__law_fields pm__law_fields an__law_fields cd__law_fields ct__law_fields), sl__law_fields⟩)
    (c__law_fields : PySem.W.codeIn K cd__law_fields "_law_fields" = true)
    (k__law_fields : PySem.W.keepIn K (.ref f__law_fields) = true)
    (a__law_is_dividing : PySem.W.nsIn K mainGlobals "_law_is_dividing" = some (some (.ref f__law_is_dividing)))
    (l__law_is_dividing : K.lookup f__law_is_dividing = some ⟨oc__law_is_dividing, od__law_is_dividing, .func (PySem.W.fnOf "_law_is_dividing" "_law_is_dividing" (defArgs s__law_is_dividing) (defBody s__law_is_dividing) (defScope s__law_is_dividing) .none kV__law_is_dividing dc__law_is_dividing pm__law_is_dividing an__law_is_dividing cd__law_is_dividing ct__law_is_dividing), sl__law_is_dividing⟩)
    (c__law_is_dividing : PySem.W.codeIn K cd__law_is_dividing "_law_is_dividing" = true)
    (k__law_is_dividing : PySem.W.keepIn K (.ref f__law_is_dividing) = true)
    (a__law_odd : PySem.W.nsIn K mainGlobals "_law_odd" = some (some (.ref f__law_odd)))
    (l__law_odd : K.lookup f__law_odd = some ⟨oc__law_odd, od__law_odd, .func (PySem.W.fnOf "_law_odd" "_law_odd" (defArgs s__law_odd) (defBody s__law_odd) (defScope s__law_odd) .none kV__law_odd dc__law_odd pm__law_odd an__law_odd cd__law_odd ct__law_odd), sl__law_odd⟩)
    (c__law_odd : PySem.W.codeIn K cd__law_odd "_law_odd" = true)
    (k__law_odd : PySem.W.keepIn K (.ref f__law_odd) = true)
    (a__law_refused : PySem.W.nsIn K mainGlobals "_law_refused" = some (some (.ref f__law_refused)))
    (l__law_refused : K.lookup f__law_refused = some ⟨oc__law_refused, od__law_refused, .func (PySem.W.fnOf "_law_refused" "_law_refused" (defArgs s__law_refused) (defBody s__law_refused) (defScope s__law_refused) .none kV__law_refused dc__law_refused pm__law_refused an__law_refused cd__law_refused ct__law_refused), sl__law_refused⟩)
    (c__law_refused : PySem.W.codeIn K cd__law_refused "_law_refused" = true)
    (k__law_refused : PySem.W.keepIn K (.ref f__law_refused) = true)
    (a__law_right : PySem.W.nsIn K mainGlobals "_law_right" = some (some (.ref f__law_right)))
    (l__law_right : K.lookup f__law_right = some ⟨oc__law_right, od__law_right, .func (PySem.W.fnOf "_law_right" "_law_right" (defArgs s__law_right) (defBody s__law_right) (defScope s__law_right) .none kV__law_right dc__law_right pm__law_right an__law_right cd__law_right ct__law_right), sl__law_right⟩)
    (c__law_right : PySem.W.codeIn K cd__law_right "_law_right" = true)
    (k__law_right : PySem.W.keepIn K (.ref f__law_right) = true)
    (a_law : PySem.W.nsIn K mainGlobals "law" = some (some (.ref f_law)))
    (l_law : K.lookup f_law = some ⟨oc_law, od_law, .func (PySem.W.fnOf "law" "law" (defArgs s_law) (defBody s_law) (defScope s_law) .none kV_law dc_law pm_law an_law cd_law ct_law), sl_law⟩)
    (c_law : PySem.W.codeIn K cd_law "law" = true)
    (k_law : PySem.W.keepIn K (.ref f_law) = true)
    (pg_Rule : PySem.W.plainGet K CR Str.empty = true)
    (hd_Rule : PySem.W.hasDictIn K CR = true)
    (po_Rule : PySem.W.plainOver K CR = true)
    (sa_Rule : PySem.W.findIn K (.ref CR) "__setattr__" = some (some (.builtin "object.__setattr__")))
    (mk_Rule : PySem.W.makesIn K CR = true)
    (kc_Rule : PySem.W.keepIn K (.ref CR) = true)
    (n_Rule_ground : PySem.W.findIn K (.ref CR) "ground" = some none)
    (n_Rule_way : PySem.W.findIn K (.ref CR) "way" = some none)
    (n_Rule_heads : PySem.W.findIn K (.ref CR) "heads" = some none)
    (n_Rule_limit : PySem.W.findIn K (.ref CR) "limit" = some none)
    (a_InvalidRule : PySem.W.nsIn K mainGlobals "InvalidRule" = some (some (.ref E1)))
    (x1 : ∀ mg2 : Str → Option Value, mg2 "InvalidRule" = some (.ref E1) → XI l.prog K mg2 "InvalidRule" "InvalidRule.__init__" E1)
    (z_super : PySem.W.nsIn K mainGlobals "super" = some none)
    (i1_Rule : PySem.W.findIn K (.ref CR) "__class__" = some (some (.builtin "object.__class__")))
    (i2_Rule : PySem.W.specialIn K (.builtin "object.__class__") "__get__" = some (some (.builtin "getset_descriptor.__get__")))
    (i3_Rule : PySem.W.takesIn K (.builtin "object.__class__") = some true)
    (i4_Rule : PySem.W.mroIn K CR (.type "object") = some true)
    (ty_R : PySem.W.typeIn K (.ref CR) = some (.type "type"))
    (nf_n : PySem.W.notFirst K CR (.type "NoneType") = true)
    (nf_t : PySem.W.notFirst K CR (.type "tuple") = true)
    (ne_R : PySem.W.findIn K (.ref CR) "__ne__" = some (some (.builtin "object.__ne__")))
    (z_range : PySem.W.nsIn K mainGlobals "range" = some none)
    (z_len : PySem.W.nsIn K mainGlobals "len" = some none)
    (z_int : PySem.W.nsIn K mainGlobals "int" = some none)
    (z_bool : PySem.W.nsIn K mainGlobals "bool" = some none)
    (z_str : PySem.W.nsIn K mainGlobals "str" = some none)
    (z_list : PySem.W.nsIn K mainGlobals "list" = some none)
    (z_tuple : PySem.W.nsIn K mainGlobals "tuple" = some none)
    (z_set : PySem.W.nsIn K mainGlobals "set" = some none)
    (z_isinstance : PySem.W.nsIn K mainGlobals "isinstance" = some none)
    (z_max : PySem.W.nsIn K mainGlobals "max" = some none)
    (z_min : PySem.W.nsIn K mainGlobals "min" = some none)
    (z_sorted : PySem.W.nsIn K mainGlobals "sorted" = some none)
    (z_zip : PySem.W.nsIn K mainGlobals "zip" = some none)
    (z_enumerate : PySem.W.nsIn K mainGlobals "enumerate" = some none)
    (z_repr : PySem.W.nsIn K mainGlobals "repr" = some none)
    (z_sum : PySem.W.nsIn K mainGlobals "sum" = some none)
    (z_abs : PySem.W.nsIn K mainGlobals "abs" = some none)
    : ∃ fd : FuncData, (∀ (s : Shared) (v : Value), BindsTo s fd ⟨[v], []⟩ [("_law_script", v)]) ∧ ∀ base : Heap, K.In base → base.Ns mainGlobals mg → GOk l.prog w K mg base CX0 9 fa fd ["_law_script"] (spLaw K) := by
  have e := hfa.symm.trans (PySem.W.mg_of X G a_law)
  cases e
  have B : Bi mg := { range := PySem.W.mg_none_of X G z_range, len := PySem.W.mg_none_of X G z_len, int := PySem.W.mg_none_of X G z_int, bool := PySem.W.mg_none_of X G z_bool, str := PySem.W.mg_none_of X G z_str, list := PySem.W.mg_none_of X G z_list, tuple := PySem.W.mg_none_of X G z_tuple, set := PySem.W.mg_none_of X G z_set, isinstance := PySem.W.mg_none_of X G z_isinstance, max := PySem.W.mg_none_of X G z_max, min := PySem.W.mg_none_of X G z_min, sorted := PySem.W.mg_none_of X G z_sorted, zip := PySem.W.mg_none_of X G z_zip, enumerate := PySem.W.mg_none_of X G z_enumerate, repr := PySem.W.mg_none_of X G z_repr, sum := PySem.W.mg_none_of X G z_sum, abs := PySem.W.mg_none_of X G z_abs }
  have T : Txt K mg CR := { Rule := { cl := ⟨pg_Rule, hd_Rule, po_Rule, sa_Rule⟩, n_ground := n_Rule_ground, n_way := n_Rule_way, n_heads := n_Rule_heads, n_limit := n_Rule_limit }, KINDS := ⟨⟨_, .ref k_KINDS, PySem.W.mg_of X G a_KINDS, rfl, fun Av H => ⟨k_KINDS, [.str "inside", .str "cover", .str "length"], rfl, .inr ⟨_, _, _, l_KINDS, rfl, rfl, z_KINDS, v_KINDS⟩, ⟨_, _, rfl, rfl, ⟨_, _, rfl, rfl, ⟨_, _, rfl, rfl, rfl⟩⟩⟩⟩⟩⟩ }
  have hsup := PySem.W.mg_none_of X G z_super
  have X1 := x1 mg (PySem.W.mg_of X G a_InvalidRule)
  have TI : TxI K mg CR := ⟨PySem.W.mg_of X G a_Rule, ⟨⟨pg_Rule, hd_Rule, po_Rule, sa_Rule⟩, i1_Rule, i2_Rule, i3_Rule, i4_Rule⟩, kit_self, kit_no hd_Rule ty_R nf_n, kit_no hd_Rule ty_R nf_t⟩
  have NR : DL.NeC K CR := ⟨ne_R, i4_Rule⟩
  have NF : DL.NfC K CR := ⟨nf_n, nf_t⟩
  have IV : IvR K mg E1 := ⟨X1.at_, X1.f.xf, X1.no, PySem.W.exm_ref X1.T.exC X1.hdC X1.T.tyC (show PySem.W.subIn K (.ref E1) (.ref E1) = some true from X1.hsub)⟩
  have Fp_is_whole := fun_mk (st := s_is_whole) l_is_whole c_is_whole k_is_whole
  have F_is_whole := FunV.of Fp_is_whole
  have b_is_whole := Fp_is_whole.binds (ps := ["value"]) fun _ _ _ _ _ _ us hl => match us, hl with | [_], _ => rfl
  have Fp_is_base := fun_mk (st := s_is_base) l_is_base c_is_base k_is_base
  have F_is_base := FunV.of Fp_is_base
  have b_is_base := Fp_is_base.binds (ps := ["value"]) fun _ _ _ _ _ _ us hl => match us, hl with | [_], _ => rfl
  have Fp_are_mantissas := fun_mk (st := s_are_mantissas) l_are_mantissas c_are_mantissas k_are_mantissas
  have F_are_mantissas := FunV.of Fp_are_mantissas
  have b_are_mantissas := Fp_are_mantissas.binds (ps := ["base", "value"]) fun _ _ _ _ _ _ us hl => match us, hl with | [_, _], _ => rfl
  have Fp_are_fields := fun_mk (st := s_are_fields) l_are_fields c_are_fields k_are_fields
  have F_are_fields := FunV.of Fp_are_fields
  have b_are_fields := Fp_are_fields.binds (ps := ["base", "kind", "mantissas", "most"]) fun _ _ _ _ _ _ us hl => match us, hl with | [_, _, _, _], _ => rfl
  have Fp_Rule___init__ := fun_mk (st := s_Rule___init__) l_Rule___init__ c_Rule___init__ k_Rule___init__
  have F_Rule___init__ := FunV.of Fp_Rule___init__
  have b_Rule___init__ := Fp_Rule___init__.binds (ps := ["self", "base", "kind", "mantissas", "most"]) fun _ _ _ _ _ _ us hl => match us, hl with | [_, _, _, _, _], _ => rfl
  have Fp_Rule_base := fun_mk (st := s_Rule_base) l_Rule_base c_Rule_base k_Rule_base
  have F_Rule_base := FunV.of Fp_Rule_base
  have b_Rule_base := Fp_Rule_base.binds (ps := ["self"]) fun _ _ _ _ _ _ us hl => match us, hl with | [_], _ => rfl
  have Fp_Rule_kind := fun_mk (st := s_Rule_kind) l_Rule_kind c_Rule_kind k_Rule_kind
  have F_Rule_kind := FunV.of Fp_Rule_kind
  have b_Rule_kind := Fp_Rule_kind.binds (ps := ["self"]) fun _ _ _ _ _ _ us hl => match us, hl with | [_], _ => rfl
  have Fp_Rule_mantissas := fun_mk (st := s_Rule_mantissas) l_Rule_mantissas c_Rule_mantissas k_Rule_mantissas
  have F_Rule_mantissas := FunV.of Fp_Rule_mantissas
  have b_Rule_mantissas := Fp_Rule_mantissas.binds (ps := ["self"]) fun _ _ _ _ _ _ us hl => match us, hl with | [_], _ => rfl
  have Fp_Rule_most := fun_mk (st := s_Rule_most) l_Rule_most c_Rule_most k_Rule_most
  have F_Rule_most := FunV.of Fp_Rule_most
  have b_Rule_most := Fp_Rule_most.binds (ps := ["self"]) fun _ _ _ _ _ _ us hl => match us, hl with | [_], _ => rfl
  have Fp_Rule___eq__ := fun_mk (st := s_Rule___eq__) l_Rule___eq__ c_Rule___eq__ k_Rule___eq__
  have F_Rule___eq__ := FunV.of Fp_Rule___eq__
  have b_Rule___eq__ := Fp_Rule___eq__.binds (ps := ["self", "other"]) fun _ _ _ _ _ _ us hl => match us, hl with | [_, _], _ => rfl
  have Fp_turn_of_sizes := fun_mk (st := s_turn_of_sizes) l_turn_of_sizes c_turn_of_sizes k_turn_of_sizes
  have F_turn_of_sizes := FunV.of Fp_turn_of_sizes
  have b_turn_of_sizes := Fp_turn_of_sizes.binds (ps := ["base", "heads"]) fun _ _ _ _ _ _ us hl => match us, hl with | [_, _], _ => rfl
  have Fp_Rule_dividing := fun_mk (st := s_Rule_dividing) l_Rule_dividing c_Rule_dividing k_Rule_dividing
  have F_Rule_dividing := FunV.of Fp_Rule_dividing
  have b_Rule_dividing := Fp_Rule_dividing.binds (ps := ["self"]) fun _ _ _ _ _ _ us hl => match us, hl with | [_], _ => rfl
  have Fp__law_purse := fun_mk (st := s__law_purse) l__law_purse c__law_purse k__law_purse
  have F__law_purse := FunV.of Fp__law_purse
  have b__law_purse := Fp__law_purse.binds (ps := ["_law_script", "_law_at"]) fun _ _ _ _ _ _ us hl => match us, hl with | [_, _], _ => rfl
  have Fp__law_draw := fun_mk (st := s__law_draw) l__law_draw c__law_draw k__law_draw
  have F__law_draw := FunV.of Fp__law_draw
  have b__law_draw := Fp__law_draw.binds (ps := ["_law_purse_here", "_law_many"]) fun _ _ _ _ _ _ us hl => match us, hl with | [_, _], _ => rfl
  have Fp__law_pick := fun_mk (st := s__law_pick) l__law_pick c__law_pick k__law_pick
  have F__law_pick := FunV.of Fp__law_pick
  have b__law_pick := Fp__law_pick.binds (ps := ["_law_purse_here", "_law_items"]) fun _ _ _ _ _ _ us hl => match us, hl with | [_, _], _ => rfl
  have Fp__law_family := fun_mk (st := s__law_family) l__law_family c__law_family k__law_family
  have F__law_family := FunV.of Fp__law_family
  have b__law_family := Fp__law_family.binds (ps := ["_law_purse_here"]) fun _ _ _ _ _ _ us hl => match us, hl with | [_], _ => rfl
  have Fp__law_rule := fun_mk (st := s__law_rule) l__law_rule c__law_rule k__law_rule
  have F__law_rule := FunV.of Fp__law_rule
  have b__law_rule := Fp__law_rule.binds (ps := ["_law_purse_here", "_law_family_here"]) fun _ _ _ _ _ _ us hl => match us, hl with | [_, _], _ => rfl
  have Fp__law_made := fun_mk (st := s__law_made) l__law_made c__law_made k__law_made
  have F__law_made := FunV.of Fp__law_made
  have b__law_made := Fp__law_made.binds (ps := ["_law_rule_here"]) fun _ _ _ _ _ _ us hl => match us, hl with | [_], _ => rfl
  have Fp__law_times := fun_mk (st := s__law_times) l__law_times c__law_times k__law_times
  have F__law_times := FunV.of Fp__law_times
  have b__law_times := Fp__law_times.binds (ps := ["_law_base", "_law_many"]) fun _ _ _ _ _ _ us hl => match us, hl with | [_, _], _ => rfl
  have Fp__law_fields := fun_mk (st := s__law_fields) l__law_fields c__law_fields k__law_fields
  have F__law_fields := FunV.of Fp__law_fields
  have b__law_fields := Fp__law_fields.binds (ps := ["_law_made_here"]) fun _ _ _ _ _ _ us hl => match us, hl with | [_], _ => rfl
  have Fp__law_is_dividing := fun_mk (st := s__law_is_dividing) l__law_is_dividing c__law_is_dividing k__law_is_dividing
  have F__law_is_dividing := FunV.of Fp__law_is_dividing
  have b__law_is_dividing := Fp__law_is_dividing.binds (ps := ["_law_base", "_law_heads"]) fun _ _ _ _ _ _ us hl => match us, hl with | [_, _], _ => rfl
  have Fp__law_odd := fun_mk (st := s__law_odd) l__law_odd c__law_odd k__law_odd
  have F__law_odd := FunV.of Fp__law_odd
  have b__law_odd := Fp__law_odd.binds (ps := ["_law_purse_here", "_law_base", "_law_kind", "_law_heads", "_law_most"]) fun _ _ _ _ _ _ us hl => match us, hl with | [_, _, _, _, _], _ => rfl
  have Fp__law_refused := fun_mk (st := s__law_refused) l__law_refused c__law_refused k__law_refused
  have F__law_refused := FunV.of Fp__law_refused
  have b__law_refused := Fp__law_refused.binds (ps := ["_law_base", "_law_kind", "_law_mantissas", "_law_most"]) fun _ _ _ _ _ _ us hl => match us, hl with | [_, _, _, _], _ => rfl
  have Fp__law_right := fun_mk (st := s__law_right) l__law_right c__law_right k__law_right
  have F__law_right := FunV.of Fp__law_right
  have b__law_right := Fp__law_right.binds (ps := ["_law_purse_here"]) fun _ _ _ _ _ _ us hl => match us, hl with | [_], _ => rfl
  have Fp_law := fun_mk (st := s_law) l_law c_law k_law
  have F_law := FunV.of Fp_law
  refine ⟨PySem.W.fnOf "law" "law" (defArgs s_law) (defBody s_law) (defScope s_law) .none kV_law dc_law pm_law an_law cd_law ct_law, fun s v => .of_eq rfl, fun base _ _ => ?_⟩
  have G_is_whole := fn_is F_is_whole (PySem.W.mg_of X G a_is_whole) b_is_whole (ok_is_whole (P := l.prog) (w := w) (mg := mg) (base := base) F_is_whole B)
  have G_is_base := fn_is F_is_base (PySem.W.mg_of X G a_is_base) b_is_base (ok_is_base (P := l.prog) (w := w) (mg := mg) (base := base) F_is_base G_is_whole)
  have G_are_mantissas := fn_is F_are_mantissas (PySem.W.mg_of X G a_are_mantissas) b_are_mantissas (ok_are_mantissas (P := l.prog) (w := w) (mg := mg) (base := base) F_are_mantissas G_is_whole B)
  have G_are_fields := fn_is F_are_fields (PySem.W.mg_of X G a_are_fields) b_are_fields (ok_are_fields (P := l.prog) (w := w) (mg := mg) (base := base) F_are_fields G_is_whole G_is_base G_are_mantissas B T)
  have G_Rule := Mkr.mk ⟨_, _, PySem.W.mg_of X G a_Rule, ⟨mk_Rule, a_Rule___init__, i_Rule___init__, kc_Rule⟩, b_Rule___init__, ok_Rule___init__ (P := l.prog) (w := w) (mg := mg) (base := base) F_Rule___init__ G_are_fields B T⟩
  have GF1 := fn_is F_are_mantissas (PySem.W.mg_of X G a_are_mantissas) b_are_mantissas (okF_are_mantissas (P := l.prog) (w := w) (mg := mg) (base := base) F_are_mantissas G_is_whole B)
  have GF2 := fn_is F_are_fields (PySem.W.mg_of X G a_are_fields) b_are_fields (okF_are_fields (P := l.prog) (w := w) (mg := mg) (base := base) F_are_fields G_is_whole G_is_base G_are_mantissas GF1 B T)
  have ME : ExM l.prog w K mg base "InvalidRule" E1 1 := by obtain ⟨y1, y2, y3, y4, y5, y6, y7, _, _, y8⟩ := (X1.k (w := w) (base := base) hsup).ex; exact ⟨⟨y1, y2, y3, y4, y5, y6, y7, y8⟩⟩
  have RN : RuleNo l.prog w K mg base CR E1 := ⟨⟨_, _, PySem.W.mg_of X G a_Rule, ⟨mk_Rule, a_Rule___init__, i_Rule___init__, kc_Rule⟩, b_Rule___init__, okF_init (P := l.prog) (w := w) (mg := mg) (base := base) F_Rule___init__ GF2 ME⟩⟩
  have G_Rule_base := Prp.mk ⟨_, _, _, ⟨a_Rule_base, g_Rule_base, t_Rule_base, _, r_Rule_base⟩, b_Rule_base, ok_Rule_base (P := l.prog) (w := w) (mg := mg) (base := base) F_Rule_base T⟩
  have G_Rule_kind := Prp.mk ⟨_, _, _, ⟨a_Rule_kind, g_Rule_kind, t_Rule_kind, _, r_Rule_kind⟩, b_Rule_kind, ok_Rule_kind (P := l.prog) (w := w) (mg := mg) (base := base) F_Rule_kind T⟩
  have G_Rule_mantissas := Prp.mk ⟨_, _, _, ⟨a_Rule_mantissas, g_Rule_mantissas, t_Rule_mantissas, _, r_Rule_mantissas⟩, b_Rule_mantissas, ok_Rule_mantissas (P := l.prog) (w := w) (mg := mg) (base := base) F_Rule_mantissas T B⟩
  have G_Rule_most := Prp.mk ⟨_, _, _, ⟨a_Rule_most, g_Rule_most, t_Rule_most, _, r_Rule_most⟩, b_Rule_most, ok_Rule_most (P := l.prog) (w := w) (mg := mg) (base := base) F_Rule_most T⟩
  have G_Rule___eq__ := Mth.mk ⟨_, _, ⟨a_Rule___eq__, i_Rule___eq__, k_Rule___eq__⟩, b_Rule___eq__, ok_Rule___eq__ (P := l.prog) (w := w) (mg := mg) (base := base) F_Rule___eq__ B T TI⟩
  have G_turn_of_sizes := fn_is F_turn_of_sizes (PySem.W.mg_of X G a_turn_of_sizes) b_turn_of_sizes (ok_turn_of_sizes (P := l.prog) (w := w) (mg := mg) (base := base) F_turn_of_sizes B)
  have G_Rule_dividing := Prp.mk ⟨_, _, _, ⟨a_Rule_dividing, g_Rule_dividing, t_Rule_dividing, _, r_Rule_dividing⟩, b_Rule_dividing, ok_Rule_dividing (P := l.prog) (w := w) (mg := mg) (base := base) F_Rule_dividing G_turn_of_sizes B T⟩
  have G__law_purse := fn_is F__law_purse (PySem.W.mg_of X G a__law_purse) b__law_purse (ok__law_purse (P := l.prog) (w := w) (mg := mg) (base := base) F__law_purse B)
  have G__law_draw := fn_is F__law_draw (PySem.W.mg_of X G a__law_draw) b__law_draw (ok__law_draw (P := l.prog) (w := w) (mg := mg) (base := base) F__law_draw B)
  have G__law_pick := fn_is F__law_pick (PySem.W.mg_of X G a__law_pick) b__law_pick (ok__law_pick (P := l.prog) (w := w) (mg := mg) (base := base) F__law_pick G__law_draw B)
  have G__law_family := fn_is F__law_family (PySem.W.mg_of X G a__law_family) b__law_family (ok__law_family (P := l.prog) (w := w) (mg := mg) (base := base) F__law_family G__law_pick B)
  have G__law_rule := fn_is F__law_rule (PySem.W.mg_of X G a__law_rule) b__law_rule (ok__law_rule (P := l.prog) (w := w) (mg := mg) (base := base) F__law_rule G__law_pick G__law_draw B)
  have G__law_made := fn_is F__law_made (PySem.W.mg_of X G a__law_made) b__law_made (ok__law_made (P := l.prog) (w := w) (mg := mg) (base := base) F__law_made G_Rule B)
  have G__law_times := fn_is F__law_times (PySem.W.mg_of X G a__law_times) b__law_times (ok__law_times (P := l.prog) (w := w) (mg := mg) (base := base) F__law_times B)
  have G__law_fields := fn_is F__law_fields (PySem.W.mg_of X G a__law_fields) b__law_fields (ok__law_fields (P := l.prog) (w := w) (mg := mg) (base := base) F__law_fields G_Rule_base G_Rule_kind G_Rule_mantissas G_Rule_most T)
  have G__law_is_dividing := fn_is F__law_is_dividing (PySem.W.mg_of X G a__law_is_dividing) b__law_is_dividing (ok__law_is_dividing (P := l.prog) (w := w) (mg := mg) (base := base) F__law_is_dividing G__law_times B)
  have G__law_odd := fn_is F__law_odd (PySem.W.mg_of X G a__law_odd) b__law_odd (ok__law_odd (P := l.prog) (w := w) (mg := mg) (base := base) F__law_odd G__law_draw B)
  have G__law_refused := gfn_is F__law_refused (PySem.W.mg_of X G a__law_refused) b__law_refused (ok__law_refused (P := l.prog) (w := w) (mg := mg) (base := base) F__law_refused RN IV B)
  have G__law_right := gfn_is F__law_right (PySem.W.mg_of X G a__law_right) b__law_right (ok__law_right (P := l.prog) (w := w) (mg := mg) (base := base) F__law_right G__law_family G__law_rule G__law_draw G_Rule G__law_fields G_Rule_dividing G__law_is_dividing G_Rule_mantissas G__law_pick G__law_made G_Rule___eq__ B T TI NR NF G__law_odd G__law_refused)
  exact ok_law (P := l.prog) (w := w) (mg := mg) (base := base) F_law G__law_purse G__law_right B
theorem walk {l : PySem.W.OpenLaw} {q : Program} {loose : List Str} {XP : (Str → Option Value) → Heap → Prop} {YP : World → Heap → Prop} {d : DefRec} {K : Params → PySem.W.Frag} (hn : l.most = some 63) (hdf : d.params.defaults = [])
    (hY : ∀ (w : World) (h : Heap), YP w h → (K w.params).In h)
    (F : ∀ (w : World) (mg : Str → Option Value) (fa : Addr) (h : Heap), (K w.params).In h → h.Ns mainGlobals mg → mg d.name = some (.ref fa) →
      ∃ fd : FuncData, (∀ (s : Shared) (u : Value), BindsTo s fd ⟨[u], []⟩ [("_law_script", u)]) ∧ ∀ base : Heap, (K w.params).In base → base.Ns mainGlobals mg → GOk l.prog w (K w.params) mg base CX0 9 fa fd ["_law_script"] (spLaw (K w.params))) :
    PySem.W.WalkO q loose XP YP l.row.toRowW d [] (fun f vs => PySem.call f vs) :=
  DL.walkG (n := 63) (k := 9) (x := "_law_script") (CX := fun _ => CX0) (sp := fun w => spLaw (K w.params)) hn (by decide) hdf ⟨rfl, by decide, by decide⟩ hY F (fun _ _ a ns hl _ hS => ⟨a, ns, rfl, hS, hl, fun _ => rfl⟩) fun _ _ _ _ _ z => z
end Ax
open PySem PySem.W PyProof.Rows
set_option maxRecDepth 100000 in
set_option maxHeartbeats 0 in
theorem PySem.Challenge.cw_axisticks_k02_rules_made_holds : PySem.Challenge.rw_axisticks_k02_rules_made.Holds := by
  w_on; o_law; k_head; (case hw => w_witness2)
  k_fill
  refine Ax.walk (l := PySem.Challenge.rw_axisticks_k02_rules_made) rfl rfl (fun w h Y => PySem.W.kIn_of Y) ?F
  case F =>
    intro w mg fa h KX G hmg
    refine' Ax.all_mk KX G hmg ?a_Rule ?a_KINDS ?l_KINDS ?v_KINDS ?z_KINDS ?a_is_whole ?l_is_whole ?c_is_whole ?k_is_whole ?a_is_base ?l_is_base ?c_is_base ?k_is_base ?a_are_mantissas ?l_are_mantissas ?c_are_mantissas ?k_are_mantissas ?a_are_fields ?l_are_fields ?c_are_fields ?k_are_fields ?a_Rule___init__ ?i_Rule___init__ ?l_Rule___init__ ?c_Rule___init__ ?k_Rule___init__ ?a_Rule_base ?g_Rule_base ?t_Rule_base ?r_Rule_base ?l_Rule_base ?c_Rule_base ?k_Rule_base ?a_Rule_kind ?g_Rule_kind ?t_Rule_kind ?r_Rule_kind ?l_Rule_kind ?c_Rule_kind ?k_Rule_kind ?a_Rule_mantissas ?g_Rule_mantissas ?t_Rule_mantissas ?r_Rule_mantissas ?l_Rule_mantissas ?c_Rule_mantissas ?k_Rule_mantissas ?a_Rule_most ?g_Rule_most ?t_Rule_most ?r_Rule_most ?l_Rule_most ?c_Rule_most ?k_Rule_most ?a_Rule___eq__ ?i_Rule___eq__ ?l_Rule___eq__ ?c_Rule___eq__ ?k_Rule___eq__ ?a_turn_of_sizes ?l_turn_of_sizes ?c_turn_of_sizes ?k_turn_of_sizes ?a_Rule_dividing ?g_Rule_dividing ?t_Rule_dividing ?r_Rule_dividing ?l_Rule_dividing ?c_Rule_dividing ?k_Rule_dividing ?a__law_purse ?l__law_purse ?c__law_purse ?k__law_purse ?a__law_draw ?l__law_draw ?c__law_draw ?k__law_draw ?a__law_pick ?l__law_pick ?c__law_pick ?k__law_pick ?a__law_family ?l__law_family ?c__law_family ?k__law_family ?a__law_rule ?l__law_rule ?c__law_rule ?k__law_rule ?a__law_made ?l__law_made ?c__law_made ?k__law_made ?a__law_times ?l__law_times ?c__law_times ?k__law_times ?a__law_fields ?l__law_fields ?c__law_fields ?k__law_fields ?a__law_is_dividing ?l__law_is_dividing ?c__law_is_dividing ?k__law_is_dividing ?a__law_odd ?l__law_odd ?c__law_odd ?k__law_odd ?a__law_refused ?l__law_refused ?c__law_refused ?k__law_refused ?a__law_right ?l__law_right ?c__law_right ?k__law_right ?a_law ?l_law ?c_law ?k_law ?pg_Rule ?hd_Rule ?po_Rule ?sa_Rule ?mk_Rule ?kc_Rule ?n_Rule_ground ?n_Rule_way ?n_Rule_heads ?n_Rule_limit ?a_InvalidRule ?x1 ?z_super ?i1_Rule ?i2_Rule ?i3_Rule ?i4_Rule ?ty_R ?nf_n ?nf_t ?ne_R ?z_range ?z_len ?z_int ?z_bool ?z_str ?z_list ?z_tuple ?z_set ?z_isinstance ?z_max ?z_min ?z_sorted ?z_zip ?z_enumerate ?z_repr ?z_sum ?z_abs
    (case a_Rule => k_is)
    (case a_KINDS => k_is)
    (case l_KINDS => k_is)
    (case v_KINDS => first | exact .cons ⟨_, rfl⟩ (.cons ⟨_, rfl⟩ (.cons ⟨_, rfl⟩ (.nil))))
    (case z_KINDS => first | decide | exact Nat.le_of_ble_eq_true rfl)
    (case a_is_whole => k_is)
    (case l_is_whole => k_is)
    (case c_is_whole => k_is)
    (case k_is_whole => k_is)
    (case a_is_base => k_is)
    (case l_is_base => k_is)
    (case c_is_base => k_is)
    (case k_is_base => k_is)
    (case a_are_mantissas => k_is)
    (case l_are_mantissas => k_is)
    (case c_are_mantissas => k_is)
    (case k_are_mantissas => k_is)
    (case a_are_fields => k_is)
    (case l_are_fields => k_is)
    (case c_are_fields => k_is)
    (case k_are_fields => k_is)
    (case a_Rule___init__ => k_is)
    (case i_Rule___init__ => k_is)
    (case l_Rule___init__ => k_is)
    (case c_Rule___init__ => k_is)
    (case k_Rule___init__ => k_is)
    (case a_Rule_base => k_is)
    (case g_Rule_base => k_is)
    (case t_Rule_base => k_is)
    (case r_Rule_base => k_is)
    (case l_Rule_base => k_is)
    (case c_Rule_base => k_is)
    (case k_Rule_base => k_is)
    (case a_Rule_kind => k_is)
    (case g_Rule_kind => k_is)
    (case t_Rule_kind => k_is)
    (case r_Rule_kind => k_is)
    (case l_Rule_kind => k_is)
    (case c_Rule_kind => k_is)
    (case k_Rule_kind => k_is)
    (case a_Rule_mantissas => k_is)
    (case g_Rule_mantissas => k_is)
    (case t_Rule_mantissas => k_is)
    (case r_Rule_mantissas => k_is)
    (case l_Rule_mantissas => k_is)
    (case c_Rule_mantissas => k_is)
    (case k_Rule_mantissas => k_is)
    (case a_Rule_most => k_is)
    (case g_Rule_most => k_is)
    (case t_Rule_most => k_is)
    (case r_Rule_most => k_is)
    (case l_Rule_most => k_is)
    (case c_Rule_most => k_is)
    (case k_Rule_most => k_is)
    (case a_Rule___eq__ => k_is)
    (case i_Rule___eq__ => k_is)
    (case l_Rule___eq__ => k_is)
    (case c_Rule___eq__ => k_is)
    (case k_Rule___eq__ => k_is)
    (case a_turn_of_sizes => k_is)
    (case l_turn_of_sizes => k_is)
    (case c_turn_of_sizes => k_is)
    (case k_turn_of_sizes => k_is)
    (case a_Rule_dividing => k_is)
    (case g_Rule_dividing => k_is)
    (case t_Rule_dividing => k_is)
    (case r_Rule_dividing => k_is)
    (case l_Rule_dividing => k_is)
    (case c_Rule_dividing => k_is)
    (case k_Rule_dividing => k_is)
    (case a__law_purse => k_is)
    (case l__law_purse => k_is)
    (case c__law_purse => k_is)
    (case k__law_purse => k_is)
    (case a__law_draw => k_is)
    (case l__law_draw => k_is)
    (case c__law_draw => k_is)
    (case k__law_draw => k_is)
    (case a__law_pick => k_is)
    (case l__law_pick => k_is)
    (case c__law_pick => k_is)
    (case k__law_pick => k_is)
    (case a__law_family => k_is)
    (case l__law_family => k_is)
    (case c__law_family => k_is)
    (case k__law_family => k_is)
    (case a__law_rule => k_is)
    (case l__law_rule => k_is)
    (case c__law_rule => k_is)
    (case k__law_rule => k_is)
    (case a__law_made => k_is)
    (case l__law_made => k_is)
    (case c__law_made => k_is)
    (case k__law_made => k_is)
    (case a__law_times => k_is)
    (case l__law_times => k_is)
    (case c__law_times => k_is)
    (case k__law_times => k_is)
    (case a__law_fields => k_is)
    (case l__law_fields => k_is)
    (case c__law_fields => k_is)
    (case k__law_fields => k_is)
    (case a__law_is_dividing => k_is)
    (case l__law_is_dividing => k_is)
    (case c__law_is_dividing => k_is)
    (case k__law_is_dividing => k_is)
    (case a__law_odd => k_is)
    (case l__law_odd => k_is)
    (case c__law_odd => k_is)
    (case k__law_odd => k_is)
    (case a__law_refused => k_is)
    (case l__law_refused => k_is)
    (case c__law_refused => k_is)
    (case k__law_refused => k_is)
    (case a__law_right => k_is)
    (case l__law_right => k_is)
    (case c__law_right => k_is)
    (case k__law_right => k_is)
    (case a_law => k_is)
    (case l_law => k_is)
    (case c_law => k_is)
    (case k_law => k_is)
    (case pg_Rule => k_is)
    (case hd_Rule => k_is)
    (case po_Rule => k_is)
    (case sa_Rule => k_is)
    (case mk_Rule => k_is)
    (case kc_Rule => k_is)
    (case n_Rule_ground => k_is)
    (case n_Rule_way => k_is)
    (case n_Rule_heads => k_is)
    (case n_Rule_limit => k_is)
    (case a_InvalidRule => k_is)
    (case x1 => clear hmg; intro mg2 hat; refine' Ax.xi_mk ⟨Ax.oexc_mk ?T1z1 ?T2z1 ?T3z1 ?T4z1 ?T5z1 ?T6z1, ?hdz1, ?gaz1, ?ggz1, Ax.cls_mk ?hcz1, ?haz1, ?hnz1, ?htz1, ?hmz1⟩ hat ?noz1 ?i1z1 ?i2z1 ?i3z1 ?i4z1 ?i5z1 ?i6z1 ?i7z1 ?i8z1 ?i9z1 ?i10z1 ?topz1 ?subz1 ?spz1 ?Bz1 ?oz1; (case T1z1 => k_is); (case T2z1 => first | rfl | decide); (case T3z1 => k_is); (case T4z1 => k_is); (case T5z1 => k_is); (case T6z1 => k_is); (case hdz1 => k_is); (case gaz1 => k_is); (case ggz1 => k_is); (case hcz1 => k_is); (case haz1 => k_is); (case hnz1 => k_is); (case htz1 => k_is); (case hmz1 => k_is); (case noz1 => k_is); (case i1z1 => k_is); (case i2z1 => k_is); (case i3z1 => k_is); (case i4z1 => k_is); (case i5z1 => rfl); (case i6z1 => k_is); (case i7z1 => rfl); (case i8z1 => first | rfl | decide +kernel); (case i9z1 => k_is); (case i10z1 => k_is); (case topz1 => first | rfl | kernel_rfl | decide +kernel); (case subz1 => k_is); (case spz1 => ks_is); (case Bz1 => k_is); (case oz1 => k_is))
    (case z_super => k_is)
    (case i1_Rule => k_is)
    (case i2_Rule => k_is)
    (case i3_Rule => k_is)
    (case i4_Rule => k_is)
    (case ty_R => k_is)
    (case nf_n => k_is)
    (case nf_t => k_is)
    (case ne_R => k_is)
    (case z_range => k_is)
    (case z_len => k_is)
    (case z_int => k_is)
    (case z_bool => k_is)
    (case z_str => k_is)
    (case z_list => k_is)
    (case z_tuple => k_is)
    (case z_set => k_is)
    (case z_isinstance => k_is)
    (case z_max => k_is)
    (case z_min => k_is)
    (case z_sorted => k_is)
    (case z_zip => k_is)
    (case z_enumerate => k_is)
    (case z_repr => k_is)
    (case z_sum => k_is)
    (case z_abs => k_is)
#print axioms PySem.Challenge.cw_axisticks_k02_rules_made_holds
