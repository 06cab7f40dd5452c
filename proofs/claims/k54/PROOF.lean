import PyProof.Rows.All
import Wide.All
import OpenK.AllK
import Wide.FinOn
import HandS.ForMost
import HandS.ForExc
import HandS.TryMany
import HandS.CallSlots
import HandS.HeadHook1
import HandS.Defaults
import KE.KeyNested
import KE.KDictKeyed
import KE.LtData
import HandS.TupAny
import HandS.Deep
import HandS.IsInst
import HandS.Small
import HandS.Records
import HandS.Style
import HandS.Flow
import HandS.Iter
import HandS.HeadHook2
import KE.SortData
import KE.DataMinMax
import HandS.SetFor
import HandS.TupSets
import HandS.Conv
import HandS.More
import HandS.DictComp
import KE.KDictDisplayH
import KE.KAssignIn
import KE.SortLaws
import KE.KStateDown
import HandS.Exc
import HandS.Head0
import HandS.Head1
import HandS.Head2
import HandS.HeadEnd
import PySem.Challenge.RW_everywayout_k54_orders_of_many_days
set_option Elab.async false
set_option linter.all false
set_option maxRecDepth 100000
set_option maxHeartbeats 1000000
/-! PDBase: pure data over the hand layer: values, slots, cells, the relation between a plain state and the tracked heap. -/
namespace PD
open PySem PySem.Spec PyProof.Rows L2

abbrev D := PyData

/-! ### keys of dicts: ints and texts; tuples of ints, None and such tuples -/
mutual
def noTxt : NestedKey → Bool
  | .none => true
  | .num _ => true
  | .text _ => false
  | .tup ks => noTxts ks
def noTxts : List NestedKey → Bool
  | [] => true
  | k :: ks => noTxt k && noTxts ks
end
mutual
def hashN : NestedKey → Int
  | .none => reduceHash 0xFCA86420
  | .num i => hashInt i
  | .text _ => 0
  | .tup ks => reduceHash (Builtin.Tuple.tupleHashOf (hashNs ks))
def hashNs : List NestedKey → List Int
  | [] => []
  | k :: ks => hashN k :: hashNs ks
end
mutual
theorem hashN_eq (w : World) : ∀ k : NestedKey, noTxt k = true → k.hash w = hashN k
  | .none, _ => rfl
  | .num _, _ => rfl
  | .text _, h => by cases h
  | .tup ks, h => by
    have h : noTxts ks = true := h
    show reduceHash (Builtin.Tuple.tupleHashOf (NestedKey.hashes w ks)) = reduceHash (Builtin.Tuple.tupleHashOf (hashNs ks))
    rw [hashNs_eq w ks h]
theorem hashNs_eq (w : World) : ∀ ks : List NestedKey, noTxts ks = true → NestedKey.hashes w ks = hashNs ks
  | [], _ => rfl
  | k :: ks, h => by
    obtain ⟨h1, h2⟩ := Bool.and_eq_true_iff.mp (show (noTxt k && noTxts ks) = true from h)
    show k.hash w :: NestedKey.hashes w ks = hashN k :: hashNs ks
    rw [hashN_eq w k h1, hashNs_eq w ks h2]
end
def isTupK : NestedKey → Bool
  | .tup _ => true
  | _ => false
/-- a key that is a tuple -/
def goodN (k : NestedKey) : Bool := isTupK k && noTxt k && decide (k.depth ≤ 8)
/-- an int or a text as data -/
def kD : Key → D
  | .inl i => .int i
  | .inr x => .str x
/-- what a dict's object holds, its keys tuples -/
def phiN (a : Addr) (es : List (NestedKey × V × V)) : Heap → Prop := fun h => ∃ o ents ep, h.get? a = some o ∧ o.ExactDict ∧ o.data = .dict ents ep ∧
  Paired (fun (q : NestedKey × V × V) (e : DictEntry) => e.hash = hashN q.1 ∧ RelV q.2.1 e.key ∧ RelV q.2.2 e.val) es ents.toList
def dN (a : Addr) (es : List (NestedKey × V × V)) : HO := .ext (phiN a es)
structure OkN (a : Addr) (es : List (NestedKey × V × V)) : Prop where
  len : es.length ≤ sizeLine
  sys : (a == sysModules) = false
  nod : (es.map (·.1)).Nodup
  good : ∀ q ∈ es, goodN q.1 = true
  ne : es ≠ []
mutual
/-- no dict in it -/
def noDic : D → Bool
  | .list xs => noDics xs
  | .tuple xs => noDics xs
  | .dict _ => false
  | _ => true
def noDics : List D → Bool
  | [] => true
  | x :: xs => noDic x && noDics xs
end

/-! ### data that stands in a heap of things that never change -/
mutual
inductive Rp (G : Hp) : V → D → Prop
  | non : Rp G .non .none
  | bl (b : Bool) : Rp G (.bl b) (.bool b)
  | int (i : Int) : Rp G (.int i) (.int i)
  | str (x : Str) : Rp G (.str x) (.str x)
  | lst {a : Addr} {xs : List V} {ds : List D} : G a = some (.lst xs) → RpAll G xs ds → Rp G (.ref a) (.list ds)
  | tup {a : Addr} {xs : List V} {ds : List D} : G a = some (.tup xs) → RpAll G xs ds → Rp G (.ref a) (.tuple ds)
  | dcK {a : Addr} {o : Obj} {es : List (Key × V)} {kvs : List (D × D)} : G a = some (.frz o (.dK es)) → RpK G es kvs → Rp G (.ref a) (.dict kvs)
  | dcN {a : Addr} {o : Obj} {es : List (NestedKey × V × V)} {kvs : List (D × D)} : G a = some (.frz o (dN a es)) → OkN a es → RpN G es kvs → Rp G (.ref a) (.dict kvs)
inductive RpAll (G : Hp) : List V → List D → Prop
  | nil : RpAll G [] []
  | cons {v : V} {vs : List V} {d : D} {ds : List D} : Rp G v d → RpAll G vs ds → RpAll G (v :: vs) (d :: ds)
inductive RpK (G : Hp) : List (Key × V) → List (D × D) → Prop
  | nil : RpK G [] []
  | cons {k : Key} {v : V} {es : List (Key × V)} {d : D} {kvs : List (D × D)} : Rp G v d → RpK G es kvs → RpK G ((k, v) :: es) ((kD k, d) :: kvs)
inductive RpN (G : Hp) : List (NestedKey × V × V) → List (D × D) → Prop
  | nil : RpN G [] []
  | cons {k : NestedKey} {u v : V} {es : List (NestedKey × V × V)} {d : D} {kvs : List (D × D)} : Rp G u k.data → Rp G v d → RpN G es kvs → RpN G ((k, u, v) :: es) ((k.data, d) :: kvs)
end

section
variable {G G' : Hp}
theorem Rp.mono' (e : Same G G') {v : V} {d : D} (h : Rp G v d) : Rp G' v d := by
  refine Rp.rec (motive_1 := fun v d _ => Rp G' v d) (motive_2 := fun vs ds _ => RpAll G' vs ds) (motive_3 := fun es kvs _ => RpK G' es kvs) (motive_4 := fun es kvs _ => RpN G' es kvs)
    .non .bl .int .str (fun h1 _ q => .lst (e _ _ h1) q) (fun h1 _ q => .tup (e _ _ h1) q) (fun h1 _ q => .dcK (e _ _ h1) q) (fun h1 n _ q => .dcN (e _ _ h1) n q)
    .nil (fun _ _ q1 q2 => .cons q1 q2) .nil (fun _ _ q1 q2 => .cons q1 q2) .nil (fun _ _ _ q1 q2 q3 => .cons q1 q2 q3) h
theorem RpAll.mono' (e : Same G G') {v : List V} {d : List D} (h : RpAll G v d) : RpAll G' v d := by
  refine RpAll.rec (motive_1 := fun v d _ => Rp G' v d) (motive_2 := fun vs ds _ => RpAll G' vs ds) (motive_3 := fun es kvs _ => RpK G' es kvs) (motive_4 := fun es kvs _ => RpN G' es kvs)
    .non .bl .int .str (fun h1 _ q => .lst (e _ _ h1) q) (fun h1 _ q => .tup (e _ _ h1) q) (fun h1 _ q => .dcK (e _ _ h1) q) (fun h1 n _ q => .dcN (e _ _ h1) n q)
    .nil (fun _ _ q1 q2 => .cons q1 q2) .nil (fun _ _ q1 q2 => .cons q1 q2) .nil (fun _ _ _ q1 q2 q3 => .cons q1 q2 q3) h
theorem RpK.mono (e : Same G G') {v : List (Key × V)} {d : List (D × D)} (h : RpK G v d) : RpK G' v d := by
  refine RpK.rec (motive_1 := fun v d _ => Rp G' v d) (motive_2 := fun vs ds _ => RpAll G' vs ds) (motive_3 := fun es kvs _ => RpK G' es kvs) (motive_4 := fun es kvs _ => RpN G' es kvs)
    .non .bl .int .str (fun h1 _ q => .lst (e _ _ h1) q) (fun h1 _ q => .tup (e _ _ h1) q) (fun h1 _ q => .dcK (e _ _ h1) q) (fun h1 n _ q => .dcN (e _ _ h1) n q)
    .nil (fun _ _ q1 q2 => .cons q1 q2) .nil (fun _ _ q1 q2 => .cons q1 q2) .nil (fun _ _ _ q1 q2 q3 => .cons q1 q2 q3) h
theorem RpN.mono (e : Same G G') {v : List (NestedKey × V × V)} {d : List (D × D)} (h : RpN G v d) : RpN G' v d := by
  refine RpN.rec (motive_1 := fun v d _ => Rp G' v d) (motive_2 := fun vs ds _ => RpAll G' vs ds) (motive_3 := fun es kvs _ => RpK G' es kvs) (motive_4 := fun es kvs _ => RpN G' es kvs)
    .non .bl .int .str (fun h1 _ q => .lst (e _ _ h1) q) (fun h1 _ q => .tup (e _ _ h1) q) (fun h1 _ q => .dcK (e _ _ h1) q) (fun h1 n _ q => .dcN (e _ _ h1) n q)
    .nil (fun _ _ q1 q2 => .cons q1 q2) .nil (fun _ _ q1 q2 => .cons q1 q2) .nil (fun _ _ _ q1 q2 q3 => .cons q1 q2 q3) h
end
theorem Rp.mono {G G' : Hp} (e : Same G G') (d : D) (v : V) (h : Rp G v d) : Rp G' v d := h.mono' e
theorem RpAll.mono {G G' : Hp} (e : Same G G') (ds : List D) (vs : List V) (h : RpAll G vs ds) : RpAll G' vs ds := h.mono' e
mutual
theorem Rp.dp {K : PySem.W.Frag} {G : Hp} : ∀ (d : D) (v : V), noDic d = true → Rp G v d → Dp K G v d
  | .none, _, _, h => by cases h; exact .non
  | .bool _, _, _, h => by cases h; exact .bl _
  | .int _, _, _, h => by cases h; exact .int _
  | .str _, _, _, h => by cases h; exact .str _
  | .list ds, _, n, h => by
    cases h with
    | lst h1 h2 => exact .lst (SqL.of h1) (RpAll.dp ds _ n h2)
  | .tuple ds, _, n, h => by
    cases h with
    | tup h1 h2 => exact .tup (SqT.of h1) (RpAll.dp ds _ n h2)
  | .dict _, _, n, _ => by cases n
theorem RpAll.dp {K : PySem.W.Frag} {G : Hp} : ∀ (ds : List D) (vs : List V), noDics ds = true → RpAll G vs ds → DpAll K G vs ds
  | [], _, _, h => by cases h; exact .nil
  | d :: ds, _, n, h => by
    obtain ⟨n1, n2⟩ := Bool.and_eq_true_iff.mp (show (noDic d && noDics ds) = true from n)
    cases h with
    | cons h1 h2 => exact .cons (Rp.dp d _ n1 h1) (RpAll.dp ds _ n2 h2)
end
mutual
theorem noDic_lay : ∀ d : D, PyData.canLay0 d = true → noDic d = true
  | .none, _ => rfl
  | .bool _, _ => rfl
  | .int _, _ => rfl
  | .str _, _ => rfl
  | .list ds, h => noDics_lay ds h
  | .tuple ds, h => noDics_lay ds h
  | .dict _, h => by simp [PyData.canLay0] at h
theorem noDics_lay : ∀ ds : List D, PyData.canLayAll0 ds = true → noDics ds = true
  | [], _ => rfl
  | d :: ds, h => by
    obtain ⟨n1, n2⟩ := Bool.and_eq_true_iff.mp (show (PyData.canLay0 d && PyData.canLayAll0 ds) = true from h)
    exact Bool.and_eq_true_iff.mpr ⟨noDic_lay d n1, noDics_lay ds n2⟩
end
theorem noDic_shaped {d : D} (h : SeqAt.shaped d = true) : noDic d = true := noDic_lay d (SeqAt.canLay_of_shaped h)
mutual
theorem noDic_alike : ∀ d e : D, PySem.W.alike d e = true → PySem.W.alike d d = true → noDic d = true
  | .none, _, _, _ => rfl
  | .bool _, _, _, _ => rfl
  | .int _, _, _, _ => rfl
  | .str _, _, _, _ => rfl
  | .list ds, _, _, h => noDics_alike ds h
  | .tuple ds, _, _, h => noDics_alike ds h
  | .dict _, _, _, h => by simp [PySem.W.alike] at h
theorem noDics_alike : ∀ ds : List D, PySem.W.alikeAll ds ds = true → noDics ds = true
  | [], _ => rfl
  | d :: ds, h => by
    obtain ⟨n1, n2⟩ := PySem.W.alike_all_cons h
    exact Bool.and_eq_true_iff.mpr ⟨noDic_alike d d n1 n1, noDics_alike ds n2⟩
end
theorem noDics_mem : ∀ {ds : List D}, (∀ d ∈ ds, noDic d = true) → noDics ds = true
  | [], _ => rfl
  | d :: ds, h => Bool.and_eq_true_iff.mpr ⟨h d List.mem_cons_self, noDics_mem fun e he => h e (List.mem_cons_of_mem _ he)⟩
theorem RpAll.length {G : Hp} : ∀ {vs : List V} {ds : List D}, RpAll G vs ds → vs.length = ds.length
  | _, _, .nil => rfl
  | _, _, .cons _ t => congrArg (· + 1) (RpAll.length t)
theorem RpAll.get {G : Hp} : ∀ {vs : List V} {ds : List D} {i : Nat} {d : D}, RpAll G vs ds → ds[i]? = some d → ∃ v, vs[i]? = some v ∧ Rp G v d
  | _, _, _, _, .nil, e => by simp at e
  | _, _, 0, _, .cons r _, e => by
    simp at e
    subst e
    exact ⟨_, rfl, r⟩
  | _, _, i + 1, _, .cons _ t, e => by
    obtain ⟨v, h1, h2⟩ := RpAll.get (i := i) t (by simpa using e)
    exact ⟨v, by simpa using h1, h2⟩
theorem RpAll.getV {G : Hp} : ∀ {vs : List V} {ds : List D} {i : Nat} {v : V}, RpAll G vs ds → vs[i]? = some v → ∃ d, ds[i]? = some d ∧ Rp G v d
  | _, _, _, _, .nil, e => by simp at e
  | _, _, 0, _, .cons r _, e => by
    simp at e
    subst e
    exact ⟨_, rfl, r⟩
  | _, _, i + 1, _, .cons _ t, e => by
    obtain ⟨v, h1, h2⟩ := RpAll.getV (i := i) t (by simpa using e)
    exact ⟨v, by simpa using h1, h2⟩
theorem RpAll.append {G : Hp} : ∀ {vs ws : List V} {ds es : List D}, RpAll G vs ds → RpAll G ws es → RpAll G (vs ++ ws) (ds ++ es)
  | _, _, _, _, .nil, s => s
  | _, _, _, _, .cons r t, s => .cons r (RpAll.append t s)
theorem RpAll.one {G : Hp} {v : V} {d : D} (h : Rp G v d) : RpAll G [v] [d] := .cons h .nil
theorem RpAll.take {G : Hp} : ∀ {vs : List V} {ds : List D} (n : Nat), RpAll G vs ds → RpAll G (vs.take n) (ds.take n)
  | _, _, 0, _ => .nil
  | _, _, _ + 1, .nil => .nil
  | _, _, n + 1, .cons r t => .cons r (RpAll.take n t)
theorem RpAll.drop {G : Hp} : ∀ {vs : List V} {ds : List D} (n : Nat), RpAll G vs ds → RpAll G (vs.drop n) (ds.drop n)
  | _, _, 0, r => r
  | _, _, _ + 1, .nil => .nil
  | _, _, n + 1, .cons _ t => RpAll.drop n t
theorem RpAll.set {G : Hp} {v : V} {d : D} (r : Rp G v d) : ∀ {vs : List V} {ds : List D} (i : Nat), RpAll G vs ds → RpAll G (vs.set i v) (ds.set i d)
  | _, _, _, .nil => .nil
  | _, _, 0, .cons _ t => .cons r t
  | _, _, i + 1, .cons q t => .cons q (RpAll.set r i t)
theorem RpAll.dropLast {G : Hp} {vs : List V} {ds : List D} (h : RpAll G vs ds) : RpAll G vs.dropLast ds.dropLast := by
  rw [List.dropLast_eq_take, List.dropLast_eq_take, h.length]
  exact h.take _
theorem RpAll.eraseIdx {G : Hp} : ∀ {vs : List V} {ds : List D} (i : Nat), RpAll G vs ds → RpAll G (vs.eraseIdx i) (ds.eraseIdx i)
  | _, _, _, .nil => .nil
  | _, _, 0, .cons _ t => t
  | _, _, i + 1, .cons r t => .cons r (RpAll.eraseIdx i t)
theorem RpAll.reverse {G : Hp} : ∀ {vs : List V} {ds : List D}, RpAll G vs ds → RpAll G vs.reverse ds.reverse
  | _, _, .nil => .nil
  | _, _, .cons r t => by
    rw [List.reverse_cons, List.reverse_cons]
    exact (RpAll.reverse t).append (.one r)
theorem RpAll.ints {G : Hp} : ∀ {vs : List V} {ns : List Int}, RpAll G vs (ns.map PyData.int) → vs = ns.map V.int
  | _, [], h => by cases h; rfl
  | _, n :: ns, h => by
    cases h with
    | cons h1 h2 =>
      cases h1
      rw [RpAll.ints h2]
      rfl
theorem RpAll.of_ints {G : Hp} : ∀ ns : List Int, RpAll G (ns.map V.int) (ns.map PyData.int)
  | [] => .nil
  | n :: ns => .cons (.int n) (RpAll.of_ints ns)

/-! ### what a name, a cell, an expression holds -/
/-- a thing of a def's own that it may change -/
inductive Own where
  | lst (xs : List D)
  | dct (kvs : List (D × D))
/-- a value: data; the cell n; a list or tuple that is only read (the script, a constant of the text) -/
inductive Dv where
  | d (x : D) | c (n : Nat) | k (x : D)
inductive Slot where
  | emp | v (x : Dv) | own (o : Own)
/-- a cell: what may be changed by whoever has it -/
inductive Cell where
  | lst (xs : List D)
  | dct (kvs : List (D × D))
  | obj (C : Str) (fs : List (Str × Dv))
  /-- a list of lists: its items are cells -/
  | rows (ns : List Nat)
  /-- a dict of lists: its values are cells -/
  | drows (kvs : List (D × Nat))
  /-- what will never change any more -/
  | fz (x : D)
def Cell.live : Cell → Bool
  | .fz _ => false
  | _ => true
/-- an expression's value: a value, or what stands in the slot i (a thing of the def's own) -/
inductive W where
  | v (x : Dv) | sl (i : Nat)
structure St where
  env : List Slot
  mem : List Cell
inductive R (S α : Type) where
  | ok (a : α) (s : S) | exc (c : Str) (s : S) | bad
def R.bind {S α β : Type} (r : R S α) (f : α → S → R S β) : R S β := match r with
  | .ok a s => f a s
  | .exc c s => .exc c s
  | .bad => .bad

/-! ### the relation -/
def SqK (K : PySem.W.Frag) (G : Hp) (a : Addr) : D → Prop
  | .list ds => ∃ vs, SqL K G a vs ∧ RpAll G vs ds
  | .tuple ds => ∃ vs, SqT K G a vs ∧ RpAll G vs ds
  | _ => False
def DvOk (K : PySem.W.Frag) (G : Hp) (A : List Addr) (v : V) : Dv → Prop
  | .d x => Rp G v x
  | .c n => ∃ a, A[n]? = some a ∧ v = .ref a
  | .k x => ∃ a, v = .ref a ∧ SqK K G a x
/-- a dict at a, its object in H, what it holds among what never changes -/
def DictOk (G H : Hp) (a : Addr) (kvs : List (D × D)) : Prop := (∃ es, H a = some (.dK es) ∧ RpK G es kvs) ∨ ∃ es, H a = some (dN a es) ∧ OkN a es ∧ RpN G es kvs
def OwnOk (G H : Hp) (a : Addr) : Own → Prop
  | .lst xs => ∃ vs, H a = some (.lst vs) ∧ RpAll G vs xs
  | .dct kvs => DictOk G H a kvs
abbrev FldOk (K : PySem.W.Frag) (G : Hp) (A : List Addr) : List (Str × V) → List (Str × Dv) → Prop := Paired fun p q => p.1 = q.1 ∧ DvOk K G A p.2 q.2
/-- refs to cells -/
def RefsOk (A : List Addr) (vs : List V) (ns : List Nat) : Prop := Paired (fun v n => ∃ b, A[n]? = some b ∧ v = V.ref b) vs ns
/-- a dict whose values are cells: keys ints or texts; tuples -/
inductive RefK (A : List Addr) : List (Key × V) → List (D × Nat) → Prop
  | nil : RefK A [] []
  | cons {k : Key} {b : Addr} {n : Nat} {es : List (Key × V)} {kvs : List (D × Nat)} : A[n]? = some b → RefK A es kvs → RefK A ((k, .ref b) :: es) ((kD k, n) :: kvs)
inductive RefN (G : Hp) (A : List Addr) : List (NestedKey × V × V) → List (D × Nat) → Prop
  | nil : RefN G A [] []
  | cons {k : NestedKey} {u : V} {b : Addr} {n : Nat} {es : List (NestedKey × V × V)} {kvs : List (D × Nat)} : Rp G u k.data → A[n]? = some b → RefN G A es kvs → RefN G A ((k, u, .ref b) :: es) ((k.data, n) :: kvs)
def DRefOk (G : Hp) (A : List Addr) (H : Hp) (a : Addr) (kvs : List (D × Nat)) : Prop := (∃ es, H a = some (.dK es) ∧ RefK A es kvs) ∨ ∃ es, H a = some (dN a es) ∧ OkN a es ∧ RefN G A es kvs
def CellOk (K : PySem.W.Frag) (G : Hp) (A : List Addr) (H : Hp) (a : Addr) : Cell → Prop
  | .lst xs => ∃ vs, H a = some (.lst vs) ∧ RpAll G vs xs
  | .dct kvs => DictOk G H a kvs
  | .obj C fs => ∃ dx gs, H a = some (.ins (He.ga K C) dx gs) ∧ FldOk K G A gs fs
  | .rows ns => ∃ vs, H a = some (.lst vs) ∧ RefsOk A vs ns
  | .drows kvs => DRefOk G A H a kvs
  | .fz x => (∃ o, H a = some o) ∧ Rp G (.ref a) x
def SlotOk (K : PySem.W.Frag) (H0 G : Hp) (A : List Addr) (H : Hp) (o : Option V) : Slot → Prop
  | .emp => True
  | .v x => ∃ v, o = some v ∧ DvOk K G A v x
  | .own w => ∃ a, o = some (.ref a) ∧ OwnOk G H a w ∧ G a = none ∧ a ∉ A ∧ H0 a = none
/-- a configuration: the heap and the cells at the entry, what never changes, the cells' places, the plain state, the heap -/
structure Cf where
  H0 : Hp
  A0 : List Addr
  G0 : Hp
  G : Hp
  A : List Addr
  st : St
  H : Hp
structure Ok (K : PySem.W.Frag) (σ : L2.St) (c : Cf) : Prop where
  sub : Same c.G c.H
  len : c.st.env.length = σ.length
  slot : ∀ (i : Nat) s o, c.st.env[i]? = some s → σ[i]? = some o → SlotOk K c.H0 c.G c.A c.H o s
  apart : ∀ (i j : Nat) o o' a, c.st.env[i]? = some (.own o) → c.st.env[j]? = some (.own o') → σ[i]? = some (some (.ref a)) → σ[j]? = some (some (.ref a)) → i = j
  alen : c.A.length = c.st.mem.length
  cell : ∀ (n : Nat) o a, c.st.mem[n]? = some o → c.A[n]? = some a → CellOk K c.G c.A c.H a o
  anod : c.A.Nodup
  agn : ∀ (n : Nat) o a, c.st.mem[n]? = some o → c.A[n]? = some a → o.live = true → c.G a = none
  pre : c.A0 <+: c.A
  fr : ∀ b o, c.H0 b = some o → b ∉ c.A0 → c.H b = some o
  new : ∀ a ∈ c.A, a ∈ c.A0 ∨ c.H0 a = none
  gnew : ∀ b o, c.G b = some o → c.G0 b = some o ∨ c.H0 b = none ∨ b ∈ c.A0
/-- a configuration behind another one -/
structure Le (c c' : Cf) : Prop where
  h : c'.H0 = c.H0
  a : c'.A0 = c.A0
  g0 : c'.G0 = c.G0
  g : Same c.G c'.G
  p : c.A <+: c'.A
theorem Le.refl (c : Cf) : Le c c := ⟨rfl, rfl, rfl, Same.refl _, List.prefix_refl _⟩
theorem Le.trans {a b c : Cf} (x : Le a b) (y : Le b c) : Le a c := ⟨y.h.trans x.h, y.a.trans x.a, y.g0.trans x.g0, x.g.trans y.g, x.p.trans y.p⟩

theorem pre_get {α : Type} {l l' : List α} (h : l <+: l') {n : Nat} {a : α} (e : l[n]? = some a) : l'[n]? = some a := by
  obtain ⟨t, rfl⟩ := h
  rw [List.getElem?_append_left (List.getElem?_eq_some_iff.mp e).1]
  exact e
theorem SqL.same {K : PySem.W.Frag} {G G' : Hp} (e : Same G G') {a : Addr} {xs : List V} (h : SqL K G a xs) : SqL K G' a xs := e.seq h
theorem SqT.same {K : PySem.W.Frag} {G G' : Hp} (e : Same G G') {a : Addr} {xs : List V} (h : SqT K G a xs) : SqT K G' a xs := by
  rcases h with (h | ⟨o, h⟩) | h
  · exact .inl (.inl (e _ _ h))
  · exact .inl (.inr ⟨o, e _ _ h⟩)
  · exact .inr h
theorem SqK.mono {K : PySem.W.Frag} {G G' : Hp} (e : Same G G') {a : Addr} : ∀ {x : D}, SqK K G a x → SqK K G' a x
  | .list ds, ⟨vs, h1, h2⟩ => ⟨vs, SqL.same e h1, h2.mono e ds _⟩
  | .tuple ds, ⟨vs, h1, h2⟩ => ⟨vs, SqT.same e h1, h2.mono e ds _⟩
theorem DvOk.mono {K : PySem.W.Frag} {G G' : Hp} {A A' : List Addr} (e : Same G G') (p : A <+: A') {v : V} : ∀ {x : Dv}, DvOk K G A v x → DvOk K G' A' v x
  | .d x, h => Rp.mono e x v h
  | .c n, ⟨a, h1, h2⟩ => ⟨a, pre_get p h1, h2⟩
  | .k x, ⟨a, h1, h2⟩ => ⟨a, h1, h2.mono e⟩

/-- what a value of an expression is -/
def WOk (K : PySem.W.Frag) (σ : L2.St) (c : Cf) (v : V) : W → Prop
  | .v x => DvOk K c.G c.A v x
  | .sl i => σ[i]? = some (some v)
theorem WOk.mono {K : PySem.W.Frag} {σ : L2.St} {c c' : Cf} (l : Le c c') {v : V} : ∀ {w : W}, WOk K σ c v w → WOk K σ c' v w
  | .v x, h => DvOk.mono l.g l.p h
  | .sl i, h => h

/-! ### the wish behind a piece of the program -/
/-- exceptions: their class by name -/
abbrev XW := Str → L2.St → Hp → Prop
def Post {α : Type} (K : PySem.W.Frag) (E : XW) (σ : L2.St) (c : Cf) (r : R St α) (P : α → Cf → Prop) : Prop := match r with
  | .ok a st => ∀ c', Le c c' → c'.st = st → Ok K σ c' → P a c'
  | .exc n st => ∀ c', Le c c' → c'.st = st → Ok K σ c' → E n σ c'.H
  | .bad => False
section
variable {K : PySem.W.Frag} {E : XW} {σ : L2.St} {c : Cf} {α β : Type}
theorem Post.bind {r : R St α} {f : α → St → R St β} {P : β → Cf → Prop} (h : Post K E σ c (r.bind f) P) : Post K E σ c r fun a c1 => Post K E σ c1 (f a c1.st) P := by
  cases r with
  | ok a st =>
    intro c1 l e _
    subst e
    have h' : Post K E σ c (f a c1.st) P := h
    generalize f a c1.st = r2 at h' ⊢
    cases r2 with
    | ok b st2 => exact fun c2 l2 e2 o2 => h' c2 (l.trans l2) e2 o2
    | exc n st2 => exact fun c2 l2 e2 o2 => h' c2 (l.trans l2) e2 o2
    | bad => exact h'
  | exc n st => exact h
  | bad => exact h
theorem Post.mono {r : R St α} {P Q : α → Cf → Prop} (h : Post K E σ c r P) (hq : ∀ a c1, Le c c1 → Ok K σ c1 → P a c1 → Q a c1) : Post K E σ c r Q := by
  cases r with
  | ok a st => exact fun c1 l e o => hq a c1 l o (h c1 l e o)
  | exc n st => exact h
  | bad => exact h
theorem Post.here {a : α} {P : α → Cf → Prop} (o : Ok K σ c) (h : Post K E σ c (.ok a c.st) P) : P a c := h c (Le.refl c) rfl o
end

/-- an expression's reading by plain data -/
abbrev ESem := St → R St W
def tE (K : PySem.W.Frag) (E : XW) (sem : ESem) : TE := fun σ H Q => ∃ c, c.H = H ∧ Ok K σ c ∧ Post K E σ c (sem c.st) fun w c' => ∀ v, WOk K σ c' v w → Q v c'.H
abbrev TSem := St → R St Bool
def tT (K : PySem.W.Frag) (E : XW) (sem : TSem) : TT := fun σ H Q => ∃ c, c.H = H ∧ Ok K σ c ∧ Post K E σ c (sem c.st) fun b c' => Q b c'.H
abbrev ASem := St → R St (List W)
inductive WAll (K : PySem.W.Frag) (σ : L2.St) (c : Cf) : List V → List W → Prop
  | nil : WAll K σ c [] []
  | cons {v : V} {vs : List V} {w : W} {ws : List W} : WOk K σ c v w → WAll K σ c vs ws → WAll K σ c (v :: vs) (w :: ws)
theorem WAll.mono {K : PySem.W.Frag} {σ : L2.St} {c c' : Cf} (l : Le c c') : ∀ {vs : List V} {ws : List W}, WAll K σ c vs ws → WAll K σ c' vs ws
  | _, _, .nil => .nil
  | _, _, .cons h t => .cons (h.mono l) (WAll.mono l t)
def tA (K : PySem.W.Frag) (E : XW) (sem : ASem) : TA := fun σ H Q => ∃ c, c.H = H ∧ Ok K σ c ∧ Post K E σ c (sem c.st) fun ws c' => ∀ vs, WAll K σ c' vs ws → Q vs c'.H

theorem PE_imp {X : Cx} {e : Expr} {t t' : TE} (h : PE X e t) (i : ∀ σ H Q, t' σ H Q → t σ H Q) : PE X e t' := ⟨fun pins s σ H Q I hq => h.run pins s σ H Q I (i σ H Q hq)⟩
theorem PT_imp {X : Cx} {e : Expr} {t t' : TT} (h : PT X e t) (i : ∀ σ H Q, t' σ H Q → t σ H Q) : PT X e t' := ⟨fun pins s σ H Q I hq => h.run pins s σ H Q I (i σ H Q hq)⟩
theorem PW_imp {X : Cx} {e : Expr} {t t' : TT} (h : PW X e t) (i : ∀ σ H Q, t' σ H Q → t σ H Q) : PW X e t' := ⟨fun w pins s σ H Q I hq => h.run w pins s σ H Q I (i σ H Q hq)⟩
theorem PA_imp {X : Cx} {e : List Expr} {t t' : TA} (h : PA X e t) (i : ∀ σ H Q, t' σ H Q → t σ H Q) : PA X e t' := ⟨fun pos pins s σ H Q I hq => h.run pos pins s σ H Q I (i σ H Q hq)⟩
theorem PS_imp {X : Cx} {e : Stmt} {t t' : TS} (h : PS X e t) (i : ∀ D σ H, t' D σ H → t D σ H) : PS X e t' := ⟨fun pins s σ H D I hq => h.run pins s σ H D I (i D σ H hq)⟩
theorem PSs_imp {X : Cx} {e : List Stmt} {t t' : TS} (h : PSs X e t) (i : ∀ D σ H, t' D σ H → t D σ H) : PSs X e t' := ⟨fun pins s σ H D I hq => h.run pins s σ H D I (i D σ H hq)⟩
end PD

set_option Elab.async false
set_option linter.all false
set_option maxRecDepth 100000
set_option maxHeartbeats 1000000
/-! PDExpr: expressions by plain data: names, constants, operators. -/
namespace PD
open PySem PySem.Spec PyProof.Rows L2

section
variable {K : PySem.W.Frag} {σ : L2.St} {c : Cf}
theorem DictOk.some {G H : Hp} {a : Addr} {kvs : List (D × D)} (h : DictOk G H a kvs) : ∃ u, H a = some u := by
  rcases h with ⟨es, h, _⟩ | ⟨es, h, _⟩
  · exact ⟨_, h⟩
  · exact ⟨_, h⟩
theorem CellOk.some {G H : Hp} {A : List Addr} {a : Addr} : ∀ {w : Cell}, CellOk K G A H a w → ∃ u, H a = some u
  | .lst xs, ⟨vs, h1, _⟩ => ⟨_, h1⟩
  | .dct kvs, h => DictOk.some h
  | .obj C fs, ⟨dx, gs, h, _⟩ => ⟨_, h⟩
  | .rows ns, ⟨vs, h, _⟩ => ⟨_, h⟩
  | .drows _, .inl ⟨es, h, _⟩ => ⟨_, h⟩
  | .drows _, .inr ⟨es, h, _⟩ => ⟨_, h⟩
  | .fz x, h => h.1
theorem Ok.amem (o : Ok K σ c) {a : Addr} (h : a ∈ c.A) : ∃ u, c.H a = some u := by
  obtain ⟨n, hn, en⟩ := List.mem_iff_getElem.mp h
  have e1 : c.A[n]? = some a := by rw [List.getElem?_eq_getElem hn, en]
  have hm : n < c.st.mem.length := by rw [← o.alen]; exact hn
  exact (o.cell n _ a (List.getElem?_eq_getElem hm) e1).some
theorem Ok.hnone (o : Ok K σ c) {b : Addr} (h : c.H b = none) : c.H0 b = none := by
  cases e : c.H0 b with
  | none => rfl
  | some u =>
    by_cases hb : b ∈ c.A0
    · obtain ⟨t, ht⟩ := o.pre
      have hA : b ∈ c.A := by rw [← ht]; exact List.mem_append_left _ hb
      obtain ⟨u, hu⟩ := o.amem hA
      rw [h] at hu; cases hu
    · have := o.fr b u e hb
      rw [h] at this; cases this
theorem Ok.gnone (o : Ok K σ c) {b : Addr} (h : c.H b = none) : c.G b = none := by
  cases e : c.G b with
  | none => rfl
  | some u => have := o.sub b u e; rw [h] at this; cases this
/-- the configuration with one new thing -/
abbrev Cf.push (c : Cf) (p : Addr) (o : HO) : Cf := { c with G := upd c.G p o, H := upd c.H p o }
theorem same_upd {H : Hp} {p : Addr} {o : HO} (h : H p = none) : Same H (upd H p o) := fun b x e => by
  rw [upd_ne (ne_of_none e h)]
  exact e
theorem Ok.le_push (o : Ok K σ c) {p : Addr} {u : HO} (h : c.H p = none) : Le c (c.push p u) := ⟨rfl, rfl, rfl, same_upd (o.gnone h), List.prefix_refl _⟩
theorem DictOk.mono {G G' H H' : Hp} {a : Addr} {kvs : List (D × D)} (e : Same G G') (k : H a = H' a) (h : DictOk G H a kvs) : DictOk G' H' a kvs := by
  rcases h with ⟨es, h1, h2⟩ | ⟨es, h1, h2, h3⟩
  · exact .inl ⟨es, k ▸ h1, h2.mono e⟩
  · exact .inr ⟨es, k ▸ h1, h2, h3.mono e⟩
theorem OwnOk.mono {G G' H H' : Hp} {a : Addr} (e : Same G G') (k : H a = H' a) : ∀ {w : Own}, OwnOk G H a w → OwnOk G' H' a w
  | .lst xs, ⟨vs, h1, h2⟩ => ⟨vs, k ▸ h1, h2.mono e xs _⟩
  | .dct kvs, h => DictOk.mono e k h
theorem FldOk.mono {G G' : Hp} {A A' : List Addr} (e : Same G G') (p : A <+: A') {gs : List (Str × V)} {fs : List (Str × Dv)} (h : FldOk K G A gs fs) : FldOk K G' A' gs fs := Paired.mapP h fun _ _ z => ⟨z.1, z.2.mono e p⟩
theorem RefK.mono {A A' : List Addr} (p : A <+: A') : ∀ {es : List (Key × V)} {kvs : List (D × Nat)}, RefK A es kvs → RefK A' es kvs
  | _, _, .nil => .nil
  | _, _, .cons h t => .cons (pre_get p h) (RefK.mono p t)
theorem RefN.mono {G G' : Hp} {A A' : List Addr} (e : Same G G') (p : A <+: A') : ∀ {es : List (NestedKey × V × V)} {kvs : List (D × Nat)}, RefN G A es kvs → RefN G' A' es kvs
  | _, _, .nil => .nil
  | _, _, .cons r h t => .cons (Rp.mono e _ _ r) (pre_get p h) (RefN.mono e p t)
theorem CellOk.mono {G G' H H' : Hp} {A A' : List Addr} {a : Addr} (e : Same G G') (p : A <+: A') (k : H a = H' a) : ∀ {w : Cell}, CellOk K G A H a w → CellOk K G' A' H' a w
  | .lst xs, ⟨vs, h1, h2⟩ => ⟨vs, k ▸ h1, h2.mono e xs _⟩
  | .dct kvs, h => DictOk.mono e k h
  | .obj C fs, ⟨dx, gs, h, f⟩ => ⟨dx, gs, k ▸ h, FldOk.mono e p f⟩
  | .rows ns, ⟨vs, h, r⟩ => ⟨vs, k ▸ h, Paired.mapP r fun _ _ ⟨b, z1, z2⟩ => ⟨b, pre_get p z1, z2⟩⟩
  | .drows kvs, .inl ⟨es, h, r⟩ => .inl ⟨es, k ▸ h, r.mono p⟩
  | .drows kvs, .inr ⟨es, h, n, r⟩ => .inr ⟨es, k ▸ h, n, r.mono e p⟩
  | .fz x, ⟨⟨o, h⟩, r⟩ => ⟨⟨o, k ▸ h⟩, Rp.mono e _ _ r⟩
theorem OwnOk.some {G H : Hp} {a : Addr} : ∀ {w : Own}, OwnOk G H a w → ∃ u, H a = some u
  | .lst xs, ⟨vs, h1, h2⟩ => ⟨_, h1⟩
  | .dct kvs, h => DictOk.some h
/-- a change of the heap that leaves the cells and the things of one's own as they are -/
theorem Ok.heap (o : Ok K σ c) {G' H' : Hp} (g : Same c.G G') (s : Same G' H') (own : ∀ b u, c.H b = some u → H' b = some u)
    (gn : ∀ b u, G' b = some u → c.G b = some u ∨ c.H b = none) : Ok K σ { c with G := G', H := H' } := by
  refine ⟨s, o.len, fun i sl ov h1 h2 => ?_, o.apart, o.alen, fun n ce a h1 h2 => ?_, o.anod, fun n ce a h1 h2 nd => ?_, o.pre, fun b u h1 h2 => own b u (o.fr b u h1 h2), o.new, fun b u h => ?_⟩
  · have q := o.slot i sl ov h1 h2
    cases sl with
    | emp => trivial
    | v x =>
      obtain ⟨v, e, q⟩ := q
      exact ⟨v, e, q.mono g (List.prefix_refl _)⟩
    | own w =>
      obtain ⟨a, e, q1, q2, q3, q4⟩ := q
      obtain ⟨u, hu⟩ := q1.some
      refine ⟨a, e, q1.mono g (by rw [hu]; exact (own a u hu).symm), ?_, q3, q4⟩
      cases z : G' a with
      | none => exact z
      | some y =>
        rcases gn a y z with z | z
        · rw [q2] at z; cases z
        · rw [hu] at z; cases z
  · obtain ⟨u, hu⟩ := o.amem (List.mem_of_getElem? h2)
    exact (o.cell n ce a h1 h2).mono g (List.prefix_refl _) (by rw [hu]; exact (own a u hu).symm)
  · obtain ⟨u, hu⟩ := o.amem (List.mem_of_getElem? h2)
    cases z : G' a with
    | none => exact z
    | some y =>
      rcases gn a y z with z | z
      · rw [o.agn n ce a h1 h2 nd] at z; cases z
      · rw [hu] at z; cases z
  · rcases gn b u h with h | h
    · exact o.gnew b u h
    · exact .inr (.inl (o.hnone h))
theorem Ok.push (o : Ok K σ c) {p : Addr} {u : HO} (h : c.H p = none) : Ok K σ (c.push p u) := by
  refine o.heap (same_upd (o.gnone h)) (fun b x e => ?_) (same_upd h) fun b x e => ?_
  · by_cases hb : b = p
    · subst hb
      rw [upd_same] at e ⊢
      exact e
    · rw [upd_ne hb] at e ⊢
      exact o.sub b x e
  · by_cases hb : b = p
    · subst hb; exact .inr h
    · rw [upd_ne hb] at e; exact .inl e

/-! ### what a value is, looked at -/
def Cell.data : Cell → Option D
  | .lst xs => some (.list xs)
  | .dct kvs => some (.dict kvs)
  | .obj _ _ => none
  | .rows _ => none
  | .drows _ => none
  | .fz x => some x
def Own.data : Own → D
  | .lst xs => .list xs
  | .dct kvs => .dict kvs
def view (st : St) : W → Option D
  | .v (.d x) => some x
  | .v (.k x) => some x
  | .v (.c n) => (st.mem[n]?).bind Cell.data
  | .sl i => match st.env[i]? with
    | some (.own w) => some w.data
    | some (.v (.d x)) => some x
    | _ => none
/-- a dict, locked or not -/
def DictRd (G H : Hp) (a : Addr) (kvs : List (D × D)) : Prop := (∃ es, Rd H a (.dK es) ∧ RpK G es kvs) ∨ ∃ es, Rd H a (dN a es) ∧ OkN a es ∧ RpN G es kvs
theorem DictOk.rd {G H : Hp} {a : Addr} {kvs : List (D × D)} (h : DictOk G H a kvs) : DictRd G H a kvs := by
  rcases h with ⟨es, h, r⟩ | ⟨es, h, n, r⟩
  · exact .inl ⟨es, .inl h, r⟩
  · exact .inr ⟨es, .inl h, n, r⟩
/-- d as it stands at v: its own object in H, its items among what never changes -/
def Vw (K : PySem.W.Frag) (G H : Hp) (v : V) : D → Prop
  | .list ds => ∃ a vs, v = .ref a ∧ SqL K H a vs ∧ RpAll G vs ds
  | .tuple ds => ∃ a vs, v = .ref a ∧ SqT K H a vs ∧ RpAll G vs ds
  | .dict kvs => ∃ a, v = .ref a ∧ DictRd G H a kvs
  | d => Rp G v d
theorem Rp.dct {G H : Hp} {v : V} {kvs : List (D × D)} (s : Same G H) (h : Rp G v (.dict kvs)) : ∃ a, v = .ref a ∧ DictRd G H a kvs := by
  cases h with
  | dcK h1 h2 => exact ⟨_, rfl, .inl ⟨_, .inr ⟨_, s _ _ h1⟩, h2⟩⟩
  | dcN h1 h2 h3 => exact ⟨_, rfl, .inr ⟨_, .inr ⟨_, s _ _ h1⟩, h2, h3⟩⟩
theorem Rp.vw {K : PySem.W.Frag} {G H : Hp} {v : V} (s : Same G H) : ∀ {d : D}, Rp G v d → Vw K G H v d
  | .none, h => h
  | .bool _, h => h
  | .int _, h => h
  | .str _, h => h
  | .list ds, .lst h1 h2 => ⟨_, _, rfl, SqL.of (s _ _ h1), h2⟩
  | .tuple ds, .tup h1 h2 => ⟨_, _, rfl, SqT.of (s _ _ h1), h2⟩
  | .dict _, h => h.dct s
theorem SqK.vw {K : PySem.W.Frag} {G H : Hp} {a : Addr} (s : Same G H) : ∀ {d : D}, SqK K G a d → Vw K G H (.ref a) d
  | .list ds, ⟨vs, h1, h2⟩ => ⟨_, _, rfl, SqL.same s h1, h2⟩
  | .tuple ds, ⟨vs, h1, h2⟩ => ⟨_, _, rfl, SqT.same s h1, h2⟩
theorem OwnOk.vw {K : PySem.W.Frag} {G H : Hp} {a : Addr} : ∀ {w : Own}, OwnOk G H a w → Vw K G H (.ref a) w.data
  | .lst xs, ⟨vs, h1, h2⟩ => ⟨_, _, rfl, SqL.of h1, h2⟩
  | .dct kvs, h => ⟨_, rfl, h.rd⟩
theorem CellOk.vw {K : PySem.W.Frag} {G H : Hp} {A : List Addr} {a : Addr} {d : D} (s : Same G H) : ∀ {w : Cell}, CellOk K G A H a w → w.data = Option.some d → Vw K G H (.ref a) d
  | .lst xs, ⟨vs, h1, h2⟩, e => by cases e; exact ⟨_, _, rfl, SqL.of h1, h2⟩
  | .dct kvs, h, e => by cases e; exact ⟨_, rfl, h.rd⟩
  | .obj _ _, _, e => by cases e
  | .rows _, _, e => by cases e
  | .drows _, _, e => by cases e
  | .fz x, h, e => by cases e; exact Rp.vw s h.2
theorem view_ok (o : Ok K σ c) {w : W} {v : V} {d : D} (h : WOk K σ c v w) (e : view c.st w = some d) : Vw K c.G c.H v d := by
  cases w with
  | v x =>
    cases x with
    | d x =>
      have e : some x = some d := e
      cases e
      exact Rp.vw o.sub h
    | k x =>
      have e : some x = some d := e
      cases e
      obtain ⟨a, rfl, h⟩ := h
      exact SqK.vw o.sub h
    | c n =>
      obtain ⟨a, h1, rfl⟩ := h
      obtain ⟨ce, h2, e2⟩ := Option.bind_eq_some_iff.mp (show (c.st.mem[n]?).bind Cell.data = some d from e)
      exact (o.cell n ce a h2 h1).vw o.sub e2
  | sl i =>
    have h : σ[i]? = some (some v) := h
    unfold view at e
    cases q : c.st.env[i]? with
    | none => simp only [q] at e; cases e
    | some s =>
      simp only [q] at e
      have z := o.slot i s _ q h
      cases s with
      | emp => cases e
      | own w =>
        have e : some w.data = some d := e
        cases e
        obtain ⟨a, e1, q1, _⟩ := z
        cases e1
        exact q1.vw
      | v x =>
        cases x with
        | d x =>
          have e : some x = some d := e
          cases e
          obtain ⟨v', e1, q1⟩ := z
          cases e1
          exact Rp.vw o.sub q1
        | c n => cases e
        | k x => cases e
/-- data proper: things made by the program -/
def viewD (st : St) : W → Option D
  | .v (.k _) => none
  | w => view st w
def Vt (G H : Hp) (v : V) : D → Prop
  | .list ds => ∃ a vs, v = .ref a ∧ H a = some (.lst vs) ∧ RpAll G vs ds
  | .dict kvs => ∃ a, v = .ref a ∧ DictRd G H a kvs
  | d => Rp G v d
theorem Rp.vt {G H : Hp} {v : V} (s : Same G H) : ∀ {d : D}, Rp G v d → Vt G H v d
  | .none, h => h
  | .bool _, h => h
  | .int _, h => h
  | .str _, h => h
  | .list ds, .lst h1 h2 => ⟨_, _, rfl, s _ _ h1, h2⟩
  | .tuple ds, h => h
  | .dict _, h => h.dct s
theorem OwnOk.vt {G H : Hp} {a : Addr} : ∀ {w : Own}, OwnOk G H a w → Vt G H (.ref a) w.data
  | .lst xs, ⟨vs, h1, h2⟩ => ⟨_, _, rfl, h1, h2⟩
  | .dct kvs, h => ⟨_, rfl, h.rd⟩
theorem CellOk.vt {G H : Hp} {A : List Addr} {a : Addr} {d : D} (s : Same G H) : ∀ {w : Cell}, CellOk K G A H a w → w.data = Option.some d → Vt G H (.ref a) d
  | .lst xs, ⟨vs, h1, h2⟩, e => by cases e; exact ⟨_, _, rfl, h1, h2⟩
  | .dct kvs, h, e => by cases e; exact ⟨_, rfl, h.rd⟩
  | .obj _ _, _, e => by cases e
  | .rows _, _, e => by cases e
  | .drows _, _, e => by cases e
  | .fz x, h, e => by cases e; exact Rp.vt s h.2
theorem viewD_ok (o : Ok K σ c) {w : W} {v : V} {d : D} (h : WOk K σ c v w) (e : viewD c.st w = some d) : Vt c.G c.H v d := by
  cases w with
  | v x =>
    cases x with
    | d x =>
      have e : some x = some d := e
      cases e
      exact Rp.vt o.sub h
    | k x => cases e
    | c n =>
      obtain ⟨a, h1, rfl⟩ := h
      obtain ⟨ce, h2, e2⟩ := Option.bind_eq_some_iff.mp (show (c.st.mem[n]?).bind Cell.data = some d from e)
      exact (o.cell n ce a h2 h1).vt o.sub e2
  | sl i =>
    have h : σ[i]? = some (some v) := h
    unfold viewD view at e
    cases q : c.st.env[i]? with
    | none => simp only [q] at e; cases e
    | some s =>
      simp only [q] at e
      have z := o.slot i s _ q h
      cases s with
      | emp => cases e
      | own w =>
        have e : some w.data = some d := e
        cases e
        obtain ⟨a, e1, q1, _⟩ := z
        cases e1
        exact q1.vt
      | v x =>
        cases x with
        | d x =>
          have e : some x = some d := e
          cases e
          obtain ⟨v', e1, q1⟩ := z
          cases e1
          exact Rp.vt o.sub q1
        | c n => cases e
        | k x => cases e
/-- what a view's list weighs -/
theorem Vw.vt_of {K : PySem.W.Frag} {G H : Hp} {v : V} {d : D} (s : Same G H) (h : Vt G H v d) : Vw K G H v d := by
  cases d with
  | list ds => obtain ⟨a, vs, e, h1, h2⟩ := h; exact ⟨a, vs, e, SqL.of h1, h2⟩
  | tuple ds => exact Rp.vw s h
  | _ => exact h
theorem Vt.dp {K : PySem.W.Frag} {G H : Hp} {v : V} {d : D} (n : noDic d = true) (s : Same G H) (h : Vt G H v d) : Dp K H v d := by
  cases d with
  | list ds =>
    obtain ⟨a, vs, rfl, h1, h2⟩ := h
    exact .lst (SqL.of h1) (RpAll.dp ds _ n (h2.mono s ds _))
  | dict _ => cases n
  | _ => exact Rp.dp _ _ n (Rp.mono s _ _ h)
end

/-! ### names and constants -/
def eVar (i : Nat) : ESem := fun st => match st.env[i]? with
  | some (.v x) => .ok (.v x) st
  | some (.own _) => .ok (.sl i) st
  | _ => .bad
def eC (d : D) : ESem := fun st => .ok (.v (.d d)) st
def eK (d : D) : ESem := fun st => .ok (.v (.k d)) st
section
variable {X : Cx} {E : XW} {pos : Pos}
theorem e_var (i : Nat) {x : Str} (hN : X.N[i]? = some x := by rfl) (hv : Vis X.env.scope x := by first | exact Or.inl rfl | exact Or.inr (Or.inl rfl) | exact Or.inr (Or.inr rfl)) (hd : (x == ("__debug__" : Str)) = false := by decide)
    (hcd : (x == ("__classdict__" : Str)) = false := by decide) : PE X (.Name x pos) (tE X.K E (eVar i)) := by
  refine PE_imp (pe_var (i := i) hN hv hd hcd) fun σ H Q h => ?_
  obtain ⟨c, rfl, o, h⟩ := h
  unfold eVar at h
  cases q : c.st.env[i]? with
  | none => simp only [q] at h; exact h.elim
  | some s =>
    simp only [q] at h
    have hi : i < σ.length := by rw [← o.len]; exact (List.getElem?_eq_some_iff.mp q).1
    have z := o.slot i s _ q (List.getElem?_eq_getElem hi)
    cases s with
    | emp => exact h.elim
    | v x =>
      obtain ⟨v, e1, q1⟩ := z
      exact ⟨v, by rw [List.getElem?_eq_getElem hi, e1], h.here o v q1⟩
    | own w =>
      obtain ⟨a, e1, q1⟩ := z
      have e2 : σ[i]? = some (some (.ref a)) := by rw [List.getElem?_eq_getElem hi, e1]
      exact ⟨_, e2, h.here o _ e2⟩
theorem e_int {i : Int} {j : Nat} : PE X (.Constant (.int i) j pos) (tE X.K E (eC (.int i))) := PE_imp pe_int fun σ H Q ⟨c, e, o, h⟩ => e ▸ h.here o _ (.int i)
theorem e_bl {i : Bool} {j : Nat} : PE X (.Constant (.bool i) j pos) (tE X.K E (eC (.bool i))) := PE_imp pe_bl fun σ H Q ⟨c, e, o, h⟩ => e ▸ h.here o _ (.bl i)
theorem e_str {i : Str} {j : Nat} : PE X (.Constant (.str i) j pos) (tE X.K E (eC (.str i))) := PE_imp pe_str fun σ H Q ⟨c, e, o, h⟩ => e ▸ h.here o _ (.str i)
theorem e_non {j : Nat} : PE X (.Constant .none j pos) (tE X.K E (eC .none)) := PE_imp pe_non fun σ H Q ⟨c, e, o, h⟩ => e ▸ h.here o _ .non
/-- a number of the text -/
theorem e_gint {x : Str} {i : Int} (hg : Gl X x) (hm : ∃ t, X.mg x = some (.int i t)) (hd : (x == ("__debug__" : Str)) = false := by decide) : PE X (.Name x pos) (tE X.K E (eC (.int i))) := by
  obtain ⟨t, hm⟩ := hm
  exact PE_imp (pe_glob (v := .int i) hg hm ⟨t, rfl⟩ hd) fun σ H Q ⟨c, e, o, h⟩ => e ▸ h.here o _ (.int i)
theorem e_gstr {x : Str} {i : Str} (hg : Gl X x) (hm : ∃ t, X.mg x = some (.str i t)) (hd : (x == ("__debug__" : Str)) = false := by decide) : PE X (.Name x pos) (tE X.K E (eC (.str i))) := by
  obtain ⟨t, hm⟩ := hm
  exact PE_imp (pe_glob (v := .str i) hg hm ⟨t, rfl⟩ hd) fun σ H Q ⟨c, e, o, h⟩ => e ▸ h.here o _ (.str i)

/-! ### operations on two values -/
def eOp2 (f : W → W → St → R St W) (A B : ESem) : ESem := fun st => (A st).bind fun wa s1 => (B s1).bind fun wb s2 => f wa wb s2
/-- f tells what the rule r asks -/
def R2Ok (K : PySem.W.Frag) (E : XW) (f : W → W → St → R St W) (r : R2) : Prop :=
  ∀ (σ : L2.St) (c : Cf) (Q : VK) (wa wb : W) (v u : V), Ok K σ c → WOk K σ c v wa → WOk K σ c u wb → Post K E σ c (f wa wb c.st) (fun w c' => ∀ z, WOk K σ c' z w → Q z c'.H) → r v u c.H Q
variable {a b : Expr} {A B : ESem}
theorem tE_two {f : W → W → St → R St W} {r : R2} (hf : R2Ok X.K E f r) {σ : L2.St} {H : Hp} {Q : VK} (h : tE X.K E (eOp2 f A B) σ H Q) : tOp r (tE X.K E A) (tE X.K E B) σ H Q := by
  obtain ⟨c, rfl, o, h⟩ := h
  refine ⟨c, rfl, o, h.bind.mono fun wa c1 l1 o1 h1 v hv => ?_⟩
  refine ⟨c1, rfl, o1, h1.bind.mono fun wb c2 l2 o2 h2 u hu => ?_⟩
  exact hf σ c2 Q wa wb v u o2 (hv.mono l2) hu h2
theorem e_op {op : Operator} {f : W → W → St → R St W} {r : R2} (ho : OpR X (binaryOp op) r) (hf : R2Ok X.K E f r) (ha : PE X a (tE X.K E A)) (hb : PE X b (tE X.K E B)) : PE X (.BinOp a op b pos) (tE X.K E (eOp2 f A B)) :=
  PE_imp (pe_op ho ha hb) fun _ _ _ h => tE_two hf h
theorem e_cmp {op : CmpOp} {f : W → W → St → R St W} {r : R2} (ho : OpR X (compareOp op) r) (hf : R2Ok X.K E f r) (ha : PE X a (tE X.K E A)) (hb : PE X b (tE X.K E B)) (hm : behindInMarks op b = false) : PE X (.Compare a [op] [b] pos) (tE X.K E (eOp2 f A B)) :=
  PE_imp (pe_cmpR ho ha hb hm) fun _ _ _ h => tE_two hf h
/-- a test from a value that is a truth -/
def tOfE (A : ESem) : TSem := fun st => (A st).bind fun w s => match w with
  | .v (.d (.bool b)) => .ok b s
  | _ => .bad
theorem tE_test {K : PySem.W.Frag} {σ : L2.St} {H : Hp} {Q : Bool → Hp → Prop} (h : tT K E (tOfE A) σ H Q) : tE K E A σ H fun x H' => ∃ k, x = .bl k ∧ Q k H' := by
  obtain ⟨c, rfl, o, h⟩ := h
  refine ⟨c, rfl, o, h.bind.mono fun wa c1 l1 o1 h1 v hv => ?_⟩
  cases wa with
  | sl i => exact h1.elim
  | v x =>
    cases x with
    | c n => exact h1.elim
    | k x => exact h1.elim
    | d x =>
      cases x with
      | bool k =>
        have hv : Rp c1.G v (.bool k) := hv
        cases hv
        exact ⟨k, rfl, h1.here o1⟩
      | _ => exact h1.elim
theorem t_cmp {op : CmpOp} {f : W → W → St → R St W} {r : R2} (ho : OpR X (compareOp op) r) (hf : R2Ok X.K E f r) (ha : PE X a (tE X.K E A)) (hb : PE X b (tE X.K E B)) (hm : behindInMarks op b = false) : PT X (.Compare a [op] [b] pos) (tT X.K E (tOfE (eOp2 f A B))) := by
  refine PT_imp (pt_cmpR ho ha hb hm) fun σ H Q h => ?_
  have h1 := tE_test h
  exact tE_two hf h1
end
end PD

set_option Elab.async false
set_option linter.all false
set_option maxRecDepth 100000
set_option maxHeartbeats 1000000
/-! PDOps: the operators on data. -/
namespace PD
open PySem PySem.Spec PyProof.Rows L2

def retD (d : D) (st : St) : R St W := .ok (.v (.d d)) st
def dat1 (f : D → Option D) (wa : W) (st : St) : R St W := match view st wa with
  | some x => (match f x with | some d => retD d st | none => .bad)
  | none => .bad
def dat2 (f : D → D → Option D) (wa wb : W) (st : St) : R St W := match view st wa, view st wb with
  | some x, some y => (match f x y with | some d => retD d st | none => .bad)
  | _, _ => .bad
def dat2D (f : D → D → Option D) (wa wb : W) (st : St) : R St W := match viewD st wa, viewD st wb with
  | some x, some y => (match f x y with | some d => retD d st | none => .bad)
  | _, _ => .bad
def dat2L (f : D → D → Option D) (wa wb : W) (st : St) : R St W := match viewD st wa, view st wb with
  | some x, some y => (match f x y with | some d => retD d st | none => .bad)
  | _, _ => .bad
def dat2R (f : D → D → Option D) (wa wb : W) (st : St) : R St W := match view st wa, viewD st wb with
  | some x, some y => (match f x y with | some d => retD d st | none => .bad)
  | _, _ => .bad
/-- what is left to be shown behind an operation: d stands somewhere -/
def Kt (K : PySem.W.Frag) (σ : L2.St) (c : Cf) (d : D) (Q : VK) : Prop := ∀ c', Le c c' → c'.st = c.st → Ok K σ c' → ∀ z, Rp c'.G z d → Q z c'.H
section
variable {K : PySem.W.Frag} {E : XW} {σ : L2.St} {c : Cf} {Q : VK}
theorem Kt.here (o : Ok K σ c) {d : D} {v : V} (k : Kt K σ c d Q) (h : Rp c.G v d) : Q v c.H := k c (Le.refl c) rfl o v h
theorem Kt.lst (o : Ok K σ c) {ds : List D} {vs : List V} (k : Kt K σ c (.list ds) Q) (h : RpAll c.G vs ds) : ∀ p, c.H p = none → Q (.ref p) (upd c.H p (.lst vs)) := fun p hp =>
  k (c.push p (.lst vs)) (o.le_push hp) rfl (o.push hp) _ (.lst upd_same (h.mono (same_upd (o.gnone hp)) ds _))
theorem Kt.tup (o : Ok K σ c) {ds : List D} {vs : List V} (k : Kt K σ c (.tuple ds) Q) (h : RpAll c.G vs ds) : ∀ p, c.H p = none → Q (.ref p) (upd c.H p (.tup vs)) := fun p hp =>
  k (c.push p (.tup vs)) (o.le_push hp) rfl (o.push hp) _ (.tup upd_same (h.mono (same_upd (o.gnone hp)) ds _))
theorem retD_post {d : D} (h : Post K E σ c (retD d c.st) fun w c' => ∀ z, WOk K σ c' z w → Q z c'.H) : Kt K σ c d Q := fun c' l e o z hz => h c' l e o z hz
theorem r2_dat {f : D → D → Option D} {r : R2} (hf : ∀ (σ : L2.St) (c : Cf) (Q : VK) (v u : V) (x y d : D), Ok K σ c → Vw K c.G c.H v x → Vw K c.G c.H u y → f x y = some d → Kt K σ c d Q → r v u c.H Q) : R2Ok K E (dat2 f) r := by
  intro σ c Q wa wb v u o hv hu h
  unfold dat2 at h
  cases e1 : view c.st wa with
  | none => simp only [e1] at h; exact h.elim
  | some x =>
    cases e2 : view c.st wb with
    | none => simp only [e1, e2] at h; exact h.elim
    | some y =>
      simp only [e1, e2] at h
      cases e3 : f x y with
      | none => simp only [e3] at h; exact h.elim
      | some d =>
        simp only [e3] at h
        exact hf σ c Q v u x y d o (view_ok o hv e1) (view_ok o hu e2) e3 (retD_post h)
theorem r2_datD {f : D → D → Option D} {r : R2} (hf : ∀ (σ : L2.St) (c : Cf) (Q : VK) (v u : V) (x y d : D), Ok K σ c → Vt c.G c.H v x → Vt c.G c.H u y → f x y = some d → Kt K σ c d Q → r v u c.H Q) : R2Ok K E (dat2D f) r := by
  intro σ c Q wa wb v u o hv hu h
  unfold dat2D at h
  cases e1 : viewD c.st wa with
  | none => simp only [e1] at h; exact h.elim
  | some x =>
    cases e2 : viewD c.st wb with
    | none => simp only [e1, e2] at h; exact h.elim
    | some y =>
      simp only [e1, e2] at h
      cases e3 : f x y with
      | none => simp only [e3] at h; exact h.elim
      | some d =>
        simp only [e3] at h
        exact hf σ c Q v u x y d o (viewD_ok o hv e1) (viewD_ok o hu e2) e3 (retD_post h)

theorem r2_datL {f : D → D → Option D} {r : R2} (hf : ∀ (σ : L2.St) (c : Cf) (Q : VK) (v u : V) (x y d : D), Ok K σ c → Vt c.G c.H v x → Vw K c.G c.H u y → f x y = some d → Kt K σ c d Q → r v u c.H Q) : R2Ok K E (dat2L f) r := by
  intro σ c Q wa wb v u o hv hu h
  unfold dat2L at h
  cases e1 : viewD c.st wa with
  | none => simp only [e1] at h; exact h.elim
  | some x =>
    cases e2 : view c.st wb with
    | none => simp only [e1, e2] at h; exact h.elim
    | some y =>
      simp only [e1, e2] at h
      cases e3 : f x y with
      | none => simp only [e3] at h; exact h.elim
      | some d =>
        simp only [e3] at h
        exact hf σ c Q v u x y d o (viewD_ok o hv e1) (view_ok o hu e2) e3 (retD_post h)
theorem r2_datR {f : D → D → Option D} {r : R2} (hf : ∀ (σ : L2.St) (c : Cf) (Q : VK) (v u : V) (x y d : D), Ok K σ c → Vw K c.G c.H v x → Vt c.G c.H u y → f x y = some d → Kt K σ c d Q → r v u c.H Q) : R2Ok K E (dat2R f) r := by
  intro σ c Q wa wb v u o hv hu h
  unfold dat2R at h
  cases e1 : view c.st wa with
  | none => simp only [e1] at h; exact h.elim
  | some x =>
    cases e2 : viewD c.st wb with
    | none => simp only [e1, e2] at h; exact h.elim
    | some y =>
      simp only [e1, e2] at h
      cases e3 : f x y with
      | none => simp only [e3] at h; exact h.elim
      | some d =>
        simp only [e3] at h
        exact hf σ c Q v u x y d o (view_ok o hv e1) (viewD_ok o hu e2) e3 (retD_post h)

/-! ### arithmetic -/
def dInt2 (C : Int → Int → Bool) (g : Int → Int → Int) : D → D → Option D
  | .int i, .int j => if C i j then some (.int (g i j)) else none
  | _, _ => none
def dSub : D → D → Option D := dInt2 (fun _ _ => true) fun i j => i - j
def dMul : D → D → Option D := dInt2 (fun i j => decide (i.natAbs < 2 ^ 64) || decide (j.natAbs < 2 ^ 64)) fun i j => i * j
def dDiv : D → D → Option D := dInt2 (fun _ j => decide (0 < j) && decide (j < 1073741824)) fun i j => i / j
def dMod : D → D → Option D := dInt2 (fun _ j => decide (0 < j)) fun i j => i % j
def dPow : D → D → Option D := dInt2 (fun i j => decide (0 ≤ j) && decide (j ≤ 1000000) && decide (i.natAbs < 2 ^ 64)) fun i j => i ^ j.toNat
theorem dInt2_inv {C : Int → Int → Bool} {g : Int → Int → Int} {x y d : D} (h : dInt2 C g x y = some d) : ∃ i j, x = .int i ∧ y = .int j ∧ C i j = true ∧ d = .int (g i j) := by
  cases x with
  | int i =>
    cases y with
    | int j =>
      have h : (if C i j = true then some (PyData.int (g i j)) else none) = some d := h
      by_cases hc : C i j = true
      · rw [if_pos hc] at h
        cases h
        exact ⟨i, j, rfl, rfl, hc, rfl⟩
      · rw [if_neg hc] at h; cases h
    | _ => cases h
  | _ => cases y <;> cases h
theorem r_int2 {C : Int → Int → Bool} {C' : Int → Int → Prop} {g : Int → Int → Int} (hc : ∀ i j, C i j = true → C' i j) : R2Ok K E (dat2 (dInt2 C g)) (rI C' fun i j => .int (g i j)) :=
  r2_dat fun σ c Q v u x y d o hv hu e k => by
    obtain ⟨i, j, rfl, rfl, h, rfl⟩ := dInt2_inv e
    have hv : Rp c.G v (.int i) := hv
    have hu : Rp c.G u (.int j) := hu
    cases hv; cases hu
    exact ⟨i, j, rfl, rfl, hc i j h, k.here o (.int _)⟩
theorem r_int20 {C : Int → Int → Bool} {g : Int → Int → Int} : R2Ok K E (dat2 (dInt2 C g)) (rI0 fun i j => .int (g i j)) :=
  r2_dat fun σ c Q v u x y d o hv hu e k => by
    obtain ⟨i, j, rfl, rfl, h, rfl⟩ := dInt2_inv e
    have hv : Rp c.G v (.int i) := hv
    have hu : Rp c.G u (.int j) := hu
    cases hv; cases hu
    exact ⟨i, j, rfl, rfl, k.here o (.int _)⟩
theorem r_mul : R2Ok K E (dat2 dMul) (rI CMul fun i j => .int (i * j)) := r_int2 fun i j h => by
  rcases Bool.or_eq_true_iff.mp h with h | h
  · have := of_decide_eq_true h
    exact .inl (by omega)
  · have := of_decide_eq_true h
    exact .inr (by omega)
theorem r_div : R2Ok K E (dat2 dDiv) (rI CDiv fun i j => .int (i / j)) := r_int2 fun i j h => by
  obtain ⟨h1, h2⟩ := Bool.and_eq_true_iff.mp h
  exact ⟨of_decide_eq_true h1, of_decide_eq_true h2⟩
theorem r_mod : R2Ok K E (dat2 dMod) (rI (fun _ j => 0 < j) fun i j => .int (i % j)) := r_int2 fun i j h => of_decide_eq_true h
theorem r_pow : R2Ok K E (dat2 dPow) (rI CPow fun i j => .int (i ^ j.toNat)) := r_int2 fun i j h => by
  obtain ⟨h1, h3⟩ := Bool.and_eq_true_iff.mp h
  obtain ⟨h1, h2⟩ := Bool.and_eq_true_iff.mp h1
  exact ⟨of_decide_eq_true h1, of_decide_eq_true h2, of_decide_eq_true h3⟩
/-- a + b -/
def dAdd : D → D → Option D
  | .int i, .int j => some (.int (i + j))
  | .str x, .str y => if x.length + y.length ≤ sizeLine then some (.str (x ++ y)) else none
  | .list xs, .list ys => if xs.length + ys.length ≤ sizeLine then some (.list (xs ++ ys)) else none
  | .tuple xs, .tuple ys => if xs.length + ys.length ≤ sizeLine then some (.tuple (xs ++ ys)) else none
  | _, _ => none
def rAddD (K : PySem.W.Frag) : R2 := fun x y H Q => rI0 (fun i j => .int (i + j)) x y H Q ∨ (∃ i j, x = .str i ∧ y = .str j ∧ i.length + j.length ≤ sizeLine ∧ Q (.str (i ++ j)) H) ∨ rCat x y H Q ∨ rCatA K x y H Q
theorem op_addD {X : Cx} : OpR X (binaryOp .Add) (rAddD X.K) := op_add.or (op_add_str.or (op_cat.or op_catA))
theorem r_add : R2Ok K E (dat2D dAdd) (rAddD K) := r2_datD fun σ c Q v u x y d o hv hu e k => by
  cases x with
  | int i =>
    cases y with
    | int j =>
      have hv : Rp c.G v (.int i) := hv
      have hu : Rp c.G u (.int j) := hu
      cases hv; cases hu
      have e : some (PyData.int (i + j)) = some d := e
      cases e
      exact .inl ⟨i, j, rfl, rfl, k.here o (.int _)⟩
    | _ => cases e
  | str x =>
    cases y with
    | str y =>
      have hv : Rp c.G v (.str x) := hv
      have hu : Rp c.G u (.str y) := hu
      cases hv; cases hu
      have e : (if x.length + y.length ≤ sizeLine then some (PyData.str (x ++ y)) else none) = some d := e
      by_cases hz : x.length + y.length ≤ sizeLine
      · rw [if_pos hz] at e
        cases e
        exact .inr (.inl ⟨x, y, rfl, rfl, hz, k.here o (.str _)⟩)
      · rw [if_neg hz] at e; cases e
    | _ => cases e
  | list xs =>
    cases y with
    | list ys =>
      obtain ⟨a, vs, rfl, h1, h2⟩ := hv
      obtain ⟨b, us, rfl, h3, h4⟩ := hu
      have e : (if xs.length + ys.length ≤ sizeLine then some (PyData.list (xs ++ ys)) else none) = some d := e
      by_cases hz : xs.length + ys.length ≤ sizeLine
      · rw [if_pos hz] at e
        cases e
        exact .inr (.inr (.inl ⟨a, b, vs, us, rfl, rfl, h1, h3, by rw [h2.length, h4.length]; exact hz, k.lst o (h2.append h4)⟩))
      · rw [if_neg hz] at e; cases e
    | _ => cases e
  | tuple xs =>
    cases y with
    | tuple ys =>
      have hv : Rp c.G v (.tuple xs) := hv
      have hu : Rp c.G u (.tuple ys) := hu
      have hv' := hv
      have hu' := hu
      cases hv with
      | tup h1 h2 =>
        cases hu with
        | tup h3 h4 =>
          have e : (if xs.length + ys.length ≤ sizeLine then some (PyData.tuple (xs ++ ys)) else none) = some d := e
          by_cases hz : xs.length + ys.length ≤ sizeLine
          · rw [if_pos hz] at e
            cases e
            refine .inr (.inr (.inr ⟨_, _, _, _, rfl, rfl, SqT.of (o.sub _ _ h1), SqT.of (o.sub _ _ h3), by rw [h2.length, h4.length]; exact hz, fun ev => ?_, fun _ eu => ?_, fun _ _ => k.tup o (h2.append h4)⟩))
            · subst ev
              cases h2
              exact k.here o hu'
            · subst eu
              cases h4
              rw [List.append_nil] at k
              exact k.here o hv'
          · rw [if_neg hz] at e; cases e
    | _ => cases e
  | _ => cases y <;> cases e
end
end PD

set_option Elab.async false
set_option linter.all false
set_option maxRecDepth 100000
set_option maxHeartbeats 1000000
/-! PDNest: dicts whose keys are tuples of ints, None and such tuples: what the heap says. -/
namespace PD
open PySem PySem.Spec PyProof.Rows L2

section
variable {P : Program} {w : World} {H H' : Hp} {h h' : Heap} {a : Addr} {es : List (NestedKey × V × V)}
mutual
theorem rp_key (ok : HOk P w H h) : ∀ (k : NestedKey) (v : V) (u : Value), noTxt k = true → Rp H v k.data → RelV v u → NestedIs h k u
  | .none, v, u, _, r, e => by
    have r : Rp H v .none := r
    cases r
    cases (show u = Value.none from e)
    exact .none
  | .num i, v, u, _, r, e => by
    have r : Rp H v (.int i) := r
    cases r
    obtain ⟨t, rfl⟩ := (show ∃ t, u = Value.int i t from e)
    exact .int _ _
  | .text _, _, _, n, _, _ => by cases n
  | .tup ks, v, u, n, r, e => by
    have r : Rp H v (.tuple (NestedKey.datas ks)) := r
    cases r with
    | tup h1 h2 =>
      cases (show u = Value.ref _ from e)
      obtain ⟨_, its, rv, o, e1, e2, m, e3⟩ := (show ObjOk P w H h _ (.tup _) from ok _ _ h1)
      exact .tup e1 e2 e3 (by simpa using rp_keys ok ks _ _ n h2 rv)
theorem rp_keys (ok : HOk P w H h) : ∀ (ks : List NestedKey) (vs : List V) (us : List Value), noTxts ks = true → RpAll H vs (NestedKey.datas ks) → Vals vs us → NestedAll h ks us
  | [], vs, us, _, r, e => by
    have r : RpAll H vs [] := r
    cases r
    cases e
    exact .nil
  | k :: ks, vs, us, n, r, e => by
    have r : RpAll H vs (k.data :: NestedKey.datas ks) := r
    obtain ⟨n1, n2⟩ := Bool.and_eq_true_iff.mp (show (noTxt k && noTxts ks) = true from n)
    cases r with
    | cons r1 r2 =>
      cases e with
      | cons e1 e2 => exact .cons (rp_key ok k _ _ n1 r1 e1) (rp_keys ok ks _ _ n2 r2 e2)
end
theorem goodN_inv {k : NestedKey} (g : goodN k = true) : (∃ ks, k = .tup ks) ∧ noTxt k = true ∧ k.depth ≤ 8 := by
  unfold goodN at g
  obtain ⟨g1, g3⟩ := Bool.and_eq_true_iff.mp g
  obtain ⟨g1, g2⟩ := Bool.and_eq_true_iff.mp g1
  refine ⟨?_, g2, of_decide_eq_true g3⟩
  cases k with
  | tup ks => exact ⟨ks, rfl⟩
  | _ => cases g1
theorem key_ref {k : NestedKey} {v : V} (g : goodN k = true) (r : Rp H v k.data) : ∃ b, v = .ref b := by
  obtain ⟨⟨ks, rfl⟩, _, _⟩ := goodN_inv g
  have r : Rp H v (.tuple (NestedKey.datas ks)) := r
  cases r with
  | tup h1 h2 => exact ⟨_, rfl⟩
theorem key_is (ok : HOk P w H h) {k : NestedKey} {b : Addr} (g : goodN k = true) (r : Rp H (.ref b) k.data) : (nestedKind P w).is h k b := by
  obtain ⟨_, g2, g3⟩ := goodN_inv g
  exact ⟨rp_key ok k _ _ g2 r rfl, g3⟩
/-- the entries, raw -/
abbrev RN : List (NestedKey × V × V) → List (NestedKey × Addr × Value) → Prop := Paired fun p q => p.1 = q.1 ∧ p.2.1 = .ref q.2.1 ∧ RelV p.2.2 q.2.2
theorem RN.keys {es : List (NestedKey × V × V)} {xs : List (NestedKey × Addr × Value)} (r : RN es xs) : es.map (·.1) = xs.map (·.1) := by
  induction r with
  | nil => rfl
  | cons h t ih => rw [List.map_cons, List.map_cons, ih, h.1]
/-- a dict with tuples for keys; the empty one too -/
def TabN (H : Hp) (a : Addr) (es : List (NestedKey × V × V)) : Prop := (es = [] ∧ H a = some (.dK [])) ∨ (OkN a es ∧ H a = some (dN a es) ∧ ∀ q ∈ es, Rp H q.2.1 q.1.data)
def TabR (H : Hp) (a : Addr) (es : List (NestedKey × V × V)) : Prop := (es = [] ∧ Rd H a (.dK [])) ∨ (OkN a es ∧ Rd H a (dN a es) ∧ ∀ q ∈ es, Rp H q.2.1 q.1.data)
theorem TabN.rd (t : TabN H a es) : TabR H a es := by
  rcases t with ⟨e, h⟩ | ⟨n, h, k⟩
  · exact .inl ⟨e, .inl h⟩
  · exact .inr ⟨n, .inl h, k⟩
theorem TabR.raw (ok : HOk P w H h) (t : TabR H a es) : es.length ≤ sizeLine ∧ (a == sysModules) = false ∧ ∃ xs, RN es xs ∧ h.DictOfH (nestedKind P w) a xs := by
  rcases t with ⟨rfl, e⟩ | ⟨N, e, ks⟩
  · obtain ⟨z, y, vs, kv, o, ents, ep, h1, h2, h3, _, h5, _⟩ := (show ObjOk P w H h a (.dK []) from rd_of ok e)
    cases kv
    have hnil : ents.toList = [] := by
      cases q : ents.toList with
      | nil => rfl
      | cons x xs => rw [q] at h5; cases h5
    exact ⟨z, y, [], .nil, o, ents, ep, h1, h2, h3, hnil, fun _ hx => (nomatch hx), List.nodup_nil⟩
  · obtain ⟨⟨o, ents, ep, h1, h2, h3, h4⟩, _, _⟩ := (show ObjOk P w H h a (.ext (phiN a es)) from rd_of ok e)
    have key : ∀ {l : List (NestedKey × V × V)} {m : List DictEntry}, Paired (fun (q : NestedKey × V × V) (e : DictEntry) => e.hash = hashN q.1 ∧ RelV q.2.1 e.key ∧ RelV q.2.2 e.val) l m → (∀ q ∈ l, goodN q.1 = true ∧ Rp H q.2.1 q.1.data) →
        ∃ xs, RN l xs ∧ m = xs.map (entryOfKey (nestedKind P w)) ∧ ∀ x ∈ xs, (nestedKind P w).is h x.1 x.2.1 := by
      intro l m r
      induction r with
      | nil => exact fun _ => ⟨[], .nil, rfl, fun _ hx => (nomatch hx)⟩
      | @cons p q ps qs hh t ih =>
        intro hl
        obtain ⟨xs, r1, r2, r3⟩ := ih fun q hq => hl q (List.mem_cons_of_mem _ hq)
        obtain ⟨g, rr⟩ := hl p List.mem_cons_self
        obtain ⟨e1, e2, e3⟩ := hh
        obtain ⟨b, eb⟩ := key_ref g rr
        rw [eb] at e2 rr
        have e2 : q.key = .ref b := e2
        refine ⟨(p.1, b, q.val) :: xs, .cons ⟨rfl, eb, e3⟩ r1, ?_, fun x hx => ?_⟩
        · rw [List.map_cons, ← r2]
          congr 1
          show q = ⟨p.1.hash w, .ref b, q.val⟩
          rw [hashN_eq w _ (goodN_inv g).2.1, ← e1, ← e2]
        · rcases List.mem_cons.mp hx with rfl | hx
          · exact key_is ok g rr
          · exact r3 x hx
    obtain ⟨xs, r1, r2, r3⟩ := key h4 fun q hq => ⟨N.good q hq, ks q hq⟩
    refine ⟨N.len, N.sys, xs, r1, o, ents, ep, h1, h2, h3, r2, r3, ?_⟩
    rw [← r1.keys]
    exact N.nod
theorem TabN.raw (ok : HOk P w H h) (t : TabN H a es) : es.length ≤ sizeLine ∧ (a == sysModules) = false ∧ ∃ xs, RN es xs ∧ h.DictOfH (nestedKind P w) a xs := t.rd.raw ok
/-- .. and back -/
theorem phi_of {xs : List (NestedKey × Addr × Value)} (r : RN es xs) (good : ∀ q ∈ es, goodN q.1 = true) (t : h.DictOfH (nestedKind P w) a xs) : phiN a es h := by
  obtain ⟨o, ents, ep, h1, h2, h3, h4, h5, h6⟩ := t
  refine ⟨o, ents, ep, h1, h2, h3, ?_⟩
  rw [h4]
  clear h4 h5 h6
  induction r with
  | nil => exact .nil
  | @cons p q ps qs hh t ih =>
    rw [List.map_cons]
    refine .cons ⟨?_, ?_, hh.2.2⟩ (ih fun q hq => good q (List.mem_cons_of_mem _ hq))
    · show q.1.hash w = hashN p.1
      rw [← hh.1]
      exact hashN_eq w _ (goodN_inv (good p List.mem_cons_self)).2.1
    · show RelV p.2.1 (.ref q.2.1)
      rw [hh.2.1]
      exact rfl
theorem dn_obj (hp : phiN a es h') : ObjOk P w H' h' a (dN a es) := by
  refine ⟨hp, ?_, fun h1 h2 hq k => ?_⟩
  · obtain ⟨o, _, _, h1, _⟩ := hp
    exact ⟨o, h1⟩
  · obtain ⟨o, ents, ep, e1, e2, e3, e4⟩ := hq
    exact ⟨o, ents, ep, k o e1, e2, e3, e4⟩
/-! ### tables -/
def valN (es : List (NestedKey × V × V)) (k : NestedKey) : Option V := (es.find? fun q => decide (q.1 = k)).map (·.2.2)
def putN (es : List (NestedKey × V × V)) (k : NestedKey) (y v : V) : List (NestedKey × V × V) :=
  if (es.any fun q => decide (q.1 = k)) = true then es.map (fun q => if q.1 = k then (q.1, q.2.1, v) else q) else es ++ [(k, y, v)]
theorem RN.val {xs : List (NestedKey × Addr × Value)} (r : RN es xs) (k : NestedKey) : RelO (valN es k) ((atKey xs k).map (·.2)) := by
  induction r with
  | nil => exact True.intro
  | @cons p q ps qs hh t ih =>
    by_cases e : p.1 = k
    · have e' : q.1 = k := hh.1.symm.trans e
      have b : atKey (q :: qs) k = some q.2 := by simp [atKey, List.find?_cons, e']
      have c : valN (p :: ps) k = some p.2.2 := by simp [valN, List.find?_cons, e]
      rw [b, c]
      exact hh.2.2
    · have e' : ¬ q.1 = k := fun z => e (hh.1.trans z)
      have b : atKey (q :: qs) k = atKey qs k := by simp [atKey, List.find?_cons, e']
      have c : valN (p :: ps) k = valN ps k := by simp [valN, List.find?_cons, e]
      rw [b, c]
      exact ih
theorem RN.any {xs : List (NestedKey × Addr × Value)} (r : RN es xs) (k : NestedKey) : (es.any fun q => decide (q.1 = k)) = (atKey xs k).isSome := by
  induction r with
  | nil => rfl
  | @cons p q ps qs hh t ih =>
    rw [List.any_cons]
    by_cases e : p.1 = k
    · have e' : q.1 = k := hh.1.symm.trans e
      have b : atKey (q :: qs) k = some q.2 := by simp [atKey, List.find?_cons, e']
      rw [b, decide_eq_true e]
      rfl
    · have e' : ¬ q.1 = k := fun z => e (hh.1.trans z)
      have b : atKey (q :: qs) k = atKey qs k := by simp [atKey, List.find?_cons, e']
      rw [b, decide_eq_false e, Bool.false_or, ih]
theorem RN.put {xs : List (NestedKey × Addr × Value)} (r : RN es xs) (k : NestedKey) {b : Addr} {v : V} {u : Value} (rv : RelV v u) : RN (putN es k (.ref b) v) (storedH xs k b u) := by
  unfold putN storedH
  rw [r.any k]
  by_cases q : (atKey xs k).isSome = true
  · rw [if_pos q, if_pos q]
    clear q
    induction r with
    | nil => exact .nil
    | @cons p q ps qs hh t ih =>
      rw [List.map_cons, List.map_cons]
      refine .cons ?_ ih
      unfold putAt
      by_cases e : p.1 = k
      · rw [if_pos e, if_pos (hh.1.symm.trans e)]
        exact ⟨hh.1, hh.2.1, rv⟩
      · rw [if_neg e, if_neg (fun z => e (hh.1.trans z))]
        exact hh
  · rw [if_neg q, if_neg q]
    exact Paired.snoc r ⟨rfl, rfl, rv⟩
theorem putN_mem {k : NestedKey} {y v : V} {q : NestedKey × V × V} (h : q ∈ putN es k y v) : (∃ p ∈ es, q.1 = p.1 ∧ q.2.1 = p.2.1) ∨ (q.1 = k ∧ q.2.1 = y) := by
  unfold putN at h
  by_cases e : (es.any fun q => decide (q.1 = k)) = true
  · rw [if_pos e, List.mem_map] at h
    obtain ⟨p, hp, rfl⟩ := h
    refine .inl ⟨p, hp, ?_⟩
    by_cases e : p.1 = k
    · rw [if_pos e]; exact ⟨rfl, rfl⟩
    · rw [if_neg e]; exact ⟨rfl, rfl⟩
  · rw [if_neg e] at h
    rcases List.mem_append.mp h with h | h
    · exact .inl ⟨q, h, rfl, rfl⟩
    · rw [List.mem_singleton] at h
      rw [h]
      exact .inr ⟨rfl, rfl⟩
theorem putN_len (k : NestedKey) (y v : V) : (putN es k y v).length ≤ es.length + 1 := by
  unfold putN
  split
  · rw [List.length_map]; omega
  · rw [List.length_append, List.length_singleton]; omega
theorem putN_ne (k : NestedKey) (y v : V) : putN es k y v ≠ [] := by
  unfold putN
  split
  · next h =>
    cases es with
    | nil => cases h
    | cons p ps => rw [List.map_cons]; exact List.cons_ne_nil _ _
  · intro z
    cases es <;> cases z
theorem putN_ok (N : es.length ≤ sizeLine) (hd : (a == sysModules) = false) (nd : (es.map (·.1)).Nodup) (good : ∀ q ∈ es, goodN q.1 = true) {k : NestedKey} (g : goodN k = true) (y v : V) (hl : es.length < sizeLine) : OkN a (putN es k y v) := by
  refine ⟨by have := putN_len (es := es) k y v; omega, hd, ?_, fun q hq => ?_, putN_ne k y v⟩
  · unfold putN
    by_cases e : (es.any fun q => decide (q.1 = k)) = true
    · rw [if_pos e, List.map_map]
      have : (es.map ((fun q : NestedKey × V × V => q.1) ∘ fun q => if q.1 = k then (q.1, q.2.1, v) else q)) = es.map (·.1) := by
        refine List.map_congr_left fun q _ => ?_
        show (if q.1 = k then (q.1, q.2.1, v) else q).1 = q.1
        split <;> rfl
      rw [this]
      exact nd
    · rw [if_neg e, List.map_append]
      refine List.nodup_append.mpr ⟨nd, by simp, fun x hx y hy => ?_⟩
      simp only [List.map_cons, List.map_nil, List.mem_singleton] at hy
      subst hy
      rintro rfl
      rw [List.mem_map] at hx
      obtain ⟨q, hq, e2⟩ := hx
      exact e (List.any_eq_true.mpr ⟨q, hq, decide_eq_true e2⟩)
  · rcases putN_mem hq with ⟨p, hp, e, _⟩ | ⟨e, _⟩
    · rw [e]; exact good p hp
    · rw [e]; exact g
end
/-! ### the operations -/
section
variable {X : Cx} {pins : List (Addr × Obj)} {σ : L2.St} {H : Hp} {s : Shared} {a b : Addr} {y v d : V} {u r : Value} {o : Option V} {A : Around} {E : Value → Shared → Prop} {es : List (NestedKey × V × V)} {k : NestedKey}
theorem nroom (hu : A.units + 10 < cLine) : (nestedKind X.prog X.w).room A.in1 := by
  show A.in1.units + 8 < cLine
  have : A.in1.units = A.units + 1 := rfl
  omega
theorem n_getItem {Q : Value → Shared → Prop} (hu : A.units + 10 < cLine) (I : Inv X pins σ H s) (t : TabR H a es) (g : goodN k = true) (rk : Rp H (.ref b) k.data) (l : valN es k = some v) (h : ∀ w' s', Inv X pins σ H s' → RelV v w' → Q w' s') :
    wpAny (model X.prog X.w) A (getItem (.ref a) (.ref b)) Q E s := by
  obtain ⟨z, hd, xs, rel, dd⟩ := t.raw I.hok
  obtain ⟨w', hw, rw'⟩ := RelO.some_of (v := v) (o := (atKey xs k).map (·.2)) (by rw [← l]; exact rel.val k)
  obtain ⟨p, hp, hp2⟩ := Option.map_eq_some_iff.mp hw
  refine wpAny_getItem_heap (nroom hu) (key_is I.hok g rk) dd hp ?_
  rw [hp2]
  exact h w' _ (I.tok _) rw'
theorem n_in {Q : Value → Shared → Prop} (hu : A.units + 10 < cLine) (I : Inv X pins σ H s) (t : TabR H a es) (g : goodN k = true) (rk : Rp H (.ref b) k.data) (h : ∀ s', Inv X pins σ H s' → Q (.bool (valN es k).isSome) s') :
    wpAny (model X.prog X.w) A (compareOp .In (.ref b) (.ref a)) Q E s := by
  obtain ⟨z, hd, xs, rel, dd⟩ := t.raw I.hok
  refine wpAny_in_heap (nroom hu) (key_is I.hok g rk) hd dd ?_
  have q := (rel.val k).isSome_eq
  rw [Option.isSome_map] at q
  rw [← q]
  exact h _ (I.tok _)
theorem n_notIn {Q : Value → Shared → Prop} (hu : A.units + 10 < cLine) (I : Inv X pins σ H s) (t : TabR H a es) (g : goodN k = true) (rk : Rp H (.ref b) k.data) (h : ∀ s', Inv X pins σ H s' → Q (.bool (!(valN es k).isSome)) s') :
    wpAny (model X.prog X.w) A (compareOp .NotIn (.ref b) (.ref a)) Q E s := by
  obtain ⟨z, hd, xs, rel, dd⟩ := t.raw I.hok
  refine wpAny_notIn_heap (nroom hu) (key_is I.hok g rk) hd dd ?_
  have q := (rel.val k).isSome_eq
  rw [Option.isSome_map] at q
  rw [← q]
  exact h _ (I.tok _)
theorem n_get1 {Q : Value → Shared → Prop} (hu : A.units + 10 < cLine) (I : Inv X pins σ H s) (t : TabR H a es) (g : goodN k = true) (rk : Rp H (.ref b) k.data) (h : ∀ w' s', Inv X pins σ H s' → RelV ((valN es k).getD .non) w' → Q w' s') :
    wpAny (model X.prog X.w) A (call (.builtin "dict.get") [.ref a, .ref b]) Q E s := by
  obtain ⟨z, hd, xs, rel, dd⟩ := t.raw I.hok
  exact call_meetsIn PySem.F.slot_dict_get dd.typeIs PySem.F.entry_dict_get (PySem.F.args_dict_get_2 _ _) (meetsH_dict_get (nestedKind X.prog X.w) a b hd) ⟨nroom hu, k, xs, key_is I.hok g rk, dd, h _ _ (I.tok _) ((rel.val k).getD rfl)⟩
theorem n_get2 {Q : Value → Shared → Prop} (hu : A.units + 10 < cLine) (I : Inv X pins σ H s) (t : TabR H a es) (g : goodN k = true) (rk : Rp H (.ref b) k.data) (rd : RelV d r) (h : ∀ w' s', Inv X pins σ H s' → RelV ((valN es k).getD d) w' → Q w' s') :
    wpAny (model X.prog X.w) A (call (.builtin "dict.get") [.ref a, .ref b, r]) Q E s := by
  obtain ⟨z, hd, xs, rel, dd⟩ := t.raw I.hok
  exact call_meetsIn PySem.F.slot_dict_get dd.typeIs PySem.F.entry_dict_get (PySem.F.args_dict_get_3 _ _ _) (meetsH_dict_get_default (nestedKind X.prog X.w) a b hd r) ⟨nroom hu, k, xs, key_is I.hok g rk, dd, h _ _ (I.tok _) ((rel.val k).getD rd)⟩
theorem TabN.mut (t : TabN H a es) : Mut (H a) := by
  rcases t with ⟨_, e⟩ | ⟨_, e, _⟩
  · rw [e]; exact True.intro
  · rw [e]; exact True.intro
theorem TabN.facts (I : Inv X pins σ H s) (t : TabN H a es) : es.length ≤ sizeLine ∧ (a == sysModules) = false ∧ (es.map (·.1)).Nodup ∧ ∀ q ∈ es, goodN q.1 = true := by
  obtain ⟨z, hd, _, _, _⟩ := t.raw I.hok
  rcases t with ⟨rfl, _⟩ | ⟨N, _, _⟩
  · exact ⟨z, hd, List.nodup_nil, fun _ hq => (nomatch hq)⟩
  · exact ⟨z, hd, N.nod, N.good⟩
theorem n_setItem {Q : Unit → Shared → Prop} (hu : A.units + 10 < cLine) (I : Inv X pins σ H s) (t : TabN H a es) (g : goodN k = true) (rk : Rp H (.ref b) k.data) (rv : RelV v r) (hl : es.length < sizeLine)
    (h : ∀ s', Inv X pins σ (upd H a (dN a (putN es k (.ref b) v))) s' → OkN a (putN es k (.ref b) v) → Q () s') : wpAny (model X.prog X.w) A (setItem (.ref a) (.ref b) r) Q E s := by
  obtain ⟨z, hd, nd, good⟩ := t.facts I
  obtain ⟨_, _, xs, rel, dd⟩ := t.raw I.hok
  have hz : xs.length ≤ sizeLine := by rw [← Paired.length rel]; exact z
  refine wpAny_setItem_heap (hsz := hz) (nroom hu) (key_is I.hok g rk) dd fun h' dd' hs => h _ ?_ (putN_ok z hd nd good g _ _ hl)
  have N := putN_ok (a := a) z hd nd good g (.ref b) v hl
  have he : ∃ q, h'.get? a = some q := let ⟨q, _, _, hq, _⟩ := dd'; ⟨q, hq⟩
  exact d_write I t.mut hs he (dn_obj (phi_of (rel.put k rv) N.good dd'))
theorem n_len {Q : Value → Shared → Prop} (I : Inv X pins σ H s) (t : TabR H a es) (h : ∀ t s', Inv X pins σ H s' → Q (.int es.length t) s') : wpAny (model X.prog X.w) A (call (.builtin "len") [.ref a]) Q E s := by
  obtain ⟨z, hd, xs, rel, dd⟩ := t.raw I.hok
  have hl := Paired.length rel
  have hq : ((pairsH xs).length : Int) = es.length := by rw [pairsH_length, ← hl]
  refine call_len_slot (n := ((pairsH xs).length : Int)) dd.typeIs PySem.F.slot_dict_len (fun Q' hq => len_keyed (knd := nestedKind X.prog X.w) hd ⟨xs, dd, rfl⟩ hq) (by omega) (by rw [sizeLine_eq] at z; omega) ?_
  rw [hq]
  exact h _ _ (I.tok _)
theorem n_lenBody {Q : Value → Shared → Prop} (I : Inv X pins σ H s) (t : TabR H a es) (h : Q (.int es.length (s.toks + 1)) { s with toks := s.toks + 1 + 1 }) :
    wpAny (model X.prog X.w) A (Builtin.«len» ⟨[.ref a], []⟩) (fun z s' => ∃ v, z = .done (.ret v) ∧ Q v s') E s := by
  obtain ⟨zz, hd, xs, rel, dd⟩ := t.raw I.hok
  have hl := Paired.length rel
  have hq : ((pairsH xs).length : Int) = es.length := by rw [pairsH_length, ← hl]
  rw [sizeLine_eq] at zz
  unfold Builtin.«len»; refine wpAny_bind (m := oneArg "len" _) (wpAny_pure ?_); refine wpAny_bind (m := callSpecial? (.ref a) (Str.ofString "__len__")) ?_
  refine wpAny_callSpecial?_slot (name := Str.ofString "__len__") dd.typeIs PySem.F.slot_dict_len (len_keyed (knd := nestedKind X.prog X.w) (kvs := pairsH xs) hd ⟨xs, dd, rfl⟩ ?_)
  rw [hq]
  refine wpAny_bind (wpAny_holding (wpAny_pure ?_)); refine wpAny_bind (wpAny_letGo ?_)
  show wpAny _ _ (if ((es.length : Nat) : Int) < 0 then _ else _) _ _ _; rw [if_neg (by omega)]
  show wpAny _ _ (if ((es.length : Nat) : Int) ≥ 2 ^ 63 then _ else _) _ _ _; rw [if_neg (by omega)]
  exact wpAny_bind (wpAny_mkInt (wpAny_pure ⟨_, rfl, h⟩))
theorem n_truth {Q : Bool → Shared → Prop} (I : Inv X pins σ H s) (t : TabR H a es) (h : ∀ s', Inv X pins σ H s' → Q (!es.isEmpty) s') : wpAny (model X.prog X.w) A (truthy (.ref a)) Q E s := by
  obtain ⟨zz, hd, xs, rel, dd⟩ := t.raw I.hok
  have ne : ((es.length : Int) != 0) = !es.isEmpty := by cases es with
    | nil => rfl
    | cons q r => simp only [List.length_cons, List.isEmpty_cons, Bool.not_false, bne_iff_ne, ne_eq]; omega
  have run : wpAny (model X.prog X.w) A (runValue (.builtin "len" ⟨[.ref a], []⟩)) (fun v s' => v = .int es.length (s.toks + 1) ∧ Q (!es.isEmpty) s') E s := by
    refine wpAny_runValue (codeAny_builtin entry_len ?_); rw [Around.under_plainId plain_len _]
    refine wpAny_mono (n_lenBody (A := _) (E := _) (Q := fun v s' => v = .int es.length (s.toks + 1) ∧ Q (!es.isEmpty) s') I t ⟨rfl, h _ (I.tok _)⟩) (fun z s' hz => ?_) (fun _ _ z => z)
    obtain ⟨v, rfl, hv⟩ := hz; exact hv
  unfold truthy
  first
    | refine wpAny_bind (wpAny_callSpecial?_none (name := Str.ofString "__bool__") dd.typeIs noBool_dict ?_)
    | refine wpAny_bind (wpAny_pure (wpAny_bind (wpAny_callSpecial?_none (name := Str.ofString "__bool__") dd.typeIs noBool_dict ?_)))
  first
    | refine wpAny_bind (wpAny_specialOf (name := Str.ofString "__len__") dd.typeIs PySem.F.slot_dict_len.lookup ?_)
    | refine wpAny_bind (wpAny_pure (wpAny_bind (wpAny_specialOf (name := Str.ofString "__len__") dd.typeIs PySem.F.slot_dict_len.lookup ?_)))
  first
    | exact wpAny_bind (wpAny_mono run (fun v s' hv => by obtain ⟨rfl, q⟩ := hv; exact wpAny_pure (ne ▸ q)) fun _ _ z => z)
    | exact wpAny_bind (wpAny_pure (wpAny_bind (wpAny_mono run (fun v s' hv => by obtain ⟨rfl, q⟩ := hv; exact wpAny_pure (ne ▸ q)) fun _ _ z => z)))
end
end PD

set_option Elab.async false
set_option linter.all false
set_option maxRecDepth 100000
set_option maxHeartbeats 1000000
/-! PDDct: dicts as data: look, put; what the operations ask. -/
namespace PD
open PySem PySem.Spec PyProof.Rows L2

/-! ### tables of data -/
def lookD (kvs : List (D × D)) (k : D) : Option D := (kvs.find? fun p => PyData.eqv p.1 k).map (·.2)
def putD (kvs : List (D × D)) (k v : D) : List (D × D) :=
  if (kvs.any fun p => PyData.eqv p.1 k) = true then kvs.map (fun p => if PyData.eqv p.1 k = true then (p.1, v) else p) else kvs ++ [(k, v)]
/-- ints, None and tuples of such, n levels deep -/
def gdK : Nat → D → Bool
  | _, .none => true
  | _, .int _ => true
  | n + 1, .tuple xs => xs.all (gdK n)
  | _, _ => false
/-- a key's kind: an int or a text; a tuple -/
def kkOf : D → Option Bool
  | .int _ => some false
  | .str _ => some false
  | .tuple xs => if gdK 8 (.tuple xs) = true then some true else none
  | _ => none
def kkOk (kvs : List (D × D)) (k : D) : Bool := match kkOf k with
  | none => false
  | some b => match kvs with
    | [] => true
    | p :: _ => kkOf p.1 == some b
theorem eqv_kD (a b : Key) : PyData.eqv (kD a) (kD b) = decide (a = b) := by
  cases a with
  | inl i =>
    cases b with
    | inl j =>
      show PyData.eqv (.int i) (.int j) = _
      rw [key_ll]
      simp only [PyData.eqv]
    | inr y =>
      rw [key_lr]
      show PyData.eqv (.int i) (.str y) = false
      simp only [PyData.eqv]
  | inr x =>
    cases b with
    | inl j =>
      rw [key_rl]
      show PyData.eqv (.str x) (.int j) = false
      simp only [PyData.eqv]
    | inr y =>
      rw [key_rr]
      show PyData.eqv (.str x) (.str y) = _
      simp only [PyData.eqv]
      exact Bool.beq_eq_decide_eq x y
mutual
theorem eqv_nk : ∀ a b : NestedKey, PyData.eqv a.data b.data = NestedKey.beq a b
  | .none, .none => by simp only [NestedKey.data, PyData.eqv, NestedKey.beq]
  | .none, .num _ => by simp only [NestedKey.data, PyData.eqv, NestedKey.beq]
  | .none, .text _ => by simp only [NestedKey.data, PyData.eqv, NestedKey.beq]
  | .none, .tup _ => by simp only [NestedKey.data, PyData.eqv, NestedKey.beq]
  | .num _, .none => by simp only [NestedKey.data, PyData.eqv, NestedKey.beq]
  | .num a, .num b => by simp only [NestedKey.data, PyData.eqv, NestedKey.beq]; exact Bool.beq_eq_decide_eq a b
  | .num _, .text _ => by simp only [NestedKey.data, PyData.eqv, NestedKey.beq]
  | .num _, .tup _ => by simp only [NestedKey.data, PyData.eqv, NestedKey.beq]
  | .text _, .none => by simp only [NestedKey.data, PyData.eqv, NestedKey.beq]
  | .text _, .num _ => by simp only [NestedKey.data, PyData.eqv, NestedKey.beq]
  | .text a, .text b => by simp only [NestedKey.data, PyData.eqv, NestedKey.beq]; exact Bool.beq_eq_decide_eq a b
  | .text _, .tup _ => by simp only [NestedKey.data, PyData.eqv, NestedKey.beq]
  | .tup _, .none => by simp only [NestedKey.data, PyData.eqv, NestedKey.beq]
  | .tup _, .num _ => by simp only [NestedKey.data, PyData.eqv, NestedKey.beq]
  | .tup _, .text _ => by simp only [NestedKey.data, PyData.eqv, NestedKey.beq]
  | .tup a, .tup b => by simp only [NestedKey.data, PyData.eqv, NestedKey.beq]; exact eqv_nks a b
theorem eqv_nks : ∀ a b : List NestedKey, PyData.eqvAll (NestedKey.datas a) (NestedKey.datas b) = NestedKey.beqAll a b
  | [], [] => by simp only [NestedKey.datas, PyData.eqvAll, NestedKey.beqAll]
  | [], _ :: _ => by simp only [NestedKey.datas, PyData.eqvAll, NestedKey.beqAll]
  | _ :: _, [] => by simp only [NestedKey.datas, PyData.eqvAll, NestedKey.beqAll]
  | a :: as, b :: bs => by simp only [NestedKey.datas, PyData.eqvAll, NestedKey.beqAll]; rw [eqv_nk a b, eqv_nks as bs]
end
theorem eqv_data (a b : NestedKey) : PyData.eqv a.data b.data = decide (a = b) := by rw [eqv_nk, NestedKey.decide_eq]
theorem nk_of : ∀ (n : Nat) (d : D), gdK n d = true → ∃ k : NestedKey, k.data = d ∧ noTxt k = true ∧ k.depth ≤ n := by
  intro n
  induction n with
  | zero =>
    intro d h
    cases d with
    | none => exact ⟨.none, rfl, rfl, Nat.le_refl _⟩
    | int i => exact ⟨.num i, rfl, rfl, Nat.le_refl _⟩
    | _ => cases h
  | succ n ih =>
    intro d h
    cases d with
    | none => exact ⟨.none, rfl, rfl, Nat.zero_le _⟩
    | int i => exact ⟨.num i, rfl, rfl, Nat.zero_le _⟩
    | tuple xs =>
      have h : xs.all (gdK n) = true := h
      have : ∀ xs : List D, xs.all (gdK n) = true → ∃ ks, NestedKey.datas ks = xs ∧ noTxts ks = true ∧ NestedKey.depthAll ks ≤ n := by
        intro xs
        induction xs with
        | nil => exact fun _ => ⟨[], rfl, rfl, Nat.zero_le _⟩
        | cons x xs ih2 =>
          intro h
          rw [List.all_cons, Bool.and_eq_true_iff] at h
          obtain ⟨k, e1, e2, e3⟩ := ih x h.1
          obtain ⟨ks, f1, f2, f3⟩ := ih2 h.2
          refine ⟨k :: ks, ?_, ?_, ?_⟩
          · show k.data :: NestedKey.datas ks = _
            rw [e1, f1]
          · exact Bool.and_eq_true_iff.mpr ⟨e2, f2⟩
          · simp only [NestedKey.depthAll]
            omega
      obtain ⟨ks, f1, f2, f3⟩ := this xs h
      refine ⟨.tup ks, ?_, f2, ?_⟩
      · show PyData.tuple (NestedKey.datas ks) = _
        rw [f1]
      · simp only [NestedKey.depth]
        omega
    | _ => cases h
mutual
theorem gdK_of : ∀ (k : NestedKey) (n : Nat), noTxt k = true → k.depth ≤ n → gdK n k.data = true
  | .none, n, _, _ => by cases n <;> rfl
  | .num _, n, _, _ => by cases n <;> rfl
  | .text _, _, h, _ => by cases h
  | .tup ks, n, h, hd => by
    simp only [NestedKey.depth] at hd
    cases n with
    | zero => omega
    | succ n => exact gdKs_of ks n h (by omega)
theorem gdKs_of : ∀ (ks : List NestedKey) (n : Nat), noTxts ks = true → NestedKey.depthAll ks ≤ n → (NestedKey.datas ks).all (gdK n) = true
  | [], _, _, _ => rfl
  | k :: ks, n, h, hd => by
    obtain ⟨n1, n2⟩ := Bool.and_eq_true_iff.mp (show (noTxt k && noTxts ks) = true from h)
    simp only [NestedKey.depthAll] at hd
    show (k.data :: NestedKey.datas ks).all (gdK n) = true
    rw [List.all_cons, gdK_of k n n1 (by omega), gdKs_of ks n n2 (by omega)]
    rfl
end
theorem kk_flat {d : D} (h : kkOf d = some false) : ∃ k : Key, d = kD k := by
  cases d with
  | int i => exact ⟨.inl i, rfl⟩
  | str x => exact ⟨.inr x, rfl⟩
  | tuple xs =>
    have h : (if gdK 8 (.tuple xs) = true then some true else none) = some false := h
    split at h <;> cases h
  | _ => cases h
theorem kk_nest {d : D} (h : kkOf d = some true) : ∃ k : NestedKey, k.data = d ∧ goodN k = true := by
  cases d with
  | tuple xs =>
    have h : (if gdK 8 (.tuple xs) = true then some true else none) = some true := h
    by_cases g : gdK 8 (.tuple xs) = true
    · obtain ⟨k, e1, e2, e3⟩ := nk_of 8 _ g
      refine ⟨k, e1, ?_⟩
      unfold goodN
      rw [e2, decide_eq_true e3]
      cases k with
      | tup ks => rfl
      | none => cases e1
      | num i => cases e1
      | text x => cases e1
    · rw [if_neg g] at h; cases h
  | _ => cases h
theorem kk_kD (k : Key) : kkOf (kD k) = some false := by cases k <;> rfl
theorem kk_data {k : NestedKey} (g : goodN k = true) : kkOf k.data = some true := by
  obtain ⟨⟨ks, rfl⟩, g2, g3⟩ := goodN_inv g
  show (if gdK 8 (NestedKey.tup ks).data = true then some true else none) = some true
  rw [if_pos (gdK_of _ 8 g2 g3)]
/-! ### against the heap -/
def RpO (G : Hp) : Option V → Option D → Prop
  | some v, some d => Rp G v d
  | none, none => True
  | _, _ => False
section
variable {G H : Hp} {a : Addr} {kvs : List (D × D)}
theorem RpK.look : ∀ {es : List (Key × V)} {kvs : List (D × D)}, RpK G es kvs → ∀ k : Key, RpO G (valV es k) (lookD kvs (kD k))
  | _, _, .nil, k => True.intro
  | _, _, .cons (k := j) (v := v) (d := d) (es := es) (kvs := kvs) r t, k => by
    by_cases e : j = k
    · have e1 : lookD ((kD j, d) :: kvs) (kD k) = some d := by
        unfold lookD
        rw [List.find?_cons, eqv_kD, decide_eq_true e]
        rfl
      rw [valV_pos (p := (j, v)) e, e1]
      exact r
    · have e1 : lookD ((kD j, d) :: kvs) (kD k) = lookD kvs (kD k) := by
        unfold lookD
        rw [List.find?_cons, eqv_kD, decide_eq_false e]
      rw [valV_neg (p := (j, v)) e, e1]
      exact RpK.look t k
theorem RpN.look : ∀ {es : List (NestedKey × V × V)} {kvs : List (D × D)}, RpN G es kvs → ∀ k : NestedKey, RpO G (valN es k) (lookD kvs k.data)
  | _, _, .nil, k => True.intro
  | _, _, .cons (k := j) (u := u) (v := v) (d := d) (es := es) (kvs := kvs) _ r t, k => by
    by_cases e : j = k
    · have e1 : lookD ((j.data, d) :: kvs) k.data = some d := by
        unfold lookD
        rw [List.find?_cons, eqv_data, decide_eq_true e]
        rfl
      have e2 : valN ((j, u, v) :: es) k = some v := by simp [valN, List.find?_cons, e]
      rw [e2, e1]
      exact r
    · have e1 : lookD ((j.data, d) :: kvs) k.data = lookD kvs k.data := by
        unfold lookD
        rw [List.find?_cons, eqv_data, decide_eq_false e]
      have e2 : valN ((j, u, v) :: es) k = valN es k := by simp [valN, List.find?_cons, e]
      rw [e2, e1]
      exact RpN.look t k
theorem RpK.any : ∀ {es : List (Key × V)} {kvs : List (D × D)}, RpK G es kvs → ∀ k : Key, (es.any fun q => decide (q.1 = k)) = kvs.any fun p => PyData.eqv p.1 (kD k)
  | _, _, .nil, k => rfl
  | _, _, .cons (k := j) r t, k => by rw [List.any_cons, List.any_cons, RpK.any t k, eqv_kD]
theorem RpN.any : ∀ {es : List (NestedKey × V × V)} {kvs : List (D × D)}, RpN G es kvs → ∀ k : NestedKey, (es.any fun q => decide (q.1 = k)) = kvs.any fun p => PyData.eqv p.1 k.data
  | _, _, .nil, k => rfl
  | _, _, .cons (k := j) _ r t, k => by rw [List.any_cons, List.any_cons, RpN.any t k, eqv_data]
theorem RpK.snoc {k : Key} {v : V} {d : D} (r : Rp G v d) : ∀ {es : List (Key × V)} {kvs : List (D × D)}, RpK G es kvs → RpK G (es ++ [(k, v)]) (kvs ++ [(kD k, d)])
  | _, _, .nil => .cons r .nil
  | _, _, .cons q t => .cons q (RpK.snoc r t)
theorem RpN.snoc {k : NestedKey} {y v : V} {d : D} (ry : Rp G y k.data) (r : Rp G v d) : ∀ {es : List (NestedKey × V × V)} {kvs : List (D × D)}, RpN G es kvs → RpN G (es ++ [(k, y, v)]) (kvs ++ [(k.data, d)])
  | _, _, .nil => .cons ry r .nil
  | _, _, .cons q p t => .cons q p (RpN.snoc ry r t)
theorem RpK.repl {k : Key} {v : V} {d : D} (r : Rp G v d) : ∀ {es : List (Key × V)} {kvs : List (D × D)}, RpK G es kvs →
    RpK G (es.map fun kv => if kv.1 = k then (kv.1, v) else kv) (kvs.map fun p => if PyData.eqv p.1 (kD k) = true then (p.1, d) else p)
  | _, _, .nil => .nil
  | _, _, .cons (k := j) q t => by
    rw [List.map_cons, List.map_cons]
    by_cases e : j = k
    · rw [if_pos e, if_pos (by rw [eqv_kD, decide_eq_true e])]
      exact .cons r (RpK.repl r t)
    · rw [if_neg e, if_neg (by rw [eqv_kD, decide_eq_false e]; decide)]
      exact .cons q (RpK.repl r t)
theorem RpN.repl {k : NestedKey} {v : V} {d : D} (r : Rp G v d) : ∀ {es : List (NestedKey × V × V)} {kvs : List (D × D)}, RpN G es kvs →
    RpN G (es.map fun q => if q.1 = k then (q.1, q.2.1, v) else q) (kvs.map fun p => if PyData.eqv p.1 k.data = true then (p.1, d) else p)
  | _, _, .nil => .nil
  | _, _, .cons (k := j) q1 q t => by
    rw [List.map_cons, List.map_cons]
    by_cases e : j = k
    · rw [if_pos e, if_pos (by rw [eqv_data, decide_eq_true e])]
      exact .cons q1 r (RpN.repl r t)
    · rw [if_neg e, if_neg (by rw [eqv_data, decide_eq_false e]; decide)]
      exact .cons q1 q (RpN.repl r t)
theorem RpK.put {es : List (Key × V)} (t : RpK G es kvs) {k : Key} {v : V} {d : D} (r : Rp G v d) : RpK G (putK es k v) (putD kvs (kD k) d) := by
  unfold putK putD
  rw [← t.any k]
  by_cases e : (es.any fun q => decide (q.1 = k)) = true
  · rw [if_pos e, if_pos e]; exact t.repl r
  · rw [if_neg e, if_neg e]; exact t.snoc r
theorem RpN.put {es : List (NestedKey × V × V)} (t : RpN G es kvs) {k : NestedKey} {y v : V} {d : D} (ry : Rp G y k.data) (r : Rp G v d) : RpN G (putN es k y v) (putD kvs k.data d) := by
  unfold putN putD
  rw [← t.any k]
  by_cases e : (es.any fun q => decide (q.1 = k)) = true
  · rw [if_pos e, if_pos e]; exact t.repl r
  · rw [if_neg e, if_neg e]; exact t.snoc ry r
theorem RpK.len : ∀ {es : List (Key × V)} {kvs : List (D × D)}, RpK G es kvs → es.length = kvs.length
  | _, _, .nil => rfl
  | _, _, .cons _ t => congrArg (· + 1) (RpK.len t)
theorem RpN.len : ∀ {es : List (NestedKey × V × V)} {kvs : List (D × D)}, RpN G es kvs → es.length = kvs.length
  | _, _, .nil => rfl
  | _, _, .cons _ _ t => congrArg (· + 1) (RpN.len t)
theorem RpN.keysH (s : Same G H) : ∀ {es : List (NestedKey × V × V)} {kvs : List (D × D)}, RpN G es kvs → ∀ q ∈ es, Rp H q.2.1 q.1.data
  | _, _, .nil, q, hq => (nomatch hq)
  | _, _, .cons r1 r2 t, q, hq => by
    rcases List.mem_cons.mp hq with rfl | hq
    · exact Rp.mono s _ _ r1
    · exact RpN.keysH s t q hq
/-- what is at hand of a dict at a key -/
def GG (H : Hp) (a : Addr) (y : V) (o : Option V) : Prop := (∃ es k, Rd H a (.dK es) ∧ y = kV k ∧ o = valV es k) ∨
  ∃ es k b, TabR H a es ∧ goodN k = true ∧ y = .ref b ∧ Rp H (.ref b) k.data ∧ o = valN es k
theorem rp_kV {k : Key} {y : V} (r : Rp G y (kD k)) : y = kV k := by
  cases k with
  | inl i =>
    have r : Rp G y (.int i) := r
    cases r; rfl
  | inr x =>
    have r : Rp G y (.str x) := r
    cases r; rfl
theorem kk_split {kd : D} (hk : kkOk kvs kd = true) : (∃ k : Key, kd = kD k ∧ ∀ p r, kvs = p :: r → kkOf p.1 = some false) ∨ ∃ k : NestedKey, k.data = kd ∧ goodN k = true ∧ ∀ p r, kvs = p :: r → kkOf p.1 = some true := by
  unfold kkOk at hk
  cases e : kkOf kd with
  | none => rw [e] at hk; cases hk
  | some b =>
    rw [e] at hk
    have hh : ∀ p r, kvs = p :: r → kkOf p.1 = some b := fun p r z => by
      subst z
      exact beq_iff_eq.mp hk
    cases b with
    | false =>
      obtain ⟨k, e1⟩ := kk_flat e
      exact .inl ⟨k, e1, hh⟩
    | true =>
      obtain ⟨k, e1, e2⟩ := kk_nest e
      exact .inr ⟨k, e1, e2, hh⟩
theorem RpN.flat_no {es : List (NestedKey × V × V)} (N : OkN a es) (t : RpN G es kvs) (h : ∀ p r, kvs = p :: r → kkOf p.1 = some false) : False := by
  cases t with
  | nil => exact N.ne rfl
  | cons r1 r2 t =>
    have e := h _ _ rfl
    rw [kk_data (N.good _ List.mem_cons_self)] at e
    cases e
theorem RpK.nest_nil {es : List (Key × V)} (t : RpK G es kvs) (h : ∀ p r, kvs = p :: r → kkOf p.1 = some true) : es = [] ∧ kvs = [] := by
  cases t with
  | nil => exact ⟨rfl, rfl⟩
  | cons r t =>
    have e := h _ _ rfl
    rw [kk_kD] at e
    cases e
theorem gg_of (s : Same G H) (h : DictRd G H a kvs) {y : V} {kd : D} (r : Rp G y kd) (hk : kkOk kvs kd = true) : ∃ o, GG H a y o ∧ RpO G o (lookD kvs kd) := by
  rcases kk_split hk with ⟨k, rfl, hh⟩ | ⟨k, rfl, g, hh⟩
  · obtain rfl := rp_kV r
    rcases h with ⟨es, h, t⟩ | ⟨es, h, N, t⟩
    · exact ⟨_, .inl ⟨es, k, h, rfl, rfl⟩, t.look k⟩
    · exact (t.flat_no N hh).elim
  · obtain ⟨b, rfl⟩ := key_ref g r
    rcases h with ⟨es, h, t⟩ | ⟨es, h, N, t⟩
    · obtain ⟨rfl, rfl⟩ := t.nest_nil hh
      exact ⟨none, .inr ⟨[], k, b, .inl ⟨rfl, h⟩, g, rfl, Rp.mono s _ _ r, rfl⟩, True.intro⟩
    · exact ⟨_, .inr ⟨es, k, b, .inr ⟨N, h, t.keysH s⟩, g, rfl, Rp.mono s _ _ r, rfl⟩, t.look k⟩
end
/-! ### readings -/
section
variable {X : Cx} {pins : List (Addr × Obj)} {σ : L2.St} {H : Hp} {s : Shared} {a : Addr} {y v d : V} {u r : Value} {o : Option V}
theorem gg_type (I : Inv X pins σ H s) (g : GG H a y o) : s.TypeIs (.ref a) "dict" ∧ (∀ b, Value.ref a = .ref b → ∃ ob, s.heap.get? b = some ob ∧ ob.dict = none) ∧ (a == sysModules) = false := by
  rcases g with ⟨es, k, e, _, _⟩ | ⟨es, k, b, t, _, _, _, _⟩
  · obtain ⟨_, hd, vs, _, dd⟩ := dk_rd I.hok e
    refine ⟨dd.typeIs, fun b q => ?_, hd⟩
    cases q
    obtain ⟨ob, _, _, h1, h2, _⟩ := dd
    exact ⟨ob, h1, h2.2.1⟩
  · obtain ⟨_, hd, xs, _, dd⟩ := t.raw I.hok
    refine ⟨dd.typeIs, fun b q => ?_, hd⟩
    cases q
    obtain ⟨ob, _, _, h1, h2, _⟩ := dd
    exact ⟨ob, h1, h2.2.1⟩
theorem gg_dget {es : List (Key × V)} {k : Key} (e : Rd H a (.dK es)) : DGet H a (kV k) (valV es k) := .inl ⟨es, k, e, rfl, rfl⟩
def rInG (neg : Bool) : R2 := fun y x H Q => ∃ a o, x = .ref a ∧ GG H a y o ∧ Q (.bl (if neg then !o.isSome else o.isSome)) H
theorem op_inG (hu : X.A.units + 10 < cLine) : OpR X (compareOp .In) (rInG false) := by
  intro pins s σ H x y v u Q I rx ry h
  obtain ⟨a, o, rfl, g, q⟩ := h
  obtain rfl : u = Value.ref a := ry
  rcases g with ⟨es, k, e, rfl, rfl⟩ | ⟨es, k, b, t, g, rfl, rk, rfl⟩
  · exact d_in (by omega) I (gg_dget e) rx fun s' I' => ⟨.bl _, _, I', rfl, q⟩
  · obtain rfl : v = Value.ref b := rx
    exact n_in hu I t g rk fun s' I' => ⟨.bl _, _, I', rfl, q⟩
theorem op_notInG (hu : X.A.units + 10 < cLine) : OpR X (compareOp .NotIn) (rInG true) := by
  intro pins s σ H x y v u Q I rx ry h
  obtain ⟨a, o, rfl, g, q⟩ := h
  obtain rfl : u = Value.ref a := ry
  rcases g with ⟨es, k, e, rfl, rfl⟩ | ⟨es, k, b, t, g, rfl, rk, rfl⟩
  · exact d_notIn (by omega) I (gg_dget e) rx fun s' I' => ⟨.bl _, _, I', rfl, q⟩
  · obtain rfl : v = Value.ref b := rx
    exact n_notIn hu I t g rk fun s' I' => ⟨.bl _, _, I', rfl, q⟩
def rIxG : R2 := fun x y H Q => ∃ a v, x = .ref a ∧ GG H a y (some v) ∧ Q v H
theorem ix_G (hu : X.A.units + 10 < cLine) : IxR X rIxG := by
  intro value slice pins s σ H x y v u Q I rx ry h hs
  obtain ⟨a, z, rfl, g, q⟩ := h
  obtain rfl : v = Value.ref a := rx
  obtain ⟨ht, _, _⟩ := gg_type I g
  refine tail_any ht PySem.F.slot_dict_getitem.lookup ?_ hs
  rcases g with ⟨es, k, e, rfl, e2⟩ | ⟨es, k, b, t, g, rfl, rk, e2⟩
  · have g := gg_dget (k := k) e
    rw [← e2] at g
    exact d_getItem (by omega) I g ry fun w' s' I' rw' => ⟨z, _, I', rw', q⟩
  · obtain rfl : u = Value.ref b := ry
    exact n_getItem hu I t g rk e2.symm fun w' s' I' rw' => ⟨z, _, I', rw', q⟩
/-- how many entries -/
def LenG (H : Hp) (a : Addr) (n : Nat) : Prop := (∃ es, Rd H a (.dK es) ∧ n = es.length) ∨ ∃ es, TabR H a es ∧ n = es.length
theorem lenG_of {G : Hp} {kvs : List (D × D)} (s : Same G H) (h : DictRd G H a kvs) : LenG H a kvs.length := by
  rcases h with ⟨es, h, t⟩ | ⟨es, h, N, t⟩
  · exact .inl ⟨es, h, t.len.symm⟩
  · exact .inr ⟨es, .inr ⟨N, h, t.keysH s⟩, t.len.symm⟩
theorem call_lenG : CallR X (.builtin "len") (fun xs H Q => ∃ a n, xs = [.ref a] ∧ LenG H a n ∧ Q (.int n) H) := by
  intro pins s σ H xs us Q I rr h
  obtain ⟨a, n, rfl, l, q⟩ := h
  obtain rfl := Vals.ref1 rr
  rcases l with ⟨es, e, rfl⟩ | ⟨es, t, rfl⟩
  · exact d_len I e fun t s' I' => ⟨.int _, _, I', ⟨t, rfl⟩, q⟩
  · exact n_len I t fun t s' I' => ⟨.int _, _, I', ⟨t, rfl⟩, q⟩
/-- whether it is empty -/
def EmpG (H : Hp) (a : Addr) (b : Bool) : Prop := (∃ es, Rd H a (.dK es) ∧ b = es.isEmpty) ∨ ∃ es, TabR H a es ∧ b = es.isEmpty
theorem RpK.emp {G : Hp} {es : List (Key × V)} {kvs : List (D × D)} (t : RpK G es kvs) : es.isEmpty = kvs.isEmpty := by cases t <;> rfl
theorem RpN.emp {G : Hp} {es : List (NestedKey × V × V)} {kvs : List (D × D)} (t : RpN G es kvs) : es.isEmpty = kvs.isEmpty := by cases t <;> rfl
theorem empG_of {G : Hp} {kvs : List (D × D)} (s : Same G H) (h : DictRd G H a kvs) : EmpG H a kvs.isEmpty := by
  rcases h with ⟨es, h, t⟩ | ⟨es, h, N, t⟩
  · exact .inl ⟨es, h, t.emp.symm⟩
  · exact .inr ⟨es, .inr ⟨N, h, t.keysH s⟩, t.emp.symm⟩
/-- truth, dicts too -/
def TruA (K : PySem.W.Frag) (x : V) (H : Hp) (k : Bool) : Prop := TruV K x H k ∨ ∃ a b, x = .ref a ∧ EmpG H a b ∧ k = !b
theorem tru_A : TruR X (fun x H Q => ∃ k, TruA X.K x H k ∧ Q k H) := by
  intro pins s σ H x v Q I rx h
  obtain ⟨k, t | ⟨a, b, rfl, e, rfl⟩, q⟩ := h
  · exact tru_ok pins s σ H x v Q I rx ⟨k, t, q⟩
  · obtain rfl : v = Value.ref a := rx
    rcases e with ⟨es, e, rfl⟩ | ⟨es, t, rfl⟩
    · exact d_truth I e fun s' I' => ⟨_, I', q⟩
    · exact n_truth I t fun s' I' => ⟨_, I', q⟩
theorem pe_notA {e : Expr} {pos : Pos} {ta : TE} (ha : PE X e ta) : PE X (.UnaryOp .Not e pos) (fun σ H Q => ta σ H fun x H1 => ∃ k, TruA X.K x H1 k ∧ Q (.bl (!k)) H1) := by
  refine ⟨fun pins s σ H Q I h => ?_⟩
  refine UnaryOp_ (thn (ha.run pins s σ H _ I h) fun v s1 ⟨x, H1, I1, r1, k, e, q1⟩ => ?_)
  exact not_of (thn (tru_A pins s1 σ H1 x v (fun c H2 => Q (.bl (!c)) H2) I1 r1 ⟨k, e, q1⟩) fun c s2 ⟨H2, I2, q2⟩ => ⟨.bl (!c), H2, I2, rfl, q2⟩)
def rGet1 : V → List V → Hp → VK → Prop := fun x xs H Q => ∃ a y o, x = .ref a ∧ xs = [y] ∧ GG H a y o ∧ Q (o.getD .non) H
def rGet2 : V → List V → Hp → VK → Prop := fun x xs H Q => ∃ a y d o, x = .ref a ∧ xs = [y, d] ∧ GG H a y o ∧ Q (o.getD d) H
theorem mt_get1 (hu : X.A.units + 10 < cLine) : MtR X "dict.get" rGet1 := by
  intro pins s σ H x xs v us Q I rx rs h
  obtain ⟨a, y, o, rfl, rfl, g, q⟩ := h
  obtain rfl : v = Value.ref a := rx
  cases rs with
  | cons r1 t =>
    cases t
    rcases g with ⟨es, k, e, rfl, rfl⟩ | ⟨es, k, b, t, g, rfl, rk, rfl⟩
    · exact d_get1 (by omega) I (gg_dget e) r1 fun w' s' I' rw' => ⟨_, _, I', rw', q⟩
    · cases r1
      exact n_get1 hu I t g rk fun w' s' I' rw' => ⟨_, _, I', rw', q⟩
theorem mt_get2 (hu : X.A.units + 10 < cLine) : MtR X "dict.get" rGet2 := by
  intro pins s σ H x xs v us Q I rx rs h
  obtain ⟨a, y, d, o, rfl, rfl, g, q⟩ := h
  obtain rfl : v = Value.ref a := rx
  cases rs with
  | cons r1 t =>
    cases t with
    | cons r2 t =>
      cases t
      rcases g with ⟨es, k, e, rfl, rfl⟩ | ⟨es, k, b, t, g, rfl, rk, rfl⟩
      · exact d_get2 (by omega) I (gg_dget e) r1 r2 fun w' s' I' rw' => ⟨_, _, I', rw', q⟩
      · cases r1
        exact n_get2 hu I t g rk r2 fun w' s' I' rw' => ⟨_, _, I', rw', q⟩
/-- o[i] = v -/
def rSetG : TSet := fun o i v H Q => ∃ a, o = .ref a ∧ ((∃ es k, H a = some (.dK es) ∧ i = kV k ∧ es.length < sizeLine ∧ Q (upd H a (.dK (putK es k v)))) ∨
  ∃ es k b, TabN H a es ∧ goodN k = true ∧ i = .ref b ∧ Rp H (.ref b) k.data ∧ es.length < sizeLine ∧ (OkN a (putN es k (.ref b) v) → Q (upd H a (dN a (putN es k (.ref b) v)))))
theorem set_G (hu : X.A.units + 10 < cLine) : PSet X rSetG := by
  intro pins s σ H o i v ov iv u Q I ro ri rv h
  obtain ⟨a, rfl, h⟩ := h
  obtain rfl : ov = Value.ref a := ro
  rcases h with ⟨es, k, e, rfl, hl, q⟩ | ⟨es, k, b, t, g, rfl, rk, hl, q⟩
  · exact d_setItem (by omega) I (DPut.k e hl) ri rv fun s' I' => ⟨_, I', q⟩
  · obtain rfl : iv = Value.ref b := ri
    exact n_setItem hu I t g rk rv hl fun s' I' N => ⟨_, I', q N⟩
theorem setG_of {G : Hp} {kvs : List (D × D)} {Q : Hp → Prop} {kd vd : D} (s : Same G H) (h : DictOk G H a kvs) (r : Rp G y kd) (rv : Rp G v vd) (hk : kkOk kvs kd = true) (hl : kvs.length < sizeLine)
    (go : ∀ u, DictOk G (upd H a u) a (putD kvs kd vd) → Q (upd H a u)) : rSetG (.ref a) y v H Q := by
  refine ⟨a, rfl, ?_⟩
  rcases kk_split hk with ⟨k, rfl, hh⟩ | ⟨k, rfl, g, hh⟩
  · obtain rfl := rp_kV r
    rcases h with ⟨es, h, t⟩ | ⟨es, h, N, t⟩
    · exact .inl ⟨es, k, h, rfl, by rw [t.len]; exact hl, go _ (.inl ⟨_, upd_same, t.put rv⟩)⟩
    · exact (t.flat_no N hh).elim
  · obtain ⟨b, rfl⟩ := key_ref g r
    rcases h with ⟨es, h, t⟩ | ⟨es, h, N, t⟩
    · obtain ⟨rfl, rfl⟩ := t.nest_nil hh
      exact .inr ⟨[], k, b, .inl ⟨rfl, h⟩, g, rfl, Rp.mono s _ _ r, hl, fun N => go _ (.inr ⟨_, upd_same, N, (RpN.nil).put r rv⟩)⟩
    · exact .inr ⟨es, k, b, .inr ⟨N, h, t.keysH s⟩, g, rfl, Rp.mono s _ _ r, by rw [t.len]; exact hl, fun N => go _ (.inr ⟨_, upd_same, N, t.put r rv⟩)⟩
end
end PD

set_option Elab.async false
set_option linter.all false
set_option maxRecDepth 100000
set_option maxHeartbeats 1000000
/-! PDOps2: comparisons, subscripts, slices, argument lists, built-ins. -/
namespace PD
open PySem PySem.Spec PyProof.Rows L2

section
variable {K : PySem.W.Frag} {E : XW} {σ : L2.St} {c : Cf} {Q : VK}
/-! ### comparisons -/
def dCmp (p : Int → Int → Bool) : D → D → Option D
  | .int i, .int j => some (.bool (p i j))
  | _, _ => none
def dLt : D → D → Option D := dCmp fun i j => decide (i < j)
def dLe : D → D → Option D := dCmp fun i j => decide (i ≤ j)
def dGt : D → D → Option D := dCmp fun i j => decide (j < i)
def dGe : D → D → Option D := dCmp fun i j => decide (j ≤ i)
theorem dCmp_inv {p : Int → Int → Bool} {x y d : D} (h : dCmp p x y = some d) : ∃ i j, x = .int i ∧ y = .int j ∧ d = .bool (p i j) := by
  cases x with
  | int i =>
    cases y with
    | int j =>
      have h : some (PyData.bool (p i j)) = some d := h
      cases h
      exact ⟨i, j, rfl, rfl, rfl⟩
    | _ => cases h
  | _ => cases y <;> cases h
theorem r_cmp {p : Int → Int → Bool} : R2Ok K E (dat2 (dCmp p)) (rI0 fun i j => .bl (p i j)) := r2_dat fun σ c Q v u x y d o hv hu e k => by
  obtain ⟨i, j, rfl, rfl, rfl⟩ := dCmp_inv e
  have hv : Rp c.G v (.int i) := hv
  have hu : Rp c.G u (.int j) := hu
  cases hv; cases hu
  exact ⟨i, j, rfl, rfl, k.here o (.bl _)⟩
def dEq (x y : D) : Option D := if SeqAt.shaped x && SeqAt.shaped y then some (.bool (PyData.eqv x y)) else none
def dNe (x y : D) : Option D := if SeqAt.shaped x && SeqAt.shaped y then some (.bool (!PyData.eqv x y)) else none
theorem r_eq : R2Ok K E (dat2D dEq) (rEqD K) := r2_datD fun σ c Q v u x y d o hv hu e k => by
  unfold dEq at e
  by_cases h : (SeqAt.shaped x && SeqAt.shaped y) = true
  · rw [if_pos h] at e
    cases e
    obtain ⟨h1, h2⟩ := Bool.and_eq_true_iff.mp h
    exact ⟨x, y, hv.dp (noDic_shaped h1) o.sub, hu.dp (noDic_shaped h2) o.sub, h1, h2, k.here o (.bl _)⟩
  · rw [if_neg h] at e; cases e
theorem r_ne : R2Ok K E (dat2D dNe) (rNeD K) := r2_datD fun σ c Q v u x y d o hv hu e k => by
  unfold dNe at e
  by_cases h : (SeqAt.shaped x && SeqAt.shaped y) = true
  · rw [if_pos h] at e
    cases e
    obtain ⟨h1, h2⟩ := Bool.and_eq_true_iff.mp h
    exact ⟨x, y, hv.dp (noDic_shaped h1) o.sub, hu.dp (noDic_shaped h2) o.sub, h1, h2, k.here o (.bl _)⟩
  · rw [if_neg h] at e; cases e
/-- is None -/
def isN : D → Bool
  | .none => true
  | _ => false
def dIsN (x y : D) : Option D := if isN y then some (.bool (isN x)) else none
def dNotN (x y : D) : Option D := if isN y then some (.bool (!isN x)) else none
theorem vw_non {G H : Hp} {v : V} {x : D} (h : Vw K G H v x) : decide (v = .non) = isN x := by
  cases x with
  | none => have h : Rp G v .none := h; cases h; rfl
  | bool b => have h : Rp G v (.bool b) := h; cases h; rfl
  | int b => have h : Rp G v (.int b) := h; cases h; rfl
  | str b => have h : Rp G v (.str b) := h; cases h; rfl
  | list b => obtain ⟨a, vs, rfl, _⟩ := h; rfl
  | tuple b => obtain ⟨a, vs, rfl, _⟩ := h; rfl
  | dict b => obtain ⟨a, rfl, _⟩ := h; rfl
theorem isN_eq {y : D} (h : isN y = true) : y = .none := by cases y <;> first | rfl | cases h
theorem r_isN : R2Ok K E (dat2 dIsN) (fun x y H Q => y = .non ∧ Q (.bl (decide (x = .non))) H) := r2_dat fun σ c Q v u x y d o hv hu e k => by
  unfold dIsN at e
  by_cases h : isN y = true
  · rw [if_pos h] at e
    cases e
    obtain rfl := isN_eq h
    have hu : Rp c.G u .none := hu
    cases hu
    refine ⟨rfl, ?_⟩
    rw [vw_non hv]
    exact k.here o (.bl _)
  · rw [if_neg h] at e; cases e
theorem r_notN : R2Ok K E (dat2 dNotN) (fun x y H Q => y = .non ∧ Q (.bl (!decide (x = .non))) H) := r2_dat fun σ c Q v u x y d o hv hu e k => by
  unfold dNotN at e
  by_cases h : isN y = true
  · rw [if_pos h] at e
    cases e
    obtain rfl := isN_eq h
    have hu : Rp c.G u .none := hu
    cases hu
    refine ⟨rfl, ?_⟩
    rw [vw_non hv]
    exact k.here o (.bl _)
  · rw [if_neg h] at e; cases e
/-! ### in, not in: flat things in lists and tuples, any data in lists -/
def flatD : D → Bool
  | .none => true | .bool _ => true | .int _ => true | .str _ => true | _ => false
theorem flat_rp {G : Hp} {v : V} {d : D} (h : Rp G v d) (f : flatD d = true) : flatV v = true := by
  cases h <;> first | rfl | cases f
theorem flat_rps {G : Hp} : ∀ {vs : List V} {ds : List D}, RpAll G vs ds → ds.all flatD = true → vs.all flatV = true
  | _, _, .nil, _ => rfl
  | _, _, .cons h t, f => by
    rw [List.all_cons, Bool.and_eq_true_iff] at f ⊢
    exact ⟨flat_rp h f.1, flat_rps t f.2⟩
theorem eqv_rp {G G' : Hp} {v w : V} {d e : D} (h : Rp G v d) (h' : Rp G' w e) (f : flatD d = true) (f' : flatD e = true) : eqV v w = PyData.eqv d e := by
  cases h <;> cases h' <;> first | (cases f; done) | (cases f'; done) | (simp only [PyData.eqv]; rfl)
theorem inv_rp {G G' : Hp} {w : V} {e : D} (h' : Rp G' w e) (f' : flatD e = true) : ∀ {vs : List V} {ds : List D}, RpAll G vs ds → ds.all flatD = true → inV w vs = ds.any fun z => PyData.eqv z e
  | _, _, .nil, _ => rfl
  | _, _, .cons h t, f => by
    rw [List.all_cons, Bool.and_eq_true_iff] at f
    have ih := inv_rp h' f' t f.2
    unfold inV at ih ⊢
    rw [List.any_cons, List.any_cons, ih, eqv_rp h h' f.1 f']
def dIn (neg : Bool) (x y : D) : Option D := match y with
  | .list ds => if flatD x && ds.all flatD || SeqAt.shaped x && SeqAt.shaped (.list ds) then some (.bool (if neg then !ds.any fun z => PyData.eqv z x else ds.any fun z => PyData.eqv z x)) else none
  | .tuple ds => if flatD x && ds.all flatD then some (.bool (if neg then !ds.any fun z => PyData.eqv z x else ds.any fun z => PyData.eqv z x)) else none
  | .dict kvs => if kkOk kvs x then some (.bool (if neg then !(lookD kvs x).isSome else (lookD kvs x).isSome)) else none
  | _ => none
def rInA (K : PySem.W.Frag) (neg : Bool) : R2 := fun x y H Q => rIn K neg x y H Q ∨ ((if neg then rNotInD K x y H Q else rInD K x y H Q) ∨ rInG neg x y H Q)
theorem RpO.same {G : Hp} {o : Option V} {d : Option D} (r : RpO G o d) : o.isSome = d.isSome := by
  cases o <;> cases d <;> first | rfl | exact r.elim
/-- a key is among what never changes -/
theorem Vt.key {G H : Hp} {v : V} {x : D} {kvs : List (D × D)} (h : Vt G H v x) (hk : kkOk kvs x = true) : Rp G v x := by
  cases x with
  | list ds => unfold kkOk at hk; cases hk
  | dict ds => unfold kkOk at hk; cases hk
  | _ => exact h
theorem Vt.rp_flat {G H : Hp} {v : V} {x : D} (h : Vt G H v x) (f : flatD x = true) : Rp G v x := by
  cases x <;> first | exact h | cases f
theorem op_inA {X : Cx} (hu : X.A.units + 65 < cLine) : OpR X (compareOp .In) (rInA X.K false) := op_in_seq.or ((op_inD hu).or (op_inG (by omega)))
theorem op_notInA {X : Cx} (hu : X.A.units + 65 < cLine) : OpR X (compareOp .NotIn) (rInA X.K true) := op_notIn_seq.or ((op_notInD hu).or (op_notInG (by omega)))
theorem Vw.rp_flat {G H : Hp} {v : V} {x : D} (h : Vw K G H v x) (f : flatD x = true) : Rp G v x := by
  cases x <;> first | exact h | cases f
theorem Vw.dp {G H : Hp} {v : V} {d : D} (n : noDic d = true) (s : Same G H) (h : Vw K G H v d) : Dp K H v d := by
  cases d with
  | list ds =>
    obtain ⟨a, vs, rfl, h1, h2⟩ := h
    exact .lst h1 (RpAll.dp ds _ n (h2.mono s ds _))
  | tuple ds =>
    obtain ⟨a, vs, rfl, h1, h2⟩ := h
    exact .tup h1 (RpAll.dp ds _ n (h2.mono s ds _))
  | dict _ => cases n
  | _ => exact Rp.dp _ _ n (Rp.mono s _ _ h)
theorem r_in {neg : Bool} : R2Ok K E (dat2L (dIn neg)) (rInA K neg) := r2_datL fun σ c Q v u x y d o hv hu e k => by
  cases y with
  | list ds =>
    have e : (if (flatD x && ds.all flatD || SeqAt.shaped x && SeqAt.shaped (.list ds)) = true then some (PyData.bool (if neg then !ds.any fun z => PyData.eqv z x else ds.any fun z => PyData.eqv z x)) else none) = some d := e
    by_cases h : (flatD x && ds.all flatD || SeqAt.shaped x && SeqAt.shaped (.list ds)) = true
    · rw [if_pos h] at e
      cases e
      rcases Bool.or_eq_true_iff.mp h with h | h
      · obtain ⟨h1, h2⟩ := Bool.and_eq_true_iff.mp h
        have hu1 := hu
        obtain ⟨a, us, rfl, h3, h4⟩ := hu1
        have hr := hv.rp_flat h1
        refine .inl ⟨a, us, rfl, .inl h3, flat_rp hr h1, flat_rps h4 h2, ?_⟩
        rw [inv_rp hr h1 h4 h2]
        cases neg <;> exact k.here o (.bl _)
      · obtain ⟨h1, h2⟩ := Bool.and_eq_true_iff.mp h
        refine .inr (.inl ?_)
        cases neg
        · exact ⟨x, ds, hv.dp (noDic_shaped h1) o.sub, Vw.dp (d := .list ds) (noDic_shaped h2) o.sub hu, h1, h2, k.here o (.bl _)⟩
        · exact ⟨x, ds, hv.dp (noDic_shaped h1) o.sub, Vw.dp (d := .list ds) (noDic_shaped h2) o.sub hu, h1, h2, k.here o (.bl _)⟩
    · rw [if_neg h] at e; cases e
  | tuple ds =>
    have e : (if (flatD x && ds.all flatD) = true then some (PyData.bool (if neg then !ds.any fun z => PyData.eqv z x else ds.any fun z => PyData.eqv z x)) else none) = some d := e
    by_cases h : (flatD x && ds.all flatD) = true
    · rw [if_pos h] at e
      cases e
      obtain ⟨h1, h2⟩ := Bool.and_eq_true_iff.mp h
      obtain ⟨a, us, rfl, h3, h4⟩ := hu
      have hr := hv.rp_flat h1
      refine .inl ⟨a, us, rfl, .inr h3, flat_rp hr h1, flat_rps h4 h2, ?_⟩
      rw [inv_rp hr h1 h4 h2]
      cases neg <;> exact k.here o (.bl _)
    · rw [if_neg h] at e; cases e
  | dict kvs =>
    have e : (if kkOk kvs x = true then some (PyData.bool (if neg then !(lookD kvs x).isSome else (lookD kvs x).isSome)) else none) = some d := e
    by_cases hk : kkOk kvs x = true
    · rw [if_pos hk] at e
      cases e
      obtain ⟨a, rfl, hd⟩ := hu
      obtain ⟨ov, g, ro⟩ := gg_of o.sub hd (hv.key hk) hk
      refine .inr (.inr ⟨a, ov, rfl, g, ?_⟩)
      rw [ro.same]
      exact k.here o (.bl _)
    · rw [if_neg hk] at e; cases e
  | _ => cases e
/-! ### subscripts -/
def dIdx : D → D → Option D
  | .list xs, .int i => atI xs i
  | .tuple xs, .int i => atI xs i
  | .str z, .int i => if z.length ≤ sizeLine then (atI z.cps.toList i).map fun ch => .str ⟨#[ch]⟩ else none
  | .dict kvs, y => if kkOk kvs y then lookD kvs y else none
  | _, _ => none
theorem RpAll.atI {G : Hp} {vs : List V} {ds : List D} (h : RpAll G vs ds) {i : Int} {d : D} (e : L2.atI ds i = some d) : ∃ v, L2.atI vs i = some v ∧ Rp G v d := by
  unfold L2.atI at e ⊢
  rw [h.length]
  cases q : ixN ds.length i with
  | none => rw [q] at e; cases e
  | some j =>
    rw [q] at e
    exact h.get e
def rIxA (K : PySem.W.Frag) : R2 := fun x y H Q => rIx K x y H Q ∨ rIxG x y H Q
theorem r_idx : R2Ok K E (dat2R dIdx) (rIxA K) := r2_datR fun σ c Q v u x y d o hv hu e k => by
  cases x with
  | dict kvs =>
    have e : (if kkOk kvs y = true then lookD kvs y else none) = some d := by
      cases y <;> exact e
    by_cases hk : kkOk kvs y = true
    · rw [if_pos hk] at e
      obtain ⟨a, rfl, hd⟩ := hv
      obtain ⟨ov, g, ro⟩ := gg_of o.sub hd (hu.key hk) hk
      rw [e] at ro
      cases ov with
      | none => exact ro.elim
      | some z => exact .inr ⟨a, z, rfl, g, k.here o ro⟩
    · rw [if_neg hk] at e; cases e
  | list xs =>
    cases y with
    | int i =>
      have hu : Rp c.G u (.int i) := hu
      cases hu
      obtain ⟨a, vs, rfl, h1, h2⟩ := hv
      obtain ⟨z, h3, h4⟩ := h2.atI (show L2.atI xs i = some d from e)
      exact .inl (.inl ⟨a, vs, i, z, rfl, rfl, h1, h3, k.here o h4⟩)
    | _ => cases e
  | tuple xs =>
    cases y with
    | int i =>
      have hu : Rp c.G u (.int i) := hu
      cases hu
      obtain ⟨a, vs, rfl, h1, h2⟩ := hv
      obtain ⟨z, h3, h4⟩ := h2.atI (show L2.atI xs i = some d from e)
      exact .inl (.inr (.inl ⟨a, vs, i, z, rfl, rfl, h1, h3, k.here o h4⟩))
    | _ => cases e
  | str z =>
    cases y with
    | int i =>
      have hu : Rp c.G u (.int i) := hu
      cases hu
      have hv : Rp c.G v (.str z) := hv
      cases hv
      have e : (if z.length ≤ sizeLine then (L2.atI z.cps.toList i).map fun ch => PyData.str ⟨#[ch]⟩ else none) = some d := e
      by_cases hz : z.length ≤ sizeLine
      · rw [if_pos hz] at e
        obtain ⟨ch, e1, rfl⟩ := Option.map_eq_some_iff.mp e
        exact .inl (.inr (.inr ⟨z, i, ch, rfl, rfl, hz, e1, k.here o (.str _)⟩))
      · rw [if_neg hz] at e; cases e
    | _ => cases e
  | _ => cases y <;> cases e
end
section
variable {X : Cx} {E : XW} {pos : Pos} {a b : Expr} {A B : ESem}
theorem e_idx {k : Nat} (hr : Room k X.A) (ha : PE X a (tE X.K E A)) (hb : PE X b (tE X.K E B)) (hs : PlainIx b) : PE X (.Subscript a b pos) (tE X.K E (eOp2 (dat2R dIdx) A B)) :=
  PE_imp (pe_ix (ix_seq.or (ix_G (by have := hr.un; omega))) ha hb hs) fun _ _ _ h => tE_two r_idx h
/-! ### slices -/
def cutD {α : Type} (xs : List α) (lo hi : Option Int) : List α := (xs.drop (HT.sIx xs.length 0 lo)).take (HT.sIx xs.length xs.length hi - HT.sIx xs.length 0 lo)
def dSlice (lo hi : Option Int) : D → Option D
  | .list xs => some (.list (cutD xs lo hi))
  | .tuple xs => some (.tuple (cutD xs lo hi))
  | .str z => if z.length ≤ sizeLine then some (.str (cutS z lo hi)) else none
  | _ => none
abbrev PSem := St → R St (Option Int)
def tO (K : PySem.W.Frag) (E : XW) (sem : PSem) : TO := fun σ H Q => ∃ c, c.H = H ∧ Ok K σ c ∧ Post K E σ c (sem c.st) fun o c' => Q o c'.H
def pNone : PSem := fun st => .ok none st
def pSome (A : ESem) : PSem := fun st => (A st).bind fun w s => match w with
  | .v (.d (.int i)) => .ok (some i) s
  | _ => .bad
theorem p_none : PO X none (tO X.K E pNone) := ⟨fun pins s σ H Q I ⟨c, e, o, h⟩ => po_none.run pins s σ H Q I (e ▸ h.here o)⟩
theorem p_some (ha : PE X a (tE X.K E A)) : PO X (some a) (tO X.K E (pSome A)) := ⟨fun pins s σ H Q I ⟨c, e, o, h⟩ => (po_some ha).run pins s σ H Q I (by
  subst e
  refine ⟨c, rfl, o, h.bind.mono fun wa c1 l1 o1 h1 v hv => ?_⟩
  cases wa with
  | sl i => exact h1.elim
  | v x =>
    cases x with
    | c n => exact h1.elim
    | k x => exact h1.elim
    | d x =>
      cases x with
      | int k =>
        have hv : Rp c1.G v (.int k) := hv
        cases hv
        exact ⟨k, rfl, h1.here o1⟩
      | _ => exact h1.elim)⟩
def eSlice (A : ESem) (L U : PSem) : ESem := fun st => (A st).bind fun w s1 => (L s1).bind fun l s2 => (U s2).bind fun u s3 => match viewD s3 w with
  | some x => (match dSlice l u x with | some d => retD d s3 | none => .bad)
  | none => .bad
def rSlAll (K : PySem.W.Frag) : V → Option Int → Option Int → Hp → VK → Prop := fun x lo hi H Q => rSlL K x lo hi H Q ∨ rSlA K x lo hi H Q ∨ rSlS x lo hi H Q
theorem sl_all : SlR X (rSlAll X.K) := sl_list.or (sl_tupA.or sl_str)
theorem sIx_full {α : Type} (xs : List α) {lo hi : Option Int} (h : HT.sIx xs.length 0 lo = 0 ∧ HT.sIx xs.length xs.length hi = xs.length) : cutD xs lo hi = xs := by
  unfold cutD
  rw [h.1, h.2]
  simp
theorem RpAll.cut {G : Hp} {vs : List V} {ds : List D} (h : RpAll G vs ds) (lo hi : Option Int) : RpAll G (cutV vs lo hi) (cutD ds lo hi) := by
  unfold cutV cutD
  rw [h.length]
  exact (h.drop _).take _
theorem e_slice {lo hi : Option Expr} {L U : PSem} {p2 : Pos} (ha : PE X a (tE X.K E A)) (hl : PO X lo (tO X.K E L)) (hu : PO X hi (tO X.K E U)) : PE X (.Subscript a (.Slice lo hi none p2) pos) (tE X.K E (eSlice A L U)) := by
  refine PE_imp (pe_slice sl_all ha hl hu) fun σ H Q h => ?_
  obtain ⟨c, rfl, o, h⟩ := h
  refine ⟨c, rfl, o, h.bind.mono fun wa c1 l1 o1 h1 v hv => ?_⟩
  refine ⟨c1, rfl, o1, h1.bind.mono fun l c2 l2 o2 h2 => ?_⟩
  refine ⟨c2, rfl, o2, h2.bind.mono fun u c3 l3 o3 h3 => ?_⟩
  have hv := (hv.mono l2).mono l3
  cases e : viewD c3.st wa with
  | none => simp only [e] at h3; exact h3.elim
  | some x =>
    simp only [e] at h3
    have z := viewD_ok o3 hv e
    cases e2 : dSlice l u x with
    | none => simp only [e2] at h3; exact h3.elim
    | some d =>
      simp only [e2] at h3
      have k := retD_post h3
      cases x with
      | list xs =>
        have e2 : some (PyData.list (cutD xs l u)) = some d := e2
        cases e2
        obtain ⟨a, vs, rfl, q1, q2⟩ := z
        exact .inl ⟨a, vs, rfl, SqL.of q1, k.lst o3 (q2.cut l u)⟩
      | tuple xs =>
        have e2 : some (PyData.tuple (cutD xs l u)) = some d := e2
        cases e2
        have z : Rp c3.G v (.tuple xs) := z
        have z' := z
        cases z with
        | tup q1 q2 =>
          refine .inr (.inl ⟨_, _, rfl, SqT.of (o3.sub _ _ q1), fun hw => ?_, fun _ => k.tup o3 (q2.cut l u)⟩)
          rw [q2.length] at hw
          rw [sIx_full xs hw] at k
          exact k.here o3 z'
      | str z0 =>
        have z : Rp c3.G v (.str z0) := z
        cases z
        have e2 : (if z0.length ≤ sizeLine then some (PyData.str (cutS z0 l u)) else none) = some d := e2
        by_cases hz : z0.length ≤ sizeLine
        · rw [if_pos hz] at e2
          cases e2
          exact .inr (.inr ⟨z0, rfl, hz, k.here o3 (.str _)⟩)
        · rw [if_neg hz] at e2; cases e2
      | _ => cases e2
/-- xs[::-1] -/
def eRev (A : ESem) : ESem := fun st => (A st).bind fun w s1 => match view s1 w with
  | some (.list xs) => retD (.list xs.reverse) s1
  | _ => .bad
theorem e_rev {k : Nat} {p1 p2 p3 : Pos} (ha : PE X a (tE X.K E A)) : PE X (.Subscript a (.Slice none none (some (.UnaryOp .USub (.Constant (.int 1) k p1) p2)) p3) pos) (tE X.K E (eRev A)) := by
  refine PE_imp (pe_revL ha) fun σ H Q h => ?_
  obtain ⟨c, rfl, o, h⟩ := h
  refine ⟨c, rfl, o, h.bind.mono fun wa c1 l1 o1 h1 v hv => ?_⟩
  cases e : view c1.st wa with
  | none => simp only [e] at h1; exact h1.elim
  | some x =>
    simp only [e] at h1
    have z := view_ok o1 hv e
    cases x with
    | list xs =>
      obtain ⟨a, vs, rfl, q1, q2⟩ := z
      exact ⟨a, vs, rfl, q1, (retD_post h1).lst o1 q2.reverse⟩
    | _ => exact h1.elim

/-! ### argument lists, built-ins -/
def aNil : ASem := fun st => .ok [] st
def aCons (A : ESem) (As : ASem) : ASem := fun st => (A st).bind fun w s1 => (As s1).bind fun ws s2 => .ok (w :: ws) s2
theorem a_nil : PA X [] (tA X.K E aNil) := PA_imp pa_nil fun σ H Q ⟨c, e, o, h⟩ => e ▸ h.here o [] .nil
theorem a_cons {es : List Expr} {As : ASem} (ha : PE X a (tE X.K E A)) (hr : PA X es (tA X.K E As)) (hs : starEach (a :: es) X.env = (false, eval a X.env) :: starEach es X.env := by rfl) : PA X (a :: es) (tA X.K E (aCons A As)) := by
  refine PA_imp (pa_cons ha hr hs) fun σ H Q h => ?_
  obtain ⟨c, rfl, o, h⟩ := h
  refine ⟨c, rfl, o, h.bind.mono fun wa c1 l1 o1 h1 v hv => ?_⟩
  refine ⟨c1, rfl, o1, h1.bind.mono fun ws c2 l2 o2 h2 vs hvs => ?_⟩
  exact h2.here o2 (v :: vs) (.cons (hv.mono l2) hvs)
def eCB (f : List W → St → R St W) (As : ASem) : ESem := fun st => (As st).bind f
def RcOk (K : PySem.W.Frag) (E : XW) (f : List W → St → R St W) (r : List V → Hp → VK → Prop) : Prop :=
  ∀ (σ : L2.St) (c : Cf) (Q : VK) (ws : List W) (vs : List V), Ok K σ c → WAll K σ c vs ws → Post K E σ c (f ws c.st) (fun w c' => ∀ z, WOk K σ c' z w → Q z c'.H) → r vs c.H Q
theorem tE_cb {f : List W → St → R St W} {As : ASem} {r : List V → Hp → VK → Prop} (hf : RcOk X.K E f r) {σ : L2.St} {H : Hp} {Q : VK} (h : tE X.K E (eCB f As) σ H Q) : tCB r (tA X.K E As) σ H Q := by
  obtain ⟨c, rfl, o, h⟩ := h
  exact ⟨c, rfl, o, h.bind.mono fun ws c1 l1 o1 h1 vs hvs => hf σ c1 Q ws vs o1 hvs h1⟩
theorem e_callB {x : Str} {p : Pos} {id : String} {r : List V → Hp → VK → Prop} {f : List W → St → R St W} {e : Expr} {es : List Expr} {As : ASem} (hc : CallR X (.builtin id) r) (hf : RcOk X.K E f r) (hg : Gl X x) (hm : X.mg x = none) (hv : bootBuiltins x = some (.builtin id)) (ha : PA X (e :: es) (tA X.K E As)) (hn : x ≠ "__name__" := by decide) (hdb : (x == ("__debug__" : Str)) = false := by decide)
    (he : starEach (e :: es) X.env = (false, eval e X.env) :: starEach es X.env := by rfl) (hpl : (backTo pos (starEach es X.env)).any (·.1) = false := by rfl) : PE X (.Call (.Name x p) (e :: es) [] pos) (tE X.K E (eCB f As)) :=
  PE_imp (pe_callB hc hg hm hv ha hn hdb he hpl) fun _ _ _ h => tE_cb hf h
theorem e_callTy {x : Str} {p : Pos} {T : String} {r : List V → Hp → VK → Prop} {f : List W → St → R St W} {e : Expr} {es : List Expr} {As : ASem} (hc : CallR X (.type T) r) (hf : RcOk X.K E f r) (hg : Gl X x) (hm : X.mg x = none) (hv : bootBuiltins x = some (.type T)) (ha : PA X (e :: es) (tA X.K E As)) (hn : x ≠ "__name__" := by decide) (hdb : (x == ("__debug__" : Str)) = false := by decide)
    (he : starEach (e :: es) X.env = (false, eval e X.env) :: starEach es X.env := by rfl) (hpl : (backTo pos (starEach es X.env)).any (·.1) = false := by rfl) : PE X (.Call (.Name x p) (e :: es) [] pos) (tE X.K E (eCB f As)) :=
  PE_imp (pe_callTy hc hg hm hv ha hn hdb he hpl) fun _ _ _ h => tE_cb hf h
/-- one argument, looked at -/
def cb1 (g : D → Option D) : List W → St → R St W := fun ws st => match ws with
  | [w] => dat1 g w st
  | _ => .bad
def cb2 (g : D → D → Option D) : List W → St → R St W := fun ws st => match ws with
  | [w, u] => dat2 g w u st
  | _ => .bad
variable {K : PySem.W.Frag}
theorem rc_cb1 {g : D → Option D} {r : List V → Hp → VK → Prop} (hf : ∀ (σ : L2.St) (c : Cf) (Q : VK) (v : V) (x d : D), Ok K σ c → Vw K c.G c.H v x → g x = some d → Kt K σ c d Q → r [v] c.H Q) : RcOk K E (cb1 g) r := by
  intro σ c Q ws vs o hvs h
  cases hvs with
  | nil => exact h.elim
  | cons hv t =>
    cases t with
    | cons _ _ => exact h.elim
    | nil =>
      rename_i v w
      have h : Post K E σ c (dat1 g w c.st) fun w c' => ∀ z, WOk K σ c' z w → Q z c'.H := h
      unfold dat1 at h
      cases e1 : view c.st w with
      | none => simp only [e1] at h; exact h.elim
      | some x =>
        simp only [e1] at h
        cases e3 : g x with
        | none => simp only [e3] at h; exact h.elim
        | some d =>
          simp only [e3] at h
          exact hf σ c Q v x d o (view_ok o hv e1) e3 (retD_post h)
theorem rc_cb2 {g : D → D → Option D} {r : List V → Hp → VK → Prop} (hf : ∀ (σ : L2.St) (c : Cf) (Q : VK) (v u : V) (x y d : D), Ok K σ c → Vw K c.G c.H v x → Vw K c.G c.H u y → g x y = some d → Kt K σ c d Q → r [v, u] c.H Q) : RcOk K E (cb2 g) r := by
  intro σ c Q ws vs o hvs h
  cases hvs with
  | nil => exact h.elim
  | cons hv t =>
    cases t with
    | nil => exact h.elim
    | cons hu t =>
      cases t with
      | cons _ _ => exact h.elim
      | nil =>
        exact (r2_dat (r := fun v u H Q => r [v, u] H Q) hf) σ c Q _ _ _ _ o hv hu h
def dLen : D → Option D
  | .list xs => some (.int xs.length)
  | .tuple xs => some (.int xs.length)
  | .str z => if z.length ≤ sizeLine then some (.int z.length) else none
  | .dict kvs => some (.int kvs.length)
  | _ => none
theorem CallR.or {X : Cx} {f : Value} {r r' : List V → Hp → VK → Prop} (h : CallR X f r) (h' : CallR X f r') : CallR X f (fun x H Q => r x H Q ∨ r' x H Q) := by
  intro pins s σ H xs us Q I rr q
  rcases q with q | q
  · exact h pins s σ H xs us Q I rr q
  · exact h' pins s σ H xs us Q I rr q
def rLenA (K : PySem.W.Frag) : List V → Hp → VK → Prop := fun xs H Q => (∃ x n, xs = [x] ∧ LenV K x H n ∧ Q (.int n) H) ∨ ∃ a n, xs = [.ref a] ∧ LenG H a n ∧ Q (.int n) H
theorem call_lenA {X : Cx} : CallR X (.builtin "len") (rLenA X.K) := call_len.or call_lenG
theorem rc_len : RcOk K E (cb1 dLen) (rLenA K) := rc_cb1 fun σ c Q v x d o hv e k => by
  cases x with
  | list xs =>
    have e : some (PyData.int xs.length) = some d := e
    cases e
    obtain ⟨a, vs, rfl, h1, h2⟩ := hv
    exact .inl ⟨_, xs.length, rfl, .inl ⟨vs, h1, h2.length.symm⟩, k.here o (.int _)⟩
  | tuple xs =>
    have e : some (PyData.int xs.length) = some d := e
    cases e
    obtain ⟨a, vs, rfl, h1, h2⟩ := hv
    exact .inl ⟨_, xs.length, rfl, .inr ⟨vs, h1, h2.length.symm⟩, k.here o (.int _)⟩
  | str z =>
    have hv : Rp c.G v (.str z) := hv
    cases hv
    have e : (if z.length ≤ sizeLine then some (PyData.int z.length) else none) = some d := e
    by_cases hz : z.length ≤ sizeLine
    · rw [if_pos hz] at e
      cases e
      exact .inl ⟨_, z.length, rfl, ⟨hz, rfl⟩, k.here o (.int _)⟩
    · rw [if_neg hz] at e; cases e
  | dict kvs =>
    have e : some (PyData.int kvs.length) = some d := e
    cases e
    obtain ⟨a, rfl, hd⟩ := hv
    exact .inr ⟨a, kvs.length, rfl, lenG_of o.sub hd, k.here o (.int _)⟩
  | _ => cases e
/-- -x -/
def dNeg : D → Option D
  | .int i => some (.int (-i))
  | _ => none
def eUn (g : D → Option D) (A : ESem) : ESem := fun st => (A st).bind fun w s => dat1 g w s
theorem e_neg (ha : PE X a (tE X.K E A)) : PE X (.UnaryOp .USub a pos) (tE X.K E (eUn dNeg A)) := by
  refine PE_imp (pe_un un_neg ha) fun σ H Q h => ?_
  obtain ⟨c, rfl, o, h⟩ := h
  refine ⟨c, rfl, o, h.bind.mono fun wa c1 l1 o1 h1 v hv => ?_⟩
  unfold dat1 at h1
  cases e : view c1.st wa with
  | none => simp only [e] at h1; exact h1.elim
  | some x =>
    simp only [e] at h1
    have z := view_ok o1 hv e
    cases x with
    | int i =>
      have z : Rp c1.G v (.int i) := z
      cases z
      exact ⟨i, rfl, (retD_post h1).here o1 (.int _)⟩
    | _ => exact h1.elim
/-! ### isinstance -/
def tyD : D → String
  | .none => "NoneType" | .bool _ => "bool" | .int _ => "int" | .str _ => "str" | .list _ => "list" | .tuple _ => "tuple" | .dict _ => "dict"
def isDic : D → Bool
  | .dict _ => true
  | _ => false
theorem Vt.ty {G H : Hp} {v : V} {d : D} (n : isDic d = false) (s : Same G H) (h : Vt G H v d) : TyX K H v (.type (tyD d)) := by
  cases d with
  | list ds => obtain ⟨a, vs, rfl, h1, _⟩ := h; exact .base (.lst h1)
  | none => have h : Rp G v .none := h; cases h; exact .base .non
  | bool b => have h : Rp G v (.bool b) := h; cases h; exact .base (.bl _)
  | int b => have h : Rp G v (.int b) := h; cases h; exact .base (.int _)
  | str b => have h : Rp G v (.str b) := h; cases h; exact .base (.str _)
  | tuple b =>
    have h : Rp G v (.tuple b) := h
    cases h with
    | tup h1 h2 => exact .base (.tup (s _ _ h1))
  | dict b => cases n
inductive Ty where | int | bool | str | list | tuple
def Ty.name : Ty → String
  | .int => "int" | .bool => "bool" | .str => "str" | .list => "list" | .tuple => "tuple"
def isTy : Ty → D → Bool
  | .int, .int _ => true | .int, .bool _ => true
  | .bool, .bool _ => true
  | .str, .str _ => true
  | .list, .list _ => true
  | .tuple, .tuple _ => true
  | _, _ => false
theorem kit_isTy (T : Ty) (d : D) : kitB (tyD d) T.name = some (isTy T d) := by
  cases d with
  | none => cases T <;> decide +kernel
  | bool b =>
    have h : kitB "bool" T.name = some (isTy T (.bool true)) := by cases T <;> decide +kernel
    exact h.trans (by cases T <;> rfl)
  | int b =>
    have h : kitB "int" T.name = some (isTy T (.int 0)) := by cases T <;> decide +kernel
    exact h.trans (by cases T <;> rfl)
  | str b =>
    have h : kitB "str" T.name = some (isTy T (.str "")) := by cases T <;> decide +kernel
    exact h.trans (by cases T <;> rfl)
  | list b =>
    have h : kitB "list" T.name = some (isTy T (.list [])) := by cases T <;> decide +kernel
    exact h.trans (by cases T <;> rfl)
  | tuple b =>
    have h : kitB "tuple" T.name = some (isTy T (.tuple [])) := by cases T <;> decide +kernel
    exact h.trans (by cases T <;> rfl)
  | dict b =>
    have h : kitB "dict" T.name = some (isTy T (.dict [])) := by cases T <;> decide +kernel
    exact h.trans (by cases T <;> rfl)
def vI : Option D → Option D
  | some (.dict _) => none
  | o => o
theorem vI_some {o : Option D} {x : D} (h : vI o = some x) : o = some x ∧ isDic x = false := by
  cases o with
  | none => cases h
  | some y => cases y <;> first | (cases h; exact ⟨rfl, rfl⟩) | cases h
def eIsi (T : Ty) (A : ESem) : ESem := fun st => (A st).bind fun w s => match vI (viewD s w) with
  | some x => retD (.bool (isTy T x)) s
  | none => .bad
theorem pe_ty {x : Str} {n : String} (hg : Gl X x) (hm : X.mg x = none) (hv : bootBuiltins x = some (.type n)) (hn : x ≠ "__name__" := by decide) (hd : (x == ("__debug__" : Str)) = false := by decide) : PE X (.Name x pos) (tC (.ty n)) := pe_bltn hg hm hv rfl hn hd
theorem e_isi (T : Ty) {x : Str} {p p2 : Pos} (ha : PE X a (tE X.K E A)) (hg : Gl X "isinstance") (hm : X.mg "isinstance" = none) (hi : bootBuiltins "isinstance" = some (.builtin "isinstance")) (hg2 : Gl X x) (hm2 : X.mg x = none) (hv2 : bootBuiltins x = some (.type T.name))
    (hn : x ≠ "__name__" := by decide) (hd : (x == ("__debug__" : Str)) = false := by decide)
    (hs1 : starEach [a, .Name x p2] X.env = (false, eval a X.env) :: starEach [.Name x p2] X.env := by rfl) (hs2 : starEach [.Name x p2] X.env = (false, eval (.Name x p2) X.env) :: starEach [] X.env := by rfl) (hpl : (backTo pos (starEach [.Name x p2] X.env)).any (·.1) = false := by rfl) :
    PE X (.Call (.Name "isinstance" p) [a, .Name x p2] [] pos) (tE X.K E (eIsi T A)) := by
  refine PE_imp (pe_callB call_isi hg hm hi (pa_cons ha (pa_cons (pe_ty hg2 hm2 hv2 hn hd) pa_nil hs2) hs1) (by decide) (by decide) hs1 hpl) fun σ H Q h => ?_
  obtain ⟨c, rfl, o, h⟩ := h
  refine ⟨c, rfl, o, h.bind.mono fun wa c1 l1 o1 h1 v hv => ?_⟩
  cases e : vI (viewD c1.st wa) with
  | none => simp only [e] at h1; exact h1.elim
  | some x =>
    simp only [e] at h1
    obtain ⟨e1, e2⟩ := vI_some e
    have z := viewD_ok o1 hv e1
    exact ⟨v, .ty T.name, _, .type T.name, isTy T x, rfl, .ty _, z.ty e2 o1.sub, kit_ty (kit_isTy T x), (retD_post h1).here o1 (.bl _)⟩
end
end PD

set_option Elab.async false
set_option linter.all false
set_option maxRecDepth 100000
set_option maxHeartbeats 1000000
/-! PDStmt: tests, small statements, fresh lists. -/
namespace PD
open PySem PySem.Spec PyProof.Rows L2

section
variable {X : Cx} {E : XW} {pos : Pos} {a b e1 : Expr} {A B C : ESem} {T U : TSem}
/-! ### truth -/
def dTruth : D → Option Bool
  | .none => some false
  | .bool b => some b
  | .int i => some (i != 0)
  | .str z => if z.length ≤ sizeLine then some ((z.length : Int) != 0) else none
  | .list xs => some (!xs.isEmpty)
  | .tuple xs => some (!xs.isEmpty)
  | .dict kvs => some (!kvs.isEmpty)
theorem RpAll.isEmpty {G : Hp} {vs : List V} {ds : List D} (h : RpAll G vs ds) : vs.isEmpty = ds.isEmpty := by
  cases h <;> rfl
theorem Vw.truth {K : PySem.W.Frag} {G H : Hp} {v : V} {d : D} {b : Bool} (s : Same G H) (h : Vw K G H v d) (e : dTruth d = some b) : TruA K v H b := by
  cases d with
  | none =>
    have h : Rp G v .none := h
    cases h; cases e; exact .inl rfl
  | bool c =>
    have h : Rp G v (.bool c) := h
    cases h; cases e; exact .inl rfl
  | int c =>
    have h : Rp G v (.int c) := h
    cases h; cases e; exact .inl rfl
  | str z =>
    have h : Rp G v (.str z) := h
    cases h
    have e : (if z.length ≤ sizeLine then some ((z.length : Int) != 0) else none) = some b := e
    by_cases hz : z.length ≤ sizeLine
    · rw [if_pos hz] at e
      cases e
      exact .inl ⟨hz, rfl⟩
    · rw [if_neg hz] at e; cases e
  | list xs =>
    obtain ⟨a, vs, rfl, h1, h2⟩ := h
    cases e
    exact .inl (.inl ⟨vs, h1, by rw [h2.isEmpty]⟩)
  | tuple xs =>
    obtain ⟨a, vs, rfl, h1, h2⟩ := h
    cases e
    exact .inl (.inr (.inl ⟨vs, h1, by rw [h2.isEmpty]⟩))
  | dict kvs =>
    obtain ⟨a, rfl, h⟩ := h
    cases e
    exact .inr ⟨a, _, rfl, empG_of s h, rfl⟩
def tTruth (A : ESem) : TSem := fun st => (A st).bind fun w s => match view s w with
  | some d => (match dTruth d with | some b => .ok b s | none => .bad)
  | none => .bad
theorem truth_read {K : PySem.W.Frag} {σ : L2.St} {H : Hp} {Q : Bool → Hp → Prop} (h : tT K E (tTruth A) σ H Q) : tE K E A σ H fun x H' => ∃ k, TruA K x H' k ∧ Q k H' := by
  obtain ⟨c, rfl, o, h⟩ := h
  refine ⟨c, rfl, o, h.bind.mono fun wa c1 l1 o1 h1 v hv => ?_⟩
  cases e : view c1.st wa with
  | none => simp only [e] at h1; exact h1.elim
  | some d =>
    simp only [e] at h1
    cases e2 : dTruth d with
    | none => simp only [e2] at h1; exact h1.elim
    | some b =>
      simp only [e2] at h1
      exact ⟨b, (view_ok o1 hv e).truth o1.sub e2, h1.here o1⟩
theorem t_truth (ha : PE X a (tE X.K E A)) (he : ∀ whole, isTrue a X.env whole = (do let v ← whole; standAt a.pos; holding [v] (truthy v)) := by intro _; rfl) : PT X a (tT X.K E (tTruth A)) :=
  PT_imp (pt_truthR ha tru_A he) fun _ _ _ h => truth_read h
def tNotS (T : TSem) : TSem := fun st => (T st).bind fun b s => .ok (!b) s
theorem t_not (h : PT X a (tT X.K E T)) : PT X (.UnaryOp .Not a pos) (tT X.K E (tNotS T)) := by
  refine PT_imp (pt_not h) fun σ H Q h => ?_
  obtain ⟨c, rfl, o, h⟩ := h
  exact ⟨c, rfl, o, h.bind.mono fun b c1 l1 o1 h1 => h1.here o1⟩
def tAndS (T U : TSem) : TSem := fun st => (T st).bind fun b s => if b = true then U s else .ok false s
def tOrS (T U : TSem) : TSem := fun st => (T st).bind fun b s => if b = true then .ok true s else U s
theorem t_and1 (h : PT X a (tT X.K E T)) : PW X (.BoolOp .And [a] pos) (tT X.K E T) := pw_and1 h
theorem t_or1 (h : PT X a (tT X.K E T)) : PW X (.BoolOp .Or [a] pos) (tT X.K E T) := pw_or1 h
theorem t_and {rest : List Expr} (h : PT X a (tT X.K E T)) (h2 : PW X (.BoolOp .And (b :: rest) pos) (tT X.K E U)) : PW X (.BoolOp .And (a :: b :: rest) pos) (tT X.K E (tAndS T U)) := by
  refine PW_imp (pw_and h h2) fun σ H Q h => ?_
  obtain ⟨c, rfl, o, h⟩ := h
  refine ⟨c, rfl, o, h.bind.mono fun b c1 l1 o1 h1 => ?_⟩
  cases b with
  | true =>
    rw [if_pos rfl] at h1 ⊢
    exact ⟨c1, rfl, o1, h1⟩
  | false =>
    rw [if_neg (by decide)] at h1 ⊢
    exact h1.here o1
theorem t_or {rest : List Expr} (h : PT X a (tT X.K E T)) (h2 : PW X (.BoolOp .Or (b :: rest) pos) (tT X.K E U)) : PW X (.BoolOp .Or (a :: b :: rest) pos) (tT X.K E (tOrS T U)) := by
  refine PW_imp (pw_or h h2) fun σ H Q h => ?_
  obtain ⟨c, rfl, o, h⟩ := h
  refine ⟨c, rfl, o, h.bind.mono fun b c1 l1 o1 h1 => ?_⟩
  cases b with
  | true =>
    rw [if_pos rfl] at h1 ⊢
    exact h1.here o1
  | false =>
    rw [if_neg (by decide)] at h1 ⊢
    exact ⟨c1, rfl, o1, h1⟩
/-! ### and, or, not as values -/
def eAnd (A B : ESem) : ESem := fun st => (A st).bind fun w s => match w with
  | .v (.d (.bool b)) => if b = true then B s else retD (.bool false) s
  | _ => .bad
def eOr (A B : ESem) : ESem := fun st => (A st).bind fun w s => match w with
  | .v (.d (.bool b)) => if b = true then retD (.bool true) s else B s
  | _ => .bad
theorem e_one {op : BoolOp} (h : PE X a (tE X.K E A)) : PE X (.BoolOp op [a] pos) (tE X.K E A) := pe_one h
theorem e_and {rest : List Expr} (h : PE X a (tE X.K E A)) (h2 : PE X (.BoolOp .And (b :: rest) pos) (tE X.K E B)) : PE X (.BoolOp .And (a :: b :: rest) pos) (tE X.K E (eAnd A B)) := by
  refine PE_imp (pe_and h h2) fun σ H Q h => ?_
  obtain ⟨c, rfl, o, h⟩ := h
  refine ⟨c, rfl, o, h.bind.mono fun w c1 l1 o1 h1 v hv => ?_⟩
  cases w with
  | sl i => exact h1.elim
  | v x =>
    cases x with
    | c n => exact h1.elim
    | k x => exact h1.elim
    | d x =>
      cases x with
      | bool k =>
        have hv : Rp c1.G v (.bool k) := hv
        cases hv
        refine ⟨k, rfl, ?_⟩
        cases k with
        | true =>
          simp only [if_true] at h1 ⊢
          exact ⟨c1, rfl, o1, h1⟩
        | false =>
          simp only [Bool.false_eq_true, if_false] at h1 ⊢
          exact (retD_post h1).here o1 (.bl _)
      | _ => exact h1.elim
theorem e_or {rest : List Expr} (h : PE X a (tE X.K E A)) (h2 : PE X (.BoolOp .Or (b :: rest) pos) (tE X.K E B)) : PE X (.BoolOp .Or (a :: b :: rest) pos) (tE X.K E (eOr A B)) := by
  refine PE_imp (pe_or h h2) fun σ H Q h => ?_
  obtain ⟨c, rfl, o, h⟩ := h
  refine ⟨c, rfl, o, h.bind.mono fun w c1 l1 o1 h1 v hv => ?_⟩
  cases w with
  | sl i => exact h1.elim
  | v x =>
    cases x with
    | c n => exact h1.elim
    | k x => exact h1.elim
    | d x =>
      cases x with
      | bool k =>
        have hv : Rp c1.G v (.bool k) := hv
        cases hv
        refine ⟨k, rfl, ?_⟩
        cases k with
        | true =>
          simp only [if_true] at h1 ⊢
          exact (retD_post h1).here o1 (.bl _)
        | false =>
          simp only [Bool.false_eq_true, if_false] at h1 ⊢
          exact ⟨c1, rfl, o1, h1⟩
      | _ => exact h1.elim
def eNot (A : ESem) : ESem := fun st => (tTruth A st).bind fun b s => retD (.bool (!b)) s
theorem e_not (ha : PE X a (tE X.K E A)) : PE X (.UnaryOp .Not a pos) (tE X.K E (eNot A)) := by
  refine PE_imp (pe_notA ha) fun σ H Q h => ?_
  obtain ⟨c, rfl, o, h⟩ := h
  have h1 := truth_read (A := A) (Q := fun k H' => Q (.bl (!k)) H') (K := X.K) (E := E) ⟨c, rfl, o, h.bind.mono fun b c1 l1 o1 h1 => (retD_post h1).here o1 (.bl _)⟩
  exact h1
def eIf (T : TSem) (A B : ESem) : ESem := fun st => (T st).bind fun b s => if b = true then A s else B s
theorem e_if (ht : PT X e1 (tT X.K E T)) (ha : PE X a (tE X.K E A)) (hb : PE X b (tE X.K E B)) : PE X (.IfExp e1 a b pos) (tE X.K E (eIf T A B)) := by
  refine PE_imp (pe_ifExp ht ha hb) fun σ H Q h => ?_
  obtain ⟨c, rfl, o, h⟩ := h
  refine ⟨c, rfl, o, h.bind.mono fun b c1 l1 o1 h1 => ?_⟩
  cases b with
  | true =>
    rw [if_pos rfl] at h1 ⊢
    exact ⟨c1, rfl, o1, h1⟩
  | false =>
    rw [if_neg (by decide)] at h1 ⊢
    exact ⟨c1, rfl, o1, h1⟩
/-! ### a op b op c -/
def eChain (f g : W → W → St → R St W) (A B C : ESem) : ESem := fun st => (A st).bind fun wa s1 => (B s1).bind fun wb s2 => (f wa wb s2).bind fun r s3 => match r with
  | .v (.d (.bool k)) => if k = true then (C s3).bind fun wc s4 => g wb wc s4 else retD (.bool false) s3
  | _ => .bad
theorem chain_read {K : PySem.W.Frag} {f g : W → W → St → R St W} {r r' : R2} (hf : R2Ok K E f r) (hg : R2Ok K E g r') {σ : L2.St} {H : Hp} {Q : VK} (h : tE K E (eChain f g A B C) σ H Q) : tChain r r' (tE K E A) (tE K E B) (tE K E C) σ H Q := by
  obtain ⟨c, rfl, o, h⟩ := h
  refine ⟨c, rfl, o, h.bind.mono fun wa c1 l1 o1 h1 v hv => ?_⟩
  refine ⟨c1, rfl, o1, h1.bind.mono fun wb c2 l2 o2 h2 u hu => ?_⟩
  refine hf σ c2 _ wa wb v u o2 (hv.mono l2) hu (h2.bind.mono fun w c3 l3 o3 h3 z hz => ?_)
  cases w with
  | sl i => exact h3.elim
  | v x =>
    cases x with
    | c n => exact h3.elim
    | k x => exact h3.elim
    | d x =>
      cases x with
      | bool k =>
        have hz : Rp c3.G z (.bool k) := hz
        cases hz
        refine ⟨k, rfl, ?_⟩
        cases k with
        | true =>
          simp only [if_true] at h3 ⊢
          exact ⟨c3, rfl, o3, h3.bind.mono fun wc c4 l4 o4 h4 y hy => hg σ c4 Q wb wc u y o4 ((hu.mono l3).mono l4) hy h4⟩
        | false =>
          simp only [Bool.false_eq_true, if_false] at h3 ⊢
          exact (retD_post h3).here o3 (.bl _)
      | _ => exact h3.elim
theorem e_chain {op op' : CmpOp} {f g : W → W → St → R St W} {r r' : R2} (ho : OpR X (compareOp op) r) (ho' : OpR X (compareOp op') r') (hf : R2Ok X.K E f r) (hg : R2Ok X.K E g r') {e3 : Expr} (ha : PE X a (tE X.K E A)) (hb : PE X b (tE X.K E B)) (hc : PE X e3 (tE X.K E C))
    (hm : lastMarks [op, op'] [b, e3] = false := by with_unfolding_all rfl) : PE X (.Compare a [op, op'] [b, e3] pos) (tE X.K E (eChain f g A B C)) :=
  PE_imp (pe_chain ho ho' ha hb hc hm) fun _ _ _ h => chain_read hf hg h
theorem t_chain {op op' : CmpOp} {f g : W → W → St → R St W} {r r' : R2} (ho : OpR X (compareOp op) r) (ho' : OpR X (compareOp op') r') (hf : R2Ok X.K E f r) (hg : R2Ok X.K E g r') {e3 : Expr} (ha : PE X a (tE X.K E A)) (hb : PE X b (tE X.K E B)) (hc : PE X e3 (tE X.K E C))
    (hm : lastMarks [op, op'] [b, e3] = false := by with_unfolding_all rfl) : PT X (.Compare a [op, op'] [b, e3] pos) (tT X.K E (tOfE (eChain f g A B C))) :=
  PT_imp (pt_chain ho ho' ha hb hc hm) fun σ H Q h => chain_read hf hg (tE_test h)
end

/-! ### handing a value on -/
def St.setS (st : St) (i : Nat) (s : Slot) : St := { st with env := st.env.set i s }
/-- what is handed on is changed by nobody any more -/
def force (w : W) (st : St) : R St Dv := match w with
  | .v x => .ok x st
  | .sl i => match st.env[i]? with
    | some (.own (.lst xs)) => .ok (.d (.list xs)) (st.setS i (.v (.d (.list xs))))
    | some (.v x) => .ok x st
    | _ => .bad
def forceD (w : W) (st : St) : R St D := (force w st).bind fun x s => match x with
  | .d d => .ok d s
  | _ => .bad
section
variable {K : PySem.W.Frag} {σ : L2.St} {c : Cf}
theorem set_get {α : Type} {l : List α} {i j : Nat} {a b : α} (h : (l.set i a)[j]? = some b) : (j = i ∧ b = a) ∨ (j ≠ i ∧ l[j]? = some b) := by
  by_cases e : i = j
  · subst e
    rw [List.getElem?_set] at h
    simp only [if_true] at h
    split at h
    · cases h; exact .inl ⟨rfl, rfl⟩
    · cases h
  · rw [List.getElem?_set_ne e] at h
    exact .inr ⟨fun z => e z.symm, h⟩
/-- slot i takes a value -/
theorem Ok.setV (o : Ok K σ c) {i : Nat} {v : V} {x : Dv} (h : DvOk K c.G c.A v x) : Ok K (σ.set i (some v)) { c with st := c.st.setS i (.v x) } := by
  refine ⟨o.sub, by show (c.st.env.set i _).length = _; rw [List.length_set, List.length_set]; exact o.len, fun j s ov h1 h2 => ?_, fun j k p q a h1 h2 h3 h4 => ?_, o.alen, o.cell, o.anod, o.agn, o.pre, o.fr, o.new, o.gnew⟩
  · rcases set_get h1 with ⟨rfl, rfl⟩ | ⟨n1, e1⟩
    · rcases set_get h2 with ⟨_, rfl⟩ | ⟨n2, _⟩
      · exact ⟨v, rfl, h⟩
      · exact absurd rfl n2
    · rcases set_get h2 with ⟨n2, _⟩ | ⟨_, e2⟩
      · exact absurd n2 n1
      · exact o.slot j s ov e1 e2
  · rcases set_get h1 with ⟨_, z⟩ | ⟨n1, e1⟩
    · cases z
    · rcases set_get h2 with ⟨_, z⟩ | ⟨n2, e2⟩
      · cases z
      · rcases set_get h3 with ⟨z, _⟩ | ⟨_, e3⟩
        · exact absurd z n1
        · rcases set_get h4 with ⟨z, _⟩ | ⟨_, e4⟩
          · exact absurd z n2
          · exact o.apart j k p q a e1 e2 e3 e4
theorem Le.st (c : Cf) (st : St) : Le c { c with st := st } := ⟨rfl, rfl, rfl, Same.refl _, List.prefix_refl _⟩
/-- slot i takes a thing of one's own that was just made -/
theorem Ok.setW (o : Ok K σ c) {i : Nat} {p : Addr} {u : HO} {w : Own} (hp : c.H p = none) (hw : OwnOk c.G (upd c.H p u) p w) : Ok K (σ.set i (some (.ref p))) { c with st := c.st.setS i (.own w), H := upd c.H p u } := by
  have old : ∀ b u', c.H b = some u' → (upd c.H p u) b = some u' := fun b u' e => by rw [upd_ne (ne_of_none e hp)]; exact e
  have nA : ∀ a ∈ c.A, a ≠ p := fun a ha => by
    obtain ⟨u, hu⟩ := o.amem ha
    exact ne_of_none hu hp
  refine ⟨fun b u' e => old b u' (o.sub b u' e), by show (c.st.env.set i _).length = _; rw [List.length_set, List.length_set]; exact o.len, fun j s ov h1 h2 => ?_, fun j k q r a h1 h2 h3 h4 => ?_, o.alen, fun n ce a h1 h2 => ?_, o.anod, o.agn, o.pre, fun b u' h1 h2 => old b u' (o.fr b u' h1 h2), o.new, o.gnew⟩
  · rcases set_get h1 with ⟨rfl, rfl⟩ | ⟨n1, e1⟩
    · rcases set_get h2 with ⟨_, rfl⟩ | ⟨n2, _⟩
      · exact ⟨p, rfl, hw, o.gnone hp, fun z => nA p z rfl, o.hnone hp⟩
      · exact absurd rfl n2
    · rcases set_get h2 with ⟨n2, _⟩ | ⟨_, e2⟩
      · exact absurd n2 n1
      · have q := o.slot j s ov e1 e2
        cases s with
        | emp => trivial
        | v x => exact q
        | own w =>
          obtain ⟨a, e, q1, q2, q3, q4⟩ := q
          obtain ⟨u', hu⟩ := q1.some
          exact ⟨a, e, q1.mono (Same.refl _) (by rw [hu]; exact (old a u' hu).symm), q2, q3, q4⟩
  · have key : ∀ {j : Nat} {w : Own}, c.st.env[j]? = some (.own w) → σ[j]? = some (some (.ref a)) → a ≠ p := fun {j w} e1 e2 => by
      obtain ⟨b, e, q1, _⟩ := o.slot j _ _ e1 e2
      cases e
      obtain ⟨u, hu⟩ := q1.some
      exact ne_of_none hu hp
    rcases set_get h1 with ⟨z1, _⟩ | ⟨n1, e1⟩
    · rcases set_get h2 with ⟨z2, _⟩ | ⟨n2, e2⟩
      · rw [z1, z2]
      · rcases set_get h4 with ⟨z, _⟩ | ⟨_, e4⟩
        · exact absurd z n2
        · rcases set_get h3 with ⟨_, z⟩ | ⟨z, _⟩
          · cases z
            exact absurd rfl (key e2 e4)
          · exact absurd z1 z
    · rcases set_get h3 with ⟨z, _⟩ | ⟨_, e3⟩
      · exact absurd z n1
      · rcases set_get h2 with ⟨z2, _⟩ | ⟨n2, e2⟩
        · rcases set_get h4 with ⟨_, z⟩ | ⟨z, _⟩
          · cases z
            exact absurd rfl (key e1 e3)
          · exact absurd z2 z
        · rcases set_get h4 with ⟨z, _⟩ | ⟨_, e4⟩
          · exact absurd z n2
          · exact o.apart j k q r a e1 e2 e3 e4
  · obtain ⟨u', hu⟩ := o.amem (List.mem_of_getElem? h2)
    exact (o.cell n ce a h1 h2).mono (Same.refl _) (List.prefix_refl _) (by rw [hu]; exact (old a u' hu).symm)
theorem Ok.setO (o : Ok K σ c) {i : Nat} {p : Addr} {vs : List V} {xs : List D} (hp : c.H p = none) (h : RpAll c.G vs xs) : Ok K (σ.set i (some (.ref p))) { c with st := c.st.setS i (.own (.lst xs)), H := upd c.H p (.lst vs) } :=
  o.setW hp ⟨vs, upd_same, h⟩
/-- what stands at an address of one's own is frozen -/
theorem Ok.freezeAt (o : Ok K σ c) {i : Nat} {w : Own} {v : V} {a : Addr} {u : HO} (h : c.st.env[i]? = some (.own w)) (hs : σ[i]? = some (some v)) (ev : v = .ref a) (hu : c.H a = some u) (q2 : c.G a = none) (q3 : a ∉ c.A) (q4 : c.H0 a = none)
    (hr : Rp (upd c.G a u) (.ref a) w.data) : ∃ c', Le c c' ∧ c'.st = c.st.setS i (.v (.d w.data)) ∧ Ok K σ c' ∧ c'.H = c.H ∧ Rp c'.G v w.data := by
  subst ev
  have sg : Same c.G (upd c.G a u) := same_upd q2
  refine ⟨{ c with G := upd c.G a u, st := c.st.setS i (.v (.d w.data)) }, ⟨rfl, rfl, rfl, sg, List.prefix_refl _⟩, rfl, ?_, rfl, hr⟩
  refine ⟨fun b u' e => ?_, by show (c.st.env.set i _).length = _; rw [List.length_set]; exact o.len, fun j s ov e1 e2 => ?_, fun j k p q b e1 e2 e3 e4 => ?_, o.alen, fun n ce b e1 e2 => (o.cell n ce b e1 e2).mono sg (List.prefix_refl _) rfl, o.anod, fun n ce b e1 e2 nd => ?_, o.pre, o.fr, o.new, fun b u' e => ?_⟩
  · by_cases hb : b = a
    · subst hb
      have e : upd c.G b u b = some u' := e
      rw [upd_same] at e
      cases e
      exact hu
    · have e : upd c.G a u b = some u' := e
      rw [upd_ne hb] at e
      exact o.sub b u' e
  · rcases set_get e1 with ⟨rfl, rfl⟩ | ⟨n1, e1'⟩
    · rw [hs] at e2
      cases e2
      exact ⟨_, rfl, hr⟩
    · have q := o.slot j s ov e1' e2
      cases s with
      | emp => trivial
      | v x =>
        obtain ⟨v, e, q⟩ := q
        exact ⟨v, e, q.mono sg (List.prefix_refl _)⟩
      | own w =>
        obtain ⟨b, e, p1, p2, p3, p4⟩ := q
        refine ⟨b, e, p1.mono sg rfl, ?_, p3, p4⟩
        show upd c.G a u b = none
        rw [upd_ne ?_]
        · exact p2
        · rintro rfl
          rw [e] at e2
          exact n1 (o.apart j i _ _ b e1' h e2 hs)
  · rcases set_get e1 with ⟨_, z⟩ | ⟨n1, e1⟩
    · cases z
    · rcases set_get e2 with ⟨_, z⟩ | ⟨n2, e2⟩
      · cases z
      · exact o.apart j k p q b e1 e2 e3 e4
  · show upd c.G a u b = none
    rw [upd_ne ?_]
    · exact o.agn n ce b e1 e2 nd
    · rintro rfl
      exact q3 (List.mem_of_getElem? e2)
  · by_cases hb : b = a
    · subst hb
      exact .inr (.inl q4)
    · have e : upd c.G a u b = some u' := e
      rw [upd_ne hb] at e
      exact o.gnew b u' e
/-- a thing of one's own is frozen -/
theorem Ok.freeze (o : Ok K σ c) {i : Nat} {xs : List D} {v : V} (h : c.st.env[i]? = some (.own (.lst xs))) (hs : σ[i]? = some (some v)) :
    ∃ c', Le c c' ∧ c'.st = c.st.setS i (.v (.d (.list xs))) ∧ Ok K σ c' ∧ c'.H = c.H ∧ Rp c'.G v (.list xs) := by
  obtain ⟨a, e, q1, q2, q3, q4⟩ := o.slot i _ _ h hs
  cases e
  obtain ⟨vs, h1, h2⟩ := q1
  exact o.freezeAt (w := .lst xs) h hs rfl h1 q2 q3 q4 (.lst upd_same (h2.mono (same_upd q2) xs _))
theorem force_ok (o : Ok K σ c) {w : W} {v : V} {x : Dv} {st : St} (h : WOk K σ c v w) (e : force w c.st = .ok x st) : ∃ c', Le c c' ∧ c'.st = st ∧ Ok K σ c' ∧ c'.H = c.H ∧ DvOk K c'.G c'.A v x := by
  cases w with
  | v y =>
    have e : R.ok y c.st = .ok x st := e
    cases e
    exact ⟨c, Le.refl c, rfl, o, rfl, h⟩
  | sl i =>
    have h : σ[i]? = some (some v) := h
    unfold force at e
    cases q : c.st.env[i]? with
    | none => simp only [q] at e; cases e
    | some s =>
      simp only [q] at e
      cases s with
      | emp => cases e
      | v y =>
        have e : R.ok y c.st = .ok x st := e
        cases e
        obtain ⟨v', e1, q1⟩ := o.slot i _ _ q h
        cases e1
        exact ⟨c, Le.refl c, rfl, o, rfl, q1⟩
      | own w =>
        cases w with
        | lst xs =>
          have e : R.ok (Dv.d (.list xs)) (c.st.setS i (.v (.d (.list xs)))) = .ok x st := e
          cases e
          exact o.freeze q h
        | dct _ => cases e
/-- behind a force -/
theorem post_force {α : Type} {E : XW} {w : W} {v : V} {f : Dv → St → R St α} {P : α → Cf → Prop} (o : Ok K σ c) (hw : WOk K σ c v w) (h : Post K E σ c ((force w c.st).bind f) P) :
    ∃ x c', Le c c' ∧ Ok K σ c' ∧ c'.H = c.H ∧ DvOk K c'.G c'.A v x ∧ Post K E σ c' (f x c'.st) P := by
  cases e : force w c.st with
  | ok x st =>
    obtain ⟨c', l, e1, o', e2, hx⟩ := force_ok o hw e
    rw [e] at h
    refine ⟨x, c', l, o', e2, hx, ?_⟩
    rw [e1]
    have h : Post K E σ c (f x st) P := h
    generalize f x st = r at h ⊢
    cases r with
    | ok b st2 => exact fun c2 l2 e3 o2 => h c2 (l.trans l2) e3 o2
    | exc n st2 => exact fun c2 l2 e3 o2 => h c2 (l.trans l2) e3 o2
    | bad => exact h
  | exc n st =>
    exfalso
    unfold PD.force at e
    cases w with
    | v y => cases e
    | sl i =>
      simp only at e
      split at e <;> cases e
  | bad => rw [e] at h; exact h.elim
/-- a thing of one's own is frozen, its object told anew -/
theorem Ok.frzO (o : Ok K σ c) {i : Nat} {w : Own} {v : V} (h : c.st.env[i]? = some (.own w)) (hs : σ[i]? = some (some v)) :
    ∃ a, v = .ref a ∧ OwnOk c.G c.H a w ∧ c.G a = none ∧ ∀ u, Rp (upd c.G a u) (.ref a) w.data → Ok K σ { c with G := upd c.G a u, H := upd c.H a u, st := c.st.setS i (.v (.d w.data)) } := by
  obtain ⟨a, e, q1, q2, q3, q4⟩ := o.slot i _ _ h hs
  cases e
  refine ⟨a, rfl, q1, q2, fun u hr => ?_⟩
  have sg : Same c.G (upd c.G a u) := same_upd q2
  have stay : ∀ b, b ≠ a → c.H b = upd c.H a u b := fun b hb => (upd_ne hb).symm
  refine ⟨fun b u' e => ?_, by show (c.st.env.set i _).length = _; rw [List.length_set]; exact o.len, fun j s ov e1 e2 => ?_, fun j k p q b e1 e2 e3 e4 => ?_, o.alen, fun n ce b e1 e2 => ?_, o.anod, fun n ce b e1 e2 nd => ?_, o.pre, fun b u' e1 e2 => ?_, o.new, fun b u' e => ?_⟩
  · by_cases hb : b = a
    · subst hb
      have e : upd c.G b u b = some u' := e
      rw [upd_same] at e
      cases e
      exact upd_same
    · have e : upd c.G a u b = some u' := e
      rw [upd_ne hb] at e
      exact (stay b hb).symm.trans (o.sub b u' e)
  · rcases set_get e1 with ⟨rfl, rfl⟩ | ⟨n1, e1'⟩
    · rw [hs] at e2
      cases e2
      exact ⟨_, rfl, hr⟩
    · have q := o.slot j s ov e1' e2
      cases s with
      | emp => trivial
      | v x =>
        obtain ⟨v, e, q⟩ := q
        exact ⟨v, e, q.mono sg (List.prefix_refl _)⟩
      | own w =>
        obtain ⟨b, e, p1, p2, p3, p4⟩ := q
        have hb : b ≠ a := by
          rintro rfl
          rw [e] at e2
          exact n1 (o.apart j i _ _ b e1' h e2 hs)
        exact ⟨b, e, p1.mono sg (stay b hb), (upd_ne hb).trans p2, p3, p4⟩
  · rcases set_get e1 with ⟨_, z⟩ | ⟨n1, e1⟩
    · cases z
    · rcases set_get e2 with ⟨_, z⟩ | ⟨n2, e2⟩
      · cases z
      · exact o.apart j k p q b e1 e2 e3 e4
  · have hb : b ≠ a := fun z => q3 (z ▸ List.mem_of_getElem? e2)
    exact (o.cell n ce b e1 e2).mono sg (List.prefix_refl _) (stay b hb)
  · have hb : b ≠ a := fun z => q3 (z ▸ List.mem_of_getElem? e2)
    exact (upd_ne hb).trans (o.agn n ce b e1 e2 nd)
  · have hb : b ≠ a := fun z => by rw [z, q4] at e1; cases e1
    exact (stay b hb).symm.trans (o.fr b u' e1 e2)
  · by_cases hb : b = a
    · subst hb
      exact .inr (.inl q4)
    · have e : upd c.G a u b = some u' := e
      rw [upd_ne hb] at e
      exact o.gnew b u' e
/-- a cell is frozen -/
theorem Ok.frzC (o : Ok K σ c) {n : Nat} {ce : Cell} {a : Addr} (q : c.st.mem[n]? = some ce) (ha : c.A[n]? = some a) (nd : ce.live = true) {u : HO} {d : D} (hr : Rp (upd c.G a u) (.ref a) d) :
    Ok K σ { c with G := upd c.G a u, H := upd c.H a u, st := { c.st with mem := c.st.mem.set n (.fz d) } } := by
  have hA := List.mem_of_getElem? ha
  have hGa := o.agn n ce a q ha nd
  have sg : Same c.G (upd c.G a u) := same_upd hGa
  have stay : ∀ b, b ≠ a → c.H b = upd c.H a u b := fun b hb => (upd_ne hb).symm
  refine ⟨fun b u' e => ?_, o.len, fun j s ov e1 e2 => ?_, o.apart, by show c.A.length = (c.st.mem.set n _).length; rw [List.length_set]; exact o.alen, fun m ce b e1 e2 => ?_, o.anod, fun m ce b e1 e2 nd2 => ?_, o.pre, fun b u' e1 e2 => ?_, o.new, fun b u' e => ?_⟩
  · by_cases hb : b = a
    · subst hb
      have e : upd c.G b u b = some u' := e
      rw [upd_same] at e
      cases e
      exact upd_same
    · have e : upd c.G a u b = some u' := e
      rw [upd_ne hb] at e
      exact (stay b hb).symm.trans (o.sub b u' e)
  · have q := o.slot j s ov e1 e2
    cases s with
    | emp => trivial
    | v x =>
      obtain ⟨v, e, q⟩ := q
      exact ⟨v, e, q.mono sg (List.prefix_refl _)⟩
    | own w =>
      obtain ⟨b, e, p1, p2, p3, p4⟩ := q
      have hb : b ≠ a := fun z => p3 (z ▸ hA)
      exact ⟨b, e, p1.mono sg (stay b hb), (upd_ne hb).trans p2, p3, p4⟩
  · rcases set_get e1 with ⟨rfl, rfl⟩ | ⟨n1, g1⟩
    · rw [ha] at e2
      cases e2
      exact ⟨⟨_, upd_same⟩, hr⟩
    · have hb : b ≠ a := by
        rintro rfl
        exact n1 (nd_ix o.anod e2 ha)
      exact (o.cell m ce b g1 e2).mono sg (List.prefix_refl _) (stay b hb)
  · rcases set_get e1 with ⟨rfl, rfl⟩ | ⟨n1, g1⟩
    · cases nd2
    · have hb : b ≠ a := by
        rintro rfl
        exact n1 (nd_ix o.anod e2 ha)
      exact (upd_ne hb).trans (o.agn m ce b g1 e2 nd2)
  · have hb : b ≠ a := fun z => by
      rcases o.new a hA with y | y
      · rw [z] at e2; exact e2 y
      · rw [z, y] at e1; cases e1
    exact (stay b hb).symm.trans (o.fr b u' e1 e2)
  · by_cases hb : b = a
    · subst hb
      rcases o.new b hA with y | y
      · exact .inr (.inr y)
      · exact .inr (.inl y)
    · have e : upd c.G a u b = some u' := e
      rw [upd_ne hb] at e
      exact o.gnew b u' e
end
/-- what is handed on, locked for good: lists, dicts, cells too -/
def fzW : W → St → Option (D × St)
  | .sl i, st => (match st.env[i]? with
    | some (.own u) => some (u.data, st.setS i (.v (.d u.data)))
    | some (.v (.d x)) => some (x, st)
    | _ => none)
  | .v (.d x), st => some (x, st)
  | .v (.c n), st => (match st.mem[n]? with
    | some (.lst xs) => some (.list xs, { st with mem := st.mem.set n (.fz (.list xs)) })
    | some (.dct kvs) => some (.dict kvs, { st with mem := st.mem.set n (.fz (.dict kvs)) })
    | some (.fz x) => some (x, st)
    | _ => none)
  | .v (.k _), _ => none
def eFz (A : ESem) : ESem := fun st => (A st).bind fun w s => match fzW w s with
  | some p => .ok (.v (.d p.1)) p.2
  | none => .bad
section
variable {X : Cx} {E : XW} {a : Expr} {A : ESem}
theorem le_frz {c : Cf} {st : St} {G H : Hp} (g : Same c.G G) : Le c { c with G := G, H := H, st := st } := ⟨rfl, rfl, rfl, g, List.prefix_refl _⟩
theorem dict_lock {pins : List (Addr × Obj)} {σ : L2.St} {G H : Hp} {s : Shared} {a : Addr} {kvs : List (D × D)} (I : Inv X pins σ H s) (n : G a = none) (h : DictOk G H a kvs) :
    ∃ u, Inv X pins σ (upd H a u) s ∧ Rp (upd G a u) (.ref a) (.dict kvs) := by
  rcases h with ⟨es, h, t⟩ | ⟨es, h, N, t⟩
  · obtain ⟨od, I'⟩ := I.lock h True.intro
    exact ⟨_, I', .dcK upd_same (t.mono (same_upd n))⟩
  · obtain ⟨od, I'⟩ := I.lock h True.intro
    exact ⟨_, I', .dcN upd_same N (t.mono (same_upd n))⟩
theorem list_lock {pins : List (Addr × Obj)} {σ : L2.St} {G H : Hp} {s : Shared} {a : Addr} {vs : List V} {xs : List D} (I : Inv X pins σ H s) (n : G a = none) (h : H a = some (.lst vs)) (r : RpAll G vs xs) :
    ∃ u, Inv X pins σ (upd H a u) s ∧ Rp (upd G a u) (.ref a) (.list xs) := by
  refine ⟨.lst vs, ?_, .lst upd_same (r.mono (same_upd n) xs _)⟩
  have e : upd H a (.lst vs) = H := by
    funext b
    by_cases hb : b = a
    · rw [hb, upd_same, h]
    · rw [upd_ne hb]
  rw [e]
  exact I
theorem e_fz (ha : PE X a (tE X.K E A)) : PE X a (tE X.K E (eFz A)) := by
  refine ⟨fun pins s σ H Q I h => ?_⟩
  obtain ⟨c, rfl, o, h⟩ := h
  have h1 : tE X.K E A σ c.H fun v H1 => ∃ c1 w, c1.H = H1 ∧ Ok X.K σ c1 ∧ WOk X.K σ c1 v w ∧ Post X.K E σ c1 (match fzW w c1.st with
      | some p => R.ok (.v (.d p.1)) p.2
      | none => .bad) fun w c' => ∀ v, WOk X.K σ c' v w → Q v c'.H :=
    ⟨c, rfl, o, h.bind.mono fun w c1 l1 o1 h1 v hv => ⟨c1, w, rfl, o1, hv, h1⟩⟩
  refine thn (ha.run pins s σ c.H _ I h1) fun u s1 ⟨v, H1, I1, rv, c1, w, eH, o1, hw, q⟩ => ?_
  subst eH
  have fin : ∀ {c2 : Cf} {x : D}, Le c1 c2 → Ok X.K σ c2 → Inv X pins σ c2.H s1 → Rp c2.G v x → Post X.K E σ c1 (.ok (.v (.d x)) c2.st) (fun w c' => ∀ v, WOk X.K σ c' v w → Q v c'.H) → EP X pins σ Q u s1 :=
    fun {c2 x} l o2 I2 r p => ⟨v, c2.H, I2, rv, p c2 l rfl o2 v r⟩
  have own : ∀ {i : Nat} {uo : Own}, c1.st.env[i]? = some (.own uo) → σ[i]? = some (some v) → Post X.K E σ c1 (.ok (.v (.d uo.data)) (c1.st.setS i (.v (.d uo.data)))) (fun w c' => ∀ v, WOk X.K σ c' v w → Q v c'.H) → EP X pins σ Q u s1 := by
    intro i uo e hs p
    obtain ⟨a, ev, q1, q2, k⟩ := o1.frzO e hs
    have : ∃ z, Inv X pins σ (upd c1.H a z) s1 ∧ Rp (upd c1.G a z) (.ref a) uo.data := by
      cases uo with
      | lst xs =>
        obtain ⟨vs, h1, h2⟩ := q1
        exact list_lock I1 q2 h1 h2
      | dct kvs => exact dict_lock I1 q2 q1
    obtain ⟨z, I2, r⟩ := this
    exact fin (c2 := { c1 with G := upd c1.G a z, H := upd c1.H a z, st := c1.st.setS i (.v (.d uo.data)) }) (le_frz (same_upd q2)) (k z r) I2 (by rw [ev]; exact r) p
  cases w with
  | sl i =>
    have hw : σ[i]? = some (some v) := hw
    unfold fzW at q
    cases e : c1.st.env[i]? with
    | none => simp only [e] at q; exact q.elim
    | some sl =>
      simp only [e] at q
      cases sl with
      | emp => exact q.elim
      | own uo => exact own e hw q
      | v x =>
        cases x with
        | d x =>
          obtain ⟨v', e1, r⟩ := o1.slot i _ _ e hw
          cases e1
          exact fin (Le.refl c1) o1 I1 r q
        | c n => exact q.elim
        | k x => exact q.elim
  | v x =>
    cases x with
    | d x => exact fin (Le.refl c1) o1 I1 hw q
    | k x => exact q.elim
    | c n =>
      obtain ⟨a, ha, rfl⟩ := hw
      unfold fzW at q
      cases e : c1.st.mem[n]? with
      | none => simp only [e] at q; exact q.elim
      | some ce =>
        simp only [e] at q
        cases ce with
        | lst xs =>
          have hG := o1.agn n _ a e ha rfl
          obtain ⟨vs, h1, h2⟩ := o1.cell n _ a e ha
          obtain ⟨z, I2, r⟩ := list_lock I1 hG h1 h2
          exact fin (c2 := { c1 with G := upd c1.G a z, H := upd c1.H a z, st := { c1.st with mem := c1.st.mem.set n (.fz (.list xs)) } }) (le_frz (same_upd hG)) (o1.frzC e ha rfl r) I2 r q
        | dct kvs =>
          have hG := o1.agn n _ a e ha rfl
          obtain ⟨z, I2, r⟩ := dict_lock I1 hG (o1.cell n _ a e ha)
          exact fin (c2 := { c1 with G := upd c1.G a z, H := upd c1.H a z, st := { c1.st with mem := c1.st.mem.set n (.fz (.dict kvs)) } }) (le_frz (same_upd hG)) (o1.frzC e ha rfl r) I2 r q
        | fz x => exact fin (Le.refl c1) o1 I1 (o1.cell n _ a e ha).2 q
        | obj _ _ => exact q.elim
        | rows _ => exact q.elim
        | drows _ => exact q.elim
end
end PD

set_option Elab.async false
set_option linter.all false
set_option maxRecDepth 100000
set_option maxHeartbeats 1000000
/-! PDRun: statements, fresh lists, defs and their calls. -/
namespace PD
open PySem PySem.Spec PyProof.Rows L2

/-! ### statements -/
inductive Fl where
  | nx | rt (x : Dv) | bk | ct
abbrev SSem := St → R St Fl
def PostS (K : PySem.W.Frag) (E : XW) (c : Cf) (r : R St Fl) (Dn : Ends) (n : Nat) : Prop := match r with
  | .ok .nx st => ∀ σ c', σ.length = n → Le c c' → c'.st = st → Ok K σ c' → Dn.nx σ c'.H
  | .ok .bk st => ∀ σ c', σ.length = n → Le c c' → c'.st = st → Ok K σ c' → Dn.bk σ c'.H
  | .ok .ct st => ∀ σ c', σ.length = n → Le c c' → c'.st = st → Ok K σ c' → Dn.ct σ c'.H
  | .ok (.rt x) st => ∀ σ c' v, σ.length = n → Le c c' → c'.st = st → Ok K σ c' → DvOk K c'.G c'.A v x → Dn.rt v c'.H
  | .exc m st => ∀ σ c', σ.length = n → Le c c' → c'.st = st → Ok K σ c' → E m σ c'.H
  | .bad => False
def tS (K : PySem.W.Frag) (E : XW) (sem : SSem) : TS := fun Dn σ H => ∃ c, c.H = H ∧ Ok K σ c ∧ PostS K E c (sem c.st) Dn σ.length
section
variable {K : PySem.W.Frag} {E : XW} {σ : L2.St} {c : Cf} {Dn : Ends} {n : Nat}
theorem PostS.le {c c' : Cf} (l : Le c c') {r : R St Fl} (h : PostS K E c r Dn n) : PostS K E c' r Dn n := by
  cases r with
  | ok f st =>
    cases f with
    | nx => exact fun σ c2 hl l2 e o => h σ c2 hl (l.trans l2) e o
    | bk => exact fun σ c2 hl l2 e o => h σ c2 hl (l.trans l2) e o
    | ct => exact fun σ c2 hl l2 e o => h σ c2 hl (l.trans l2) e o
    | rt x => exact fun σ c2 v hl l2 e o => h σ c2 v hl (l.trans l2) e o
  | exc m st => exact fun σ c2 hl l2 e o => h σ c2 hl (l.trans l2) e o
  | bad => exact h
/-- an expression, then what follows -/
theorem PostS.bind {α : Type} {r : R St α} {f : α → St → R St Fl} (hn : σ.length = n) (h : PostS K E c (r.bind f) Dn n) : Post K E σ c r fun a c1 => PostS K E c1 (f a c1.st) Dn n := by
  cases r with
  | ok a st =>
    intro c1 l e o
    subst e
    exact PostS.le l h
  | exc m st => exact fun c1 l e o => h σ c1 hn l e o
  | bad => exact h
theorem PostS.nx (o : Ok K σ c) (hn : σ.length = n) (h : PostS K E c (.ok .nx c.st) Dn n) : Dn.nx σ c.H := h σ c hn (Le.refl c) rfl o
def sNext : SSem := fun st => .ok .nx st
def sSeq (A B : SSem) : SSem := fun st => (A st).bind fun f s => match f with
  | .nx => B s
  | f => .ok f s
theorem PostS.seq {A B : SSem} (h : PostS K E c (sSeq A B c.st) Dn n) : PostS K E c (A c.st) { Dn with nx := fun σ H => σ.length = n → tS K E B Dn σ H } n := by
  unfold sSeq at h
  cases q : A c.st with
  | ok f st =>
    rw [q] at h
    cases f with
    | nx =>
      have h : PostS K E c (B st) Dn n := h
      intro σ c' hl l e o hl2
      exact ⟨c', rfl, o, by rw [e, hl]; exact PostS.le l h⟩
    | bk => exact h
    | ct => exact h
    | rt x => exact h
  | exc m st => rw [q] at h; exact h
  | bad => rw [q] at h; exact h
end
section
variable {X : Cx} {E : XW} {pos : Pos} {a b e1 : Expr} {A B : ESem} {T : TSem} {S S' : SSem} {st st' : Stmt} {sts sts' : List Stmt}
theorem s_nil : PSs X [] (tS X.K E sNext) := PSs_imp pss_nil fun D σ H ⟨c, e, o, h⟩ => e ▸ h.nx o rfl
/-- the slots stay as many -/
theorem PSs_len {t : TS} (h : PSs X sts t) : PSs X sts fun D σ H => t { D with nx := fun σ' H' => σ'.length = σ.length → D.nx σ' H' } σ H := ⟨fun pins s σ H D I hq => by
  refine thn (h.run pins s σ H _ I hq) fun f s' q => ?_
  cases f with
  | next =>
    obtain ⟨σ', H', I', q⟩ := q
    exact ⟨σ', H', I', q (I'.len.trans I.len.symm)⟩
  | ret u => exact q
  | brk => exact q
  | cont => exact q⟩
theorem PS_len {t : TS} (h : PS X st t) : PS X st fun D σ H => t { D with nx := fun σ' H' => σ'.length = σ.length → D.nx σ' H' } σ H := ⟨fun pins s σ H D I hq => by
  refine thn (h.run pins s σ H _ I hq) fun f s' q => ?_
  cases f with
  | next =>
    obtain ⟨σ', H', I', q⟩ := q
    exact ⟨σ', H', I', q (I'.len.trans I.len.symm)⟩
  | ret u => exact q
  | brk => exact q
  | cont => exact q⟩
theorem s_cons (h1 : PS X st (tS X.K E S)) (h2 : PSs X sts (tS X.K E S')) : PSs X (st :: sts) (tS X.K E (sSeq S S')) := by
  refine PSs_imp (pss_cons (PS_len h1) h2) fun D σ H h => ?_
  obtain ⟨c, rfl, o, h⟩ := h
  exact ⟨c, rfl, o, h.seq⟩
theorem s_one (h1 : PS X st (tS X.K E S)) : PSs X [st] (tS X.K E S) := pss_one h1
def sIf (T : TSem) (S S' : SSem) : SSem := fun st => (T st).bind fun b s => if b = true then S s else S' s
theorem s_if (ht : PT X e1 (tT X.K E T)) (h1 : PSs X sts (tS X.K E S)) (h2 : PSs X sts' (tS X.K E S')) : PS X (.If e1 sts sts' pos) (tS X.K E (sIf T S S')) := by
  refine PS_imp (ps_if ht h1 h2) fun D σ H h => ?_
  obtain ⟨c, rfl, o, h⟩ := h
  refine ⟨c, rfl, o, (PostS.bind rfl h).mono fun b c1 l1 o1 h1 => ?_⟩
  cases b with
  | true =>
    rw [if_pos rfl] at h1 ⊢
    exact ⟨c1, rfl, o1, h1⟩
  | false =>
    rw [if_neg (by decide)] at h1 ⊢
    exact ⟨c1, rfl, o1, h1⟩
def sPass : SSem := sNext
theorem s_pass : PS X (.Pass pos) (tS X.K E sNext) := PS_imp ps_pass fun D σ H ⟨c, e, o, h⟩ => e ▸ h.nx o rfl
def sBreak : SSem := fun st => .ok .bk st
def sCont : SSem := fun st => .ok .ct st
theorem s_break : PS X (.Break pos) (tS X.K E sBreak) := PS_imp ps_break fun D σ H ⟨c, e, o, h⟩ => e ▸ h σ c rfl (Le.refl c) rfl o
theorem s_cont : PS X (.Continue pos) (tS X.K E sCont) := PS_imp ps_continue fun D σ H ⟨c, e, o, h⟩ => e ▸ h σ c rfl (Le.refl c) rfl o
def sExpr (A : ESem) : SSem := fun st => (A st).bind fun _ s => .ok .nx s
theorem s_expr (ha : PE X a (tE X.K E A)) (hs : swapsWith a none pos.line X.env = pure false := by rfl) : PS X (.Expr a pos) (tS X.K E (sExpr A)) := by
  refine PS_imp (ps_expr ha hs) fun D σ H h => ?_
  obtain ⟨c, rfl, o, h⟩ := h
  exact ⟨c, rfl, o, (PostS.bind rfl h).mono fun w c1 l1 o1 h1 v hv => h1.nx o1 rfl⟩
/-- behind a force -/
theorem postS_force {K : PySem.W.Frag} {σ : L2.St} {c : Cf} {Dn : Ends} {w : W} {v : V} {f : Dv → St → R St Fl} (o : Ok K σ c) (hw : WOk K σ c v w) (h : PostS K E c ((force w c.st).bind f) Dn σ.length) :
    ∃ x c', Le c c' ∧ Ok K σ c' ∧ c'.H = c.H ∧ DvOk K c'.G c'.A v x ∧ PostS K E c' (f x c'.st) Dn σ.length := by
  cases e : force w c.st with
  | ok x st =>
    obtain ⟨c', l, e1, o', e2, hx⟩ := force_ok o hw e
    rw [e] at h
    refine ⟨x, c', l, o', e2, hx, ?_⟩
    rw [e1]
    exact PostS.le l h
  | exc n st =>
    exfalso
    unfold PD.force at e
    cases w with
    | v y => cases e
    | sl i =>
      simp only at e
      split at e <;> cases e
  | bad => rw [e] at h; exact h.elim
def sRet (A : ESem) : SSem := fun st => (A st).bind fun w s => (force w s).bind fun x s' => .ok (.rt x) s'
theorem s_ret (ha : PE X a (tE X.K E A)) : PS X (.Return (some a) pos) (tS X.K E (sRet A)) := by
  refine PS_imp (ps_ret ha) fun D σ H h => ?_
  obtain ⟨c, rfl, o, h⟩ := h
  refine ⟨c, rfl, o, (PostS.bind rfl h).mono fun w c1 l1 o1 h1 v hv => ?_⟩
  obtain ⟨x, c2, l2, o2, e2, hx, h2⟩ := postS_force o1 hv h1
  rw [← e2]
  exact h2 σ c2 v rfl (Le.refl _) rfl o2 hx
def sRetN : SSem := fun st => .ok (.rt (.d .none)) st
theorem s_retN : PS X (.Return none pos) (tS X.K E sRetN) := PS_imp ps_retN fun D σ H ⟨c, e, o, h⟩ => e ▸ h σ c .non rfl (Le.refl c) rfl o .non

/-! ### x = e -/
def sSet (i : Nat) (A : ESem) : SSem := fun st => (A st).bind fun w s => (force w s).bind fun x s' => .ok .nx (s'.setS i (.v x))
theorem set_read {K : PySem.W.Frag} {i : Nat} {Dn : Ends} {σ : L2.St} {H : Hp} (h : tS K E (sSet i A) Dn σ H) : tAsg (tE K E A) (gName i) Dn σ H := by
  obtain ⟨c, rfl, o, h⟩ := h
  refine ⟨c, rfl, o, (PostS.bind rfl h).mono fun w c1 l1 o1 h1 v hv => ?_⟩
  obtain ⟨x, c2, l2, o2, e2, hx, h2⟩ := postS_force o1 hv h1
  rw [← e2]
  have o3 := o2.setV (i := i) hx
  exact h2 (σ.set i (some v)) { c2 with st := c2.st.setS i (.v x) } (by rw [List.length_set]) (Le.st c2 _) rfl o3
theorem s_set {i : Nat} {x : Str} {pos' : Pos} (ha : PE X a (tE X.K E A)) (hN : X.N.Nodup) (hi : X.N[i]? = some x := by rfl) (hx : Loc X.env.scope x := by first | exact Or.inl rfl | exact Or.inr rfl) (hs : swapsWith a (some (.Name x pos')) pos.line X.env = pure false := by rfl)
    (hf : X.fn x = true ∨ X.env.scope.names.lookup x = some .local := by first | exact .inl rfl | exact .inr rfl | assumption) : PS X (.Assign [.Name x pos'] a pos) (tS X.K E (sSet i A)) :=
  PS_imp (ps_set hN hi hx ha hs hf) fun _ _ _ h => set_read h

/-! ### fresh lists -/
abbrev FSem := St → R St (List D)
def tF (K : PySem.W.Frag) (E : XW) (sem : FSem) : TE := fun σ H Q => ∃ c, c.H = H ∧ Ok K σ c ∧ Post K E σ c (sem c.st) fun xs c' => ∀ p vs, c'.H p = none → RpAll c'.G vs xs → Q (.ref p) (upd c'.H p (.lst vs))
/-- as data -/
def eOfF (F : FSem) : ESem := fun st => (F st).bind fun xs s => retD (.list xs) s
theorem ofF_read {K : PySem.W.Frag} {F : FSem} {σ : L2.St} {H : Hp} {Q : VK} (h : tE K E (eOfF F) σ H Q) : tF K E F σ H Q := by
  obtain ⟨c, rfl, o, h⟩ := h
  exact ⟨c, rfl, o, h.bind.mono fun xs c1 l1 o1 h1 p vs hp hv => (retD_post h1).lst o1 hv p hp⟩
theorem e_ofF {F : FSem} (h : PE X a (tF X.K E F)) : PE X a (tE X.K E (eOfF F)) := PE_imp h fun _ _ _ h => ofF_read h
/-- as a thing of one's own in slot i -/
def sSetO (i : Nat) (F : FSem) : SSem := fun st => (F st).bind fun xs s => .ok .nx (s.setS i (.own (.lst xs)))
theorem setO_read {K : PySem.W.Frag} {F : FSem} {i : Nat} {Dn : Ends} {σ : L2.St} {H : Hp} (h : tS K E (sSetO i F) Dn σ H) : tAsg (tF K E F) (gName i) Dn σ H := by
  obtain ⟨c, rfl, o, h⟩ := h
  refine ⟨c, rfl, o, (PostS.bind rfl h).mono fun xs c1 l1 o1 h1 p vs hp hv => ?_⟩
  have o3 := o1.setO (i := i) hp hv
  exact h1 (σ.set i (some (.ref p))) { c1 with st := c1.st.setS i (.own (.lst xs)), H := upd c1.H p (.lst vs) } (by rw [List.length_set]) ⟨rfl, rfl, rfl, Same.refl _, List.prefix_refl _⟩ rfl o3
/-- as data in slot i -/
def sSetF (i : Nat) (F : FSem) : SSem := fun st => (F st).bind fun xs s => .ok .nx (s.setS i (.v (.d (.list xs))))
theorem setF_read {K : PySem.W.Frag} {F : FSem} {i : Nat} {Dn : Ends} {σ : L2.St} {H : Hp} (h : tS K E (sSetF i F) Dn σ H) : tAsg (tF K E F) (gName i) Dn σ H := by
  obtain ⟨c, rfl, o, h⟩ := h
  refine ⟨c, rfl, o, (PostS.bind rfl h).mono fun xs c1 l1 o1 h1 p vs hp hv => ?_⟩
  have hr : Rp (c1.push p (.lst vs)).G (.ref p) (.list xs) := .lst upd_same (hv.mono (same_upd (o1.gnone hp)) xs _)
  have o3 := (o1.push (u := .lst vs) hp).setV (i := i) (v := .ref p) (x := .d (.list xs)) hr
  exact h1 (σ.set i (some (.ref p))) _ (by rw [List.length_set]) ((o1.le_push hp).trans (Le.st _ _)) rfl o3
theorem s_setO {F : FSem} {i : Nat} {x : Str} {pos' : Pos} (ha : PE X a (tF X.K E F)) (hN : X.N.Nodup) (hi : X.N[i]? = some x := by rfl) (hx : Loc X.env.scope x := by first | exact Or.inl rfl | exact Or.inr rfl) (hs : swapsWith a (some (.Name x pos')) pos.line X.env = pure false := by rfl)
    (hf : X.fn x = true ∨ X.env.scope.names.lookup x = some .local := by first | exact .inl rfl | exact .inr rfl | assumption) : PS X (.Assign [.Name x pos'] a pos) (tS X.K E (sSetO i F)) :=
  PS_imp (ps_set hN hi hx ha hs hf) fun _ _ _ h => setO_read h
/-- all of them data -/
def forceAll : List W → St → R St (List D)
  | [], st => .ok [] st
  | w :: ws, st => (forceD w st).bind fun d s => (forceAll ws s).bind fun ds s' => .ok (d :: ds) s'
theorem forceD_ok {K : PySem.W.Frag} {σ : L2.St} {c : Cf} (o : Ok K σ c) {w : W} {v : V} {x : D} {st : St} (h : WOk K σ c v w) (e : forceD w c.st = .ok x st) : ∃ c', Le c c' ∧ c'.st = st ∧ Ok K σ c' ∧ c'.H = c.H ∧ Rp c'.G v x := by
  unfold forceD at e
  cases q : force w c.st with
  | ok y s =>
    rw [q] at e
    cases y with
    | d y =>
      have e : R.ok y s = R.ok x st := e
      cases e
      exact force_ok o h q
    | c n => cases e
    | k y => cases e
  | exc n s => rw [q] at e; cases e
  | bad => rw [q] at e; cases e
theorem force_exc {w : W} {st s : St} {n : Str} : force w st ≠ .exc n s := by
  intro e
  unfold PD.force at e
  cases w with
  | v y => cases e
  | sl i =>
    simp only at e
    split at e <;> cases e
theorem forceD_exc {w : W} {st s : St} {n : Str} : forceD w st ≠ .exc n s := by
  intro e
  unfold forceD at e
  cases q : force w st with
  | ok y t =>
    rw [q] at e
    cases y <;> cases e
  | exc m t => exact force_exc q
  | bad => rw [q] at e; cases e
theorem forceAll_exc : ∀ {ws : List W} {st s : St} {n : Str}, forceAll ws st ≠ .exc n s
  | [], st, s, n, e => by cases e
  | w :: ws, st, s, n, e => by
    unfold forceAll at e
    cases q : forceD w st with
    | ok d t =>
      rw [q] at e
      cases q2 : forceAll ws t with
      | ok ds t2 =>
        have e : R.bind (forceAll ws t) (fun ds s' => R.ok (d :: ds) s') = R.exc n s := e
        rw [q2] at e; cases e
      | exc m t2 => exact forceAll_exc q2
      | bad =>
        have e : R.bind (forceAll ws t) (fun ds s' => R.ok (d :: ds) s') = R.exc n s := e
        rw [q2] at e; cases e
    | exc m t => exact forceD_exc q
    | bad => rw [q] at e; cases e
theorem forceAll_ok {K : PySem.W.Frag} {σ : L2.St} : ∀ {c : Cf} (_ : Ok K σ c) {ws : List W} {vs : List V} {xs : List D} {st : St} (_ : WAll K σ c vs ws) (_ : forceAll ws c.st = .ok xs st), ∃ c', Le c c' ∧ c'.st = st ∧ Ok K σ c' ∧ c'.H = c.H ∧ RpAll c'.G vs xs
  | c, o, [], _, xs, st, h, e => by
    cases h
    have e : R.ok [] c.st = R.ok xs st := e
    cases e
    exact ⟨c, Le.refl c, rfl, o, rfl, .nil⟩
  | c, o, w :: ws, _, xs, st, h, e => by
    cases h with
    | cons h1 h2 =>
      unfold forceAll at e
      cases q : forceD w c.st with
      | exc m t => exact absurd q forceD_exc
      | bad => rw [q] at e; cases e
      | ok d t =>
        rw [q] at e
        obtain ⟨c1, l1, e1, o1, eh1, r1⟩ := forceD_ok o h1 q
        have e : R.bind (forceAll ws t) (fun ds s' => R.ok (d :: ds) s') = R.ok xs st := e
        rw [← e1] at e
        cases q2 : forceAll ws c1.st with
        | exc m t => exact absurd q2 forceAll_exc
        | bad => rw [q2] at e; cases e
        | ok ds t2 =>
          rw [q2] at e
          have e : R.ok (d :: ds) t2 = R.ok xs st := e
          cases e
          obtain ⟨c2, l2, e2, o2, eh2, r2⟩ := forceAll_ok o1 (h2.mono l1) q2
          exact ⟨c2, l1.trans l2, e2, o2, eh2.trans eh1, .cons (r1.mono l2.g d _) r2⟩
/-- [a, b, ..] -/
def fLst (As : ASem) : FSem := fun st => (As st).bind fun ws s => if ws.length ≤ 1000 then forceAll ws s else .bad
theorem f_lst {es : List Expr} {As : ASem} (h : PA X es (tA X.K E As)) : PE X (.List es pos) (tF X.K E (fLst As)) := by
  refine PE_imp (pe_lst h) fun σ H Q h => ?_
  obtain ⟨c, rfl, o, h⟩ := h
  refine ⟨c, rfl, o, h.bind.mono fun ws c1 l1 o1 h1 vs hvs => ?_⟩
  by_cases hz : ws.length ≤ 1000
  · simp only [if_pos hz] at h1
    have hl : vs.length = ws.length := by
      clear h1 hz
      induction hvs with
      | nil => rfl
      | cons _ _ ih => exact congrArg (· + 1) ih
    refine ⟨by rw [hl, sizeLine_eq]; omega, fun p hp => ?_⟩
    cases q : forceAll ws c1.st with
    | exc m t => exact absurd q forceAll_exc
    | bad => rw [q] at h1; exact h1.elim
    | ok xs t =>
      rw [q] at h1
      obtain ⟨c2, l2, e2, o2, eh, r2⟩ := forceAll_ok o1 hvs q
      have := h1 c2 l2 e2 o2 p vs (by rw [eh]; exact hp) r2
      rw [eh] at this
      exact this
  · simp only [if_neg hz] at h1
    exact h1.elim
def eTup (As : ASem) : ESem := fun st => (As st).bind fun ws s => if ws.length ≤ 1000 then (forceAll ws s).bind fun xs s' => retD (.tuple xs) s' else .bad
theorem e_tup {es : List Expr} {As : ASem} {k : Nat} (h : PA X es (tA X.K E As)) : PE X (.Tuple es k pos) (tE X.K E (eTup As)) := by
  refine PE_imp (pe_tup h) fun σ H Q h => ?_
  obtain ⟨c, rfl, o, h⟩ := h
  refine ⟨c, rfl, o, h.bind.mono fun ws c1 l1 o1 h1 vs hvs => ?_⟩
  by_cases hz : ws.length ≤ 1000
  · simp only [if_pos hz] at h1
    have hl : vs.length = ws.length := by
      clear h1 hz
      induction hvs with
      | nil => rfl
      | cons _ _ ih => exact congrArg (· + 1) ih
    refine ⟨by rw [hl, sizeLine_eq]; omega, fun p hp => ?_⟩
    cases q : forceAll ws c1.st with
    | exc m t => exact absurd q forceAll_exc
    | bad => rw [q] at h1; exact h1.elim
    | ok xs t =>
      rw [q] at h1
      obtain ⟨c2, l2, e2, o2, eh, r2⟩ := forceAll_ok o1 hvs q
      have h1 : Post X.K E σ c1 (retD (.tuple xs) t) fun w c' => ∀ v, WOk X.K σ c' v w → Q v c'.H := h1
      rw [← e2] at h1
      have k := retD_post (K := X.K) (E := E) (σ := σ) (c := c2) (Q := Q) (d := .tuple xs) fun c' l e o z hz => h1 c' (l2.trans l) e o z hz
      have := k.tup o2 r2 p (by rw [eh]; exact hp)
      rw [eh] at this
      exact this
  · simp only [if_neg hz] at h1
    exact h1.elim
/-- a + b of lists, the sum one's own -/
def fAdd (A B : ESem) : FSem := fun st => (A st).bind fun wa s1 => (B s1).bind fun wb s2 => match viewD s2 wa, viewD s2 wb with
  | some (.list xs), some (.list ys) => if xs.length + ys.length ≤ sizeLine then .ok (xs ++ ys) s2 else .bad
  | _, _ => .bad
theorem f_add (ha : PE X a (tE X.K E A)) (hb : PE X b (tE X.K E B)) : PE X (.BinOp a .Add b pos) (tF X.K E (fAdd A B)) := by
  refine PE_imp (pe_op op_cat ha hb) fun σ H Q h => ?_
  obtain ⟨c, rfl, o, h⟩ := h
  refine ⟨c, rfl, o, h.bind.mono fun wa c1 l1 o1 h1 v hv => ?_⟩
  refine ⟨c1, rfl, o1, h1.bind.mono fun wb c2 l2 o2 h2 u hu => ?_⟩
  have hv := hv.mono l2
  cases e1 : viewD c2.st wa with
  | none => simp only [e1] at h2; exact h2.elim
  | some x =>
    cases e2 : viewD c2.st wb with
    | none => simp only [e1, e2] at h2; cases x <;> exact h2.elim
    | some y =>
      simp only [e1, e2] at h2
      cases x with
      | list xs =>
        cases y with
        | list ys =>
          have h2 : Post X.K E σ c2 (if xs.length + ys.length ≤ sizeLine then .ok (xs ++ ys) c2.st else .bad) fun xs c' => ∀ p vs, c'.H p = none → RpAll c'.G vs xs → Q (.ref p) (upd c'.H p (.lst vs)) := h2
          obtain ⟨p1, vs, rfl, q1, q2⟩ := viewD_ok o2 hv e1
          obtain ⟨p2, us, rfl, q3, q4⟩ := viewD_ok o2 hu e2
          by_cases hz : xs.length + ys.length ≤ sizeLine
          · rw [if_pos hz] at h2
            exact ⟨p1, p2, vs, us, rfl, rfl, q1, q3, by rw [q2.length, q4.length]; exact hz, fun p hp => h2.here o2 p _ hp (q2.append q4)⟩
          · rw [if_neg hz] at h2; exact h2.elim
        | _ => exact h2.elim
      | _ => cases y <;> exact h2.elim
/-- list(x) -/
def fListOf (A : ESem) : FSem := fun st => (A st).bind fun wa s1 => match view s1 wa with
  | some (.list xs) => .ok xs s1
  | some (.tuple xs) => .ok xs s1
  | _ => .bad
theorem f_listOf {p : Pos} (ha : PE X a (tE X.K E A)) (hg : Gl X "list") (hm : X.mg "list" = none) (hv : bootBuiltins "list" = some (.type "list"))
    (hs : starEach [a] X.env = (false, eval a X.env) :: starEach [] X.env := by rfl) (hpl : (backTo pos (starEach [] X.env)).any (·.1) = false := by rfl) :
    PE X (.Call (.Name "list" p) [a] [] pos) (tF X.K E (fListOf A)) := by
  refine PE_imp (pe_callTy call_list_of hg hm hv (pa_cons ha pa_nil hs) (by decide) (by decide) hs hpl) fun σ H Q h => ?_
  obtain ⟨c, rfl, o, h⟩ := h
  refine ⟨c, rfl, o, h.bind.mono fun wa c1 l1 o1 h1 v hv => ?_⟩
  cases e1 : view c1.st wa with
  | none => simp only [e1] at h1; exact h1.elim
  | some x =>
    simp only [e1] at h1
    have z := view_ok o1 hv e1
    cases x with
    | list xs =>
      obtain ⟨p1, vs, rfl, q1, q2⟩ := z
      exact ⟨p1, vs, rfl, .inl q1, fun l hl => h1.here o1 l vs hl q2⟩
    | tuple xs =>
      obtain ⟨p1, vs, rfl, q1, q2⟩ := z
      exact ⟨p1, vs, rfl, .inr q1, fun l hl => h1.here o1 l vs hl q2⟩
    | _ => exact h1.elim
/-- tuple(x) -/
def dTupleOf : D → Option D
  | .list xs => some (.tuple xs)
  | _ => none
theorem rc_tupleOf {K : PySem.W.Frag} : RcOk K E (cb1 dTupleOf) (fun xs H Q => ∃ p ys, xs = [.ref p] ∧ ((SqL K H p ys ∧ ∀ l, H l = none → Q (.ref l) (upd H l (.tup ys))) ∨ (SqT K H p ys ∧ Q (.ref p) H))) := rc_cb1 fun σ c Q v x d o hv e k => by
  cases x with
  | list xs =>
    cases e
    obtain ⟨p1, vs, rfl, q1, q2⟩ := hv
    exact ⟨p1, vs, rfl, .inl ⟨q1, k.tup o q2⟩⟩
  | _ => cases e

/-! ### changing a thing in place -/
section
variable {K : PySem.W.Frag} {σ : L2.St} {c : Cf}
theorem nodup_ix' {α : Type} {l : List α} (hN : l.Nodup) {i j : Nat} {x : α} (a : l[i]? = some x) (b : l[j]? = some x) : i = j := nd_ix hN a b
/-- a thing of one's own becomes another -/
theorem Ok.writeO (o : Ok K σ c) {i : Nat} {w w' : Own} {v : V} (q : c.st.env[i]? = some (.own w)) (h : σ[i]? = some (some v)) :
    ∃ a, v = .ref a ∧ OwnOk c.G c.H a w ∧ ∀ u, OwnOk c.G (upd c.H a u) a w' → Ok K σ { c with st := c.st.setS i (.own w'), H := upd c.H a u } := by
  obtain ⟨a, e1, q1, q3, q4, q5⟩ := o.slot i _ _ q h
  cases e1
  refine ⟨a, rfl, q1, fun u hu => ?_⟩
  have stay : ∀ b, b ≠ a → ∀ u', c.H b = some u' → (upd c.H a u) b = some u' := fun b hb u' e => by rw [upd_ne hb]; exact e
  have nG : ∀ b u', c.G b = some u' → b ≠ a := fun b u' e z => by rw [z, q3] at e; cases e
  refine ⟨fun b u' e => stay b (nG b u' e) u' (o.sub b u' e), by show (c.st.env.set i _).length = _; rw [List.length_set]; exact o.len, fun j s ov h1 h2 => ?_, fun j k p r b h1 h2 h3 h4 => ?_, o.alen, fun n ce b h1 h2 => ?_, o.anod, o.agn, o.pre, fun b u' h1 h2 => stay b (fun z => by rw [z, q5] at h1; cases h1) u' (o.fr b u' h1 h2), o.new, o.gnew⟩
  · rcases set_get h1 with ⟨rfl, rfl⟩ | ⟨n1, g1⟩
    · rw [h] at h2
      cases h2
      exact ⟨a, rfl, hu, q3, q4, q5⟩
    · have z := o.slot j s ov g1 h2
      cases s with
      | emp => trivial
      | v x => exact z
      | own w =>
        obtain ⟨b, e, p1, p2, p3, p4⟩ := z
        have hb : b ≠ a := by
          rintro rfl
          rw [e] at h2
          exact n1 (o.apart j i _ _ b g1 q h2 h)
        exact ⟨b, e, p1.mono (Same.refl _) (show c.H b = upd c.H a u b from (upd_ne hb).symm), p2, p3, p4⟩
  · have key : ∀ {j : Nat} {w : Own}, (c.st.env.set i (.own w'))[j]? = some (.own w) → ∃ w', c.st.env[j]? = some (.own w') := fun {j w} hh => by
      rcases set_get hh with ⟨rfl, _⟩ | ⟨_, g⟩
      · exact ⟨_, q⟩
      · exact ⟨_, g⟩
    obtain ⟨_, g1⟩ := key h1
    obtain ⟨_, g2⟩ := key h2
    exact o.apart j k _ _ b g1 g2 h3 h4
  · have hb : b ≠ a := fun z => q4 (z ▸ List.mem_of_getElem? h2)
    exact (o.cell n ce b h1 h2).mono (Same.refl _) (List.prefix_refl _) (show c.H b = upd c.H a u b from (upd_ne hb).symm)
/-- a cell becomes another -/
theorem Ok.writeC (o : Ok K σ c) {n : Nat} {ce ce' : Cell} {a : Addr} (q : c.st.mem[n]? = some ce) (ha : c.A[n]? = some a) (nd : ce.live = true) :
    CellOk K c.G c.A c.H a ce ∧ ∀ u, CellOk K c.G c.A (upd c.H a u) a ce' → Ok K σ { c with st := { c.st with mem := c.st.mem.set n ce' }, H := upd c.H a u } := by
  refine ⟨o.cell n _ a q ha, fun u hu => ?_⟩
  have hA := List.mem_of_getElem? ha
  have hGa := o.agn n ce a q ha nd
  have stay : ∀ b, b ≠ a → ∀ u', c.H b = some u' → (upd c.H a u) b = some u' := fun b hb u' e => by rw [upd_ne hb]; exact e
  have nG : ∀ b u', c.G b = some u' → b ≠ a := fun b u' e z => by rw [z, hGa] at e; cases e
  refine ⟨fun b u' e => stay b (nG b u' e) u' (o.sub b u' e), o.len, fun j s ov h1 h2 => ?_, o.apart, by show c.A.length = (c.st.mem.set n _).length; rw [List.length_set]; exact o.alen, fun m ce b h1 h2 => ?_, o.anod, fun m ce b h1 h2 nd2 => ?_, o.pre, fun b u' h1 h2 => ?_, o.new, o.gnew⟩
  · have z := o.slot j s ov h1 h2
    cases s with
    | emp => trivial
    | v x => exact z
    | own w =>
      obtain ⟨b, e, p1, p2, p3, p4⟩ := z
      have hb : b ≠ a := by
        rintro rfl
        exact p3 hA
      exact ⟨b, e, p1.mono (Same.refl _) (show c.H b = upd c.H a u b from (upd_ne hb).symm), p2, p3, p4⟩
  · rcases set_get h1 with ⟨rfl, rfl⟩ | ⟨n1, g1⟩
    · rw [ha] at h2
      cases h2
      exact hu
    · have hb : b ≠ a := by
        rintro rfl
        exact n1 (nodup_ix' o.anod h2 ha)
      exact (o.cell m ce b g1 h2).mono (Same.refl _) (List.prefix_refl _) (show c.H b = upd c.H a u b from (upd_ne hb).symm)
  · rcases set_get h1 with ⟨rfl, rfl⟩ | ⟨n1, g1⟩
    · rw [ha] at h2
      cases h2
      exact hGa
    · exact o.agn m ce b g1 h2 nd2
  · by_cases hb : b = a
    · subst hb
      rcases o.new b hA with z | z
      · exact absurd z h2
      · rw [z] at h1; cases h1
    · exact stay b hb u' (o.fr b u' h1 h2)
end
/-- a list or a dict that may be changed: in slot i, or the cell that is named -/
def getC (w : W) (st : St) : Option Own := match w with
  | .sl i => (match st.env[i]? with
    | some (.own u) => some u
    | _ => none)
  | .v (.c n) => (match st.mem[n]? with
    | some (.lst xs) => some (.lst xs)
    | some (.dct kvs) => some (.dct kvs)
    | _ => none)
  | _ => none
def Own.cell : Own → Cell
  | .lst xs => .lst xs
  | .dct kvs => .dct kvs
def putC (w : W) (u : Own) (st : St) : St := match w with
  | .sl i => st.setS i (.own u)
  | .v (.c n) => { st with mem := st.mem.set n u.cell }
  | _ => st
theorem OwnOk.cell {K : PySem.W.Frag} {G H : Hp} {A : List Addr} {a : Addr} : ∀ {u : Own}, OwnOk G H a u → CellOk K G A H a u.cell
  | .lst _, h => h
  | .dct _, h => h
theorem putC_ok {K : PySem.W.Frag} {σ : L2.St} {c : Cf} (o : Ok K σ c) {w : W} {v : V} {u : Own} (h : WOk K σ c v w) (e : getC w c.st = some u) :
    ∃ a, v = .ref a ∧ OwnOk c.G c.H a u ∧ ∀ (u' : Own) (ho : HO), OwnOk c.G (upd c.H a ho) a u' → Ok K σ { c with st := putC w u' c.st, H := upd c.H a ho } := by
  cases w with
  | sl i =>
    have h : σ[i]? = some (some v) := h
    unfold getC at e
    cases q : c.st.env[i]? with
    | none => simp only [q] at e; cases e
    | some s =>
      simp only [q] at e
      cases s with
      | emp => cases e
      | v x => cases e
      | own w =>
        cases e
        obtain ⟨a, rfl, q1, _⟩ := o.writeO (w' := u) q h
        refine ⟨a, rfl, q1, fun u' ho hu => ?_⟩
        obtain ⟨a', e', _, k⟩ := o.writeO (w' := u') q h
        cases e'
        exact k ho hu
  | v x =>
    cases x with
    | d x => cases e
    | k x => cases e
    | c n =>
      obtain ⟨a, ha, rfl⟩ := h
      unfold getC at e
      cases q : c.st.mem[n]? with
      | none => simp only [q] at e; cases e
      | some ce =>
        simp only [q] at e
        cases ce with
        | lst zs =>
          cases e
          refine ⟨a, rfl, (o.writeC (ce' := .lst zs) q ha rfl).1, fun u' ho hu => ?_⟩
          exact (o.writeC (ce' := u'.cell) q ha rfl).2 ho hu.cell
        | dct zs =>
          cases e
          refine ⟨a, rfl, (o.writeC (ce' := .dct zs) q ha rfl).1, fun u' ho hu => ?_⟩
          exact (o.writeC (ce' := u'.cell) q ha rfl).2 ho hu.cell
        | _ => cases e
/-- what stands in slot i, or the cell that it names, becomes another list -/
def putL (w : W) (xs : List D) (st : St) : R St Unit := match w with
  | .sl i => (match st.env[i]? with
    | some (.own (.lst _)) => .ok () (st.setS i (.own (.lst xs)))
    | _ => .bad)
  | .v (.c n) => (match st.mem[n]? with
    | some (.lst _) => .ok () { st with mem := st.mem.set n (.lst xs) }
    | _ => .bad)
  | _ => .bad
def getL (w : W) (st : St) : Option (List D) := match w with
  | .sl i => (match st.env[i]? with
    | some (.own (.lst xs)) => some xs
    | _ => none)
  | .v (.c n) => (match st.mem[n]? with
    | some (.lst xs) => some xs
    | _ => none)
  | _ => none
theorem putL_ok {K : PySem.W.Frag} {σ : L2.St} {c : Cf} (o : Ok K σ c) {w : W} {v : V} {xs ys : List D} (h : WOk K σ c v w) (e : getL w c.st = some xs) :
    ∃ a vs st, v = .ref a ∧ c.H a = some (.lst vs) ∧ RpAll c.G vs xs ∧ putL w ys c.st = .ok () st ∧ ∀ us, RpAll c.G us ys → Ok K σ { c with st := st, H := upd c.H a (.lst us) } := by
  cases w with
  | sl i =>
    have h : σ[i]? = some (some v) := h
    unfold getL at e
    unfold putL
    cases q : c.st.env[i]? with
    | none => simp only [q] at e; cases e
    | some s =>
      simp only [q] at e ⊢
      cases s with
      | emp => cases e
      | v x => cases e
      | own w =>
        cases w with
        | dct _ => cases e
        | lst zs =>
          cases e
          obtain ⟨a, rfl, ⟨vs, q1, q2⟩, k⟩ := o.writeO (w' := .lst ys) q h
          exact ⟨a, vs, _, rfl, q1, q2, rfl, fun us hu => k _ ⟨us, upd_same, hu⟩⟩
  | v x =>
    cases x with
    | d x => cases e
    | k x => cases e
    | c n =>
      obtain ⟨a, ha, rfl⟩ := h
      unfold getL at e
      unfold putL
      cases q : c.st.mem[n]? with
      | none => simp only [q] at e; cases e
      | some ce =>
        simp only [q] at e ⊢
        cases ce with
        | lst zs =>
          cases e
          obtain ⟨⟨vs, q1, q2⟩, k⟩ := o.writeC (ce' := .lst ys) q ha rfl
          exact ⟨a, vs, _, rfl, q1, q2, rfl, fun us hu => k _ ⟨us, upd_same, hu⟩⟩
        | _ => cases e
end
end PD

set_option Elab.async false
set_option linter.all false
set_option maxRecDepth 100000
set_option maxHeartbeats 1000000
/-! PDCall: lists changed in place, raise, defs and their calls. -/
namespace PD
open PySem PySem.Spec PyProof.Rows L2

section
variable {X : Cx} {E : XW} {pos apos p1 : Pos} {a b e1 : Expr} {A B C : ESem}
/-! ### xs.append(e), xs.pop(), xs.pop(i), xs.extend(ys), xs[i] = e -/
theorem post_forceD {K : PySem.W.Frag} {α : Type} {σ : L2.St} {c : Cf} {w : W} {v : V} {f : D → St → R St α} {P : α → Cf → Prop} (o : Ok K σ c) (hw : WOk K σ c v w) (h : Post K E σ c ((forceD w c.st).bind f) P) :
    ∃ x c', Le c c' ∧ Ok K σ c' ∧ c'.H = c.H ∧ Rp c'.G v x ∧ Post K E σ c' (f x c'.st) P := by
  cases e : forceD w c.st with
  | ok x st =>
    obtain ⟨c', l, e1, o', e2, hx⟩ := forceD_ok o hw e
    rw [e] at h
    refine ⟨x, c', l, o', e2, hx, ?_⟩
    rw [e1]
    have h : Post K E σ c (f x st) P := h
    generalize f x st = r at h ⊢
    cases r with
    | ok b st2 => exact fun c2 l2 e3 o2 => h c2 (l.trans l2) e3 o2
    | exc n st2 => exact fun c2 l2 e3 o2 => h c2 (l.trans l2) e3 o2
    | bad => exact h
  | exc n st => exact absurd e forceD_exc
  | bad => rw [e] at h; exact h.elim
theorem getL_vw {K : PySem.W.Frag} {σ : L2.St} {c : Cf} (o : Ok K σ c) {w : W} {v : V} {xs : List D} (h : WOk K σ c v w) (e : getL w c.st = some xs) : ∃ a vs, v = .ref a ∧ c.H a = some (.lst vs) ∧ RpAll c.G vs xs := by
  obtain ⟨a, vs, st, e1, h1, h2, _⟩ := putL_ok (ys := xs) o h e
  exact ⟨a, vs, e1, h1, h2⟩
/-- the configuration behind a change in place -/
theorem putL_le {c : Cf} {st : St} {H : Hp} : Le c { c with st := st, H := H } := ⟨rfl, rfl, rfl, Same.refl _, List.prefix_refl _⟩
def eApp (A B : ESem) : ESem := fun st => (A st).bind fun w s1 => match getL w s1 with
  | none => .bad
  | some _ => (B s1).bind fun u s2 => (forceD u s2).bind fun d s3 => match getL w s3 with
    | some xs => if xs.length < sizeLine then (putL w (xs ++ [d]) s3).bind fun _ s4 => retD .none s4 else .bad
    | none => .bad
theorem e_app (ha : PE X a (tE X.K E A)) (hb : PE X b (tE X.K E B)) (hs : starEach [b] X.env = (false, eval b X.env) :: starEach [] X.env := by rfl)
    (hbase : attributeBase a "append" X.env (eval a X.env) = eval a X.env := by rfl) (hfo : methodCallForm [b].length (backTo pos (starEach [b] X.env)) (backToKw pos (keywordEach [] X.env)) = true := by rfl) (hline : (apos.endLine == pos.line) = true := by rfl) (hpl : (backTo pos (starEach [] X.env)).any (·.1) = false := by rfl) :
    PE X (.Call (.Attribute a "append" apos) [b] [] pos) (tE X.K E (eApp A B)) := by
  refine PE_imp (pe_bm PySem.F.plainAttrs_list PySem.F.slot_list_append PySem.F.type_list_append mt_append ha (pa_cons hb pa_nil hs) hbase hfo hline hs hpl) fun σ H Q h => ?_
  obtain ⟨c, rfl, o, h⟩ := h
  refine ⟨c, rfl, o, h.bind.mono fun w c1 l1 o1 h1 v hv => ?_⟩
  cases q : getL w c1.st with
  | none => simp only [q] at h1; exact h1.elim
  | some xs0 =>
    simp only [q] at h1
    obtain ⟨a0, vs0, rfl, z1, z2⟩ := getL_vw o1 hv q
    refine ⟨.inl ⟨rfl, _, SqL.of z1⟩, c1, rfl, o1, h1.bind.mono fun u c2 l2 o2 h2 z hz => ?_⟩
    obtain ⟨d, c3, l3, o3, eh, hd, h3⟩ := post_forceD o2 hz h2
    have hv3 := (hv.mono l2).mono l3
    cases q3 : getL w c3.st with
    | none => simp only [q3] at h3; exact h3.elim
    | some xs =>
      simp only [q3] at h3
      obtain ⟨a1, vs, st, e1, y1, y2, y3, y4⟩ := putL_ok (ys := xs ++ [d]) o3 hv3 q3
      cases e1
      by_cases hl : xs.length < sizeLine
      · rw [if_pos hl, y3] at h3
        refine ⟨a0, vs, z, rfl, rfl, by rw [← eh]; exact y1, by rw [y2.length]; exact hl, ?_⟩
        have o4 := y4 (vs ++ [z]) (y2.append (.one hd))
        rw [← eh]
        exact h3 { c3 with st := st, H := upd c3.H a0 (.lst (vs ++ [z])) } putL_le rfl o4 .non .non
      · rw [if_neg hl] at h3; exact h3.elim
def ePop (A : ESem) : ESem := fun st => (A st).bind fun w s1 => match getL w s1 with
  | some xs => (match xs[xs.length - 1]? with
    | some d => (putL w xs.dropLast s1).bind fun _ s2 => retD d s2
    | none => .bad)
  | none => .bad
theorem e_pop (ha : PE X a (tE X.K E A)) (hbase : attributeBase a "pop" X.env (eval a X.env) = eval a X.env := by rfl) (hline : (apos.endLine == pos.line) = true := by rfl) :
    PE X (.Call (.Attribute a "pop" apos) [] [] pos) (tE X.K E (ePop A)) := by
  refine PE_imp (pe_bm0 PySem.F.plainAttrs_list PySem.F.slot_list_pop PySem.F.type_list_pop mt_pop ha hbase hline) fun σ H Q h => ?_
  obtain ⟨c, rfl, o, h⟩ := h
  refine ⟨c, rfl, o, h.bind.mono fun w c1 l1 o1 h1 v hv => ?_⟩
  cases q : getL w c1.st with
  | none => simp only [q] at h1; exact h1.elim
  | some xs =>
    simp only [q] at h1
    cases q2 : xs[xs.length - 1]? with
    | none => simp only [q2] at h1; exact h1.elim
    | some d =>
      simp only [q2] at h1
      obtain ⟨a1, vs, st, rfl, y1, y2, y3, y4⟩ := putL_ok (ys := xs.dropLast) o1 hv q
      rw [y3] at h1
      refine ⟨.inl ⟨rfl, _, SqL.of y1⟩, ?_⟩
      obtain ⟨z, hz, hr⟩ := y2.get q2
      rw [← y2.length] at hz
      exact ⟨a1, vs, z, rfl, rfl, y1, hz, h1 { c1 with st := st, H := upd c1.H a1 (.lst vs.dropLast) } putL_le rfl (y4 _ y2.dropLast) z hr⟩
def ePopAt (A B : ESem) : ESem := fun st => (A st).bind fun w s1 => match getL w s1 with
  | none => .bad
  | some _ => (B s1).bind fun u s2 => match u, getL w s2 with
    | .v (.d (.int i)), some xs => (match ixN xs.length i with
      | some k => (match xs[k]? with
        | some d => if xs.length ≤ sizeLine then (putL w (xs.eraseIdx k) s2).bind fun _ s3 => retD d s3 else .bad
        | none => .bad)
      | none => .bad)
    | _, _ => .bad
theorem e_popAt (ha : PE X a (tE X.K E A)) (hb : PE X b (tE X.K E B)) (hs : starEach [b] X.env = (false, eval b X.env) :: starEach [] X.env := by rfl)
    (hbase : attributeBase a "pop" X.env (eval a X.env) = eval a X.env := by rfl) (hfo : methodCallForm [b].length (backTo pos (starEach [b] X.env)) (backToKw pos (keywordEach [] X.env)) = true := by rfl) (hline : (apos.endLine == pos.line) = true := by rfl) (hpl : (backTo pos (starEach [] X.env)).any (·.1) = false := by rfl) :
    PE X (.Call (.Attribute a "pop" apos) [b] [] pos) (tE X.K E (ePopAt A B)) := by
  refine PE_imp (pe_bm PySem.F.plainAttrs_list PySem.F.slot_list_pop PySem.F.type_list_pop mt_popAt ha (pa_cons hb pa_nil hs) hbase hfo hline hs hpl) fun σ H Q h => ?_
  obtain ⟨c, rfl, o, h⟩ := h
  refine ⟨c, rfl, o, h.bind.mono fun w c1 l1 o1 h1 v hv => ?_⟩
  cases q : getL w c1.st with
  | none => simp only [q] at h1; exact h1.elim
  | some xs0 =>
    simp only [q] at h1
    obtain ⟨a0, vs0, rfl, z1, z2⟩ := getL_vw o1 hv q
    refine ⟨.inl ⟨rfl, _, SqL.of z1⟩, c1, rfl, o1, h1.bind.mono fun u c2 l2 o2 h2 z hz => ?_⟩
    have hv2 := hv.mono l2
    cases u with
    | sl i => exact h2.elim
    | v u =>
      cases u with
      | c n => exact h2.elim
      | k u => exact h2.elim
      | d u =>
        cases u with
        | int i =>
          have hz : Rp c2.G z (.int i) := hz
          cases hz
          cases q3 : getL w c2.st with
          | none => simp only [q3] at h2; exact h2.elim
          | some xs =>
            simp only [q3] at h2
            cases q4 : ixN xs.length i with
            | none => simp only [q4] at h2; exact h2.elim
            | some k =>
              simp only [q4] at h2
              cases q5 : xs[k]? with
              | none => simp only [q5] at h2; exact h2.elim
              | some d =>
                simp only [q5] at h2
                by_cases hl : xs.length ≤ sizeLine
                · rw [if_pos hl] at h2
                  obtain ⟨a1, vs, st, e1, y1, y2, y3, y4⟩ := putL_ok (ys := xs.eraseIdx k) o2 hv2 q3
                  cases e1
                  rw [y3] at h2
                  obtain ⟨y, hy, hr⟩ := y2.get q5
                  obtain ⟨g1, g2, g3, g4⟩ := ixN_seq q4
                  rw [sizeLine_eq] at hl
                  exact ⟨a0, vs, i, k, y, rfl, rfl, y1, by omega, by omega, by rw [y2.length]; exact g1, hy, h2 { c2 with st := st, H := upd c2.H a0 (.lst (vs.eraseIdx k)) } putL_le rfl (y4 _ (y2.eraseIdx k)) y hr⟩
                · rw [if_neg hl] at h2; exact h2.elim
        | _ => exact h2.elim
def eExt (A B : ESem) : ESem := fun st => (A st).bind fun w s1 => match getL w s1 with
  | none => .bad
  | some _ => (B s1).bind fun u s2 => match getL w s2, viewD s2 u with
    | some xs, some (.list ys) => if xs.length + ys.length ≤ sizeLine then (putL w (xs ++ ys) s2).bind fun _ s4 => retD .none s4 else .bad
    | _, _ => .bad
theorem e_ext (ha : PE X a (tE X.K E A)) (hb : PE X b (tE X.K E B)) (hs : starEach [b] X.env = (false, eval b X.env) :: starEach [] X.env := by rfl)
    (hbase : attributeBase a "extend" X.env (eval a X.env) = eval a X.env := by rfl) (hfo : methodCallForm [b].length (backTo pos (starEach [b] X.env)) (backToKw pos (keywordEach [] X.env)) = true := by rfl) (hline : (apos.endLine == pos.line) = true := by rfl) (hpl : (backTo pos (starEach [] X.env)).any (·.1) = false := by rfl) :
    PE X (.Call (.Attribute a "extend" apos) [b] [] pos) (tE X.K E (eExt A B)) := by
  refine PE_imp (pe_bm PySem.F.plainAttrs_list PySem.F.slot_list_extend PySem.F.type_list_extend mt_extend ha (pa_cons hb pa_nil hs) hbase hfo hline hs hpl) fun σ H Q h => ?_
  obtain ⟨c, rfl, o, h⟩ := h
  refine ⟨c, rfl, o, h.bind.mono fun w c1 l1 o1 h1 v hv => ?_⟩
  cases q : getL w c1.st with
  | none => simp only [q] at h1; exact h1.elim
  | some xs0 =>
    simp only [q] at h1
    obtain ⟨a0, vs0, rfl, z1, z2⟩ := getL_vw o1 hv q
    refine ⟨.inl ⟨rfl, _, SqL.of z1⟩, c1, rfl, o1, h1.bind.mono fun u c2 l2 o2 h2 z hz => ?_⟩
    have hv2 := hv.mono l2
    cases q3 : getL w c2.st with
    | none => simp only [q3] at h2; exact h2.elim
    | some xs =>
      cases q4 : viewD c2.st u with
      | none => simp only [q3, q4] at h2; exact h2.elim
      | some y =>
        simp only [q3, q4] at h2
        cases y with
        | list ys =>
          have h2 : Post X.K E σ c2 (if xs.length + ys.length ≤ sizeLine then (putL w (xs ++ ys) c2.st).bind fun _ s4 => retD .none s4 else .bad) (fun w c' => ∀ v, WOk X.K σ c' v w → Q v c'.H) := h2
          obtain ⟨p2, us, rfl, x1, x2⟩ := viewD_ok o2 hz q4
          obtain ⟨a1, vs, st, e1, y1, y2, y3, y4⟩ := putL_ok (ys := xs ++ ys) o2 hv2 q3
          cases e1
          by_cases hl : xs.length + ys.length ≤ sizeLine
          · rw [if_pos hl, y3] at h2
            exact ⟨a0, p2, vs, us, rfl, rfl, y1, x1, by rw [y2.length, x2.length]; exact hl, h2 { c2 with st := st, H := upd c2.H a0 (.lst (vs ++ us)) } putL_le rfl (y4 _ (y2.append x2)) .non .non⟩
          · rw [if_neg hl] at h2; exact h2.elim
        | _ => exact h2.elim
def putD? (o i : W) (d : D) (st : St) : Option St := match getC o st with
  | some (.lst xs) => (match i with
    | .v (.d (.int k)) => (ixN xs.length k).map fun j => putC o (.lst (xs.set j d)) st
    | _ => none)
  | some (.dct kvs) => (match viewD st i with
    | some kd => if kkOk kvs kd && decide (kvs.length < sizeLine) then some (putC o (.dct (putD kvs kd d)) st) else none
    | none => none)
  | none => none
def sPut (A O I : ESem) : SSem := fun st => (A st).bind fun w s1 => (O s1).bind fun o s2 => (I s2).bind fun i s3 => (forceD w s3).bind fun d s4 => match putD? o i d s4 with
  | some s5 => .ok .nx s5
  | none => .bad
theorem postS_forceD {K : PySem.W.Frag} {σ : L2.St} {c : Cf} {Dn : Ends} {w : W} {v : V} {f : D → St → R St Fl} (o : Ok K σ c) (hw : WOk K σ c v w) (h : PostS K E c ((forceD w c.st).bind f) Dn σ.length) :
    ∃ x c', Le c c' ∧ Ok K σ c' ∧ c'.H = c.H ∧ Rp c'.G v x ∧ PostS K E c' (f x c'.st) Dn σ.length := by
  cases e : forceD w c.st with
  | ok x st =>
    obtain ⟨c', l, e1, o', e2, hx⟩ := forceD_ok o hw e
    rw [e] at h
    refine ⟨x, c', l, o', e2, hx, ?_⟩
    rw [e1]
    exact PostS.le l h
  | exc n st => exact absurd e forceD_exc
  | bad => rw [e] at h; exact h.elim
theorem _root_.L2.PSet.or {X : Cx} {t t' : TSet} (h : PSet X t) (h' : PSet X t') : PSet X (fun o i v H Q => t o i v H Q ∨ t' o i v H Q) := by
  intro pins s σ H o i v ov iv u Q I r1 r2 r3 q
  rcases q with q | q
  · exact h pins s σ H o i v ov iv u Q I r1 r2 r3 q
  · exact h' pins s σ H o i v ov iv u Q I r1 r2 r3 q
theorem put_read {K : PySem.W.Frag} {σ : L2.St} {c : Cf} (ok : Ok K σ c) {wo wi : W} {vo vi v : V} {d : D} {st : St} {Q : Hp → Prop} (hvo : WOk K σ c vo wo) (hvi : WOk K σ c vi wi) (hd : Rp c.G v d) (q : putD? wo wi d c.st = some st)
    (go : ∀ a ho, Ok K σ { c with st := st, H := upd c.H a ho } → Q (upd c.H a ho)) : rSetL vo vi v c.H Q ∨ rSetG vo vi v c.H Q := by
  unfold putD? at q
  cases e : getC wo c.st with
  | none => simp only [e] at q; cases q
  | some u =>
    simp only [e] at q
    obtain ⟨a, rfl, q1, put⟩ := putC_ok ok hvo e
    cases u with
    | lst xs =>
      obtain ⟨vs, y1, y2⟩ := q1
      cases wi with
      | sl i => cases q
      | v u =>
        cases u with
        | c n => cases q
        | k u => cases q
        | d u =>
          cases u with
          | int k =>
            have hvi : Rp c.G vi (.int k) := hvi
            cases hvi
            obtain ⟨j, q2, rfl⟩ := Option.map_eq_some_iff.mp (show (ixN xs.length k).map (fun j => putC wo (.lst (xs.set j d)) c.st) = some st from q)
            exact .inl ⟨a, vs, k, j, rfl, rfl, y1, by rw [y2.length]; exact q2, go a _ (put _ _ ⟨_, upd_same, RpAll.set hd j y2⟩)⟩
          | _ => cases q
    | dct kvs =>
      cases e2 : viewD c.st wi with
      | none => simp only [e2] at q; cases q
      | some kd =>
        simp only [e2] at q
        by_cases hk : (kkOk kvs kd && decide (kvs.length < sizeLine)) = true
        · rw [if_pos hk] at q
          cases q
          obtain ⟨k1, k2⟩ := Bool.and_eq_true_iff.mp hk
          exact .inr (setG_of ok.sub q1 ((viewD_ok ok hvi e2).key k1) hd k1 (of_decide_eq_true k2) fun ho hok => go a ho (put _ _ hok))
        · rw [if_neg hk] at q; cases q
theorem s_put {k : Nat} {o i : Expr} {O I : ESem} (hr : Room k X.A) (ha : PE X a (tE X.K E A)) (ho : PE X o (tE X.K E O)) (hi : PE X i (tE X.K E I))
    (hp : ∀ v, assign (.Subscript o i p1) X.env v = (do
      let ov ← holding [v] (eval o X.env)
      let iv ← holding [v, ov] (eval i X.env)
      standAt p1
      holding [v, ov, iv] (setItem ov iv v)
      release [v, ov, iv] []) := by intro _; rfl)
    (hs : swapsWithSole [.Subscript o i p1] a pos.line X.env = pure false := by rfl) (hw : swappedStores [.Subscript o i p1] a X.env = pure none := by rfl)
    (h1 : (assignEach [.Subscript o i p1] X.env).map (·.2) = [assign (.Subscript o i p1) X.env] := by rfl) :
    PS X (.Assign [.Subscript o i p1] a pos) (tS X.K E (sPut A O I)) := by
  refine PS_imp (ps_asg ha (pg_sub ho hi (set_list.or (set_G (by have := hr.un; omega))) hp) hs hw h1) fun Dn σ H h => ?_
  obtain ⟨c, rfl, ok, h⟩ := h
  refine ⟨c, rfl, ok, (PostS.bind rfl h).mono fun w c1 l1 o1 h1 v hv => ?_⟩
  refine ⟨c1, rfl, o1, (PostS.bind rfl h1).mono fun wo c2 l2 o2 h2 vo hvo => ?_⟩
  refine ⟨c2, rfl, o2, (PostS.bind rfl h2).mono fun wi c3 l3 o3 h3 vi hvi => ?_⟩
  obtain ⟨d, c4, l4, o4, eh, hd, h4⟩ := postS_forceD o3 ((hv.mono l2).mono l3) h3
  have hvo := (hvo.mono l3).mono l4
  have hvi := hvi.mono l4
  rw [← eh]
  cases q : putD? wo wi d c4.st with
  | none => simp only [q] at h4; exact h4.elim
  | some s5 =>
    simp only [q] at h4
    refine put_read o4 hvo hvi hd q fun a ho hok => ?_
    exact h4 σ { c4 with st := s5, H := upd c4.H a ho } rfl putL_le rfl hok

/-! ### raise -/
/-- what is wished of exceptions, told by their classes' names -/
def Wx (K : PySem.W.Frag) (E : XW) : WX := fun cls d σ H => ∃ n, cls = .ref (He.ga K n) ∧ d = none ∧ E n σ H
def sRaise (n : Str) : SSem := fun st => .exc n st
theorem s_raise {x m : Str} {j : Nat} {p p2 : Pos} (hc : X.calm = true) (tk : Takes X (Wx X.K E)) (q : PySem.W.excIn X.K (He.ga X.K x) He.veBase "ValueError.__new__" = true) (gC : X.mg x = some (.ref (He.ga X.K x))) (kC : PySem.W.keepIn X.K (.ref (He.ga X.K x)) = true)
    (r1 : PySem.W.subIn X.K (.ref (He.ga X.K x)) (.type "BaseException") = some true) (r2 : PySem.W.typeIn X.K (.ref (He.ga X.K x)) = some (.type "type")) (hg : Gl X x) (hdb : (x == ("__debug__" : Str)) = false := by decide) :
    PS X (.Raise (some (.Call (.Name x p) [.Constant (.str m) j p2] [] p1)) none pos) (tS X.K E (sRaise x)) := by
  refine PS_imp (ps_raise hc tk (pmk_own PySem.F.excBase_ValueError q gC kC (raises_own r1 r2) hg hdb)) fun Dn σ H h => ?_
  obtain ⟨c, rfl, ok, h⟩ := h
  exact ⟨x, rfl, rfl, h σ c rfl (Le.refl c) rfl ok⟩
end

/-! ### a def's promise -/
abbrev Fn := List Dv → List Cell → R (List Cell) Dv
inductive DvAll (K : PySem.W.Frag) (G : Hp) (A : List Addr) : List V → List Dv → Prop
  | nil : DvAll K G A [] []
  | cons {v : V} {vs : List V} {x : Dv} {xs : List Dv} : DvOk K G A v x → DvAll K G A vs xs → DvAll K G A (v :: vs) (x :: xs)
theorem DvAll.length {K : PySem.W.Frag} {G : Hp} {A : List Addr} : ∀ {vs : List V} {xs : List Dv}, DvAll K G A vs xs → vs.length = xs.length
  | _, _, .nil => rfl
  | _, _, .cons _ t => congrArg (· + 1) (DvAll.length t)
theorem DvAll.get {K : PySem.W.Frag} {G : Hp} {A : List Addr} : ∀ {vs : List V} {xs : List Dv} {i : Nat} {x : Dv}, DvAll K G A vs xs → xs[i]? = some x → ∃ v, vs[i]? = some v ∧ DvOk K G A v x
  | _, _, _, _, .nil, e => by simp at e
  | _, _, 0, _, .cons r _, e => by
    simp at e
    subst e
    exact ⟨_, rfl, r⟩
  | _, _, i + 1, _, .cons _ t, e => by
    obtain ⟨v, h1, h2⟩ := DvAll.get (i := i) t (by simpa using e)
    exact ⟨v, by simpa using h1, h2⟩
theorem DvAll.mono {K : PySem.W.Frag} {G G' : Hp} {A A' : List Addr} (e : Same G G') (p : A <+: A') : ∀ {vs : List V} {xs : List Dv}, DvAll K G A vs xs → DvAll K G' A' vs xs
  | _, _, .nil => .nil
  | _, _, .cons r t => .cons (r.mono e p) (DvAll.mono e p t)
/-- a configuration without slots: what a call is handed, what it leaves -/
def cf0 (H0 : Hp) (A0 : List Addr) (G0 G : Hp) (A : List Addr) (mem : List Cell) (H : Hp) : Cf := ⟨H0, A0, G0, G, A, ⟨[], mem⟩, H⟩
def spD (K : PySem.W.Frag) (f : Fn) : Sp := fun vs H Q E => ∃ (G : Hp) (A : List Addr) (xs : List Dv) (mem : List Cell), Ok K [] (cf0 H A G G A mem H) ∧ DvAll K G A vs xs ∧ match f xs mem with
  | .ok x mem' => ∀ G' A' H' v, Ok K [] (cf0 H A G G' A' mem' H') → Same G G' → A <+: A' → DvOk K G' A' v x → Q v H'
  | .exc n mem' => ∀ G' A' H', Ok K [] (cf0 H A G G' A' mem' H') → Same G G' → A <+: A' → E (.ref (He.ga K n)) none H'
  | .bad => False
/-- what a body is worth as a def with n names -/
def fnSem (n np : Nat) (body : SSem) : Fn := fun xs mem => if xs.length = np then (match body ⟨xs.map .v ++ List.replicate (n - xs.length) .emp, mem⟩ with
  | .ok .nx st => .ok (.d .none) st.mem
  | .ok (.rt x) st => .ok x st.mem
  | .ok .bk _ => .bad
  | .ok .ct _ => .bad
  | .exc m st => .exc m st.mem
  | .bad => .bad) else .bad
theorem nil_get {α : Type} {i : Nat} {a : α} (h : ([] : List α)[i]? = some a) : False := by simp at h
theorem ok_bare {K : PySem.W.Frag} {σ : L2.St} {c : Cf} (o : Ok K σ c) : Ok K [] (cf0 c.H0 c.A0 c.G0 c.G c.A c.st.mem c.H) :=
  ⟨o.sub, rfl, fun i s ov h => (nil_get h).elim, fun i j p q a h => (nil_get h).elim, o.alen, o.cell, o.anod, o.agn, o.pre, o.fr, o.new, o.gnew⟩
theorem rep_get {α : Type} {n i : Nat} {a b : α} (h : (List.replicate n a)[i]? = some b) : b = a := by
  rw [List.getElem?_replicate] at h
  split at h <;> cases h
  rfl
theorem ok_start {K : PySem.W.Frag} {G : Hp} {A : List Addr} {mem : List Cell} {H : Hp} {vs : List V} {xs : List Dv} {N : List Str} (o : Ok K [] (cf0 H A G G A mem H)) (h : DvAll K G A vs xs) :
    Ok K (L2.start N vs) ⟨H, A, G, G, A, ⟨xs.map .v ++ List.replicate (N.length - xs.length) .emp, mem⟩, H⟩ := by
  refine ⟨o.sub, ?_, fun i s ov h1 h2 => ?_, fun i j p q a h1 _ _ _ => ?_, o.alen, o.cell, o.anod, o.agn, o.pre, o.fr, o.new, o.gnew⟩
  · show (xs.map Slot.v ++ _).length = (L2.start N vs).length
    unfold L2.start
    rw [List.length_append, List.length_append, List.length_map, List.length_map, List.length_replicate, List.length_replicate, h.length]
  · have h1 : (xs.map Slot.v ++ List.replicate (N.length - xs.length) Slot.emp)[i]? = some s := h1
    by_cases hi : i < xs.length
    · rw [List.getElem?_append_left (by rw [List.length_map]; exact hi), List.getElem?_map, List.getElem?_eq_getElem hi] at h1
      cases h1
      obtain ⟨v, e1, e2⟩ := h.get (List.getElem?_eq_getElem hi)
      unfold L2.start at h2
      rw [List.getElem?_append_left (by rw [List.length_map, h.length]; exact hi), List.getElem?_map, e1] at h2
      cases h2
      exact ⟨v, rfl, e2⟩
    · rw [List.getElem?_append_right (by rw [List.length_map]; omega)] at h1
      rw [rep_get h1]
      trivial
  · have h1 : (xs.map Slot.v ++ List.replicate (N.length - xs.length) Slot.emp)[i]? = some (.own p) := h1
    exfalso
    by_cases hi : i < xs.length
    · rw [List.getElem?_append_left (by rw [List.length_map]; exact hi), List.getElem?_map, List.getElem?_eq_getElem hi] at h1
      cases h1
    · rw [List.getElem?_append_right (by rw [List.length_map]; omega)] at h1
      cases rep_get h1
section
variable {P : Program} {w : World} {K : PySem.W.Frag} {mg : Str → Option Value} {base : Heap}
/-- a def of the text keeps its promise -/
theorem fn_ok {x qual : Str} {params : Arguments} {body : List Stmt} {scope : Scope} {f : Addr} {fd : FuncData} {N ps : List Str} {k : Nat} {sem : SSem} (F : FunD K x qual params body scope [] [] f fd) (S : FnScope N ps scope)
    (hb : ∀ (X : Cx) (E : XW), X.prog = P → X.w = w → X.K = K → X.mg = mg → X.base = base → X.N = N → X.env.scope = scope → X.calm = true → X.fn = (fun _ => true) → X.stack = X.env :: X.outer → X.env.frame = some X.env.locals → Room k X.A → Takes X (Wx X.K E) → PassesOwn (model X.prog X.w) X.A X.env X.xe → PSs X body (tS X.K E sem)) :
    FnOk P w K mg base (L2.CX P w) (k + 1) f fd ps (spD K (fnSem N.length ps.length sem)) := by
  refine F.ok S (fun vs H Q E h => ?_) (fun cdv A outer s H vs Q E hr h => ?_)
  · obtain ⟨G, Ac, xs, mem, o, hx, h⟩ := h
    by_cases hl : xs.length = ps.length
    · exact hx.length.trans hl
    · unfold fnSem at h
      rw [if_neg hl] at h
      exact h.elim
  obtain ⟨G, Ac, xs, mem, o, hx, h⟩ := h
  have hl : xs.length = ps.length := by
    by_cases hl : xs.length = ps.length
    · exact hl
    · unfold fnSem at h
      rw [if_neg hl] at h
      exact h.elim
  refine ⟨_, hb (cxOf (L2.CX P w) P w K mg base N qual scope f cdv A outer s H E) (fun n _ H' => E (.ref (He.ga K n)) none H') rfl rfl rfl rfl rfl rfl rfl rfl rfl rfl rfl hr ?_ (passes_of rfl), ?_⟩
  · exact (takes_of rfl rfl rfl rfl).imp fun c d σ H' ⟨n, e1, e2, h⟩ => by
      subst e1 e2
      exact h
  · refine ⟨_, rfl, ok_start o hx, ?_⟩
    unfold fnSem at h
    rw [if_pos hl] at h
    generalize sem ⟨xs.map .v ++ List.replicate (N.length - xs.length) .emp, mem⟩ = r at h ⊢
    have back : ∀ {σ : L2.St} {c' : Cf}, Le ⟨H, Ac, G, G, Ac, ⟨xs.map .v ++ List.replicate (N.length - xs.length) .emp, mem⟩, H⟩ c' → Ok K σ c' → Ok K [] (cf0 H Ac G c'.G c'.A c'.st.mem c'.H) := fun {σ c'} l o' => by
      have z := ok_bare o'
      rw [l.h, l.a, l.g0] at z
      exact z
    cases r with
    | bad => exact h.elim
    | exc m st =>
      intro σ c' _ l e o'
      subst e
      exact h c'.G c'.A c'.H (back l o') l.g l.p
    | ok fl st =>
      cases fl with
      | bk => exact h.elim
      | ct => exact h.elim
      | nx =>
        intro σ c' _ l e o'
        subst e
        exact h c'.G c'.A c'.H .non (back l o') l.g l.p .non
      | rt x =>
        intro σ c' v _ l e o' hv
        subst e
        exact h c'.G c'.A c'.H v (back l o') l.g l.p hv
end

/-! ### a call -/
def forceV : List W → St → R St (List Dv)
  | [], st => .ok [] st
  | w :: ws, st => (force w st).bind fun d s => (forceV ws s).bind fun ds s' => .ok (d :: ds) s'
theorem forceV_exc : ∀ {ws : List W} {st s : St} {n : Str}, forceV ws st ≠ .exc n s
  | [], st, s, n, e => by cases e
  | w :: ws, st, s, n, e => by
    unfold forceV at e
    cases q : force w st with
    | ok d t =>
      rw [q] at e
      cases q2 : forceV ws t with
      | ok ds t2 =>
        have e : R.bind (forceV ws t) (fun ds s' => R.ok (d :: ds) s') = R.exc n s := e
        rw [q2] at e; cases e
      | exc m t2 => exact forceV_exc q2
      | bad =>
        have e : R.bind (forceV ws t) (fun ds s' => R.ok (d :: ds) s') = R.exc n s := e
        rw [q2] at e; cases e
    | exc m t => exact force_exc q
    | bad => rw [q] at e; cases e
theorem forceV_ok {K : PySem.W.Frag} {σ : L2.St} : ∀ {c : Cf} (_ : Ok K σ c) {ws : List W} {vs : List V} {xs : List Dv} {st : St} (_ : WAll K σ c vs ws) (_ : forceV ws c.st = .ok xs st), ∃ c', Le c c' ∧ c'.st = st ∧ Ok K σ c' ∧ c'.H = c.H ∧ DvAll K c'.G c'.A vs xs
  | c, o, [], _, xs, st, h, e => by
    cases h
    have e : R.ok [] c.st = R.ok xs st := e
    cases e
    exact ⟨c, Le.refl c, rfl, o, rfl, .nil⟩
  | c, o, w :: ws, _, xs, st, h, e => by
    cases h with
    | cons h1 h2 =>
      unfold forceV at e
      cases q : force w c.st with
      | exc m t => exact absurd q force_exc
      | bad => rw [q] at e; cases e
      | ok d t =>
        rw [q] at e
        obtain ⟨c1, l1, e1, o1, eh1, r1⟩ := force_ok o h1 q
        have e : R.bind (forceV ws t) (fun ds s' => R.ok (d :: ds) s') = R.ok xs st := e
        rw [← e1] at e
        cases q2 : forceV ws c1.st with
        | exc m t => exact absurd q2 forceV_exc
        | bad => rw [q2] at e; cases e
        | ok ds t2 =>
          rw [q2] at e
          have e : R.ok (d :: ds) t2 = R.ok xs st := e
          cases e
          obtain ⟨c2, l2, e2, o2, eh2, r2⟩ := forceV_ok o1 (h2.mono l1) q2
          exact ⟨c2, l1.trans l2, e2, o2, eh2.trans eh1, .cons (r1.mono l2.g l2.p) r2⟩
/-- back in the caller -/
theorem ok_back {K : PySem.W.Frag} {σ : L2.St} {c : Cf} (o : Ok K σ c) {G' H' : Hp} {A' : List Addr} {mem' : List Cell} (h : Ok K [] (cf0 c.H c.A c.G G' A' mem' H')) (g : Same c.G G') (p : c.A <+: A') :
    Ok K σ ⟨c.H0, c.A0, c.G0, G', A', { c.st with mem := mem' }, H'⟩ := by
  refine ⟨h.sub, o.len, fun i s ov h1 h2 => ?_, o.apart, h.alen, h.cell, h.anod, h.agn, o.pre.trans p, fun b u h1 h2 => ?_, fun a ha => ?_, fun b u hb => ?_⟩
  · have q := o.slot i s ov h1 h2
    cases s with
    | emp => trivial
    | v x =>
      obtain ⟨v, e, q⟩ := q
      exact ⟨v, e, q.mono g p⟩
    | own w =>
      obtain ⟨a, e, q1, q2, q3, q4⟩ := q
      obtain ⟨u, hu⟩ := q1.some
      have hk : H' a = some u := h.fr a u hu q3
      refine ⟨a, e, q1.mono g (hu.trans hk.symm), ?_, fun z => ?_, q4⟩
      · cases z : G' a with
        | none => exact z
        | some y =>
          rcases h.gnew a y z with z | z
          · rw [show c.G a = some y from z] at q2; cases q2
          · rcases z with z | z
            · rw [show c.H a = none from z] at hu; cases hu
            · exact absurd z q3
      · rcases h.new a z with z | z
        · exact q3 z
        · rw [show c.H a = none from z] at hu; cases hu
  · by_cases hb : b ∈ c.A
    · rcases o.new b hb with z | z
      · exact absurd z h2
      · rw [show c.H0 b = some u from h1] at z; cases z
    · exact h.fr b u (o.fr b u h1 h2) hb
  · rcases h.new a ha with z | z
    · exact o.new a z
    · exact .inr (o.hnone z)
  · rcases h.gnew b u hb with z | z
    · exact o.gnew b u z
    · rcases z with z | z
      · exact .inr (.inl (o.hnone z))
      · rcases o.new b z with y | y
        · exact .inr (.inr y)
        · exact .inr (.inl y)
def eCall (f : Fn) (As : ASem) : ESem := fun st => (As st).bind fun ws s => (forceV ws s).bind fun xs s1 => match f xs s1.mem with
  | .ok x mem' => .ok (.v x) { s1 with mem := mem' }
  | .exc n mem' => .exc n { s1 with mem := mem' }
  | .bad => .bad
/-- a def at hand: its function object, its promise -/
structure Df (P : Program) (w : World) (K : PySem.W.Frag) (mg : Str → Option Value) (base : Heap) (k : Nat) (x : Str) (f : Fn) : Prop where
  ex : ∃ (a : Addr) (fd : FuncData) (ps : List Str), FnOk P w K mg base (L2.CX P w) k a fd ps (spD K f) ∧ mg x = some (.ref a) ∧ PySem.W.keepIn K (.ref a) = true ∧ Binds K fd ps []
section
variable {X : Cx} {E : XW} {pos p : Pos} {As : ASem} {f : Fn} {k : Nat} {x : Str} {e : Expr} {es : List Expr}
theorem call_read {K : PySem.W.Frag} {σ : L2.St} {H : Hp} {Q : VK} (h : tE K E (eCall f As) σ H Q) : tA K E As σ H fun vs H1 => spD K f vs H1 Q (WE (Wx K E) σ) := by
  obtain ⟨c, rfl, o, h⟩ := h
  refine ⟨c, rfl, o, h.bind.mono fun ws c1 l1 o1 h1 vs hvs => ?_⟩
  cases q : forceV ws c1.st with
  | exc m t => exact absurd q forceV_exc
  | bad => rw [q] at h1; exact h1.elim
  | ok xs t =>
    rw [q] at h1
    obtain ⟨c2, l2, e2, o2, eh, r2⟩ := forceV_ok o1 hvs q
    rw [← eh]
    refine ⟨c2.G, c2.A, xs, c2.st.mem, ?_, r2, ?_⟩
    · have z := ok_bare o2
      exact ⟨z.sub, z.len, fun i s ov h => (nil_get h).elim, fun i j p q a h => (nil_get h).elim, z.alen, z.cell, z.anod, z.agn, List.prefix_refl _, fun b u h _ => h, fun a h => .inl h, fun b u h => .inl h⟩
    · have h1 : Post K E σ c1 (match f xs t.mem with
        | .ok x mem' => R.ok (W.v x) { t with mem := mem' }
        | .exc n mem' => .exc n { t with mem := mem' }
        | .bad => .bad) (fun w c' => ∀ v, WOk K σ c' v w → Q v c'.H) := h1
      rw [← e2] at h1
      generalize f xs c2.st.mem = r at h1 ⊢
      cases r with
      | bad => exact h1.elim
      | exc n mem' =>
        intro G' A' H' hok g pr
        exact ⟨n, rfl, rfl, h1 ⟨c2.H0, c2.A0, c2.G0, G', A', { c2.st with mem := mem' }, H'⟩ (l2.trans ⟨rfl, rfl, rfl, g, pr⟩) rfl (ok_back o2 hok g pr)⟩
      | ok x mem' =>
        intro G' A' H' v hok g pr hv
        exact h1 ⟨c2.H0, c2.A0, c2.G0, G', A', { c2.st with mem := mem' }, H'⟩ (l2.trans ⟨rfl, rfl, rfl, g, pr⟩) rfl (ok_back o2 hok g pr) v hv
theorem e_call (F : Df X.prog X.w X.K X.mg X.base k x f) (hr : Room k X.A) (tk : Takes X (Wx X.K E)) (hg : Gl X x) (ha : PA X (e :: es) (tA X.K E As)) (hdb : (x == ("__debug__" : Str)) = false := by decide)
    (he : starEach (e :: es) X.env = (false, eval e X.env) :: starEach es X.env := by rfl) (hpl : (backTo pos (starEach es X.env)).any (·.1) = false := by rfl) :
    PE X (.Call (.Name x p) (e :: es) [] pos) (tE X.K E (eCall f As)) := by
  obtain ⟨a, fd, ps, G, gm, kp, hb⟩ := F.ex
  exact PE_imp (pe_callS G hr hg gm kp hb (fun σ => passAt tk σ) ha hdb he hpl) fun σ H Q h => call_read h
end
end PD

set_option Elab.async false
set_option linter.all false
set_option maxRecDepth 100000
set_option maxHeartbeats 1000000
/-! PDLoop: what is walked, targets, for, while, list comprehensions. -/
namespace PD
open PySem PySem.Spec PyProof.Rows L2

/-! ### what is walked -/
/-- J gives the items of ds, one after the other, while what never changes stands -/
structure ItOk (G : Hp) (J : It) (ds : List D) : Prop where
  go : ∀ i H, Same G H → i < ds.length → J.go i H
  yld : ∀ (i : Nat) H x H', Same G H → J.yld i H x H' → i < ds.length → H' = H ∧ ∃ d, ds[i]? = some d ∧ Rp G x d
  stop : ∀ H, Same G H → J.stop ds.length H
abbrev ISem := St → R St (List D)
def tI (K : PySem.W.Frag) (E : XW) (sem : ISem) : TI := fun σ H R => ∃ c, c.H = H ∧ Ok K σ c ∧ Post K E σ c (sem c.st) fun ds c' => ∀ J, ItOk c'.G J ds → R J c'.H
theorem Rp.same {G H : Hp} {x y : V} {d e : D} (h : x = y) (h' : d = e) (r : Rp G x d) : Rp G y e := h ▸ h' ▸ r
theorem it_list {K : PySem.W.Frag} {G : Hp} {a : Addr} {vs : List V} {ds : List D} (h : SqL K G a vs) (r : RpAll G vs ds) : ItOk G (Itl K a) ds where
  go := fun i H s hi => by
    have hv : i < vs.length := by rw [r.length]; exact hi
    exact ⟨vs, vs[i], SqL.same s h, List.getElem?_eq_getElem hv⟩
  yld := fun i H x H' s y hi => by
    obtain ⟨e, y⟩ := y
    have e2 := y vs (SqL.same s h)
    obtain ⟨d, h1, h2⟩ := r.getV e2
    exact ⟨e, d, h1, h2⟩
  stop := fun H s => ⟨vs, SqL.same s h, by rw [r.length]; exact Nat.le_refl _⟩
theorem it_tup {K : PySem.W.Frag} {G : Hp} {a : Addr} {vs : List V} {ds : List D} (h : SqT K G a vs) (r : RpAll G vs ds) : ItOk G (Itt K a) ds where
  go := fun i H s hi => by
    have hv : i < vs.length := by rw [r.length]; exact hi
    exact ⟨vs, vs[i], SqT.same s h, List.getElem?_eq_getElem hv⟩
  yld := fun i H x H' s y hi => by
    obtain ⟨e, y⟩ := y
    have e2 := y vs (SqT.same s h)
    obtain ⟨d, h1, h2⟩ := r.getV e2
    exact ⟨e, d, h1, h2⟩
  stop := fun H s => ⟨vs, SqT.same s h, by rw [r.length]; exact Nat.le_refl _⟩
def rngD (lo : Int) (n : Nat) : List D := (List.range n).map fun (i : Nat) => PyData.int (lo + (i : Int))
theorem it_rng {G : Hp} (lo : Int) (n : Nat) : ItOk G (Itr lo n) (rngD lo n) where
  go := fun i H s hi => by
    unfold rngD at hi
    rw [List.length_map, List.length_range] at hi
    exact hi
  yld := fun i H x H' s y hi => by
    obtain ⟨e, rfl⟩ := y
    unfold rngD at hi ⊢
    rw [List.length_map, List.length_range] at hi
    refine ⟨e, .int (lo + i), ?_, .int _⟩
    rw [List.getElem?_map, List.getElem?_range hi]
    rfl
  stop := fun H s => by
    show n ≤ (rngD lo n).length
    unfold rngD
    rw [List.length_map, List.length_range]
    exact Nat.le_refl _
/-! dicts -/
theorem frzN_at {X : Cx} {pins : List (Addr × Obj)} {σ : L2.St} {H : Hp} {s : Shared} {d : Addr} {o : Obj} {es : List (NestedKey × V × V)} (I : Inv X pins σ H s) (h : H d = some (.frz o (dN d es))) :
    s.heap.get? d = some o ∧ o.ExactDict ∧ ∃ (ents : Array DictEntry) (ep : Nat), o.data = .dict ents ep ∧ ents.size = es.length ∧ ∀ (i : Nat) q, es[i]? = some q → ∃ en, ents[i]? = some en ∧ RelV q.2.1 en.key := by
  obtain ⟨hd, ⟨o', ents, ep, h1, h2, h3, h4⟩, _, _⟩ := (show ObjOk X.prog X.w H s.heap d (.frz o (.ext (phiN d es))) from I.hok d _ h)
  rw [hd] at h1
  cases h1
  refine ⟨hd, h2, ents, ep, h3, ?_, fun i q hq => ?_⟩
  · have := Paired.length h4
    rw [this, Array.length_toList]
  · obtain ⟨en, e1, _, e2, _⟩ := paired_get h4 hq
    exact ⟨en, by rw [← Array.getElem?_toList]; exact e1, e2⟩
/-- the keys of the locked dict at d -/
def Itn (d : Addr) (o : Obj) (es : List (NestedKey × V × V)) : It :=
  ⟨fun i H => H d = some (.frz o (dN d es)) ∧ i < es.length, fun i H x H' => H' = H ∧ ∃ q, es[i]? = some q ∧ x = q.2.1, fun i H => H d = some (.frz o (dN d es)) ∧ es.length ≤ i⟩
theorem turn_keysN {P : Program} {w : World} {K : PySem.W.Frag} {tg : Expr} {d : Addr} {o : Obj} {ents : Array DictEntry} {ep : Nat} {es : List (NestedKey × V × V)} (it : Addr) (hod : o.data = .dict ents ep) :
    Turn P w K tg (Itn d o es) [it] it (fun i h => h.IsKeyIter it d i es.length ep) where
  mem := by simp
  obj := fun i h st b hb => by
    obtain rfl : b = it := by simpa using hb
    obtain ⟨oi, e, c, dd⟩ := st
    exact ⟨oi, e, fun v z => by rw [dd] at z; cases z⟩
  keep := fun i h h' st k => st.at fun oi e => k it (by simp) oi e
  item := by
    intro X hP hw hK hc i pins s σ H E I hf st hg
    subst hP hw hK
    obtain ⟨hd, hi⟩ := hg
    obtain ⟨f0, f1, f2, f3, f4, f5⟩ := hf it (by simp)
    obtain ⟨hgd, hx, ents', ep', hdt, hsz, ent⟩ := frzN_at I hd
    obtain ⟨rfl, rfl⟩ := dict_ep hod hdt
    have hq : es[i]? = some es[i] := List.getElem?_eq_getElem hi
    obtain ⟨en, hen, hkey⟩ := ent i _ hq
    refine next_key_item st hgd hdt hsz hen fun h' st' sb => ?_
    have I1 : Inv X pins σ H { s with heap := h' } := I.turned (t' := s.toks) (fun b ob hb e => (sb.2 b hb).trans e) f0 f1 f3 f4 f5
    obtain ⟨oi, e, c, dd⟩ := id st'
    exact ⟨en.key, rfl, go_of (s := { s with heap := h' }) e c dd (by decide) ⟨es[i].2.1, H, I1, hkey, ⟨rfl, _, hq, rfl⟩, st', fun b hb => (hf b hb).1⟩⟩
  done := by
    intro X hP hw hK hc i pins s σ H E I hf st hg
    subst hP hw hK
    obtain ⟨hd, hi⟩ := hg
    obtain ⟨f0, f1, f2, f3, f4, f5⟩ := hf it (by simp)
    obtain ⟨hgd, hx, ents', ep', hdt, hsz, ent⟩ := frzN_at I hd
    obtain ⟨rfl, rfl⟩ := dict_ep hod hdt
    exact next_key_end (I.ok.hd hc) st hgd hdt hsz hi fun h' eb => ⟨rfl, I.turned (t' := s.toks) (fun b ob hb e => eb b ob hb e) f0 f1 f3 f4 f5⟩
  self := fun A i s Q E st h => wpAny_pyIter_keyiter st h
theorem RpK.keyAt {G : Hp} : ∀ {es : List (Key × V)} {kvs : List (D × D)} {i : Nat}, RpK G es kvs → i < es.length → ∃ k v, es[i]? = some (k, v) ∧ (kvs.map (·.1))[i]? = some (kD k)
  | _, _, _, .nil, h => by cases h
  | _, _, 0, .cons (k := k) (v := v) _ _, _ => ⟨k, v, rfl, rfl⟩
  | _, _, i + 1, .cons _ t, h => by
    obtain ⟨k, v, h1, h2⟩ := RpK.keyAt (i := i) t (by simpa using h)
    exact ⟨k, v, by simpa using h1, by simpa using h2⟩
theorem RpN.keyAt {G : Hp} : ∀ {es : List (NestedKey × V × V)} {kvs : List (D × D)} {i : Nat} {q : NestedKey × V × V}, RpN G es kvs → es[i]? = some q → ∃ d, (kvs.map (·.1))[i]? = some d ∧ Rp G q.2.1 d
  | _, _, _, _, .nil, h => by simp at h
  | _, _, 0, _, .cons r _ _, h => by
    simp at h
    subst h
    exact ⟨_, rfl, r⟩
  | _, _, i + 1, _, .cons _ _ t, h => by
    obtain ⟨d, h1, h2⟩ := RpN.keyAt (i := i) t (by simpa using h)
    exact ⟨d, by simpa using h1, h2⟩
theorem rp_of_kV {G : Hp} (k : Key) : Rp G (kV k) (kD k) := by
  cases k with
  | inl i => exact .int i
  | inr x => exact .str x
theorem it_dK {G : Hp} {a : Addr} {o : Obj} {es : List (Key × V)} {kvs : List (D × D)} (h : G a = some (.frz o (.dK es))) (r : RpK G es kvs) : ItOk G (Itk a o es) (kvs.map (·.1)) where
  go := fun i H s hi => by
    rw [List.length_map] at hi
    exact ⟨s _ _ h, by rw [r.len]; exact hi⟩
  yld := fun i H x H' s y hi => by
    rw [List.length_map] at hi
    obtain ⟨e, k, v, h1, rfl⟩ := y
    obtain ⟨k', v', h2, h3⟩ := r.keyAt (i := i) (by rw [r.len]; exact hi)
    rw [h1] at h2
    cases h2
    exact ⟨e, _, h3, rp_of_kV k⟩
  stop := fun H s => ⟨s _ _ h, by rw [List.length_map, r.len]; exact Nat.le_refl _⟩
theorem it_dN {G : Hp} {a : Addr} {o : Obj} {es : List (NestedKey × V × V)} {kvs : List (D × D)} (h : G a = some (.frz o (dN a es))) (r : RpN G es kvs) : ItOk G (Itn a o es) (kvs.map (·.1)) where
  go := fun i H s hi => by
    rw [List.length_map] at hi
    exact ⟨s _ _ h, by rw [r.len]; exact hi⟩
  yld := fun i H x H' s y hi => by
    obtain ⟨e, q, h1, rfl⟩ := y
    obtain ⟨d, h2, h3⟩ := r.keyAt h1
    exact ⟨e, d, h2, h3⟩
  stop := fun H s => ⟨s _ _ h, by rw [List.length_map, r.len]; exact Nat.le_refl _⟩
/-- the signs of a text -/
def strD (z : Str) : List D := z.cps.toList.map fun ch => .str ⟨#[ch]⟩
theorem it_str {G : Hp} (z : Str) : ItOk G (Its z) (strD z) where
  go := fun i H s hi => by
    unfold strD at hi
    rw [List.length_map, Array.length_toList] at hi
    exact hi
  yld := fun i H x H' s y hi => by
    obtain ⟨e, ch, h1, rfl⟩ := y
    refine ⟨e, .str ⟨#[ch]⟩, ?_, .str _⟩
    unfold strD
    rw [List.getElem?_map, Array.getElem?_toList, h1]
    rfl
  stop := fun H s => by
    show z.cps.size ≤ (strD z).length
    unfold strD
    rw [List.length_map, Array.length_toList]
    exact Nat.le_refl _
section
variable {X : Cx} {tg : Expr}
/-- a list, a tuple, a locked dict, a text, whichever it is -/
def iAny (K : PySem.W.Frag) (x : V) (H1 : Hp) (R : It → Hp → Prop) : Prop := (∃ z, x = .str z ∧ R (Its z) H1) ∨ ∃ a, x = .ref a ∧ (((∃ xs, SqL K H1 a xs) ∧ R (Itl K a) H1) ∨ ((∃ xs, SqT K H1 a xs) ∧ R (Itt K a) H1) ∨
  (∃ o es, H1 a = some (.frz o (.dK es)) ∧ R (Itk a o es) H1) ∨ ∃ o es, OkN a es ∧ H1 a = some (.frz o (dN a es)) ∧ R (Itn a o es) H1)
theorem pi_seq {l : Expr} {tl : TE} (hl : PE X l tl) : PI X tg l (fun σ H R => tl σ H fun x H1 => iAny X.K x H1 R) := by
  refine ⟨fun pins s σ H R I h => ?_⟩
  refine thn (hl.run pins s σ H _ I h) fun v s1 hx => ?_
  obtain ⟨x, H1, J, r1, hq⟩ := hx
  rcases hq with ⟨z, rfl, q⟩ | ⟨a, rfl, q⟩
  · obtain ⟨t, rfl⟩ := (show ∃ t, v = Value.str z t from r1)
    cases ha : z.cps.all (· < 128)
    · exact wpAny_pyIter_wide ha (pi_one (tk := s1.toks) J _ (turn_str _ z t "str_iterator" (.inr rfl)) ⟨_, Heap.get?_push_size _ rfl, rfl, rfl⟩ q)
    · exact wpAny_pyIter_ascii ha (pi_one (tk := s1.toks) J _ (turn_str _ z t "str_ascii_iterator" (.inl rfl)) ⟨_, Heap.get?_push_size _ rfl, rfl, rfl⟩ q)
  obtain rfl : v = Value.ref a := r1
  rcases q with ⟨⟨xs, hq⟩, q⟩ | ⟨⟨xs, hq⟩, q⟩ | ⟨o, es, hd, q⟩ | ⟨o, es, N, hd, q⟩
  · obtain ⟨its, rv, p, hz⟩ := J.list hq
    refine wpAny_pyIter_list p.isList ⟨s1.heap.objs.size, [s1.heap.objs.size], _, _, H1, rfl, J.kept (t' := s1.toks) (fun b o z => Heap.get?_push_of_some _ z), turn_list a _, ⟨_, Heap.get?_push_size _ rfl, rfl, rfl⟩, fun b hb => ?_, q⟩
    rw [List.mem_singleton.mp hb]
    exact J.fpOk (Nat.le_refl _) (J.hok.fresh (Nat.le_refl _))
  · obtain ⟨its, rv, p, hz⟩ := J.tuple hq
    refine wpAny_pyIter_tuple (show s1.heap.IsTuple a its.toArray from p) ⟨s1.heap.objs.size, [s1.heap.objs.size], _, _, H1, rfl, J.kept (t' := s1.toks) (fun b o z => Heap.get?_push_of_some _ z), turn_tuple a _, ⟨_, Heap.get?_push_size _ rfl, rfl, rfl⟩, fun b hb => ?_, q⟩
    rw [List.mem_singleton.mp hb]
    exact J.fpOk (Nat.le_refl _) (J.hok.fresh (Nat.le_refl _))
  · obtain ⟨hs, hgd, hx, ents, ep, vs, hdt, hsz, kv, hm⟩ := J.frzK hd
    refine iter_keys hs hgd hx hdt (pi_one (tk := s1.toks) J _ (turn_keys _ hdt) ⟨_, Heap.get?_push_size _ rfl, rfl, ?_⟩ q)
    rw [hsz] <;> rfl
  · obtain ⟨hgd, hx, ents, ep, hdt, hsz, ent⟩ := frzN_at J hd
    refine iter_keys N.sys hgd hx hdt (pi_one (tk := s1.toks) J _ (turn_keysN _ hdt) ⟨_, Heap.get?_push_size _ rfl, rfl, ?_⟩ q)
    rw [hsz] <;> rfl
theorem PI_imp {e : Expr} {t t' : TI} (h : PI X tg e t) (i : ∀ σ H Q, t' σ H Q → t σ H Q) : PI X tg e t' := ⟨fun pins s σ H Q I hq => h.run pins s σ H Q I (i σ H Q hq)⟩
variable {E : XW} {pos : Pos} {a b : Expr} {A B : ESem}
/-- the items of a value, frozen -/
def dvSeq : Dv → Option (List D)
  | .d (.list xs) => some xs
  | .d (.tuple xs) => some xs
  | .d (.dict kvs) => some (kvs.map (·.1))
  | .d (.str z) => some (strD z)
  | .k (.list xs) => some xs
  | .k (.tuple xs) => some xs
  | _ => none
def iSeq (A : ESem) : ISem := fun st => (A st).bind fun w s => (force w s).bind fun x s' => match dvSeq x with
  | some xs => .ok xs s'
  | none => .bad
theorem seq_read {K : PySem.W.Frag} {c : Cf} {G : Hp} {v : V} {x : Dv} {xs : List D} {R : It → Hp → Prop} {A : List Addr} {σ : L2.St} (o : Ok K σ c) (hx : DvOk K c.G c.A v x) (e : dvSeq x = some xs) (go : ∀ J, ItOk c.G J xs → R J c.H) : iAny K v c.H R := by
  cases x with
  | c n => cases e
  | d x =>
    cases x with
    | list ys =>
      cases e
      have hx : Rp c.G v (.list xs) := hx
      cases hx with
      | lst q1 q2 => exact .inr ⟨_, rfl, .inl ⟨⟨_, SqL.of (o.sub _ _ q1)⟩, go _ (it_list (SqL.of q1) q2)⟩⟩
    | tuple ys =>
      cases e
      have hx : Rp c.G v (.tuple xs) := hx
      cases hx with
      | tup q1 q2 => exact .inr ⟨_, rfl, .inr (.inl ⟨⟨_, SqT.of (o.sub _ _ q1)⟩, go _ (it_tup (SqT.of q1) q2)⟩)⟩
    | dict kvs =>
      cases e
      have hx : Rp c.G v (.dict kvs) := hx
      cases hx with
      | dcK q1 q2 => exact .inr ⟨_, rfl, .inr (.inr (.inl ⟨_, _, o.sub _ _ q1, go _ (it_dK q1 q2)⟩))⟩
      | dcN q1 q2 q3 => exact .inr ⟨_, rfl, .inr (.inr (.inr ⟨_, _, q2, o.sub _ _ q1, go _ (it_dN q1 q3)⟩))⟩
    | str z =>
      cases e
      have hx : Rp c.G v (.str z) := hx
      cases hx
      exact .inl ⟨z, rfl, go _ (it_str z)⟩
    | _ => cases e
  | k x =>
    obtain ⟨a, rfl, hx⟩ := hx
    cases x with
    | list ys =>
      cases e
      obtain ⟨vs, q1, q2⟩ := hx
      exact .inr ⟨_, rfl, .inl ⟨⟨_, SqL.same o.sub q1⟩, go _ (it_list q1 q2)⟩⟩
    | tuple ys =>
      cases e
      obtain ⟨vs, q1, q2⟩ := hx
      exact .inr ⟨_, rfl, .inr (.inl ⟨⟨_, SqT.same o.sub q1⟩, go _ (it_tup q1 q2)⟩)⟩
    | _ => cases e
theorem i_seq (ha : PE X a (tE X.K E A)) : PI X tg a (tI X.K E (iSeq A)) := by
  refine PI_imp (pi_seq ha) fun σ H Q h => ?_
  obtain ⟨c, rfl, o, h⟩ := h
  refine ⟨c, rfl, o, h.bind.mono fun w c1 l1 o1 h1 v hv => ?_⟩
  obtain ⟨x, c2, l2, o2, eh, hx, h2⟩ := post_force o1 hv h1
  rw [← eh]
  cases e : dvSeq x with
  | none => simp only [e] at h2; exact h2.elim
  | some xs =>
    simp only [e] at h2
    exact seq_read (G := c2.G) (A := c2.A) o2 hx e fun J hJ => h2.here o2 J hJ
/-- range(n), range(a, b) -/
@[irreducible] def small (i : Int) : Bool := decide (-(2 ^ 62) ≤ i) && decide (i < 2 ^ 62)
theorem small_of {i : Int} (h : small i = true) : -(2 ^ 62) ≤ i ∧ i < 2 ^ 62 := by
  unfold small at h
  obtain ⟨h1, h2⟩ := Bool.and_eq_true_iff.mp h
  exact ⟨of_decide_eq_true h1, of_decide_eq_true h2⟩
def iRng1 (A : ESem) : ISem := fun st => (A st).bind fun w s => match w with
  | .v (.d (.int j)) => if small j = true then .ok (rngD 0 j.toNat) s else .bad
  | _ => .bad
def iRng2 (A B : ESem) : ISem := fun st => (A st).bind fun w s => (B s).bind fun u s' => match w, u with
  | .v (.d (.int i)), .v (.d (.int j)) => if small i && small j then .ok (rngD i (j - i).toNat) s' else .bad
  | _, _ => .bad
theorem i_rng1 {p : Pos} (ha : PE X a (tE X.K E A)) (hg : Gl X "range") (hm : X.mg "range" = none) (hs : starEach [a] X.env = [(false, eval a X.env)] := by rfl) : PI X tg (.Call (.Name "range" p) [a] [] pos) (tI X.K E (iRng1 A)) := by
  refine PI_imp (pi_range1 hg hm (pa_cons ha pa_nil hs) hs) fun σ H Q h => ?_
  obtain ⟨c, rfl, o, h⟩ := h
  refine ⟨c, rfl, o, h.bind.mono fun w c1 l1 o1 h1 v hv => ?_⟩
  cases w with
  | sl i => exact h1.elim
  | v x =>
    cases x with
    | c n => exact h1.elim
    | k x => exact h1.elim
    | d x =>
      cases x with
      | int j =>
        have hv : Rp c1.G v (.int j) := hv
        cases hv
        by_cases hj : small j = true
        · simp only [if_pos hj] at h1
          obtain ⟨s1, s2⟩ := small_of hj
          exact ⟨j, rfl, s1, s2, h1.here o1 _ (it_rng 0 j.toNat)⟩
        · simp only [if_neg hj] at h1
          exact h1.elim
      | _ => exact h1.elim
theorem i_rng2 {p : Pos} (ha : PE X a (tE X.K E A)) (hb : PE X b (tE X.K E B)) (hg : Gl X "range") (hm : X.mg "range" = none) (hs : starEach [a, b] X.env = [(false, eval a X.env), (false, eval b X.env)] := by rfl) (hs2 : starEach [b] X.env = [(false, eval b X.env)] := by rfl) :
    PI X tg (.Call (.Name "range" p) [a, b] [] pos) (tI X.K E (iRng2 A B)) := by
  refine PI_imp (pi_range2 hg hm (pa_cons ha (pa_cons hb pa_nil hs2) (by rw [hs, hs2])) hs hs2) fun σ H Q h => ?_
  obtain ⟨c, rfl, o, h⟩ := h
  refine ⟨c, rfl, o, h.bind.mono fun w c1 l1 o1 h1 v hv => ?_⟩
  refine ⟨c1, rfl, o1, h1.bind.mono fun u c2 l2 o2 h2 z hz => ?_⟩
  have hv := hv.mono l2
  cases w with
  | sl i => exact h2.elim
  | v x =>
    cases x with
    | c n => exact h2.elim
    | k x => exact h2.elim
    | d x =>
      cases x with
      | int i =>
        have hv : Rp c2.G v (.int i) := hv
        cases hv
        cases u with
        | sl i => exact h2.elim
        | v y =>
          cases y with
          | c n => exact h2.elim
          | k x => exact h2.elim
          | d y =>
            cases y with
            | int j =>
              have hz : Rp c2.G z (.int j) := hz
              cases hz
              by_cases hj : (small i && small j) = true
              · simp only [if_pos hj] at h2
                obtain ⟨g1, g2⟩ := Bool.and_eq_true_iff.mp hj
                obtain ⟨s1, s2⟩ := small_of g1
                obtain ⟨s3, s4⟩ := small_of g2
                exact ⟨i, j, rfl, ⟨s1, s2, s3, s4⟩, h2.here o2 _ (it_rng i (j - i).toNat)⟩
              · simp only [if_neg hj] at h2
                exact h2.elim
            | _ => exact h2.elim
      | _ => exact h2.elim

/-! ### targets -/
inductive Bd where
  | nm (i : Nat) | tup (is : List Nat)
def Bd.ids : Bd → List Nat
  | .nm i => [i]
  | .tup is => is
def setAll : List Nat → List D → St → Option St
  | [], [], st => some st
  | i :: is, d :: ds, st => setAll is ds (st.setS i (.v (.d d)))
  | _, _, _ => none
def Bd.put : Bd → D → St → Option St
  | .nm i, d, st => some (st.setS i (.v (.d d)))
  | .tup is, .tuple ds, st => setAll is ds st
  | .tup _, _, _ => none
def tG (K : PySem.W.Frag) (b : Bd) : TG := fun v σ H Q => ∃ c d st', c.H = H ∧ Ok K σ c ∧ Rp c.G v d ∧ b.put d c.st = some st' ∧
  ∀ σ' c', σ'.length = σ.length → (∀ j, j ∉ b.ids → σ'[j]? = σ[j]?) → Le c c' → c'.st = st' → Ok K σ' c' → Q σ' c'.H
theorem PG_imp {e : Expr} {t t' : TG} (h : PG X e t) (i : ∀ v σ H Q, t' v σ H Q → t v σ H Q) : PG X e t' := ⟨fun pins s σ H v u Q I r hq => h.run pins s σ H v u Q I r (i v σ H Q hq)⟩
theorem g_name (i : Nat) {x : Str} (hN : X.N.Nodup) (hi : X.N[i]? = some x := by rfl) (hx : Loc X.env.scope x := by first | exact Or.inl rfl | exact Or.inr rfl) (hf : X.fn x = true ∨ X.env.scope.names.lookup x = some .local := by first | exact .inl rfl | exact .inr rfl | assumption) : PG X (.Name x pos) (tG X.K (.nm i)) := by
  refine PG_imp (pg_name hN hi hx hf) fun v σ H Q h => ?_
  obtain ⟨c, d, st', rfl, o, r, e, h⟩ := h
  cases e
  exact h (σ.set i (some v)) { c with st := c.st.setS i (.v (.d d)) } (by rw [List.length_set]) (fun j hj => List.getElem?_set_ne (fun e => hj (by rw [e]; exact List.mem_singleton.mpr rfl))) (Le.st c _) rfl (o.setV (x := .d d) r)
/-- several names, one after another -/
def tGs (K : PySem.W.Frag) (is : List Nat) : TGs := fun vs σ H Q => ∃ c ds st', c.H = H ∧ Ok K σ c ∧ RpAll c.G vs ds ∧ setAll is ds c.st = some st' ∧
  ∀ σ' c', σ'.length = σ.length → (∀ j, j ∉ is → σ'[j]? = σ[j]?) → Le c c' → c'.st = st' → Ok K σ' c' → Q σ' c'.H
theorem PGs_imp {e : List Expr} {t t' : TGs} (h : PGs X e t) (i : ∀ v σ H Q, t' v σ H Q → t v σ H Q) : PGs X e t' := ⟨fun pins s σ H v u Q I r hq => h.run pins s σ H v u Q I r (i v σ H Q hq)⟩
theorem gs_nil : PGs X [] (tGs X.K []) := PGs_imp pgs_nil fun v σ H Q h => by
  obtain ⟨c, ds, st', rfl, o, r, e, h⟩ := h
  cases ds with
  | nil =>
    cases r
    cases e
    exact ⟨rfl, h σ c rfl (fun _ _ => rfl) (Le.refl c) rfl o⟩
  | cons _ _ => cases e
theorem gs_cons {i : Nat} {is : List Nat} {es : List Expr} (h1 : PG X a (tG X.K (.nm i))) (h2 : PGs X es (tGs X.K is)) (hs : (assignEach (a :: es) X.env).map (·.2) = assign a X.env :: (assignEach es X.env).map (·.2) := by rfl) : PGs X (a :: es) (tGs X.K (i :: is)) := by
  refine PGs_imp (pgs_cons h1 h2 hs) fun v σ H Q h => ?_
  obtain ⟨c, ds, st', rfl, o, r, e, h⟩ := h
  cases ds with
  | nil => cases e
  | cons d ds =>
    cases r with
    | cons r1 r2 =>
      refine ⟨_, _, rfl, c, d, _, rfl, o, r1, rfl, fun σ1 c1 hl1 hj1 l1 e1 o1 => ?_⟩
      refine ⟨c1, ds, st', rfl, o1, r2.mono l1.g ds _, by rw [e1]; exact e, fun σ2 c2 hl2 hj2 l2 e2 o2 => ?_⟩
      refine h σ2 c2 (hl2.trans hl1) (fun j hj => ?_) (l1.trans l2) e2 o2
      rw [hj2 j fun z => hj (List.mem_cons_of_mem _ z), hj1 j fun z => hj (by rw [List.mem_singleton.mp z]; exact List.mem_cons_self)]
theorem g_tup {es : List Expr} {k n : Nat} {is : List Nat} (hc : X.calm = true) (h : PGs X es (tGs X.K is)) (hi : is.length = n := by rfl) (hn : (assignEach es X.env).length = n := by rfl) (hst : (assignEach es X.env).findIdx? (·.1) = none := by rfl) : PG X (.Tuple es k pos) (tG X.K (.tup is)) := by
  refine PG_imp (pg_tup hc h hn hst) fun v σ H Q h => ?_
  obtain ⟨c, d, st', rfl, o, r, e, h⟩ := h
  cases d with
  | tuple ds =>
    cases r with
    | tup q1 q2 =>
      have e : setAll is ds c.st = some st' := e
      have hl : ∀ (is : List Nat) (ds : List D) (st : St), setAll is ds st = some st' → ds.length = is.length := by
        intro is
        induction is with
        | nil => intro ds st e; cases ds with
          | nil => rfl
          | cons _ _ => cases e
        | cons i is ih => intro ds st e; cases ds with
          | nil => cases e
          | cons d ds => exact congrArg (· + 1) (ih ds _ e)
      exact ⟨_, _, rfl, SqT.of (o.sub _ _ q1), by rw [q2.length, hl is ds _ e]; exact hi, c, ds, st', rfl, o, q2, e, h⟩
  | _ => cases e
/-- a, b = e -/
def sUnp (is : List Nat) (A : ESem) : SSem := fun st => (A st).bind fun w s => (forceD w s).bind fun d s' => match Bd.put (.tup is) d s' with
  | some s2 => .ok .nx s2
  | none => .bad
theorem s_unp {tg : Expr} {is : List Nat} (ha : PE X a (tE X.K E A)) (hg : PG X tg (tG X.K (.tup is))) (hs : swapsWithSole [tg] a pos.line X.env = pure false := by rfl) (hw : swappedStores [tg] a X.env = pure none := by rfl)
    (h1 : (assignEach [tg] X.env).map (·.2) = [assign tg X.env] := by rfl) : PS X (.Assign [tg] a pos) (tS X.K E (sUnp is A)) := by
  refine PS_imp (ps_asg ha hg hs hw h1) fun Dn σ H h => ?_
  obtain ⟨c, rfl, ok, h⟩ := h
  refine ⟨c, rfl, ok, (PostS.bind rfl h).mono fun w c1 l1 o1 h1 v hv => ?_⟩
  obtain ⟨d, c2, l2, o2, eh, hd, h2⟩ := postS_forceD o1 hv h1
  cases q : Bd.put (.tup is) d c2.st with
  | none => simp only [q] at h2; exact h2.elim
  | some st' =>
    simp only [q] at h2
    exact ⟨c2, d, st', eh, o2, hd, q, fun σ' c' hl _ l e o' => h2 σ' c' hl l e o'⟩

/-! ### for -/
def loop (bd : Bd) (body : SSem) : List D → SSem
  | [], st => .ok .nx st
  | x :: xs, st => match bd.put x st with
    | none => .bad
    | some s1 => (body s1).bind fun f s2 => match f with
      | .nx => loop bd body xs s2
      | .ct => loop bd body xs s2
      | .bk => .ok .nx s2
      | .rt v => .ok (.rt v) s2
def sFor (I : ISem) (bd : Bd) (body : SSem) : SSem := fun st => (I st).bind fun ds s => loop bd body ds s
variable {K : PySem.W.Frag} {σ : L2.St} {c : Cf} {Dn : Ends} {bd : Bd} {S : SSem}
/-- a body's end within a loop -/
theorem PostS.turn {r : R St Fl} {k : SSem} {n : Nat} (h : PostS K E c (r.bind fun f s2 => match f with
      | .nx => k s2
      | .ct => k s2
      | .bk => .ok .nx s2
      | .rt v => .ok (.rt v) s2) Dn n) :
    PostS K E c r { Dn with nx := fun σ H => ∃ c', c'.H = H ∧ Le c c' ∧ Ok K σ c' ∧ σ.length = n ∧ PostS K E c' (k c'.st) Dn n, ct := fun σ H => ∃ c', c'.H = H ∧ Le c c' ∧ Ok K σ c' ∧ σ.length = n ∧ PostS K E c' (k c'.st) Dn n, bk := Dn.nx } n := by
  cases r with
  | ok f st =>
    cases f with
    | nx => exact fun σ c' hl l e o => ⟨c', rfl, l, o, hl, by rw [e]; exact PostS.le l h⟩
    | ct => exact fun σ c' hl l e o => ⟨c', rfl, l, o, hl, by rw [e]; exact PostS.le l h⟩
    | bk => exact h
    | rt v => exact h
  | exc m st => exact h
  | bad => exact h
theorem s_for {tg it : Expr} {body : List Stmt} {I : ISem} (hp : PassesOwn (model X.prog X.w) X.A X.env X.xe) (hc : X.calm = true) (hi : PI X tg it (tI X.K E I)) (hg : PG X tg (tG X.K bd)) (hb : PSs X body (tS X.K E S))
    (hs : ∀ x, foldedSetIterable it X.env x = pure x := by intro _; rfl) : PS X (.For tg it body [] pos) (tS X.K E (sFor I bd S)) := by
  refine PS_imp (ps_for hp hc hi hg hb hs) fun Dn σ H h => ?_
  obtain ⟨c, rfl, o, h⟩ := h
  refine ⟨c, rfl, o, (PostS.bind rfl h).mono fun ds c1 l1 o1 h1 J hJ => ?_⟩
  refine ⟨fun i m σ' H => ∃ c', c'.H = H ∧ Le c1 c' ∧ Ok X.K σ' c' ∧ m = ds.length - i ∧ i ≤ ds.length ∧ σ'.length = σ.length ∧ PostS X.K E c' (loop bd S (ds.drop i) c'.st) Dn σ.length,
    ⟨ds.length, c1, rfl, Le.refl _, o1, rfl, Nat.zero_le _, rfl, h1⟩, ?_⟩
  rintro i m σ' H ⟨c', rfl, l, o', rfl, hi, hl, h⟩
  have hG : Same c1.G c'.H := fun b u e => o'.sub b u (l.g b u e)
  by_cases hlt : i < ds.length
  · rw [List.drop_eq_getElem_cons hlt] at h
    have h : PostS X.K E c' (match bd.put ds[i] c'.st with
      | none => .bad
      | some s1 => (S s1).bind fun f s2 => match f with
        | .nx => loop bd S (ds.drop (i + 1)) s2
        | .ct => loop bd S (ds.drop (i + 1)) s2
        | .bk => .ok .nx s2
        | .rt v => .ok (.rt v) s2) Dn σ.length := h
    cases q : bd.put ds[i] c'.st with
    | none => simp only [q] at h; exact h.elim
    | some s1 =>
      simp only [q] at h
      refine .inr ⟨hJ.go i _ hG hlt, fun σ2 H2 => ∃ c2, c2.H = H2 ∧ Le c' c2 ∧ Ok X.K σ2 c2 ∧ σ2.length = σ.length ∧ PostS X.K E c2 (loop bd S (ds.drop (i + 1)) c2.st) Dn σ.length, fun σ2 H2 hN => ?_, fun x H2 hy => ?_⟩
      · obtain ⟨c2, e, l2, o2, hl2, h2⟩ := hN
        exact ⟨ds.length - (i + 1), by omega, c2, e, l.trans l2, o2, rfl, hlt, hl2, h2⟩
      · obtain ⟨e, d, e2, r⟩ := hJ.yld i _ x H2 hG hy hlt
        subst e
        rw [List.getElem?_eq_getElem hlt] at e2
        cases e2
        refine ⟨c', ds[i], s1, rfl, o', Rp.mono l.g _ _ r, q, fun σ2 c2 hl2 _ l2 e2 o2 => ?_⟩
        subst e2
        have hl3 : σ2.length = σ.length := hl2.trans hl
        have t := PostS.turn h
        refine ⟨c2, rfl, o2, ?_⟩
        rw [hl3]
        exact PostS.le l2 t
  · have e : i = ds.length := by omega
    subst e
    rw [List.drop_length] at h
    refine .inl ⟨hJ.stop _ hG, ?_⟩
    have h : PostS X.K E c' (.ok .nx c'.st) Dn σ.length := h
    exact h.nx o' hl
/-! ### while -/
def wloop (T : TSem) (body : SSem) : Nat → SSem
  | 0, _ => .bad
  | n + 1, st => (T st).bind fun b s => if b = true then (body s).bind fun f s2 => match f with
      | .nx => wloop T body n s2
      | .ct => wloop T body n s2
      | .bk => .ok .nx s2
      | .rt v => .ok (.rt v) s2
    else .ok .nx s
/-- more turns than any loop takes -/
def whFuel : Nat := 1000000000000
def sWhile (T : TSem) (body : SSem) : SSem := fun st => wloop T body whFuel st
theorem s_while {e : Expr} {body : List Stmt} {T : TSem} (hp : PassesOwn (model X.prog X.w) X.A X.env X.xe) (ht : PT X e (tT X.K E T)) (hb : PSs X body (tS X.K E S)) : PS X (.While e body [] pos) (tS X.K E (sWhile T S)) := by
  refine PS_imp (ps_while hp ht hb) fun Dn σ H h => ?_
  obtain ⟨c, rfl, o, h⟩ := h
  refine ⟨fun m σ' H => ∃ c', c'.H = H ∧ Ok X.K σ' c' ∧ σ'.length = σ.length ∧ PostS X.K E c' (wloop T S m c'.st) Dn σ.length, ⟨whFuel, c, rfl, o, rfl, h⟩, ?_⟩
  rintro m σ' H ⟨c', rfl, o', hl, h⟩
  cases m with
  | zero => exact h.elim
  | succ m =>
    refine ⟨c', rfl, o', (PostS.bind hl h).mono fun b c1 l1 o1 h1 => ?_⟩
    cases b with
    | false =>
      rw [if_neg (by decide)] at h1 ⊢
      exact h1.nx o1 hl
    | true =>
      rw [if_pos rfl] at h1 ⊢
      refine ⟨fun σ2 H2 => ∃ c2, c2.H = H2 ∧ Le c1 c2 ∧ Ok X.K σ2 c2 ∧ σ2.length = σ.length ∧ PostS X.K E c2 (wloop T S m c2.st) Dn σ.length, fun σ2 H2 hN => ?_, c1, rfl, o1, ?_⟩
      · obtain ⟨c2, e, l2, o2, hl2, h2⟩ := hN
        exact ⟨m, Nat.lt_succ_self _, c2, e, o2, hl2, h2⟩
      · rw [hl]
        exact PostS.turn h1
end
end PD

set_option Elab.async false
set_option linter.all false
set_option maxRecDepth 100000
set_option maxHeartbeats 1000000
/-! PDComp: list comprehensions by plain data. -/
namespace PD
open PySem PySem.Spec PyProof.Rows L2

def wipeE (env : List Slot) : List Nat → List Slot
  | [] => env
  | j :: js => (wipeE env js).set j .emp
def St.wipe (st : St) (own : List Nat) : St := { st with env := wipeE st.env own }
def okWipe (own : List Nat) (env : List Slot) : Bool := own.all fun j => match env[j]? with
  | some (.own _) => false
  | _ => true
/-- the slots of the block's names as they were ahead of it -/
def restore : List Nat → List Slot → List Slot → List Slot
  | [], _, e1 => e1
  | j :: js, e0, e1 => (restore js e0 e1).set j (e0.getD j .emp)
def noX {α : Type} (r : R St α) : R St α := match r with
  | .exc _ _ => .bad
  | r => r
def comp (own : List Nat) (bd : Bd) (T : TSem) (A : ESem) : List D → St → R St (List D)
  | [], st => .ok [] st
  | x :: xs, st => match bd.put x st with
    | none => .bad
    | some s1 => (noX (T s1)).bind fun b s2 => if b = true then (noX (A s2)).bind fun w s3 => (forceD w s3).bind fun d s4 => (comp own bd T A xs (s4.wipe own)).bind fun ds s5 => .ok (d :: ds) s5
      else comp own bd T A xs (s2.wipe own)
def fLc (I : ISem) (own : List Nat) (bd : Bd) (T : TSem) (A : ESem) : FSem := fun st => (I st).bind fun items s => if okWipe own s.env && decide (items.length ≤ sizeLine) then
    (comp own bd T A items (s.wipe own)).bind fun ds s' => .ok ds { s' with env := restore own s.env s'.env }
  else .bad
def tYesS : TSem := fun st => .ok true st

theorem comp_inv {own : List Nat} {bd : Bd} {T : TSem} {A : ESem} {x : D} {xs ds : List D} {st s' : St} (h : comp own bd T A (x :: xs) st = .ok ds s') :
    ∃ s1, bd.put x st = some s1 ∧ ∃ b s2, T s1 = .ok b s2 ∧ ((b = true ∧ ∃ w s3 d s4 ds', A s2 = .ok w s3 ∧ forceD w s3 = .ok d s4 ∧ comp own bd T A xs (s4.wipe own) = .ok ds' s' ∧ ds = d :: ds') ∨ (b = false ∧ comp own bd T A xs (s2.wipe own) = .ok ds s')) := by
  unfold comp at h
  cases q1 : bd.put x st with
  | none => simp only [q1] at h; cases h
  | some s1 =>
    simp only [q1] at h
    cases q2 : T s1 with
    | exc n s => simp only [q2, noX] at h; cases h
    | bad => simp only [q2, noX] at h; cases h
    | ok b s2 =>
      simp only [q2, noX, R.bind] at h
      refine ⟨s1, rfl, b, s2, q2, ?_⟩
      cases b with
      | false =>
        rw [if_neg (by decide)] at h
        exact .inr ⟨rfl, h⟩
      | true =>
        rw [if_pos rfl] at h
        cases q3 : A s2 with
        | exc n s => simp only [q3] at h; cases h
        | bad => simp only [q3] at h; cases h
        | ok w s3 =>
          simp only [q3] at h
          cases q4 : forceD w s3 with
          | exc n s => simp only [q4] at h; cases h
          | bad => simp only [q4] at h; cases h
          | ok d s4 =>
            simp only [q4] at h
            cases q5 : comp own bd T A xs (s4.wipe own) with
            | exc n s => simp only [q5] at h; cases h
            | bad => simp only [q5] at h; cases h
            | ok ds' s5 =>
              simp only [q5] at h
              cases h
              exact .inl ⟨rfl, w, s3, d, s4, ds', rfl, q4, q5, rfl⟩
theorem comp_exc {own : List Nat} {bd : Bd} {T : TSem} {A : ESem} {n : Str} {s : St} : ∀ {xs : List D} {st : St}, comp own bd T A xs st ≠ .exc n s
  | [], st, h => by cases h
  | x :: xs, st, h => by
    unfold comp at h
    cases q1 : bd.put x st with
    | none => simp only [q1] at h; cases h
    | some s1 =>
      simp only [q1] at h
      cases q2 : T s1 with
      | exc n s => simp only [q2, noX] at h; cases h
      | bad => simp only [q2, noX] at h; cases h
      | ok b s2 =>
        simp only [q2, noX, R.bind] at h
        cases b with
        | false =>
          rw [if_neg (by decide)] at h
          exact comp_exc h
        | true =>
          rw [if_pos rfl] at h
          cases q3 : A s2 with
          | exc n s => simp only [q3] at h; cases h
          | bad => simp only [q3] at h; cases h
          | ok w s3 =>
            simp only [q3] at h
            cases q4 : forceD w s3 with
            | exc n s => exact forceD_exc q4
            | bad => simp only [q4] at h; cases h
            | ok d s4 =>
              simp only [q4] at h
              cases q5 : comp own bd T A xs (s4.wipe own) with
              | exc n s => exact comp_exc q5
              | bad => simp only [q5] at h; cases h
              | ok ds' s5 =>
                simp only [q5] at h
                cases h

section
variable {K : PySem.W.Frag} {σ : L2.St} {c : Cf}
theorem Ok.setE (o : Ok K σ c) (i : Nat) : Ok K (σ.set i none) { c with st := c.st.setS i .emp } := by
  refine ⟨o.sub, by show (c.st.env.set i _).length = _; rw [List.length_set, List.length_set]; exact o.len, fun j s ov h1 h2 => ?_, fun j k p q a h1 h2 h3 h4 => ?_, o.alen, o.cell, o.anod, o.agn, o.pre, o.fr, o.new, o.gnew⟩
  · rcases set_get h1 with ⟨rfl, rfl⟩ | ⟨n1, g1⟩
    · trivial
    · rcases set_get h2 with ⟨n2, _⟩ | ⟨_, g2⟩
      · exact absurd n2 n1
      · exact o.slot j s ov g1 g2
  · rcases set_get h1 with ⟨_, z⟩ | ⟨n1, g1⟩
    · cases z
    · rcases set_get h2 with ⟨_, z⟩ | ⟨n2, g2⟩
      · cases z
      · rcases set_get h3 with ⟨z, _⟩ | ⟨_, g3⟩
        · exact absurd z n1
        · rcases set_get h4 with ⟨z, _⟩ | ⟨_, g4⟩
          · exact absurd z n2
          · exact o.apart j k p q a g1 g2 g3 g4
theorem Ok.wipe (o : Ok K σ c) : ∀ own : List Nat, Ok K (L2.wipe σ own) { c with st := c.st.wipe own }
  | [] => o
  | j :: js => (Ok.wipe o js).setE j
theorem wipe_len (σ : L2.St) (own : List Nat) : (L2.wipe σ own).length = σ.length := wipe_length σ own
theorem wipe_get_in {σ : L2.St} {own : List Nat} {j : Nat} (h : j ∈ own) {x : Option V} (e : (L2.wipe σ own)[j]? = some x) : x = none := by
  induction own with
  | nil => cases h
  | cons i is ih =>
    unfold L2.wipe at e
    rcases set_get e with ⟨_, r⟩ | ⟨n1, e⟩
    · exact r
    · rcases List.mem_cons.mp h with r | r
      · exact absurd r n1
      · exact ih r e
theorem wipe_get_out {σ : L2.St} {own : List Nat} {j : Nat} (h : j ∉ own) : (L2.wipe σ own)[j]? = σ[j]? := by
  induction own with
  | nil => rfl
  | cons i is ih =>
    unfold L2.wipe
    rw [List.getElem?_set_ne (fun e => h (by rw [e]; exact List.mem_cons_self))]
    exact ih fun z => h (List.mem_cons_of_mem _ z)
theorem wipe_ext {σ τ : L2.St} {own : List Nat} (hl : τ.length = σ.length) (h : ∀ j, j ∉ own → τ[j]? = σ[j]?) : L2.wipe τ own = L2.wipe σ own := by
  refine List.ext_getElem? fun j => ?_
  by_cases hj : j ∈ own
  · by_cases hlt : j < σ.length
    · have l1 : j < (L2.wipe τ own).length := by rw [wipe_len, hl]; exact hlt
      have l2 : j < (L2.wipe σ own).length := by rw [wipe_len]; exact hlt
      have e1 := List.getElem?_eq_getElem l1
      have e2 := List.getElem?_eq_getElem l2
      rw [e1, e2, wipe_get_in hj e1, wipe_get_in hj e2]
    · rw [List.getElem?_eq_none (by rw [wipe_len, hl]; omega), List.getElem?_eq_none (by rw [wipe_len]; omega)]
  · rw [wipe_get_out hj, wipe_get_out hj, h j hj]
theorem wipeE_len (e : List Slot) : ∀ own : List Nat, (wipeE e own).length = e.length
  | [] => rfl
  | j :: js => by
    unfold wipeE
    rw [List.length_set, wipeE_len e js]
theorem restore_len (e0 e1 : List Slot) : ∀ own : List Nat, (restore own e0 e1).length = e1.length
  | [] => rfl
  | j :: js => by
    unfold restore
    rw [List.length_set, restore_len e0 e1 js]
theorem restore_in {e0 e1 : List Slot} {own : List Nat} {j : Nat} (h : j ∈ own) {s : Slot} (e : (restore own e0 e1)[j]? = some s) : s = e0.getD j .emp := by
  induction own with
  | nil => cases h
  | cons i is ih =>
    unfold restore at e
    rcases set_get e with ⟨q, r⟩ | ⟨n1, e⟩
    · rw [q]; exact r
    · rcases List.mem_cons.mp h with r | r
      · exact absurd r n1
      · exact ih r e
theorem restore_out {e0 e1 : List Slot} {own : List Nat} {j : Nat} (h : j ∉ own) : (restore own e0 e1)[j]? = e1[j]? := by
  induction own with
  | nil => rfl
  | cons i is ih =>
    unfold restore
    rw [List.getElem?_set_ne (fun e => h (by rw [e]; exact List.mem_cons_self))]
    exact ih fun z => h (List.mem_cons_of_mem _ z)
/-- behind a block: its names are what they were -/
theorem Ok.restore {own : List Nat} {c' : Cf} (o : Ok K σ c) (l : Le c c') (hw : okWipe own c.st.env = true) (o' : Ok K (L2.wipe σ own) c') : Ok K σ { c' with st := { c'.st with env := PD.restore own c.st.env c'.st.env } } := by
  have notOwn : ∀ {j : Nat} {w : Own}, j ∈ own → (PD.restore own c.st.env c'.st.env)[j]? = some (.own w) → False := fun {j w} hj e => by
    have e1 := restore_in hj e
    have e2 := List.all_eq_true.mp hw j hj
    rw [List.getD_eq_getElem?_getD] at e1
    cases q : c.st.env[j]? with
    | none => rw [q] at e1; cases e1
    | some s =>
      rw [q] at e1
      have e1 : Slot.own w = s := e1
      subst e1
      simp only [q] at e2
      cases e2
  refine ⟨o'.sub, ?_, fun j s ov h1 h2 => ?_, fun j k p q a h1 h2 h3 h4 => ?_, o'.alen, o'.cell, o'.anod, o'.agn, o'.pre, o'.fr, o'.new, o'.gnew⟩
  · show (PD.restore own c.st.env c'.st.env).length = σ.length
    rw [restore_len, o'.len, wipe_len]
  · have h1 : (PD.restore own c.st.env c'.st.env)[j]? = some s := h1
    by_cases hj : j ∈ own
    · have e1 := restore_in hj h1
      rw [List.getD_eq_getElem?_getD] at e1
      cases q : c.st.env[j]? with
      | none =>
        rw [q] at e1
        subst e1
        trivial
      | some s0 =>
        rw [q] at e1
        have e1 : s = s0 := e1
        subst e1
        have z := o.slot j _ ov q h2
        cases s with
        | emp => trivial
        | v x =>
          obtain ⟨v, e, z⟩ := z
          exact ⟨v, e, z.mono l.g l.p⟩
        | own w => exact (notOwn hj h1).elim
    · rw [restore_out hj] at h1
      exact o'.slot j s ov h1 (by rw [wipe_get_out hj]; exact h2)
  · by_cases hj : j ∈ own
    · exact (notOwn hj h1).elim
    · by_cases hk : k ∈ own
      · exact (notOwn hk h2).elim
      · have h1 : (PD.restore own c.st.env c'.st.env)[j]? = some (.own p) := h1
        have h2 : (PD.restore own c.st.env c'.st.env)[k]? = some (.own q) := h2
        rw [restore_out hj] at h1
        rw [restore_out hk] at h2
        exact o'.apart j k p q a h1 h2 (by rw [wipe_get_out hj]; exact h3) (by rw [wipe_get_out hk]; exact h4)
/-- the thing at p is none of ours -/
structure Apart (σ : L2.St) (c : Cf) (p : Addr) : Prop where
  g : c.G p = none
  a : p ∉ c.A
  own : ∀ (j : Nat) w, c.st.env[j]? = some (.own w) → σ[j]? ≠ some (some (.ref p))
  h0 : c.H0 p = none
theorem Apart.fresh (o : Ok K σ c) {p : Addr} (h : c.H p = none) : Apart σ c p := by
  refine ⟨o.gnone h, fun z => ?_, fun j w e1 e2 => ?_, o.hnone h⟩
  · obtain ⟨u, hu⟩ := o.amem z
    rw [h] at hu; cases hu
  · obtain ⟨a, e, q1, _⟩ := o.slot j _ _ e1 e2
    cases e
    obtain ⟨u, hu⟩ := q1.some
    rw [h] at hu; cases hu
/-- another heap that differs at p alone -/
theorem Ok.but (o : Ok K σ c) {p : Addr} (q : Apart σ c p) {H' : Hp} (h : ∀ b, b ≠ p → H' b = c.H b) : Ok K σ { c with H := H' } := by
  refine ⟨fun b u e => ?_, o.len, fun j s ov h1 h2 => ?_, o.apart, o.alen, fun n ce a h1 h2 => ?_, o.anod, o.agn, o.pre, fun b u h1 h2 => ?_, o.new, o.gnew⟩
  · show H' b = some u
    rw [h b (fun z => by rw [z] at e; rw [q.g] at e; cases e)]
    exact o.sub b u e
  · have z := o.slot j s ov h1 h2
    cases s with
    | emp => trivial
    | v x => exact z
    | own w =>
      obtain ⟨a, e, q1, q2, q3, q4⟩ := z
      have ha : a ≠ p := fun z => q.own j w h1 (by rw [h2, e, z])
      exact ⟨a, e, q1.mono (Same.refl _) (h a ha).symm, q2, q3, q4⟩
  · have ha : a ≠ p := fun z => q.a (z ▸ List.mem_of_getElem? h2)
    exact (o.cell n ce a h1 h2).mono (Same.refl _) (List.prefix_refl _) (h a ha).symm
  · show H' b = some u
    rw [h b (fun z => by rw [z, q.h0] at h1; cases h1)]
    exact o.fr b u h1 h2
/-- p is put under the frame -/
theorem Ok.framed (o : Ok K σ c) {p : Addr} {u : HO} (q : Apart σ c p) (h : c.H p = some u) : Ok K σ { c with H0 := upd c.H0 p u } := by
  refine ⟨o.sub, o.len, fun j s ov h1 h2 => ?_, o.apart, o.alen, o.cell, o.anod, o.agn, o.pre, fun b x h1 h2 => ?_, fun a ha => ?_, fun b x e => ?_⟩
  · have z := o.slot j s ov h1 h2
    cases s with
    | emp => trivial
    | v x => exact z
    | own w =>
      obtain ⟨a, e, q1, q2, q3, q4⟩ := z
      have ha : a ≠ p := fun z => q.own j w h1 (by rw [h2, e, z])
      exact ⟨a, e, q1, q2, q3, (upd_ne ha).trans q4⟩
  · by_cases hb : b = p
    · subst hb
      have h1 : upd c.H0 b u b = some x := h1
      rw [upd_same] at h1
      cases h1
      exact h
    · have h1 : upd c.H0 p u b = some x := h1
      rw [upd_ne hb] at h1
      exact o.fr b x h1 h2
  · rcases o.new a ha with z | z
    · exact .inl z
    · exact .inr ((upd_ne (fun y => q.a (by rw [← y]; exact ha))).trans z)
  · rcases o.gnew b x e with z | z | z
    · exact .inl z
    · exact .inr (.inl ((upd_ne (fun y => by rw [y] at e; rw [q.g] at e; cases e)).trans z))
    · exact .inr (.inr z)
/-- .. and taken from under it -/
theorem Ok.unframed {c' : Cf} {p : Addr} {u : HO} (q : Apart σ c p) (l : Le { c with H0 := upd c.H0 p u, G0 := c.G } c') {τ : L2.St} (o : Ok K τ c') (hp : p ∉ c.A0) : c'.H p = some u ∧ Apart τ { c' with H0 := c.H0 } p := by
  have e0 : c'.H0 = upd c.H0 p u := l.h
  have a0 : c'.A0 = c.A0 := l.a
  have g0 : c'.G0 = c.G := l.g0
  have hh : c'.H p = some u := o.fr p u (by rw [e0]; exact upd_same) (by rw [a0]; exact hp)
  refine ⟨hh, ?_, fun z => ?_, fun j w h1 h2 => ?_, q.h0⟩
  · cases e : c'.G p with
    | none => rfl
    | some x =>
      rcases o.gnew p x e with z | z | z
      · rw [g0, q.g] at z; cases z
      · rw [e0, upd_same] at z; cases z
      · rw [a0] at z; exact absurd z hp
  · rcases o.new p z with z | z
    · rw [a0] at z; exact hp z
    · rw [e0, upd_same] at z; cases z
  · obtain ⟨a, e, q1, q2, q3, q4⟩ := o.slot j _ _ h1 h2
    cases e
    rw [e0, upd_same] at q4
    cases q4
/-- the frame and what never changed are taken anew -/
theorem Ok.reframe {c c' : Cf} {p : Addr} {u : HO} (o0 : Ok K σ c) (q : Apart σ c p) (l : Le { c with H0 := upd c.H0 p u, G0 := c.G } c') {τ : L2.St} (o : Ok K τ c') (hp : p ∉ c.A0) : Ok K τ { c' with H0 := c.H0, G0 := c.G0 } := by
  have e0 : c'.H0 = upd c.H0 p u := l.h
  have a0 : c'.A0 = c.A0 := l.a
  have g0 : c'.G0 = c.G := l.g0
  obtain ⟨hh, q'⟩ := Ok.unframed q l o hp
  have un : ∀ b, c'.H0 b = none → c.H0 b = none := fun b e => by
    rw [e0] at e
    by_cases hb : b = p
    · subst hb; exact q.h0
    · rw [upd_ne hb] at e; exact e
  refine ⟨o.sub, o.len, fun j s ov h1 h2 => ?_, o.apart, o.alen, o.cell, o.anod, o.agn, o.pre, fun b x h1 h2 => ?_, fun a ha => (o.new a ha).imp id (un a), fun b x e => ?_⟩
  · have z := o.slot j s ov h1 h2
    cases s with
    | emp => trivial
    | v x => exact z
    | own w =>
      obtain ⟨a, e, q1, q2, q3, q4⟩ := z
      exact ⟨a, e, q1, q2, q3, un a q4⟩
  · have hb : b ≠ p := fun z => by
      rw [z] at h1
      have h1 : c.H0 p = some x := h1
      rw [q.h0] at h1; cases h1
    exact o.fr b x (by rw [e0, upd_ne hb]; exact h1) h2
  · rcases o.gnew b x e with z | z
    · rw [g0] at z
      rcases o0.gnew b x z with z | z
      · exact .inl z
      · rcases z with z | z
        · exact .inr (.inl z)
        · exact .inr (.inr (by show b ∈ c'.A0; rw [a0]; exact z))
    · rcases z with z | z
      · exact .inr (.inl (un b z))
      · exact .inr (.inr z)
theorem Ok.framed2 (o : Ok K σ c) {p : Addr} {u : HO} (q : Apart σ c p) (h : c.H p = some u) : Ok K σ { c with H0 := upd c.H0 p u, G0 := c.G } :=
  let z := o.framed q h
  ⟨z.sub, z.len, z.slot, z.apart, z.alen, z.cell, z.anod, z.agn, z.pre, z.fr, z.new, fun b x e => .inl e⟩
end

section
variable {K : PySem.W.Frag} {σ : L2.St} {c : Cf}
theorem Apart.setE {p : Addr} (q : Apart σ c p) (i : Nat) : Apart (σ.set i none) { c with st := c.st.setS i .emp } p := by
  refine ⟨q.g, q.a, fun j w h1 h2 => ?_, q.h0⟩
  rcases set_get h1 with ⟨_, z⟩ | ⟨n1, g1⟩
  · cases z
  · rcases set_get h2 with ⟨z, _⟩ | ⟨_, g2⟩
    · exact n1 z
    · exact q.own j w g1 g2
theorem Apart.wipe {p : Addr} (q : Apart σ c p) : ∀ own : List Nat, Apart (L2.wipe σ own) { c with st := c.st.wipe own } p
  | [] => q
  | j :: js => (Apart.wipe q js).setE j
abbrev XF : XW := fun _ _ _ => False
/-- the state within a block, at the i-th item -/
def LcW (K : PySem.W.Frag) (σ : L2.St) (own : List Nat) (bd : Bd) (T : TSem) (A : ESem) (items ds : List D) (s' : St) (c1 : Cf) (Dl : Addr) (i : Nat) (H : Hp) : Prop :=
  ∃ (cc : Cf) (accD : List D) (accV : List V) (rest : List D), cc.H = H ∧ Le c1 cc ∧ Ok K (L2.wipe σ own) cc ∧ Apart (L2.wipe σ own) cc Dl ∧ H Dl = some (.lst accV) ∧ RpAll cc.G accV accD ∧ accD.length ≤ i ∧
    comp own bd T A (items.drop i) cc.st = .ok rest s' ∧ accD ++ rest = ds
/-- behind an item: the block's frame is taken away -/
theorem lc_turn {own : List Nat} {bd : Bd} {T : TSem} {A : ESem} {items ds : List D} {s' : St} {c1 cc c5 : Cf} {Dl : Addr} {i : Nat} {accV : List V} {σ2 : L2.St}
    (l1 : Le c1 cc) (occ : Ok K (L2.wipe σ own) cc) (q : Apart (L2.wipe σ own) cc Dl) (hp : Dl ∉ cc.A0) (l : Le { cc with H0 := upd cc.H0 Dl (.lst accV), G0 := cc.G } c5) (o5 : Ok K σ2 c5) (hw : L2.wipe σ2 own = L2.wipe σ own)
    {xs : List V} {es rest : List D} (hr : RpAll c5.G xs es) (hl : es.length ≤ i) (hc : comp own bd T A (items.drop i) (c5.st.wipe own) = .ok rest s') (he : es ++ rest = ds) {H' : Hp} (hH : ∀ b, b ≠ Dl → H' b = c5.H b) (hD : H' Dl = some (.lst xs)) :
    LcW K σ own bd T A items ds s' c1 Dl i H' := by
  obtain ⟨hh, q5⟩ := Ok.unframed q l o5 hp
  have o6 := Ok.reframe occ q l o5 hp
  have q6 : Apart σ2 { c5 with H0 := cc.H0, G0 := cc.G0 } Dl := ⟨q5.g, q5.a, q5.own, q5.h0⟩
  have q7 := q6.wipe own
  have o7 := o6.wipe own
  rw [hw] at q7 o7
  refine ⟨{ c5 with H0 := cc.H0, G0 := cc.G0, st := c5.st.wipe own, H := H' }, es, xs, rest, rfl, l1.trans ⟨rfl, l.a, rfl, l.g, l.p⟩, o7.but q7 hH, ⟨q7.g, q7.a, q7.own, q7.h0⟩, hD, hr, hl, hc, he⟩
theorem not_pre {o : Ok K σ c} {p : Addr} (h : p ∉ c.A) : p ∉ c.A0 := fun z => by
  obtain ⟨t, e⟩ := o.pre
  exact h (by rw [← e]; exact List.mem_append_left _ z)
theorem lc_read {E : XW} {I : ISem} {own : List Nat} {bd : Bd} {T : TSem} {A : ESem} {H : Hp} {Q : VK} (hids : ∀ j ∈ bd.ids, j ∈ own) (h : tF K E (fLc I own bd T A) σ H Q) : tLc (tI K E I) (tG K bd) (tT K XF T) (tE K XF A) own σ H Q := by
  obtain ⟨c, rfl, o, h⟩ := h
  refine ⟨c, rfl, o, h.bind.mono fun items c1 l1 o1 h1 J hJ Dl hD => ?_⟩
  by_cases hw : (okWipe own c1.st.env && decide (items.length ≤ sizeLine)) = true
  · rw [if_pos hw] at h1
    obtain ⟨hw1, hw2⟩ := Bool.and_eq_true_iff.mp hw
    have hw2 := of_decide_eq_true hw2
    cases qc : comp own bd T A items (c1.st.wipe own) with
    | exc n s => exact absurd qc comp_exc
    | bad => rw [qc] at h1; exact h1.elim
    | ok ds s' =>
      rw [qc] at h1
      have h1 : Post K E σ c1 (.ok ds { s' with env := PD.restore own c1.st.env s'.env }) fun xs c' => ∀ p vs, c'.H p = none → RpAll c'.G vs xs → Q (.ref p) (upd c'.H p (.lst vs)) := h1
      refine ⟨fun i m H => m = items.length - i ∧ i ≤ items.length ∧ LcW K σ own bd T A items ds s' c1 Dl i H, ⟨_, rfl, Nat.zero_le _, ?_⟩, ?_⟩
      · have ow := o1.wipe own
        have qw : Apart (L2.wipe σ own) { c1 with st := c1.st.wipe own } Dl := Apart.fresh ow hD
        exact ⟨{ c1 with st := c1.st.wipe own, H := upd c1.H Dl (.lst []) }, [], [], ds, rfl, ⟨rfl, rfl, rfl, Same.refl _, List.prefix_refl _⟩, ow.but qw fun b hb => upd_ne hb, ⟨qw.g, qw.a, qw.own, qw.h0⟩, upd_same, .nil, Nat.le_refl _, qc, rfl⟩
      · rintro i m H ⟨rfl, hi, cc, accD, accV, rest, rfl, lc, occ, q, hDl, hr, hal, hcomp, hds⟩
        have hG : Same c1.G cc.H := fun b u e => occ.sub b u (lc.g b u e)
        have hp : Dl ∉ cc.A0 := not_pre (o := occ) q.a
        by_cases hlt : i < items.length
        · rw [List.drop_eq_getElem_cons hlt] at hcomp
          obtain ⟨s1, hput, b, s2, hT, hcase⟩ := comp_inv hcomp
          refine .inr ⟨hJ.go i _ hG hlt, LcW K σ own bd T A items ds s' c1 Dl (i + 1), fun H' hN => ⟨items.length - (i + 1), by omega, rfl, hlt, hN⟩, fun x H' hy => ?_⟩
          obtain ⟨e, d0, e2, r⟩ := hJ.yld i _ x H' hG hy hlt
          subst e
          rw [List.getElem?_eq_getElem hlt] at e2
          cases e2
          refine ⟨{ cc with H0 := upd cc.H0 Dl (.lst accV), G0 := cc.G }, items[i], s1, rfl, occ.framed2 q hDl, Rp.mono lc.g _ _ r, hput, fun σ2 c2 hl2 hj2 l2 e2 o2 => ?_⟩
          have hwp : L2.wipe σ2 own = L2.wipe σ own := by
            refine wipe_ext (by rw [hl2, wipe_len]) fun j hj => ?_
            rw [hj2 j fun z => hj (hids j z), wipe_get_out hj]
          refine ⟨hwp, c2, rfl, o2, ?_⟩
          rw [e2, hT]
          intro c3 l3 e3 o3
          have l23 := l2.trans l3
          rcases hcase with ⟨rfl, w, s3, d, s4, ds', hA, hF, hrest, hd2⟩ | ⟨rfl, hrest⟩
          · refine iteT ?_
            refine ⟨c3, rfl, o3, ?_⟩
            rw [e3, hA]
            intro c4 l4 e4 o4 v hv
            obtain ⟨c5, l5, e5, o5, eh, hv5⟩ := forceD_ok o4 hv (by rw [e4]; exact hF)
            have l25 := l23.trans (l4.trans l5)
            obtain ⟨hh, _⟩ := Ok.unframed q l25 o5 hp
            rw [eh] at hh
            refine ⟨accV, hh, by rw [hr.length]; omega, ?_⟩
            refine lc_turn lc occ q hp l25 o5 hwp (es := accD ++ [d]) (rest := ds') ((hr.mono l25.g _ _).append (.one hv5)) (by rw [List.length_append]; exact Nat.succ_le_succ hal) (by rw [e5]; exact hrest) ?_ (fun b hb => by rw [upd_ne hb, eh]) upd_same
            rw [List.append_assoc, ← hds, hd2]
            rfl
          · refine iteF ?_
            obtain ⟨hh, _⟩ := Ok.unframed q l23 o3 hp
            exact lc_turn lc occ q hp l23 o3 hwp (es := accD) (rest := rest) (hr.mono l23.g _ _) (Nat.le_succ_of_le hal) (by rw [e3]; exact hrest) hds (fun _ _ => rfl) hh
        · have ei : i = items.length := by omega
          subst ei
          rw [List.drop_length] at hcomp
          have hcomp : R.ok [] cc.st = R.ok rest s' := hcomp
          injection hcomp with g1 g2
          subst g1
          rw [List.append_nil] at hds
          subst hds
          refine .inl ⟨hJ.stop _ hG, ?_⟩
          have oR := occ.but q (H' := fun b => if b = Dl then none else cc.H b) (fun b hb => if_neg hb)
          have oS := Ok.restore o1 (c' := { cc with H := fun b => if b = Dl then none else cc.H b }) ⟨lc.h, lc.a, lc.g0, lc.g, lc.p⟩ hw1 oR
          have fin := h1 { cc with st := { cc.st with env := PD.restore own c1.st.env cc.st.env }, H := fun b => if b = Dl then none else cc.H b } ⟨lc.h, lc.a, lc.g0, lc.g, lc.p⟩ (by rw [← g2]) oS Dl accV (if_pos rfl) hr
          have eH : upd (fun b => if b = Dl then none else cc.H b) Dl (.lst accV) = cc.H := by
            funext b
            by_cases hb : b = Dl
            · subst hb
              rw [upd_same, hDl]
            · rw [upd_ne hb, if_neg hb]
          have fin : Q (.ref Dl) (upd (fun b => if b = Dl then none else cc.H b) Dl (.lst accV)) := fin
          rw [eH] at fin
          exact fin
  · rw [if_neg hw] at h1
    exact h1.elim
end
section
variable {X : Cx} {E : XW} {pos pos' spos py : Pos} {elt tg it : Expr} {ifs : List Expr} {scope : Scope} {own : List (Str × Nat)} {I : ISem} {bd : Bd} {T : TSem} {A : ESem}
theorem ts_none : PTs X [] (tT X.K E tYesS) := ⟨fun pins s σ H Q I ⟨c, e, o, h⟩ => pts_nil.run pins s σ H Q I (e ▸ h.here o)⟩
theorem ts_one {c : Expr} (h : PT X c (tT X.K E T)) : PTs X [c] (tT X.K E T) := pts_one h
/-- [elt for tg in it if ..] -/
theorem f_lc (hc : X.calm = true) (hN : X.N.Nodup) (hi : PI X tg it (tI X.K E I)) (ok : BlkOk X.N X.env.scope scope own)
    (hg : ∀ (s : Shared) (H : Hp) (C : Addr) (cl : List (Str × Addr)) (fp : List Addr), PG (X.blk s H scope (compEnvC scope cl C X.env) fp) tg (tG X.K bd)) (ht : ∀ (s : Shared) (H : Hp) (C : Addr) (cl : List (Str × Addr)) (fp : List Addr), PTs (X.blk s H scope (compEnvC scope cl C X.env) fp) ifs (tT X.K XF T))
    (he : ∀ (s : Shared) (H : Hp) (C : Addr) (cl : List (Str × Addr)) (fp : List Addr), PE (X.blk s H scope (compEnvC scope cl C X.env) fp) elt (tE X.K XF A)) (hids : ∀ j ∈ bd.ids, j ∈ own.map (·.2) := by decide) (hs : ∀ x, foldedSetIterable it X.env x = pure x := by intro _; rfl) :
    PE X (.ListComp elt [⟨tg, it, ifs, 0⟩] scope pos) (tF X.K E (fLc I (own.map (·.2)) bd T A)) :=
  PE_imp (pe_lc hc hN hi ok hg ht he hs) fun _ _ _ h => lc_read hids h
/-- y = [elt for tg in it if ..], on one line, y no name of the block: .. as data, as one's own -/
theorem s_lcF {i : Nat} {y : Str} (hc : X.calm = true) (hN : X.N.Nodup) (hy : X.N[i]? = some y) (hyl : X.env.scope.names.lookup y = some .local)
    (hsw : swapsWith (.ListComp elt [⟨tg, it, ifs, 0⟩] scope pos) (some (.Name y py)) spos.line X.env = pure true) (hi : PI X tg it (tI X.K E I)) (ok : BlkOk X.N X.env.scope scope own)
    (hg : ∀ (s : Shared) (H : Hp) (C : Addr) (cl : List (Str × Addr)) (fp : List Addr), PG (X.blk s H scope (compEnvC scope cl C X.env) fp) tg (tG X.K bd)) (ht : ∀ (s : Shared) (H : Hp) (C : Addr) (cl : List (Str × Addr)) (fp : List Addr), PTs (X.blk s H scope (compEnvC scope cl C X.env) fp) ifs (tT X.K XF T))
    (he : ∀ (s : Shared) (H : Hp) (C : Addr) (cl : List (Str × Addr)) (fp : List Addr), PE (X.blk s H scope (compEnvC scope cl C X.env) fp) elt (tE X.K XF A)) (hids : ∀ j ∈ bd.ids, j ∈ own.map (·.2) := by decide) (hs : ∀ x, foldedSetIterable it X.env x = pure x := by intro _; rfl) :
    PS X (.Assign [.Name y py] (.ListComp elt [⟨tg, it, ifs, 0⟩] scope pos) spos) (tS X.K E (sSetF i (fLc I (own.map (·.2)) bd T A))) :=
  PS_imp (ps_setLc hc hN hy hyl hsw hi ok hg ht he hs) fun Dn σ H h => by
    have h1 := setF_read h
    exact lc_read hids h1
theorem s_lcO {i : Nat} {y : Str} (hc : X.calm = true) (hN : X.N.Nodup) (hy : X.N[i]? = some y) (hyl : X.env.scope.names.lookup y = some .local)
    (hsw : swapsWith (.ListComp elt [⟨tg, it, ifs, 0⟩] scope pos) (some (.Name y py)) spos.line X.env = pure true) (hi : PI X tg it (tI X.K E I)) (ok : BlkOk X.N X.env.scope scope own)
    (hg : ∀ (s : Shared) (H : Hp) (C : Addr) (cl : List (Str × Addr)) (fp : List Addr), PG (X.blk s H scope (compEnvC scope cl C X.env) fp) tg (tG X.K bd)) (ht : ∀ (s : Shared) (H : Hp) (C : Addr) (cl : List (Str × Addr)) (fp : List Addr), PTs (X.blk s H scope (compEnvC scope cl C X.env) fp) ifs (tT X.K XF T))
    (he : ∀ (s : Shared) (H : Hp) (C : Addr) (cl : List (Str × Addr)) (fp : List Addr), PE (X.blk s H scope (compEnvC scope cl C X.env) fp) elt (tE X.K XF A)) (hids : ∀ j ∈ bd.ids, j ∈ own.map (·.2) := by decide) (hs : ∀ x, foldedSetIterable it X.env x = pure x := by intro _; rfl) :
    PS X (.Assign [.Name y py] (.ListComp elt [⟨tg, it, ifs, 0⟩] scope pos) spos) (tS X.K E (sSetO i (fLc I (own.map (·.2)) bd T A))) :=
  PS_imp (ps_setLc hc hN hy hyl hsw hi ok hg ht he hs) fun Dn σ H h => by
    have h1 := setO_read h
    exact lc_read hids h1
/-- not swapped -/
theorem sw_false {gs : List Comprehension} {y : Str} {l : Nat} {env : Env} (h : (env.blockKind == .function && env.kindOf y == some .local && py.line == pos.line && !(scope.names.any fun (n, k) => n == y && (k == .local || k == .cell))) = false) : swapsWith (.ListComp elt gs scope pos) (some (.Name y py)) l env = pure false := by
  unfold swapsWith
  simp only [Expr.pos, h]
theorem takesF {K : PySem.W.Frag} : Takes X (Wx K XF) := fun _ _ x => by
  obtain ⟨_, _, _, _, _, _, _, _, _, _, _, _, _, _, _, _, n, _, _, z⟩ := x
  exact z.elim
end
end PD

set_option Elab.async false
set_option linter.all false
set_option maxRecDepth 100000
set_option maxHeartbeats 1000000
/-! PDLend: a comprehension over a list of one's own, which stays one's own. -/
namespace PD
open PySem PySem.Spec PyProof.Rows L2
section
variable {K : PySem.W.Frag} {σ : L2.St} {c : Cf}
/-- a slot is not looked at for a while -/
theorem Ok.hide (o : Ok K σ c) (i : Nat) : Ok K σ { c with st := c.st.setS i .emp } := by
  refine ⟨o.sub, by show (c.st.env.set i _).length = _; rw [List.length_set]; exact o.len, fun j s ov h1 h2 => ?_, fun j k p q a h1 h2 h3 h4 => ?_, o.alen, o.cell, o.anod, o.agn, o.pre, o.fr, o.new, o.gnew⟩
  · rcases set_get h1 with ⟨_, rfl⟩ | ⟨_, g1⟩
    · trivial
    · exact o.slot j s ov g1 h2
  · rcases set_get h1 with ⟨_, z⟩ | ⟨_, g1⟩
    · cases z
    · rcases set_get h2 with ⟨_, z⟩ | ⟨_, g2⟩
      · cases z
      · exact o.apart j k p q a g1 g2 h3 h4
theorem Ok.hidden (o : Ok K σ c) {j : Nat} {w : Own} {a : Addr} (h : c.st.env[j]? = some (.own w)) (e : σ[j]? = some (some (.ref a))) (q1 : c.G a = none) (q2 : a ∉ c.A) (q3 : c.H0 a = none) : Apart σ { c with st := c.st.setS j .emp } a := by
  refine ⟨q1, q2, fun k w' h1 h2 => ?_, q3⟩
  rcases set_get h1 with ⟨_, z⟩ | ⟨n1, g1⟩
  · cases z
  · exact n1 (o.apart k j _ _ a g1 h h2 e)
/-- the thing at a becomes one's own again -/
theorem Ok.give (o : Ok K σ c) {j : Nat} {a : Addr} {w : Own} (q : Apart σ c a) (e : σ[j]? = some (some (.ref a))) (hw : OwnOk c.G c.H a w) : Ok K σ { c with st := c.st.setS j (.own w) } := by
  refine ⟨o.sub, by show (c.st.env.set j _).length = _; rw [List.length_set]; exact o.len, fun i s ov h1 h2 => ?_, fun i k p r b h1 h2 h3 h4 => ?_, o.alen, o.cell, o.anod, o.agn, o.pre, o.fr, o.new, o.gnew⟩
  · rcases set_get h1 with ⟨rfl, rfl⟩ | ⟨_, g1⟩
    · rw [e] at h2
      cases h2
      exact ⟨a, rfl, hw, q.g, q.a, q.h0⟩
    · exact o.slot i s ov g1 h2
  · rcases set_get h1 with ⟨rfl, _⟩ | ⟨n1, g1⟩
    · rcases set_get h2 with ⟨rfl, _⟩ | ⟨n2, g2⟩
      · rfl
      · rw [e] at h3
        cases h3
        exact absurd h4 (q.own k _ g2)
    · rcases set_get h2 with ⟨rfl, _⟩ | ⟨n2, g2⟩
      · rw [e] at h4
        cases h4
        exact absurd h3 (q.own i _ g1)
      · exact o.apart i k p r b g1 g2 h3 h4
theorem lc_core {own : List Nat} {bd : Bd} {T : TSem} {A : ESem} {H : Hp} {Q : VK} {items ds : List D} {s' : St} {J : It} (hids : ∀ j ∈ bd.ids, j ∈ own) (o1 : Ok K σ c) (hw1 : okWipe own c.st.env = true) (hw2 : items.length ≤ sizeLine)
    (qc : comp own bd T A items (c.st.wipe own) = .ok ds s') (hgo : ∀ i cc, Le c cc → Ok K (L2.wipe σ own) cc → i < items.length → J.go i cc.H)
    (hyl : ∀ i cc x H', Le c cc → Ok K (L2.wipe σ own) cc → J.yld i cc.H x H' → i < items.length → H' = cc.H ∧ ∃ d, items[i]? = some d ∧ Rp cc.G x d) (hst : ∀ cc, Le c cc → Ok K (L2.wipe σ own) cc → J.stop items.length cc.H)
    (h1 : ∀ c', Le c c' → c'.st = { s' with env := PD.restore own c.st.env s'.env } → Ok K σ c' → ∀ p vs, c'.H p = none → RpAll c'.G vs ds → Q (.ref p) (upd c'.H p (.lst vs))) :
    tLc (fun _ _ R => R J c.H) (tG K bd) (tT K XF T) (tE K XF A) own σ H Q := by
  intro Dl hD
  refine ⟨fun i m H => m = items.length - i ∧ i ≤ items.length ∧ LcW K σ own bd T A items ds s' c Dl i H, ⟨_, rfl, Nat.zero_le _, ?_⟩, ?_⟩
  · have ow := o1.wipe own
    have qw : Apart (L2.wipe σ own) { c with st := c.st.wipe own } Dl := Apart.fresh ow hD
    exact ⟨{ c with st := c.st.wipe own, H := upd c.H Dl (.lst []) }, [], [], ds, rfl, ⟨rfl, rfl, rfl, Same.refl _, List.prefix_refl _⟩, ow.but qw fun b hb => upd_ne hb, ⟨qw.g, qw.a, qw.own, qw.h0⟩, upd_same, .nil, Nat.le_refl _, qc, rfl⟩
  · rintro i m H ⟨rfl, hi, cc, accD, accV, rest, rfl, lc, occ, q, hDl, hr, hal, hcomp, hds⟩
    have hp : Dl ∉ cc.A0 := not_pre (o := occ) q.a
    by_cases hlt : i < items.length
    · rw [List.drop_eq_getElem_cons hlt] at hcomp
      obtain ⟨s1, hput, b, s2, hT, hcase⟩ := comp_inv hcomp
      refine .inr ⟨hgo i cc lc occ hlt, LcW K σ own bd T A items ds s' c Dl (i + 1), fun H' hN => ⟨items.length - (i + 1), by omega, rfl, hlt, hN⟩, fun x H' hy => ?_⟩
      obtain ⟨e, d0, e2, r⟩ := hyl i cc x H' lc occ hy hlt
      subst e
      rw [List.getElem?_eq_getElem hlt] at e2
      cases e2
      refine ⟨{ cc with H0 := upd cc.H0 Dl (.lst accV), G0 := cc.G }, items[i], s1, rfl, occ.framed2 q hDl, r, hput, fun σ2 c2 hl2 hj2 l2 e2 o2 => ?_⟩
      have hwp : L2.wipe σ2 own = L2.wipe σ own := by
        refine wipe_ext (by rw [hl2, wipe_len]) fun j hj => ?_
        rw [hj2 j fun z => hj (hids j z), wipe_get_out hj]
      refine ⟨hwp, c2, rfl, o2, ?_⟩
      rw [e2, hT]
      intro c3 l3 e3 o3
      have l23 := l2.trans l3
      rcases hcase with ⟨rfl, w, s3, d, s4, ds', hA, hF, hrest, hd2⟩ | ⟨rfl, hrest⟩
      · refine iteT ?_
        refine ⟨c3, rfl, o3, ?_⟩
        rw [e3, hA]
        intro c4 l4 e4 o4 v hv
        obtain ⟨c5, l5, e5, o5, eh, hv5⟩ := forceD_ok o4 hv (by rw [e4]; exact hF)
        have l25 := l23.trans (l4.trans l5)
        obtain ⟨hh, _⟩ := Ok.unframed q l25 o5 hp
        rw [eh] at hh
        refine ⟨accV, hh, by rw [hr.length]; omega, ?_⟩
        refine lc_turn lc occ q hp l25 o5 hwp (es := accD ++ [d]) (rest := ds') ((hr.mono l25.g _ _).append (.one hv5)) (by rw [List.length_append]; exact Nat.succ_le_succ hal) (by rw [e5]; exact hrest) ?_ (fun b hb => by rw [upd_ne hb, eh]) upd_same
        rw [List.append_assoc, ← hds, hd2]
        rfl
      · refine iteF ?_
        obtain ⟨hh, _⟩ := Ok.unframed q l23 o3 hp
        exact lc_turn lc occ q hp l23 o3 hwp (es := accD) (rest := rest) (hr.mono l23.g _ _) (Nat.le_succ_of_le hal) (by rw [e3]; exact hrest) hds (fun _ _ => rfl) hh
    · have ei : i = items.length := by omega
      subst ei
      rw [List.drop_length] at hcomp
      have hcomp : R.ok [] cc.st = R.ok rest s' := hcomp
      injection hcomp with g1 g2
      subst g1
      rw [List.append_nil] at hds
      subst hds
      refine .inl ⟨hst cc lc occ, ?_⟩
      have oR := occ.but q (H' := fun b => if b = Dl then none else cc.H b) (fun b hb => if_neg hb)
      have oS := Ok.restore o1 (c' := { cc with H := fun b => if b = Dl then none else cc.H b }) ⟨lc.h, lc.a, lc.g0, lc.g, lc.p⟩ hw1 oR
      have fin := h1 { cc with st := { cc.st with env := PD.restore own c.st.env cc.st.env }, H := fun b => if b = Dl then none else cc.H b } ⟨lc.h, lc.a, lc.g0, lc.g, lc.p⟩ (by rw [← g2]) oS Dl accV (if_pos rfl) hr
      have eH : upd (fun b => if b = Dl then none else cc.H b) Dl (.lst accV) = cc.H := by
        funext b
        by_cases hb : b = Dl
        · subst hb
          rw [upd_same, hDl]
        · rw [upd_ne hb, if_neg hb]
      have fin : Q (.ref Dl) (upd (fun b => if b = Dl then none else cc.H b) Dl (.lst accV)) := fin
      rw [eH] at fin
      exact fin
/-- [.. for .. in x if ..], x in slot j -/
def fLcA (j : Nat) (own : List Nat) (bd : Bd) (T : TSem) (A : ESem) : FSem := fun st => match st.env[j]? with
  | some (.own (.lst items)) => if okWipe own (st.setS j .emp).env && decide (items.length ≤ sizeLine) then
      (comp own bd T A items ((st.setS j .emp).wipe own)).bind fun ds s' => .ok ds (St.setS { s' with env := restore own (st.setS j .emp).env s'.env } j (.own (.lst items)))
    else .bad
  | some (.v _) => fLc (iSeq (eVar j)) own bd T A st
  | _ => .bad
/-- what stands in slot j is walked: a list that may be changed at other times -/
def iOwn (K : PySem.W.Frag) (j : Nat) : TI := fun σ H R => ∃ a xs, σ[j]? = some (some (.ref a)) ∧ SqL K H a xs ∧ R (Itl K a) H
theorem lcA_read {E : XW} {j : Nat} {own : List Nat} {bd : Bd} {T : TSem} {A : ESem} {H : Hp} {Q : VK} (hids : ∀ j ∈ bd.ids, j ∈ own) (h : tF K E (fLcA j own bd T A) σ H Q) :
    tLc (fun σ H R => iOwn K j σ H R ∨ tI K E (iSeq (eVar j)) σ H R) (tG K bd) (tT K XF T) (tE K XF A) own σ H Q := by
  obtain ⟨c, rfl, o, h⟩ := h
  unfold fLcA at h
  cases q : c.st.env[j]? with
  | none => simp only [q] at h; exact h.elim
  | some sl =>
    simp only [q] at h
    cases sl with
    | emp => exact h.elim
    | v x => exact .inr (lc_read hids ⟨c, rfl, o, h⟩)
    | own w =>
      cases w with
      | dct kvs => exact h.elim
      | lst items =>
        have hj : j < σ.length := by rw [← o.len]; exact (List.getElem?_eq_some_iff.mp q).1
        obtain ⟨a, ea, ⟨vs, q1, q2⟩, q3, q4, q5⟩ := o.slot j _ _ q (List.getElem?_eq_getElem hj)
        have ea : σ[j]? = some (some (.ref a)) := by rw [List.getElem?_eq_getElem hj, ea]
        have h : Post K E σ c (if (okWipe own (c.st.setS j .emp).env && decide (items.length ≤ sizeLine)) = true then
            (comp own bd T A items ((c.st.setS j .emp).wipe own)).bind fun ds s' => .ok ds (St.setS { s' with env := restore own (c.st.setS j .emp).env s'.env } j (.own (.lst items)))
          else .bad) _ := h
        by_cases hw : (okWipe own (c.st.setS j .emp).env && decide (items.length ≤ sizeLine)) = true
        · rw [if_pos hw] at h
          obtain ⟨hw1, hw2⟩ := Bool.and_eq_true_iff.mp hw
          have hw2 := of_decide_eq_true hw2
          cases qc : comp own bd T A items ((c.st.setS j .emp).wipe own) with
          | exc n s => exact absurd qc comp_exc
          | bad => rw [qc] at h; exact h.elim
          | ok ds s' =>
            rw [qc] at h
            have oh := o.hide j
            have ap := o.hidden q ea q3 q4 q5
            have of := oh.framed2 ap (show c.H a = some (.lst vs) from q1)
            have hp : a ∉ c.A0 := not_pre (o := oh) ap.a
            refine .inl ⟨a, vs, ea, .inl (.inl q1), ?_⟩
            have hH : ∀ {τ : L2.St} {cc : Cf}, Le { c with st := c.st.setS j .emp, H0 := upd c.H0 a (.lst vs), G0 := c.G } cc → Ok K τ cc → cc.H a = some (.lst vs) := fun l oc => (Ok.unframed ap l oc hp).1
            refine lc_core (c := { c with st := c.st.setS j .emp, H0 := upd c.H0 a (.lst vs), G0 := c.G }) (H := c.H) hids of hw1 hw2 qc (fun i cc l oc hi => ?_) (fun i cc x H' l oc hy hi => ?_) (fun cc l oc => ?_) fun c' l e oc p us hp2 hr => ?_
            · exact (it_list (G := cc.H) (SqL.of (hH l oc)) (RpAll.mono oc.sub _ _ (q2.mono l.g _ _))).go i _ (Same.refl _) hi
            · have q2 := q2.mono l.g _ _
              have hv : i < vs.length := by rw [q2.length]; exact hi
              obtain ⟨e, y⟩ := hy
              obtain ⟨d, h1, h2⟩ := q2.getV (y vs (SqL.of (hH l oc)))
              exact ⟨e, d, h1, h2⟩
            · exact ⟨vs, SqL.of (hH l oc), by rw [q2.length]; exact Nat.le_refl _⟩
            · obtain ⟨hh, ap2⟩ := Ok.unframed ap l oc hp
              have o3 := Ok.reframe oh ap l oc hp
              have ap3 : Apart σ { c' with H0 := c.H0, G0 := c.G0 } a := ⟨ap2.g, ap2.a, ap2.own, ap2.h0⟩
              have o4 := o3.give ap3 ea (w := .lst items) ⟨vs, hh, q2.mono l.g _ _⟩
              exact h { c' with H0 := c.H0, G0 := c.G0, st := c'.st.setS j (.own (.lst items)) } ⟨rfl, l.a, rfl, l.g, l.p⟩ (by rw [e]) o4 p us hp2 hr
        · rw [if_neg hw] at h; exact h.elim
end
section
variable {X : Cx} {E : XW} {pos pos' spos py : Pos} {elt tg it : Expr} {ifs : List Expr} {scope : Scope} {own : List (Str × Nat)} {bd : Bd} {T : TSem} {A : ESem} {j : Nat} {x : Str}
theorem pi_own (hN : X.N[j]? = some x) (hv : Vis X.env.scope x) (hd : (x == ("__debug__" : Str)) = false) (hcd : (x == ("__classdict__" : Str)) = false) : PI X tg (.Name x pos) (iOwn X.K j) :=
  PI_imp (pi_seq (pe_var (i := j) hN hv hd hcd)) fun σ H R h => by
    obtain ⟨a, xs, e, hs, hr⟩ := h
    exact ⟨.ref a, e, .inr ⟨a, rfl, .inl ⟨⟨xs, hs⟩, hr⟩⟩⟩
theorem i_own (hN : X.N[j]? = some x := by rfl) (hv : Vis X.env.scope x := by first | exact Or.inl rfl | exact Or.inr (Or.inl rfl) | exact Or.inr (Or.inr rfl)) (hd : (x == ("__debug__" : Str)) = false := by decide)
    (hcd : (x == ("__classdict__" : Str)) = false := by decide) : PI X tg (.Name x pos) (fun σ H R => iOwn X.K j σ H R ∨ tI X.K E (iSeq (eVar j)) σ H R) := by
  refine ⟨fun pins s σ H R I h => ?_⟩
  rcases h with h | h
  · exact (pi_own hN hv hd hcd).run pins s σ H R I h
  · exact (i_seq (e_var j hN hv hd hcd)).run pins s σ H R I h
theorem f_lcA (hc : X.calm = true) (hN : X.N.Nodup) (hi : PI X tg it (fun σ H R => iOwn X.K j σ H R ∨ tI X.K E (iSeq (eVar j)) σ H R)) (ok : BlkOk X.N X.env.scope scope own)
    (hg : ∀ (s : Shared) (H : Hp) (C : Addr) (cl : List (Str × Addr)) (fp : List Addr), PG (X.blk s H scope (compEnvC scope cl C X.env) fp) tg (tG X.K bd)) (ht : ∀ (s : Shared) (H : Hp) (C : Addr) (cl : List (Str × Addr)) (fp : List Addr), PTs (X.blk s H scope (compEnvC scope cl C X.env) fp) ifs (tT X.K XF T))
    (he : ∀ (s : Shared) (H : Hp) (C : Addr) (cl : List (Str × Addr)) (fp : List Addr), PE (X.blk s H scope (compEnvC scope cl C X.env) fp) elt (tE X.K XF A)) (hids : ∀ j ∈ bd.ids, j ∈ own.map (·.2) := by decide) (hs : ∀ x, foldedSetIterable it X.env x = pure x := by intro _; rfl) :
    PE X (.ListComp elt [⟨tg, it, ifs, 0⟩] scope pos) (tF X.K E (fLcA j (own.map (·.2)) bd T A)) :=
  PE_imp (pe_lc hc hN hi ok hg ht he hs) fun _ _ _ h => lcA_read hids h
theorem s_lcAF {i : Nat} {y : Str} (hc : X.calm = true) (hN : X.N.Nodup) (hy : X.N[i]? = some y) (hyl : X.env.scope.names.lookup y = some .local)
    (hsw : swapsWith (.ListComp elt [⟨tg, it, ifs, 0⟩] scope pos) (some (.Name y py)) spos.line X.env = pure true) (hi : PI X tg it (fun σ H R => iOwn X.K j σ H R ∨ tI X.K E (iSeq (eVar j)) σ H R)) (ok : BlkOk X.N X.env.scope scope own)
    (hg : ∀ (s : Shared) (H : Hp) (C : Addr) (cl : List (Str × Addr)) (fp : List Addr), PG (X.blk s H scope (compEnvC scope cl C X.env) fp) tg (tG X.K bd)) (ht : ∀ (s : Shared) (H : Hp) (C : Addr) (cl : List (Str × Addr)) (fp : List Addr), PTs (X.blk s H scope (compEnvC scope cl C X.env) fp) ifs (tT X.K XF T))
    (he : ∀ (s : Shared) (H : Hp) (C : Addr) (cl : List (Str × Addr)) (fp : List Addr), PE (X.blk s H scope (compEnvC scope cl C X.env) fp) elt (tE X.K XF A)) (hids : ∀ j ∈ bd.ids, j ∈ own.map (·.2) := by decide) (hs : ∀ x, foldedSetIterable it X.env x = pure x := by intro _; rfl) :
    PS X (.Assign [.Name y py] (.ListComp elt [⟨tg, it, ifs, 0⟩] scope pos) spos) (tS X.K E (sSetF i (fLcA j (own.map (·.2)) bd T A))) :=
  PS_imp (ps_setLc hc hN hy hyl hsw hi ok hg ht he hs) fun Dn σ H h => lcA_read hids (setF_read h)
theorem s_lcAO {i : Nat} {y : Str} (hc : X.calm = true) (hN : X.N.Nodup) (hy : X.N[i]? = some y) (hyl : X.env.scope.names.lookup y = some .local)
    (hsw : swapsWith (.ListComp elt [⟨tg, it, ifs, 0⟩] scope pos) (some (.Name y py)) spos.line X.env = pure true) (hi : PI X tg it (fun σ H R => iOwn X.K j σ H R ∨ tI X.K E (iSeq (eVar j)) σ H R)) (ok : BlkOk X.N X.env.scope scope own)
    (hg : ∀ (s : Shared) (H : Hp) (C : Addr) (cl : List (Str × Addr)) (fp : List Addr), PG (X.blk s H scope (compEnvC scope cl C X.env) fp) tg (tG X.K bd)) (ht : ∀ (s : Shared) (H : Hp) (C : Addr) (cl : List (Str × Addr)) (fp : List Addr), PTs (X.blk s H scope (compEnvC scope cl C X.env) fp) ifs (tT X.K XF T))
    (he : ∀ (s : Shared) (H : Hp) (C : Addr) (cl : List (Str × Addr)) (fp : List Addr), PE (X.blk s H scope (compEnvC scope cl C X.env) fp) elt (tE X.K XF A)) (hids : ∀ j ∈ bd.ids, j ∈ own.map (·.2) := by decide) (hs : ∀ x, foldedSetIterable it X.env x = pure x := by intro _; rfl) :
    PS X (.Assign [.Name y py] (.ListComp elt [⟨tg, it, ifs, 0⟩] scope pos) spos) (tS X.K E (sSetO i (fLcA j (own.map (·.2)) bd T A))) :=
  PS_imp (ps_setLc hc hN hy hyl hsw hi ok hg ht he hs) fun Dn σ H h => lcA_read hids (setO_read h)
end
end PD

set_option Elab.async false
set_option linter.all false
set_option maxRecDepth 100000
set_option maxHeartbeats 1000000
/-! PDLib: short rules for the printed derivations; the head and the end of a law. -/
namespace PD
open PySem PySem.Spec PyProof.Rows L2

theorem bt_len : bootBuiltins "len" = some (.builtin "len") := by decide +kernel
theorem bt_isinstance : bootBuiltins "isinstance" = some (.builtin "isinstance") := by decide +kernel
theorem bt_int : bootBuiltins "int" = some (.type "int") := by decide +kernel
theorem bt_bool : bootBuiltins "bool" = some (.type "bool") := by decide +kernel
theorem bt_str : bootBuiltins "str" = some (.type "str") := by decide +kernel
theorem bt_list : bootBuiltins "list" = some (.type "list") := by decide +kernel
theorem bt_tuple : bootBuiltins "tuple" = some (.type "tuple") := by decide +kernel

theorem room65 {k : Nat} {A : Around} (r : Room k A) : A.units + 65 < cLine := by have := r.un; omega

section
variable {X : Cx} {E : XW} {pos p p2 : Pos} {a b e1 : Expr} {A B C : ESem} {k : Nat}
abbrev eAdd (A B : ESem) : ESem := eOp2 (dat2D dAdd) A B
abbrev eSub (A B : ESem) : ESem := eOp2 (dat2 dSub) A B
abbrev eMul (A B : ESem) : ESem := eOp2 (dat2 dMul) A B
abbrev eDiv (A B : ESem) : ESem := eOp2 (dat2 dDiv) A B
abbrev eMod (A B : ESem) : ESem := eOp2 (dat2 dMod) A B
abbrev ePow (A B : ESem) : ESem := eOp2 (dat2 dPow) A B
abbrev eIdx (A B : ESem) : ESem := eOp2 (dat2R dIdx) A B
abbrev eLen (A : ESem) : ESem := eCB (cb1 dLen) (aCons A aNil)
abbrev eNeg (A : ESem) : ESem := eUn dNeg A
theorem e_add (ha : PE X a (tE X.K E A)) (hb : PE X b (tE X.K E B)) : PE X (.BinOp a .Add b pos) (tE X.K E (eAdd A B)) := e_op op_addD r_add ha hb
theorem e_sub (ha : PE X a (tE X.K E A)) (hb : PE X b (tE X.K E B)) : PE X (.BinOp a .Sub b pos) (tE X.K E (eSub A B)) := e_op op_sub r_int20 ha hb
theorem e_mul (ha : PE X a (tE X.K E A)) (hb : PE X b (tE X.K E B)) : PE X (.BinOp a .Mult b pos) (tE X.K E (eMul A B)) := e_op op_mul r_mul ha hb
theorem e_div (ha : PE X a (tE X.K E A)) (hb : PE X b (tE X.K E B)) : PE X (.BinOp a .FloorDiv b pos) (tE X.K E (eDiv A B)) := e_op op_fdiv r_div ha hb
theorem e_mod (ha : PE X a (tE X.K E A)) (hb : PE X b (tE X.K E B)) : PE X (.BinOp a .Mod b pos) (tE X.K E (eMod A B)) := e_op op_mod r_mod ha hb
theorem e_pow (ha : PE X a (tE X.K E A)) (hb : PE X b (tE X.K E B)) : PE X (.BinOp a .Pow b pos) (tE X.K E (ePow A B)) := e_op op_pow r_pow ha hb
/-! comparisons -/
inductive Cp where | lt | le | gt | ge | eq | ne | isN | notN | inn | nin
def Cp.f : Cp → W → W → St → R St W
  | .lt => dat2 dLt | .le => dat2 dLe | .gt => dat2 dGt | .ge => dat2 dGe | .eq => dat2D dEq | .ne => dat2D dNe
  | .isN => dat2 dIsN | .notN => dat2 dNotN | .inn => dat2L (dIn false) | .nin => dat2L (dIn true)
abbrev eCmp (c : Cp) (A B : ESem) : ESem := eOp2 c.f A B
abbrev tCmp (c : Cp) (A B : ESem) : TSem := tOfE (eOp2 c.f A B)
theorem e_lt (ha : PE X a (tE X.K E A)) (hb : PE X b (tE X.K E B)) : PE X (.Compare a [.Lt] [b] pos) (tE X.K E (eCmp .lt A B)) := e_cmp op_lt (r_cmp (p := fun i j => decide (i < j))) ha hb (nomark _)
theorem e_le (ha : PE X a (tE X.K E A)) (hb : PE X b (tE X.K E B)) : PE X (.Compare a [.LtE] [b] pos) (tE X.K E (eCmp .le A B)) := e_cmp op_le (r_cmp (p := fun i j => decide (i ≤ j))) ha hb (nomark _)
theorem e_gt (ha : PE X a (tE X.K E A)) (hb : PE X b (tE X.K E B)) : PE X (.Compare a [.Gt] [b] pos) (tE X.K E (eCmp .gt A B)) := e_cmp op_gt (r_cmp (p := fun i j => decide (j < i))) ha hb (nomark _)
theorem e_ge (ha : PE X a (tE X.K E A)) (hb : PE X b (tE X.K E B)) : PE X (.Compare a [.GtE] [b] pos) (tE X.K E (eCmp .ge A B)) := e_cmp op_ge (r_cmp (p := fun i j => decide (j ≤ i))) ha hb (nomark _)
theorem e_eq (hr : Room k X.A) (ha : PE X a (tE X.K E A)) (hb : PE X b (tE X.K E B)) : PE X (.Compare a [.Eq] [b] pos) (tE X.K E (eCmp .eq A B)) := e_cmp (op_eqD hr.units) r_eq ha hb (nomark _)
theorem e_ne (hr : Room k X.A) (ha : PE X a (tE X.K E A)) (hb : PE X b (tE X.K E B)) : PE X (.Compare a [.NotEq] [b] pos) (tE X.K E (eCmp .ne A B)) := e_cmp (op_neD hr.units) r_ne ha hb (nomark _)
theorem e_is (ha : PE X a (tE X.K E A)) (hb : PE X b (tE X.K E B)) : PE X (.Compare a [.Is] [b] pos) (tE X.K E (eCmp .isN A B)) := e_cmp op_isN r_isN ha hb (nomark _)
theorem e_isnot (ha : PE X a (tE X.K E A)) (hb : PE X b (tE X.K E B)) : PE X (.Compare a [.IsNot] [b] pos) (tE X.K E (eCmp .notN A B)) := e_cmp op_notN r_notN ha hb (nomark _)
theorem e_in (hr : Room k X.A) (ha : PE X a (tE X.K E A)) (hb : PE X b (tE X.K E B)) (hm : behindInMarks .In b = false := by with_unfolding_all rfl) : PE X (.Compare a [.In] [b] pos) (tE X.K E (eCmp .inn A B)) := e_cmp (op_inA (room65 hr)) r_in ha hb hm
theorem e_notin (hr : Room k X.A) (ha : PE X a (tE X.K E A)) (hb : PE X b (tE X.K E B)) (hm : behindInMarks .NotIn b = false := by with_unfolding_all rfl) : PE X (.Compare a [.NotIn] [b] pos) (tE X.K E (eCmp .nin A B)) := e_cmp (op_notInA (room65 hr)) r_in ha hb hm
theorem t_lt (ha : PE X a (tE X.K E A)) (hb : PE X b (tE X.K E B)) : PT X (.Compare a [.Lt] [b] pos) (tT X.K E (tCmp .lt A B)) := t_cmp op_lt (r_cmp (p := fun i j => decide (i < j))) ha hb (nomark _)
theorem t_le (ha : PE X a (tE X.K E A)) (hb : PE X b (tE X.K E B)) : PT X (.Compare a [.LtE] [b] pos) (tT X.K E (tCmp .le A B)) := t_cmp op_le (r_cmp (p := fun i j => decide (i ≤ j))) ha hb (nomark _)
theorem t_gt (ha : PE X a (tE X.K E A)) (hb : PE X b (tE X.K E B)) : PT X (.Compare a [.Gt] [b] pos) (tT X.K E (tCmp .gt A B)) := t_cmp op_gt (r_cmp (p := fun i j => decide (j < i))) ha hb (nomark _)
theorem t_ge (ha : PE X a (tE X.K E A)) (hb : PE X b (tE X.K E B)) : PT X (.Compare a [.GtE] [b] pos) (tT X.K E (tCmp .ge A B)) := t_cmp op_ge (r_cmp (p := fun i j => decide (j ≤ i))) ha hb (nomark _)
theorem t_eq (hr : Room k X.A) (ha : PE X a (tE X.K E A)) (hb : PE X b (tE X.K E B)) : PT X (.Compare a [.Eq] [b] pos) (tT X.K E (tCmp .eq A B)) := t_cmp (op_eqD hr.units) r_eq ha hb (nomark _)
theorem t_ne (hr : Room k X.A) (ha : PE X a (tE X.K E A)) (hb : PE X b (tE X.K E B)) : PT X (.Compare a [.NotEq] [b] pos) (tT X.K E (tCmp .ne A B)) := t_cmp (op_neD hr.units) r_ne ha hb (nomark _)
theorem t_is (ha : PE X a (tE X.K E A)) (hb : PE X b (tE X.K E B)) : PT X (.Compare a [.Is] [b] pos) (tT X.K E (tCmp .isN A B)) := t_cmp op_isN r_isN ha hb (nomark _)
theorem t_isnot (ha : PE X a (tE X.K E A)) (hb : PE X b (tE X.K E B)) : PT X (.Compare a [.IsNot] [b] pos) (tT X.K E (tCmp .notN A B)) := t_cmp op_notN r_notN ha hb (nomark _)
theorem t_in (hr : Room k X.A) (ha : PE X a (tE X.K E A)) (hb : PE X b (tE X.K E B)) (hm : behindInMarks .In b = false := by with_unfolding_all rfl) : PT X (.Compare a [.In] [b] pos) (tT X.K E (tCmp .inn A B)) := t_cmp (op_inA (room65 hr)) r_in ha hb hm
theorem t_notin (hr : Room k X.A) (ha : PE X a (tE X.K E A)) (hb : PE X b (tE X.K E B)) (hm : behindInMarks .NotIn b = false := by with_unfolding_all rfl) : PT X (.Compare a [.NotIn] [b] pos) (tT X.K E (tCmp .nin A B)) := t_cmp (op_notInA (room65 hr)) r_in ha hb hm
/-- the four orders in a chain -/
structure OrdR (X : Cx) (E : XW) (op : CmpOp) (c : Cp) : Prop where
  ex : ∃ r, OpR X (compareOp op) r ∧ R2Ok X.K E c.f r
theorem o_lt : OrdR X E .Lt .lt := ⟨_, op_lt, r_cmp (p := fun i j => decide (i < j))⟩
theorem o_le : OrdR X E .LtE .le := ⟨_, op_le, r_cmp (p := fun i j => decide (i ≤ j))⟩
theorem o_gt : OrdR X E .Gt .gt := ⟨_, op_gt, r_cmp (p := fun i j => decide (j < i))⟩
theorem o_ge : OrdR X E .GtE .ge := ⟨_, op_ge, r_cmp (p := fun i j => decide (j ≤ i))⟩
abbrev eChn (c d : Cp) (A B C : ESem) : ESem := eChain c.f d.f A B C
abbrev tChn (c d : Cp) (A B C : ESem) : TSem := tOfE (eChain c.f d.f A B C)
theorem e_chn {op op' : CmpOp} {c d : Cp} {e3 : Expr} (h : OrdR X E op c) (h' : OrdR X E op' d) (ha : PE X a (tE X.K E A)) (hb : PE X b (tE X.K E B)) (hc : PE X e3 (tE X.K E C))
    (hm : lastMarks [op, op'] [b, e3] = false := by with_unfolding_all rfl) : PE X (.Compare a [op, op'] [b, e3] pos) (tE X.K E (eChn c d A B C)) := by
  obtain ⟨r, o1, f1⟩ := h.ex
  obtain ⟨r', o2, f2⟩ := h'.ex
  exact e_chain o1 o2 f1 f2 ha hb hc hm
theorem t_chn {op op' : CmpOp} {c d : Cp} {e3 : Expr} (h : OrdR X E op c) (h' : OrdR X E op' d) (ha : PE X a (tE X.K E A)) (hb : PE X b (tE X.K E B)) (hc : PE X e3 (tE X.K E C))
    (hm : lastMarks [op, op'] [b, e3] = false := by with_unfolding_all rfl) : PT X (.Compare a [op, op'] [b, e3] pos) (tT X.K E (tChn c d A B C)) := by
  obtain ⟨r, o1, f1⟩ := h.ex
  obtain ⟨r', o2, f2⟩ := h'.ex
  exact t_chain o1 o2 f1 f2 ha hb hc hm
theorem e_len (hm : X.mg "len" = none) (ha : PE X a (tE X.K E A)) (hg : Gl X "len" := by rfl) (hs : starEach [a] X.env = (false, eval a X.env) :: starEach [] X.env := by rfl) (hpl : (backTo pos (starEach [] X.env)).any (·.1) = false := by rfl) :
    PE X (.Call (.Name "len" p) [a] [] pos) (tE X.K E (eLen A)) := e_callB call_lenA rc_len hg hm bt_len (a_cons ha a_nil hs) (by decide) (by decide) hs hpl
theorem e_isint (hm : X.mg "isinstance" = none) (hm2 : X.mg "int" = none) (ha : PE X a (tE X.K E A)) (hg : Gl X "isinstance" := by rfl) (hg2 : Gl X "int" := by rfl)
    (hs1 : starEach [a, .Name "int" p2] X.env = (false, eval a X.env) :: starEach [.Name "int" p2] X.env := by rfl) (hs2 : starEach [.Name "int" p2] X.env = (false, eval (.Name "int" p2) X.env) :: starEach [] X.env := by rfl) (hpl : (backTo pos (starEach [.Name "int" p2] X.env)).any (·.1) = false := by rfl) :
    PE X (.Call (.Name "isinstance" p) [a, .Name "int" p2] [] pos) (tE X.K E (eIsi .int A)) := e_isi .int ha hg hm bt_isinstance hg2 hm2 bt_int (by decide) (by decide) hs1 hs2 hpl
theorem e_isbool (hm : X.mg "isinstance" = none) (hm2 : X.mg "bool" = none) (ha : PE X a (tE X.K E A)) (hg : Gl X "isinstance" := by rfl) (hg2 : Gl X "bool" := by rfl)
    (hs1 : starEach [a, .Name "bool" p2] X.env = (false, eval a X.env) :: starEach [.Name "bool" p2] X.env := by rfl) (hs2 : starEach [.Name "bool" p2] X.env = (false, eval (.Name "bool" p2) X.env) :: starEach [] X.env := by rfl) (hpl : (backTo pos (starEach [.Name "bool" p2] X.env)).any (·.1) = false := by rfl) :
    PE X (.Call (.Name "isinstance" p) [a, .Name "bool" p2] [] pos) (tE X.K E (eIsi .bool A)) := e_isi .bool ha hg hm bt_isinstance hg2 hm2 bt_bool (by decide) (by decide) hs1 hs2 hpl
theorem e_isstr (hm : X.mg "isinstance" = none) (hm2 : X.mg "str" = none) (ha : PE X a (tE X.K E A)) (hg : Gl X "isinstance" := by rfl) (hg2 : Gl X "str" := by rfl)
    (hs1 : starEach [a, .Name "str" p2] X.env = (false, eval a X.env) :: starEach [.Name "str" p2] X.env := by rfl) (hs2 : starEach [.Name "str" p2] X.env = (false, eval (.Name "str" p2) X.env) :: starEach [] X.env := by rfl) (hpl : (backTo pos (starEach [.Name "str" p2] X.env)).any (·.1) = false := by rfl) :
    PE X (.Call (.Name "isinstance" p) [a, .Name "str" p2] [] pos) (tE X.K E (eIsi .str A)) := e_isi .str ha hg hm bt_isinstance hg2 hm2 bt_str (by decide) (by decide) hs1 hs2 hpl
theorem e_islist (hm : X.mg "isinstance" = none) (hm2 : X.mg "list" = none) (ha : PE X a (tE X.K E A)) (hg : Gl X "isinstance" := by rfl) (hg2 : Gl X "list" := by rfl)
    (hs1 : starEach [a, .Name "list" p2] X.env = (false, eval a X.env) :: starEach [.Name "list" p2] X.env := by rfl) (hs2 : starEach [.Name "list" p2] X.env = (false, eval (.Name "list" p2) X.env) :: starEach [] X.env := by rfl) (hpl : (backTo pos (starEach [.Name "list" p2] X.env)).any (·.1) = false := by rfl) :
    PE X (.Call (.Name "isinstance" p) [a, .Name "list" p2] [] pos) (tE X.K E (eIsi .list A)) := e_isi .list ha hg hm bt_isinstance hg2 hm2 bt_list (by decide) (by decide) hs1 hs2 hpl
theorem e_istuple (hm : X.mg "isinstance" = none) (hm2 : X.mg "tuple" = none) (ha : PE X a (tE X.K E A)) (hg : Gl X "isinstance" := by rfl) (hg2 : Gl X "tuple" := by rfl)
    (hs1 : starEach [a, .Name "tuple" p2] X.env = (false, eval a X.env) :: starEach [.Name "tuple" p2] X.env := by rfl) (hs2 : starEach [.Name "tuple" p2] X.env = (false, eval (.Name "tuple" p2) X.env) :: starEach [] X.env := by rfl) (hpl : (backTo pos (starEach [.Name "tuple" p2] X.env)).any (·.1) = false := by rfl) :
    PE X (.Call (.Name "isinstance" p) [a, .Name "tuple" p2] [] pos) (tE X.K E (eIsi .tuple A)) := e_isi .tuple ha hg hm bt_isinstance hg2 hm2 bt_tuple (by decide) (by decide) hs1 hs2 hpl
abbrev eTupOf (A : ESem) : ESem := eCB (cb1 dTupleOf) (aCons A aNil)
theorem e_tupOf (hm : X.mg "tuple" = none) (ha : PE X a (tE X.K E A)) (hg : Gl X "tuple" := by rfl) (hs : starEach [a] X.env = (false, eval a X.env) :: starEach [] X.env := by rfl) (hpl : (backTo pos (starEach [] X.env)).any (·.1) = false := by rfl) :
    PE X (.Call (.Name "tuple" p) [a] [] pos) (tE X.K E (eTupOf A)) := e_callTy call_tuple_of rc_tupleOf hg hm bt_tuple (a_cons ha a_nil hs) (by decide) (by decide) hs hpl
theorem f_list (hm : X.mg "list" = none) (ha : PE X a (tE X.K E A)) (hg : Gl X "list" := by rfl) (hs : starEach [a] X.env = (false, eval a X.env) :: starEach [] X.env := by rfl) (hpl : (backTo pos (starEach [] X.env)).any (·.1) = false := by rfl) :
    PE X (.Call (.Name "list" p) [a] [] pos) (tF X.K E (fListOf A)) := f_listOf ha hg hm bt_list hs hpl
/-- an exception's class at hand -/
structure Xc (K : PySem.W.Frag) (mg : Str → Option Value) (x : Str) : Prop where
  q : PySem.W.excIn K (He.ga K x) He.veBase "ValueError.__new__" = true
  g : mg x = some (.ref (He.ga K x))
  kp : PySem.W.keepIn K (.ref (He.ga K x)) = true
  r1 : PySem.W.subIn K (.ref (He.ga K x)) (.type "BaseException") = some true
  r2 : PySem.W.typeIn K (.ref (He.ga K x)) = some (.type "type")
theorem s_rais {x m : Str} {j : Nat} {p1 : Pos} (C : Xc X.K X.mg x) (hc : X.calm = true) (tk : Takes X (Wx X.K E)) (hg : Gl X x := by rfl) (hdb : (x == ("__debug__" : Str)) = false := by decide) :
    PS X (.Raise (some (.Call (.Name x p) [.Constant (.str m) j p2] [] p1)) none pos) (tS X.K E (sRaise x)) := s_raise hc tk C.q C.g C.kp C.r1 C.r2 hg hdb
end

section
variable {P : Program} {w : World} {K : PySem.W.Frag} {mg : Str → Option Value} {base : Heap}
/-- the context of a def's body -/
abbrev cxD (P : Program) (w : World) (K : PySem.W.Frag) (mg : Str → Option Value) (base : Heap) (N : List Str) (qual : Str) (scope : Scope) (f : Addr) (cd : Value) (A : Around) (outer : List Env) (s : Shared) (H : Hp) (E : XK) : Cx := cxOf (L2.CX P w) P w K mg base N qual scope f cd A outer s H E
/-- the wish of a def's body -/
abbrev xwD (K : PySem.W.Frag) (E : XK) : XW := fun n _ H => E (.ref (He.ga K n)) none H
theorem fn_okD {x qual : Str} {params : Arguments} {body : List Stmt} {scope : Scope} {f : Addr} {fd : FuncData} {N ps : List Str} {k : Nat} {sem : SSem} (F : FunD K x qual params body scope [] [] f fd) (S : FnScope N ps scope)
    (hb : ∀ (cd : Value) (A : Around) (outer : List Env) (s : Shared) (H : Hp) (E : XK), Room k (cxD P w K mg base N qual scope f cd A outer s H E).A → Takes (cxD P w K mg base N qual scope f cd A outer s H E) (Wx K (xwD K E)) →
      PassesOwn (model P w) (cxD P w K mg base N qual scope f cd A outer s H E).A (cxD P w K mg base N qual scope f cd A outer s H E).env (cxD P w K mg base N qual scope f cd A outer s H E).xe → PSs (cxD P w K mg base N qual scope f cd A outer s H E) body (tS K (xwD K E) sem)) :
    FnOk P w K mg base (L2.CX P w) (k + 1) f fd ps (spD K (fnSem N.length ps.length sem)) := by
  refine F.ok S (fun vs H Q E h => ?_) (fun cdv A outer s H vs Q E hr h => ?_)
  · obtain ⟨G, Ac, xs, mem, o, hx, h⟩ := h
    by_cases hl : xs.length = ps.length
    · exact hx.length.trans hl
    · unfold fnSem at h
      rw [if_neg hl] at h
      exact h.elim
  obtain ⟨G, Ac, xs, mem, o, hx, h⟩ := h
  have hl : xs.length = ps.length := by
    by_cases hl : xs.length = ps.length
    · exact hl
    · unfold fnSem at h
      rw [if_neg hl] at h
      exact h.elim
  refine ⟨_, hb cdv A outer s H E hr ?_ (passes_of rfl), ?_⟩
  · exact (takes_of rfl rfl rfl rfl).imp fun c d σ H' ⟨n, e1, e2, h⟩ => by
      subst e1 e2
      exact h
  · refine ⟨_, rfl, ok_start o hx, ?_⟩
    unfold fnSem at h
    rw [if_pos hl] at h
    generalize sem ⟨xs.map .v ++ List.replicate (N.length - xs.length) .emp, mem⟩ = r at h ⊢
    have back : ∀ {σ : L2.St} {c' : Cf}, Le ⟨H, Ac, G, G, Ac, ⟨xs.map .v ++ List.replicate (N.length - xs.length) .emp, mem⟩, H⟩ c' → Ok K σ c' → Ok K [] (cf0 H Ac G c'.G c'.A c'.st.mem c'.H) := fun {σ c'} l o' => by
      have z := ok_bare o'
      rw [l.h, l.a, l.g0] at z
      exact z
    cases r with
    | bad => exact h.elim
    | exc m st =>
      intro σ c' _ l e o'
      subst e
      exact h c'.G c'.A c'.H (back l o') l.g l.p
    | ok fl st =>
      cases fl with
      | bk => exact h.elim
      | ct => exact h.elim
      | nx =>
        intro σ c' _ l e o'
        subst e
        exact h c'.G c'.A c'.H .non (back l o') l.g l.p .non
      | rt x =>
        intro σ c' v _ l e o' hv
        subst e
        exact h c'.G c'.A c'.H v (back l o') l.g l.p hv
/-- a def as the head tells it -/
structure Dh (K : PySem.W.Frag) (mg : Str → Option Value) (x : Str) (st : Stmt) (ps : List Str) : Prop where
  ex : ∃ (f : Addr) (fd : FuncData), FunD K x x (defArgs st) (defBody st) (defScope st) [] [] f fd ∧ mg x = some (.ref f) ∧ Binds K fd ps []
def badFn : Fn := fun _ _ => .bad
theorem df_bad {x : Str} {st : Stmt} {ps : List Str} (D : Dh K mg x st ps) : Df P w K mg base 0 x badFn := by
  obtain ⟨f, fd, F, g, b⟩ := D.ex
  refine ⟨f, fd, ps, ⟨fun vs H Q E h => ?_, fun A outer s H args us vs Q E _ _ _ _ h => ?_⟩, g, F.kp, b⟩
  · obtain ⟨G, Ac, xs, mem, o, hx, h⟩ := h
    exact h.elim
  · obtain ⟨G, Ac, xs, mem, o, hx, h⟩ := h
    exact h.elim
theorem df_of {x : Str} {st : Stmt} {ps : List Str} {k : Nat} {g : Fn} (D : Dh K mg x st ps) (h : ∀ {f : Addr} {fd : FuncData}, FunD K x x (defArgs st) (defBody st) (defScope st) [] [] f fd → FnOk P w K mg base (L2.CX P w) k f fd ps (spD K g)) : Df P w K mg base k x g := by
  obtain ⟨f, fd, F, gm, b⟩ := D.ex
  exact ⟨f, fd, ps, h F, gm, F.kp, b⟩
theorem xc_of {x : Str} (g : mg x = some (.ref (He.ga K x))) (h : PySem.W.excIn K (He.ga K x) He.veBase "ValueError.__new__" = true ∧ PySem.W.keepIn K (.ref (He.ga K x)) = true ∧ PySem.W.subIn K (.ref (He.ga K x)) (.type "BaseException") = some true ∧
    PySem.W.typeIn K (.ref (He.ga K x)) = some (.type "type")) : Xc K mg x := ⟨h.1, g, h.2.1, h.2.2.1, h.2.2.2⟩
/-- the law's own end: True comes out -/
theorem law_end {l : PySem.W.OpenLaw} {n k : Nat} {q : Program} {loose : List Str} {XP : (Str → Option Value) → Heap → Prop} {YP : World → Heap → Prop} {d : DefRec} {f : Fn}
    (hn : l.most = some n) (hn2 : n ≤ sizeLine) (hdf : d.params.defaults = []) (hr : Room k callerA)
    (F : ∀ (w : World) (mg : Str → Option Value) (fa : Addr) (h : Heap), YP w h → h.Ns mainGlobals mg → mg d.name = some (.ref fa) →
      ∃ (K : PySem.W.Frag) (fd : FuncData), K.In h ∧ (∀ (s : Shared) (u : Value), BindsTo s fd ⟨[u], []⟩ [("script", u)]) ∧
        ∀ base : Heap, K.In base → base.Ns mainGlobals mg → FnOk l.prog w K mg base (L2.CX l.prog w) k fa fd ["script"] (spD K f))
    (hlaw : ∀ ns : List Int, ns.length ≤ n → ∃ mem, f [.k (.list (ns.map .int))] [] = .ok (.d (.bool true)) mem) :
    PySem.W.WalkO q loose XP YP l.row.toRowW d [] (fun f vs => PySem.call f vs) := by
  refine Att.attach_call hn hdf fun w s₀ s₁ mg mb fa o pm cd doc a vs ns G Y ho hd hcd hmg hobj hints hlen hg => ?_
  obtain ⟨K, fd, KX, hb, hF⟩ := F w mg fa _ Y G.T.g hmg
  refine law_call KX G.T.g G.T.b G.T.builtins G.T.nolimit hg hobj hints (Nat.le_trans hlen hn2) hr hF hb (fun H hO hS => ?_) fun H e s' h => ?_
  · obtain ⟨mem, e⟩ := hlaw ns hlen
    refine ⟨H, [], [.k (.list (ns.map .int))], [], ?_, .cons ⟨a, rfl, _, hS, RpAll.of_ints ns⟩ .nil, ?_⟩
    · exact ⟨Same.refl _, rfl, fun i s ov h => (nil_get h).elim, fun i j p q a h => (nil_get h).elim, rfl, fun n ce a h => (nil_get h).elim, List.nodup_nil, fun n ce a h => (nil_get h).elim, List.prefix_refl _, fun b u h _ => h, fun a h => absurd h (by simp [cf0]), fun b u h => .inl h⟩
    · rw [e]
      intro G' A' H' v _ _ _ hv
      have hv : Rp G' v (.bool true) := hv
      cases hv
      rfl
  · obtain ⟨_, _, _, _, _, _, _, _, _, _, _, _, z⟩ := h
    exact z
end
end PD

set_option Elab.async false
set_option linter.all false
set_option maxRecDepth 100000
set_option maxHeartbeats 1000000
/-! PDCell: x = [..] as a cell, that other defs may change. -/
namespace PD
open PySem PySem.Spec PyProof.Rows L2
section
variable {K : PySem.W.Frag} {σ : L2.St} {c : Cf}
/-- a new cell -/
theorem Ok.newC (o : Ok K σ c) {p : Addr} {H' : Hp} {ce : Cell} (hp : c.H p = none) (old : ∀ b u, c.H b = some u → H' b = some u) (hc : CellOk K c.G (c.A ++ [p]) H' p ce) :
    Ok K σ { c with A := c.A ++ [p], st := { c.st with mem := c.st.mem ++ [ce] }, H := H' } := by
  have nA : ∀ a ∈ c.A, a ≠ p := fun a ha => by
    obtain ⟨u, hu⟩ := o.amem ha
    exact ne_of_none hu hp
  have pre : c.A <+: c.A ++ [p] := List.prefix_append _ _
  have last : (c.A ++ [p])[c.st.mem.length]? = some p := by
    rw [← o.alen, List.getElem?_append_right (Nat.le_refl _), Nat.sub_self]
    rfl
  have split : ∀ n ce' a, (c.st.mem ++ [ce])[n]? = some ce' → (c.A ++ [p])[n]? = some a → (c.st.mem[n]? = some ce' ∧ c.A[n]? = some a) ∨ (ce' = ce ∧ a = p) := fun n ce' a h1 h2 => by
    by_cases hn : n < c.st.mem.length
    · rw [List.getElem?_append_left hn] at h1
      rw [List.getElem?_append_left (by rw [o.alen]; exact hn)] at h2
      exact .inl ⟨h1, h2⟩
    · have hlt := (List.getElem?_eq_some_iff.mp h1).1
      rw [List.length_append] at hlt
      have hlt : n < c.st.mem.length + 1 := hlt
      have e : n = c.st.mem.length := by omega
      subst e
      rw [last] at h2
      cases h2
      rw [List.getElem?_append_right (Nat.le_refl _), Nat.sub_self] at h1
      cases h1
      exact .inr ⟨rfl, rfl⟩
  refine ⟨fun b u e => old b u (o.sub b u e), o.len, fun j s ov h1 h2 => ?_, o.apart, by show (c.A ++ [p]).length = (c.st.mem ++ [_]).length; rw [List.length_append, List.length_append, o.alen]; rfl, fun n ce' a h1 h2 => ?_, ?_, fun n ce' a h1 h2 nd => ?_, o.pre.trans pre, fun b u h1 h2 => old b u (o.fr b u h1 h2), fun a ha => ?_, o.gnew⟩
  · have q := o.slot j s ov h1 h2
    cases s with
    | emp => trivial
    | v x =>
      obtain ⟨v, e, q⟩ := q
      exact ⟨v, e, q.mono (Same.refl _) pre⟩
    | own w =>
      obtain ⟨a, e, q1, q2, q3, q4⟩ := q
      obtain ⟨u, hu⟩ := q1.some
      refine ⟨a, e, q1.mono (Same.refl _) (by rw [hu]; exact (old a u hu).symm), q2, fun z => ?_, q4⟩
      rcases List.mem_append.mp z with z | z
      · exact q3 z
      · rw [List.mem_singleton] at z
        exact ne_of_none hu hp z
  · rcases split n ce' a h1 h2 with ⟨g1, g2⟩ | ⟨rfl, rfl⟩
    · obtain ⟨u, hu⟩ := o.amem (List.mem_of_getElem? g2)
      exact (o.cell n ce' a g1 g2).mono (Same.refl _) pre (by rw [hu]; exact (old a u hu).symm)
    · exact hc
  · refine List.nodup_append.mpr ⟨o.anod, by simp, fun a ha b hb => ?_⟩
    rw [List.mem_singleton] at hb
    rw [hb]
    exact nA a ha
  · rcases split n ce' a h1 h2 with ⟨g1, g2⟩ | ⟨rfl, rfl⟩
    · exact o.agn n ce' a g1 g2 nd
    · exact o.gnone hp
  · rcases List.mem_append.mp ha with z | z
    · exact o.new a z
    · rw [List.mem_singleton] at z
      rw [z]
      exact .inr (o.hnone hp)
theorem newC_at (o : Ok K σ c) {p : Addr} : (c.A ++ [p])[c.st.mem.length]? = some p := by
  rw [← o.alen, List.getElem?_append_right (Nat.le_refl _), Nat.sub_self]
  rfl
theorem Ok.setC (o : Ok K σ c) {i : Nat} {p : Addr} {vs : List V} {xs : List D} (hp : c.H p = none) (h : RpAll c.G vs xs) :
    Ok K (σ.set i (some (.ref p))) { c with A := c.A ++ [p], st := ⟨c.st.env.set i (.v (.c c.st.mem.length)), c.st.mem ++ [.lst xs]⟩, H := upd c.H p (.lst vs) } :=
  (o.newC (H' := upd c.H p (.lst vs)) (ce := .lst xs) hp (fun b u e => by rw [upd_ne (ne_of_none e hp)]; exact e) ⟨vs, upd_same, h⟩).setV (i := i) (v := .ref p) (x := .c c.st.mem.length) ⟨p, newC_at o, rfl⟩
end
def sSetC (i : Nat) (F : FSem) : SSem := fun st => (F st).bind fun xs s => .ok .nx ⟨s.env.set i (.v (.c s.mem.length)), s.mem ++ [.lst xs]⟩
section
variable {X : Cx} {E : XW} {pos : Pos} {a : Expr}
theorem setC_read {K : PySem.W.Frag} {F : FSem} {i : Nat} {Dn : Ends} {σ : L2.St} {H : Hp} (h : tS K E (sSetC i F) Dn σ H) : tAsg (tF K E F) (gName i) Dn σ H := by
  obtain ⟨c, rfl, o, h⟩ := h
  refine ⟨c, rfl, o, (PostS.bind rfl h).mono fun xs c1 l1 o1 h1 p vs hp hv => ?_⟩
  have o3 := o1.setC (i := i) hp hv
  exact h1 (σ.set i (some (.ref p))) { c1 with A := c1.A ++ [p], st := ⟨c1.st.env.set i (.v (.c c1.st.mem.length)), c1.st.mem ++ [.lst xs]⟩, H := upd c1.H p (.lst vs) } (by rw [List.length_set]) ⟨rfl, rfl, rfl, Same.refl _, List.prefix_append _ _⟩ rfl o3
theorem s_setC {F : FSem} {i : Nat} {x : Str} {pos' : Pos} (ha : PE X a (tF X.K E F)) (hN : X.N.Nodup) (hi : X.N[i]? = some x := by rfl) (hx : Loc X.env.scope x := by first | exact Or.inl rfl | exact Or.inr rfl) (hs : swapsWith a (some (.Name x pos')) pos.line X.env = pure false := by rfl)
    (hf : X.fn x = true ∨ X.env.scope.names.lookup x = some .local := by first | exact .inl rfl | exact .inr rfl | assumption) : PS X (.Assign [.Name x pos'] a pos) (tS X.K E (sSetC i F)) :=
  PS_imp (ps_set hN hi hx ha hs hf) fun _ _ _ h => setC_read h
theorem i_r1 {tg : Expr} {A : ESem} {p : Pos} (hm : X.mg "range" = none) (ha : PE X a (tE X.K E A)) (hg : Gl X "range" := by rfl) (hs : starEach [a] X.env = [(false, eval a X.env)] := by rfl) : PI X tg (.Call (.Name "range" p) [a] [] pos) (tI X.K E (iRng1 A)) := i_rng1 ha hg hm hs
theorem i_r2 {tg b : Expr} {A B : ESem} {p : Pos} (hm : X.mg "range" = none) (ha : PE X a (tE X.K E A)) (hb : PE X b (tE X.K E B)) (hg : Gl X "range" := by rfl) (hs : starEach [a, b] X.env = [(false, eval a X.env), (false, eval b X.env)] := by rfl) (hs2 : starEach [b] X.env = [(false, eval b X.env)] := by rfl) :
    PI X tg (.Call (.Name "range" p) [a, b] [] pos) (tI X.K E (iRng2 A B)) := i_rng2 ha hb hg hm hs hs2
theorem e_cl {p : Pos} {As : ASem} {f : Fn} {k : Nat} {x : Str} {e : Expr} {es : List Expr} (F : Df X.prog X.w X.K X.mg X.base k x f) (hr : Room k X.A) (tk : Takes X (Wx X.K E)) (ha : PA X (e :: es) (tA X.K E As)) (hg : Gl X x := by rfl) (hdb : (x == ("__debug__" : Str)) = false := by decide)
    (he : starEach (e :: es) X.env = (false, eval e X.env) :: starEach es X.env := by rfl) (hpl : (backTo pos (starEach es X.env)).any (·.1) = false := by rfl) :
    PE X (.Call (.Name x p) (e :: es) [] pos) (tE X.K E (eCall f As)) := e_call F hr tk hg ha hdb he hpl
theorem e_gi {x : Str} {i : Int} (hm : ∃ t, X.mg x = some (.int i t)) (hg : Gl X x := by rfl) (hd : (x == ("__debug__" : Str)) = false := by decide) : PE X (.Name x pos) (tE X.K E (eC (.int i))) := e_gint hg hm hd
theorem e_gs {x : Str} {i : Str} (hm : ∃ t, X.mg x = some (.str i t)) (hg : Gl X x := by rfl) (hd : (x == ("__debug__" : Str)) = false := by decide) : PE X (.Name x pos) (tE X.K E (eC (.str i))) := e_gstr hg hm hd
end
end PD

set_option Elab.async false
set_option linter.all false
set_option maxRecDepth 100000
set_option maxHeartbeats 1000000
/-! PDTry: try .. except C: .. (no name, no calls within the clauses). -/
namespace PD
open PySem PySem.Spec PyProof.Rows L2
/-- which class's exceptions which clause takes -/
def TbOk (K : PySem.W.Frag) (tb : Str → Str → Option Bool) : Prop := ∀ n c b, tb n c = some b → PySem.W.exmOne K (.ref (He.ga K n)) (.ref (He.ga K c)) = some b
def catchS (tb : Str → Str → Option Bool) : List (Str × SSem) → Str → SSem
  | [], n, st => .exc n st
  | (c, S) :: r, n, st => match tb n c with
    | some true => (match S st with
      | .exc _ _ => .bad
      | r => r)
    | some false => catchS tb r n st
    | none => .bad
def sTry (tb : Str → Str → Option Bool) (S : SSem) (hs : List (Str × SSem)) : SSem := fun st => match S st with
  | .exc n s => catchS tb hs n s
  | r => r
inductive Hs (X : Cx) : List ExceptHandler → List (Str × SSem) → Prop
  | nil : Hs X [] []
  | cons {x : Str} {S : SSem} {b₀ : Stmt} {suite : List Stmt} {np pos' : Pos} {hds : List ExceptHandler} {l : List (Str × SSem)} (C : Xc X.K X.mg x) (hb : ∀ (a : Addr) (pn : List (Addr × Obj)), PSs (X.suite a pn) (b₀ :: suite) (tS X.K XF S)) (r : Hs X hds l)
      (hg : Gl X x := by rfl) (hdb : (x == ("__debug__" : Str)) = false := by decide) : Hs X (.ExceptHandler (some (.Name x np)) none (b₀ :: suite) pos' :: hds) ((x, S) :: l)
def hdl (K : PySem.W.Frag) (l : List (Str × SSem)) : List (Value × (Addr → Value → Option Addr → TS)) := l.map fun p => (.ref (He.ga K p.1), fun _ _ _ => tS K XF p.2)
theorem Hs.ok {X : Cx} : ∀ {hds : List ExceptHandler} {l : List (Str × SSem)}, Hs X hds l → HdsOk X hds (hdl X.K l)
  | _, _, .nil => .nil
  | _, _, .cons C hb r hg hdb => .cons ⟨hg, hdb, .inl C.g⟩ (fun a oe cls d pn _ _ => hb a _) (Hs.ok r)
section
variable {X : Cx} {E : XW} {body : List Stmt} {h₀ : ExceptHandler} {hds : List ExceptHandler} {l : List (Str × SSem)} {pos : Pos} {S : SSem} {tb : Str → Str → Option Bool}
theorem catch_read {K : PySem.W.Frag} {E : XW} {D : Ends} (ht : TbOk K tb) {n : Str} {σ : L2.St} {c : Cf} (o : Ok K σ c) : ∀ {l : List (Str × SSem)}, PostS K E c (catchS tb l n c.st) D σ.length → wMany K (Wx K E) D (hdl K l) (.ref (He.ga K n)) none σ c.H
  | [], h => ⟨n, rfl, rfl, h σ c rfl (Le.refl c) rfl o⟩
  | (x, S) :: l, h => by
    have h : PostS K E c (match tb n x with
      | some true => (match S c.st with
        | .exc _ _ => .bad
        | r => r)
      | some false => catchS tb l n c.st
      | none => .bad) D σ.length := h
    cases q : tb n x with
    | none => rw [q] at h; exact h.elim
    | some b =>
      rw [q] at h
      refine ⟨b, ht n x b q, fun hb a _ => ?_, fun hb => ?_⟩
      · subst hb
        have h : PostS K E c (match S c.st with
          | .exc _ _ => .bad
          | r => r) D σ.length := h
        refine ⟨c, rfl, o, ?_⟩
        show PostS K XF c (S c.st) D σ.length
        cases q2 : S c.st with
        | ok f st =>
          rw [q2] at h
          cases f <;> exact h
        | exc m st => rw [q2] at h; exact h.elim
        | bad => rw [q2] at h; exact h.elim
      · subst hb
        exact catch_read ht o (l := l) h
theorem s_try (tk : Takes X (Wx X.K E)) (ht : TbOk X.K tb) (hb : ∀ (pn : List (Addr × Obj)) (xe : Value → Shared → Prop) (E' : XW), Takes (X.tr pn xe) (Wx X.K E') → PassesOwn (model X.prog X.w) X.A X.env xe → PSs (X.tr pn xe) body (tS X.K E' S))
    (hh : Hs X (h₀ :: hds) l) (hs : X.stack = X.env :: X.outer := by rfl) (hf : X.env.frame = some X.env.locals := by rfl) : PS X (.Try body (h₀ :: hds) [] [] pos) (tS X.K E (sTry tb S l)) := by
  refine PS_imp (ps_try_many hs hf tk (tb := fun W => tS X.K (fun n σ H => W (.ref (He.ga X.K n)) none σ H) S) (fun W pn xe tkW hp => hb pn xe _ (tkW.imp fun c d σ H ⟨n, e1, e2, h⟩ => by subst e1 e2; exact h) hp) hh.ok) fun D σ H h => ?_
  obtain ⟨c, rfl, o, h⟩ := h
  refine ⟨c, rfl, o, ?_⟩
  unfold sTry at h
  cases q : S c.st with
  | bad => rw [q] at h; exact h.elim
  | ok f st =>
    rw [q] at h
    cases f <;> exact h
  | exc n st =>
    rw [q] at h
    intro σ' c' hl l' e o'
    refine catch_read ht o' ?_
    rw [e, hl]
    exact PostS.le l' h
end
end PD
namespace PD
open PySem PySem.Spec PyProof.Rows L2
inductive XtAll (K : PySem.W.Frag) : List ((Str × Str) × Bool) → Prop
  | nil : XtAll K []
  | cons {x y : Str} {b : Bool} {l : List ((Str × Str) × Bool)} : PySem.W.exmOne K (.ref (He.ga K x)) (.ref (He.ga K y)) = some b → XtAll K l → XtAll K (((x, y), b) :: l)
theorem xt_ok {K : PySem.W.Frag} : ∀ {l : List ((Str × Str) × Bool)}, XtAll K l → TbOk K fun n c => l.lookup (n, c)
  | _, .nil, n, c, b, h => by cases h
  | _, .cons (x := x) (y := y) (b := b0) (l := l) e t, n, c, b, h => by
    have h : (match (n, c) == (x, y) with
      | true => some b0
      | false => l.lookup (n, c)) = some b := h
    cases q : (n, c) == (x, y) with
    | true =>
      rw [q] at h
      cases h
      have := eq_of_beq q
      cases this
      exact e
    | false =>
      rw [q] at h
      exact xt_ok t n c b h
end PD

set_option Elab.async false
set_option linter.all false
set_option maxRecDepth 100000
set_option maxHeartbeats 1000000
/-! PDData: sorted, min, max, sum, index, count, xs * n over plain data. -/
namespace PD
open PySem PySem.Spec PyProof.Rows L2
/-! ### lists of ints -/
def asI : List D → Option (List Int)
  | [] => some []
  | .int i :: r => (asI r).map (i :: ·)
  | _ => none
theorem asI_eq : ∀ {ds : List D} {ns : List Int}, asI ds = some ns → ds = ns.map .int
  | [], _, h => by
    have h : some [] = some _ := h
    cases h
    rfl
  | .int i :: r, ns, h => by
    have h : (asI r).map (i :: ·) = some ns := h
    obtain ⟨ms, h1, rfl⟩ := Option.map_eq_some_iff.mp h
    rw [asI_eq h1]
    rfl
  | .none :: _, _, h => by cases h
  | .bool _ :: _, _, h => by cases h
  | .str _ :: _, _, h => by cases h
  | .list _ :: _, _, h => by cases h
  | .tuple _ :: _, _, h => by cases h
  | .dict _ :: _, _, h => by cases h
theorem asI_map : ∀ ns : List Int, asI (ns.map .int) = some ns
  | [] => rfl
  | n :: ns => by
    show (asI (ns.map .int)).map (n :: ·) = _
    rw [asI_map ns]
    rfl
/-! ### data that can be set in order -/
def okOrd (ds : List D) : Bool := (ds.all fun x => ds.all fun y => PySem.W.alike x y) && (ds.all fun x => !isN x) && decide (PyData.depthAll ds ≤ 60)
theorem okOrd_alike {ds : List D} (h : okOrd ds = true) : PySem.W.AlikeAll ds ∧ PyData.depthAll ds ≤ 60 := by
  unfold okOrd at h
  simp only [Bool.and_eq_true, List.all_eq_true, decide_eq_true_eq] at h
  refine ⟨⟨fun x hx y hy => h.1.1 x hx y hy, fun x hx e => ?_⟩, h.2⟩
  have := h.1.2 x hx
  rw [e] at this
  cases this
theorem noDics_ord {ds : List D} (h : okOrd ds = true) : noDics ds = true := by
  obtain ⟨h1, _⟩ := okOrd_alike h
  exact noDics_mem fun d hd => noDic_alike d d (h1.1 d hd d hd) (h1.1 d hd d hd)
theorem okSort_ord {ds : List D} (h : (okOrd ds && b) = true) : okOrd ds = true := (Bool.and_eq_true_iff.mp h).1
def isTup1 : D → Bool
  | .tuple (_ :: _) => true
  | _ => false
def noTup : D → Bool
  | .tuple _ => false
  | .none => false
  | _ => true
def okSort (ds : List D) : Bool := okOrd ds && (ds.all isTup1 || ds.all noTup)
theorem okSort_sortable {ds : List D} (h : okSort ds = true) : PySem.W.Sortable ds := by
  unfold okSort at h
  obtain ⟨_, h⟩ := Bool.and_eq_true_iff.mp h
  rcases Bool.or_eq_true_iff.mp h with h | h
  · refine .inl fun d hd => ?_
    have := List.all_eq_true.mp h d hd
    cases d with
    | tuple xs => cases xs with
      | nil => cases this
      | cons x r => exact ⟨x, r, rfl⟩
    | _ => cases this
  · refine .inr fun d hd => ?_
    have := List.all_eq_true.mp h d hd
    cases d with
    | tuple xs => cases this
    | none => cases this
    | _ => exact ⟨(fun e => by cases e), (fun xs e => by cases e)⟩
/-- sorted -/
def sortD (ds : List D) : List D := ds.mergeSort (PySem.W.dataLe false id)
theorem depth_mem {d : D} : ∀ {ds : List D}, d ∈ ds → d.depth ≤ PyData.depthAll ds
  | [], h => by cases h
  | x :: xs, h => by
    rw [PyData.depthAll]
    rcases List.mem_cons.mp h with e | e
    · rw [e]; omega
    · have := depth_mem e
      omega
section
variable {X : Cx}
theorem vals_each : ∀ {xs : List V} {us : List Value} {ds : List D}, Vals xs us → xs.length = ds.length → PySem.W.EachIs (fun (u : Value) (b : V × D) => RelV b.1 u) us (xs.zip ds)
  | _, _, [], .nil, _ => .nil
  | _, _, [], .cons _ _, h => by simp at h
  | _, _, _ :: _, .nil, h => by simp at h
  | _, _, d :: ds, .cons r t, h => .cons r (vals_each t (by simpa using h))
theorem reads_each {h : Heap} : ∀ {xs : List V} {us : List Value} {ds : List D} {as : List Addr}, xs.length = ds.length → ReadsAll h us ds as → PySem.W.EachIs (fun (u : Value) (b : V × D) => ∃ as, Reads h u b.2 as) us (xs.zip ds)
  | [], _, [], _, _, .nil => .nil
  | _ :: _, _, [], _, e, _ => by simp at e
  | [], _, _ :: _, _, e, _ => by simp at e
  | x :: xs, _, d :: ds, _, e, .cons r t => .cons ⟨_, r⟩ (reads_each (by simpa using e) t)
theorem each_vals : ∀ {us : List Value} {bs : List (V × D)}, PySem.W.EachIs (fun (u : Value) (b : V × D) => RelV b.1 u) us bs → Vals (bs.map Prod.fst) us
  | _, _, .nil => .nil
  | _, _, .cons r t => .cons r (each_vals t)
/-- sorted(xs): pairs of what stands there and its data are set in order together -/
def rSortedData (K : PySem.W.Frag) : List V → Hp → VK → Prop := fun vs H Q => ∃ (a : Addr) (xs : List V) (ds : List D), vs = [V.ref a] ∧ SqL K H a xs ∧ DpAll K H xs ds ∧ xs.length = ds.length ∧ okSort ds = true ∧
  ∀ p, H p = none → Q (.ref p) (upd H p (.lst (((xs.zip ds).mergeSort (PySem.W.dataLe false Prod.snd)).map Prod.fst)))
theorem cr_sortedData {k : Nat} (hr : Room k X.A) : CallR X (.builtin "sorted") (rSortedData X.K) := by
  intro pins s σ H vs us Q I r h
  obtain ⟨a, xs, ds, rfl, hs, hd, hl, ho, q⟩ := h
  obtain ⟨its, rv, pl, hz⟩ := I.list hs
  obtain ⟨as, hr2⟩ := Dp.readsAll I ds xs its hd rv
  rw [Vals.ref1 r]
  have hO : okOrd ds = true := (Bool.and_eq_true_iff.mp ho).1
  obtain ⟨h1, h2⟩ := okOrd_alike hO
  have em : (xs.zip ds).map Prod.snd = ds := List.map_snd_zip (by omega)
  have hlz : (xs.zip ds).length = xs.length := by rw [List.length_zip]; omega
  refine PySem.W.sorted_data (bs := xs.zip ds) (enc := Prod.snd) pl.isList (vals_each rv hl) (reads_each hl hr2) (by rw [em]; exact fun d hd d' hd' => h1.1 d hd d' hd') (by rw [em]; exact okSort_sortable ho) (by omega) (fun b hb => ?_) fun out ho eo => ?_
  · have hm : b.2 ∈ ds := by
      rw [← em]
      exact List.mem_map.mpr ⟨b, hb, rfl⟩
    have hdp : b.2.depth ≤ PyData.depthAll ds := depth_mem hm
    have := hr.un
    omega
  · obtain ⟨ep, he'⟩ := PyProof.Rows.sortedAll_at s.heap its out.toArray
    have hv := each_vals eo
    have hlen : (((xs.zip ds).mergeSort (PySem.W.dataLe false Prod.snd)).map Prod.fst).length ≤ sizeLine := by
      rw [List.length_map, List.length_mergeSort, hlz]
      exact hz
    exact ⟨.ref _, upd H (s.heap.objs.size + 1) (.lst (((xs.zip ds).mergeSort (PySem.W.dataLe false Prod.snd)).map Prod.fst)), I.laid (t' := s.toks) (fun _ _ => PyProof.Rows.sortedAll_old) (Nat.le_succ _) ⟨hlen, out, ep, hv, he'⟩, rfl, q _ (I.hok.fresh (Nat.le_succ _))⟩
/-- min, max of a list of data -/
def rBestData (K : PySem.W.Frag) (sel : D → List D → D) : List V → Hp → VK → Prop := fun vs H Q => ∃ (a : Addr) (xs : List V) (d : D) (ds : List D), vs = [V.ref a] ∧ SqL K H a xs ∧ DpAll K H xs (d :: ds) ∧ okOrd (d :: ds) = true ∧
  ∀ (i : Nat) x, xs[i]? = some x → (d :: ds)[i]? = some (sel d ds) → Q x H
theorem vals_at : ∀ {xs : List V} {us : List Value} {i : Nat} {u : Value}, Vals xs us → us[i]? = some u → ∃ x, xs[i]? = some x ∧ RelV x u
  | _, _, _, _, .nil, e => by simp at e
  | _, _, 0, _, .cons r _, e => by
    simp at e
    subst e
    exact ⟨_, rfl, r⟩
  | _, _, i + 1, _, .cons _ t, e => by
    obtain ⟨x, h1, h2⟩ := vals_at (i := i) t (by simpa using e)
    exact ⟨x, by simpa using h1, h2⟩
theorem minD_mem (d : D) : ∀ ds : List D, ∀ a : D, a = d ∨ a ∈ ds → True := fun _ _ _ => trivial
theorem best_at {h : Heap} {us : List Value} {ds : List D} {as bs : List Addr} {i : Nat} {u : Value} {b : D} (ha : ∀ x ∈ ds, ∀ y ∈ ds, PySem.W.alike x y = true) (hb : b ∈ ds) (hr : ReadsAll h us ds as) (hu : us[i]? = some u) (r : Reads h u b bs) : ds[i]? = some b := by
  obtain ⟨cs, r1, hi, hm, _⟩ := PySem.W.readsAll_at hr i u hu
  have e := PySem.W.alike_unique _ _ _ _ _ (ha _ hm _ hb) r1 r
  rw [List.getD_eq_getElem?_getD] at e
  rw [List.getElem?_eq_getElem hi] at e ⊢
  rw [← e]
  rfl
theorem foldl_mem {α : Type} (f : α → α → Bool) : ∀ (xs : List α) (x : α), xs.foldl (fun a y => if f a y = true then y else a) x ∈ x :: xs
  | [], x => by simp
  | y :: ys, x => by
    rw [List.foldl_cons]
    have := foldl_mem f ys (if f x y = true then y else x)
    split at this <;> rename_i h <;> simp [h] at this ⊢
    · rcases this with h | h
      · exact .inr (.inl h)
      · exact .inr (.inr h)
    · rcases this with h | h
      · exact .inl h
      · exact .inr (.inr h)
theorem cr_minData {k : Nat} (hr : Room k X.A) (hc : X.calm = true) : CallR X (.builtin "min") (rBestData X.K PySem.W.minD) := by
  intro pins s σ H vs us Q I r h
  obtain ⟨a, xs, d, ds, rfl, hs, hd, ho, q⟩ := h
  obtain ⟨its, rv, pl, hz⟩ := I.list hs
  obtain ⟨as, hr2⟩ := Dp.readsAll I (d :: ds) xs its hd rv
  rw [Vals.ref1 r]
  obtain ⟨h1, h2⟩ := okOrd_alike ho
  refine PySem.W.min_list_data (vs := its.toArray) (I.ok.hd hc) pl.isList hr2 h1 (by have := hr.un; omega) fun i v h' tk bs hv hrd hk => ?_
  have hv : its[i]? = some v := by simpa using hv
  obtain ⟨x, hx, rx⟩ := vals_at rv hv
  have hr3 : ReadsAll h' its (d :: ds) as := PyProof.Rows.ReadsAll.keeps hk hr2
  have e := best_at (fun x hx y hy => h1.1 x hx y hy) (foldl_mem (fun a y => PySem.W.dataLt y a) ds d) hr3 hv hrd
  exact ⟨x, H, I.kept hk, rx, q i x hx e⟩
theorem cr_maxData {k : Nat} (hr : Room k X.A) (hc : X.calm = true) : CallR X (.builtin "max") (rBestData X.K PySem.W.maxD) := by
  intro pins s σ H vs us Q I r h
  obtain ⟨a, xs, d, ds, rfl, hs, hd, ho, q⟩ := h
  obtain ⟨its, rv, pl, hz⟩ := I.list hs
  obtain ⟨as, hr2⟩ := Dp.readsAll I (d :: ds) xs its hd rv
  rw [Vals.ref1 r]
  obtain ⟨h1, h2⟩ := okOrd_alike ho
  refine PySem.W.max_list_data (vs := its.toArray) (I.ok.hd hc) pl.isList hr2 h1 (by have := hr.un; omega) fun i v h' tk bs hv hrd hk => ?_
  have hv : its[i]? = some v := by simpa using hv
  obtain ⟨x, hx, rx⟩ := vals_at rv hv
  have hr3 : ReadsAll h' its (d :: ds) as := PyProof.Rows.ReadsAll.keeps hk hr2
  have e := best_at (fun x hx y hy => h1.1 x hx y hy) (foldl_mem (fun a y => PySem.W.dataLt a y) ds d) hr3 hv hrd
  exact ⟨x, H, I.kept hk, rx, q i x hx e⟩
end
/-! ### as plain pieces -/
theorem bt_sorted : bootBuiltins "sorted" = some (.builtin "sorted") := by decide +kernel
theorem bt_min : bootBuiltins "min" = some (.builtin "min") := by decide +kernel
theorem bt_max : bootBuiltins "max" = some (.builtin "max") := by decide +kernel
theorem bt_sum : bootBuiltins "sum" = some (.builtin "sum") := by decide +kernel
theorem bt_abs : bootBuiltins "abs" = some (.builtin "abs") := by decide +kernel
theorem RpAll.of_pairs {G : Hp} : ∀ {ps : List (V × D)}, (∀ p ∈ ps, Rp G p.1 p.2) → RpAll G (ps.map Prod.fst) (ps.map Prod.snd)
  | [], _ => .nil
  | p :: ps, h => .cons (h p (by simp)) (RpAll.of_pairs fun q hq => h q (by simp [hq]))
theorem RpAll.zip {G : Hp} : ∀ {vs : List V} {ds : List D}, RpAll G vs ds → ∀ p ∈ vs.zip ds, Rp G p.1 p.2
  | _, _, .nil, p, h => by simp at h
  | _, _, .cons r t, p, h => by
    rw [List.zip_cons_cons, List.mem_cons] at h
    rcases h with rfl | h
    · exact r
    · exact RpAll.zip t p h
theorem RpAll.sorted {G : Hp} {vs : List V} {ds : List D} (h : RpAll G vs ds) : RpAll G (((vs.zip ds).mergeSort (PySem.W.dataLe false Prod.snd)).map Prod.fst) (sortD ds) := by
  have e : ((vs.zip ds).mergeSort (PySem.W.dataLe false Prod.snd)).map Prod.snd = sortD ds := by
    unfold sortD
    have z := List.map_mergeSort (l := vs.zip ds) (f := Prod.snd) (r := PySem.W.dataLe false Prod.snd) (s := PySem.W.dataLe false id) (fun a _ b _ => rfl)
    rw [List.map_snd_zip (by rw [h.length]; omega)] at z
    exact z
  rw [← e]
  exact RpAll.of_pairs fun p hp => h.zip p (List.mem_mergeSort.mp hp)
section
variable {X : Cx} {E : XW} {pos p apos : Pos} {a b : Expr} {A B : ESem} {k : Nat}
def fSorted (A : ESem) : FSem := fun st => (A st).bind fun w s => match view s w with
  | some (.list ds) => if okSort ds = true then .ok (sortD ds) s else .bad
  | _ => .bad
theorem f_sorted (hr : Room k X.A) (hm : X.mg "sorted" = none) (ha : PE X a (tE X.K E A)) (hg : Gl X "sorted" := by rfl) (hs : starEach [a] X.env = (false, eval a X.env) :: starEach [] X.env := by rfl) (hpl : (backTo pos (starEach [] X.env)).any (·.1) = false := by rfl) :
    PE X (.Call (.Name "sorted" p) [a] [] pos) (tF X.K E (fSorted A)) := by
  refine PE_imp (pe_callB (cr_sortedData hr) hg hm bt_sorted (pa_cons ha pa_nil hs) (by decide) (by decide) hs hpl) fun σ H Q h => ?_
  obtain ⟨c, rfl, o, h⟩ := h
  refine ⟨c, rfl, o, h.bind.mono fun wa c1 l1 o1 h1 v hv => ?_⟩
  cases e1 : view c1.st wa with
  | none => simp only [e1] at h1; exact h1.elim
  | some x =>
    simp only [e1] at h1
    have z := view_ok o1 hv e1
    cases x with
    | list ds =>
      obtain ⟨p1, vs, rfl, q1, q2⟩ := z
      have h1 : Post X.K E σ c1 (if okSort ds = true then .ok (sortD ds) c1.st else .bad) fun xs c' => ∀ p vs, c'.H p = none → RpAll c'.G vs xs → Q (.ref p) (upd c'.H p (.lst vs)) := h1
      by_cases ho : okSort ds = true
      · rw [if_pos ho] at h1
        exact ⟨p1, vs, ds, rfl, q1, RpAll.dp _ _ (noDics_ord (okSort_ord ho)) (RpAll.mono o1.sub _ _ q2), q2.length, ho, fun l hl => h1.here o1 l _ hl q2.sorted⟩
      · rw [if_neg ho] at h1; exact h1.elim
    | _ => exact h1.elim
def eBest (sel : D → List D → D) (A : ESem) : ESem := fun st => (A st).bind fun w s => match view s w with
  | some (.list (d :: ds)) => if okOrd (d :: ds) = true then retD (sel d ds) s else .bad
  | _ => .bad
theorem best_read {sel : D → List D → D} {σ : L2.St} {c1 : Cf} {Q : VK} {wa : W} {v : V} (o1 : Ok X.K σ c1) (hv : WOk X.K σ c1 v wa) (h1 : Post X.K E σ c1 (match view c1.st wa with
    | some (.list (d :: ds)) => if okOrd (d :: ds) = true then retD (sel d ds) c1.st else .bad
    | _ => .bad) fun w c' => ∀ v, WOk X.K σ c' v w → Q v c'.H) : rBestData X.K sel [v] c1.H Q := by
  cases e1 : view c1.st wa with
  | none => simp only [e1] at h1; exact h1.elim
  | some x =>
    simp only [e1] at h1
    have z := view_ok o1 hv e1
    cases x with
    | list ds =>
      cases ds with
      | nil => exact h1.elim
      | cons d ds =>
        obtain ⟨p1, vs, rfl, q1, q2⟩ := z
        have h1 : Post X.K E σ c1 (if okOrd (d :: ds) = true then retD (sel d ds) c1.st else .bad) fun w c' => ∀ v, WOk X.K σ c' v w → Q v c'.H := h1
        by_cases ho : okOrd (d :: ds) = true
        · rw [if_pos ho] at h1
          refine ⟨p1, vs, d, ds, rfl, q1, RpAll.dp _ _ (noDics_ord ho) (RpAll.mono o1.sub _ _ q2), ho, fun i x hx hd => ?_⟩
          obtain ⟨d', e2, r⟩ := q2.getV hx
          rw [hd] at e2
          cases e2
          exact (retD_post h1).here o1 r
        · rw [if_neg ho] at h1; exact h1.elim
    | _ => exact h1.elim
abbrev eMin1 (A : ESem) : ESem := eBest PySem.W.minD A
abbrev eMax1 (A : ESem) : ESem := eBest PySem.W.maxD A
theorem e_min1 (hr : Room k X.A) (hc : X.calm = true) (hm : X.mg "min" = none) (ha : PE X a (tE X.K E A)) (hg : Gl X "min" := by rfl) (hs : starEach [a] X.env = (false, eval a X.env) :: starEach [] X.env := by rfl) (hpl : (backTo pos (starEach [] X.env)).any (·.1) = false := by rfl) :
    PE X (.Call (.Name "min" p) [a] [] pos) (tE X.K E (eMin1 A)) := by
  refine PE_imp (pe_callB (cr_minData hr hc) hg hm bt_min (pa_cons ha pa_nil hs) (by decide) (by decide) hs hpl) fun σ H Q h => ?_
  obtain ⟨c, rfl, o, h⟩ := h
  exact ⟨c, rfl, o, h.bind.mono fun wa c1 l1 o1 h1 v hv => best_read o1 hv h1⟩
theorem e_max1 (hr : Room k X.A) (hc : X.calm = true) (hm : X.mg "max" = none) (ha : PE X a (tE X.K E A)) (hg : Gl X "max" := by rfl) (hs : starEach [a] X.env = (false, eval a X.env) :: starEach [] X.env := by rfl) (hpl : (backTo pos (starEach [] X.env)).any (·.1) = false := by rfl) :
    PE X (.Call (.Name "max" p) [a] [] pos) (tE X.K E (eMax1 A)) := by
  refine PE_imp (pe_callB (cr_maxData hr hc) hg hm bt_max (pa_cons ha pa_nil hs) (by decide) (by decide) hs hpl) fun σ H Q h => ?_
  obtain ⟨c, rfl, o, h⟩ := h
  exact ⟨c, rfl, o, h.bind.mono fun wa c1 l1 o1 h1 v hv => best_read o1 hv h1⟩
def dMin2 : D → D → Option D
  | .int i, .int j => some (.int (if j < i then j else i))
  | _, _ => none
def dMax2 : D → D → Option D
  | .int i, .int j => some (.int (if j > i then j else i))
  | _, _ => none
theorem rc_min2 {K : PySem.W.Frag} : RcOk K E (cb2 dMin2) (fun xs H Q => ∃ i j, xs = [.int i, .int j] ∧ Q (.int (if j < i then j else i)) H) := rc_cb2 fun σ c Q v u x y d o hv hu e k => by
  cases x with
  | int i =>
    cases y with
    | int j =>
      have hv : Rp c.G v (.int i) := hv
      have hu : Rp c.G u (.int j) := hu
      cases hv
      cases hu
      cases e
      exact ⟨i, j, rfl, k.here o (.int _)⟩
    | _ => cases e
  | _ => cases e
theorem rc_max2 {K : PySem.W.Frag} : RcOk K E (cb2 dMax2) (fun xs H Q => ∃ i j, xs = [.int i, .int j] ∧ Q (.int (if j > i then j else i)) H) := rc_cb2 fun σ c Q v u x y d o hv hu e k => by
  cases x with
  | int i =>
    cases y with
    | int j =>
      have hv : Rp c.G v (.int i) := hv
      have hu : Rp c.G u (.int j) := hu
      cases hv
      cases hu
      cases e
      exact ⟨i, j, rfl, k.here o (.int _)⟩
    | _ => cases e
  | _ => cases e
abbrev eMin2 (A B : ESem) : ESem := eCB (cb2 dMin2) (aCons A (aCons B aNil))
abbrev eMax2 (A B : ESem) : ESem := eCB (cb2 dMax2) (aCons A (aCons B aNil))
theorem e_min2 (hc : X.calm = true) (hm : X.mg "min" = none) (ha : PE X a (tE X.K E A)) (hb : PE X b (tE X.K E B)) (hg : Gl X "min" := by rfl) (hs : starEach [a, b] X.env = (false, eval a X.env) :: starEach [b] X.env := by rfl) (hs2 : starEach [b] X.env = (false, eval b X.env) :: starEach [] X.env := by rfl) (hpl : (backTo pos (starEach [b] X.env)).any (·.1) = false := by rfl) :
    PE X (.Call (.Name "min" p) [a, b] [] pos) (tE X.K E (eMin2 A B)) := e_callB (call_min2 hc) rc_min2 hg hm bt_min (a_cons ha (a_cons hb a_nil hs2) hs) (by decide) (by decide) hs hpl
theorem e_max2 (hc : X.calm = true) (hm : X.mg "max" = none) (ha : PE X a (tE X.K E A)) (hb : PE X b (tE X.K E B)) (hg : Gl X "max" := by rfl) (hs : starEach [a, b] X.env = (false, eval a X.env) :: starEach [b] X.env := by rfl) (hs2 : starEach [b] X.env = (false, eval b X.env) :: starEach [] X.env := by rfl) (hpl : (backTo pos (starEach [b] X.env)).any (·.1) = false := by rfl) :
    PE X (.Call (.Name "max" p) [a, b] [] pos) (tE X.K E (eMax2 A B)) := e_callB (call_max2 hc) rc_max2 hg hm bt_max (a_cons ha (a_cons hb a_nil hs2) hs) (by decide) (by decide) hs hpl
def dSum : D → Option D
  | .list ds => (asI ds).map fun ns => .int ns.sum
  | _ => none
theorem rc_sum {K : PySem.W.Frag} : RcOk K E (cb1 dSum) (rSum K) := rc_cb1 fun σ c Q v x d o hv e k => by
  cases x with
  | list ds =>
    have e : (asI ds).map (fun ns => PyData.int ns.sum) = some d := e
    obtain ⟨ns, e1, rfl⟩ := Option.map_eq_some_iff.mp e
    have e2 := asI_eq e1
    subst e2
    obtain ⟨p1, vs, rfl, q1, q2⟩ := hv
    rw [q2.ints] at q1
    exact ⟨p1, ns, rfl, q1, k.here o (.int _)⟩
  | _ => cases e
abbrev eSum (A : ESem) : ESem := eCB (cb1 dSum) (aCons A aNil)
theorem e_sum (hc : X.calm = true) (hm : X.mg "sum" = none) (ha : PE X a (tE X.K E A)) (hg : Gl X "sum" := by rfl) (hs : starEach [a] X.env = (false, eval a X.env) :: starEach [] X.env := by rfl) (hpl : (backTo pos (starEach [] X.env)).any (·.1) = false := by rfl) :
    PE X (.Call (.Name "sum" p) [a] [] pos) (tE X.K E (eSum A)) := e_callB (cr_sum hc) rc_sum hg hm bt_sum (a_cons ha a_nil hs) (by decide) (by decide) hs hpl
def dAbs : D → Option D
  | .int i => some (.int (if i < 0 then -i else i))
  | _ => none
theorem rc_abs {K : PySem.W.Frag} : RcOk K E (cb1 dAbs) (fun xs H Q => ∃ i, xs = [.int i] ∧ Q (.int (if i < 0 then -i else i)) H) := rc_cb1 fun σ c Q v x d o hv e k => by
  cases x with
  | int i =>
    have hv : Rp c.G v (.int i) := hv
    cases hv
    cases e
    exact ⟨i, rfl, k.here o (.int _)⟩
  | _ => cases e
abbrev eAbs (A : ESem) : ESem := eCB (cb1 dAbs) (aCons A aNil)
theorem e_abs (hm : X.mg "abs" = none) (ha : PE X a (tE X.K E A)) (hg : Gl X "abs" := by rfl) (hs : starEach [a] X.env = (false, eval a X.env) :: starEach [] X.env := by rfl) (hpl : (backTo pos (starEach [] X.env)).any (·.1) = false := by rfl) :
    PE X (.Call (.Name "abs" p) [a] [] pos) (tE X.K E (eAbs A)) := e_callB call_abs rc_abs hg hm bt_abs (a_cons ha a_nil hs) (by decide) (by decide) hs hpl
/-- [..] * n -/
def fRep (A B : ESem) : FSem := fun st => (A st).bind fun w s => (B s).bind fun u s2 => match viewD s2 w, u with
  | some (.list xs), .v (.d (.int j)) => if (decide (-(2 ^ 62) ≤ j) && decide (j < 2 ^ 62) && decide (xs.length * j.toNat ≤ sizeLine)) = true then .ok (List.replicate j.toNat xs).flatten s2 else .bad
  | _, _ => .bad
theorem RpAll.rep {G : Hp} {vs : List V} {ds : List D} (h : RpAll G vs ds) : ∀ n : Nat, RpAll G (List.replicate n vs).flatten (List.replicate n ds).flatten
  | 0 => .nil
  | n + 1 => by
    rw [List.replicate_succ, List.replicate_succ, List.flatten_cons, List.flatten_cons]
    exact h.append (RpAll.rep h n)
theorem f_rep (ha : PE X a (tE X.K E A)) (hb : PE X b (tE X.K E B)) : PE X (.BinOp a .Mult b pos) (tF X.K E (fRep A B)) := by
  refine PE_imp (pe_op op_rep ha hb) fun σ H Q h => ?_
  obtain ⟨c, rfl, o, h⟩ := h
  refine ⟨c, rfl, o, h.bind.mono fun wa c1 l1 o1 h1 v hv => ?_⟩
  refine ⟨c1, rfl, o1, h1.bind.mono fun wb c2 l2 o2 h2 u hu => ?_⟩
  have hv := hv.mono l2
  cases e1 : viewD c2.st wa with
  | none => simp only [e1] at h2; exact h2.elim
  | some x =>
    simp only [e1] at h2
    cases x with
    | list xs =>
      cases wb with
      | sl i => exact h2.elim
      | v y =>
        cases y with
        | c n => exact h2.elim
        | k y => exact h2.elim
        | d y =>
          cases y with
          | int j =>
            have h2 : Post X.K E σ c2 (if (decide (-(2 ^ 62) ≤ j) && decide (j < 2 ^ 62) && decide (xs.length * j.toNat ≤ sizeLine)) = true then .ok (List.replicate j.toNat xs).flatten c2.st else .bad) fun xs c' => ∀ p vs, c'.H p = none → RpAll c'.G vs xs → Q (.ref p) (upd c'.H p (.lst vs)) := h2
            by_cases hz : (decide (-(2 ^ 62) ≤ j) && decide (j < 2 ^ 62) && decide (xs.length * j.toNat ≤ sizeLine)) = true
            · rw [if_pos hz] at h2
              simp only [Bool.and_eq_true, decide_eq_true_eq] at hz
              obtain ⟨p1, vs, rfl, q1, q2⟩ := viewD_ok o2 hv e1
              have hu : Rp c2.G u (.int j) := hu
              cases hu
              exact ⟨p1, j, vs, rfl, rfl, q1, by have := hz.1.1; omega, by have := hz.1.2; omega, by rw [q2.length]; exact hz.2, fun l hl => h2.here o2 l _ hl (q2.rep _)⟩
            · rw [if_neg hz] at h2; exact h2.elim
          | _ => exact h2.elim
    | _ => exact h2.elim
/-- xs.index(e): it stands there -/
def findD (x : D) (ds : List D) : Option Nat := ds.findIdx? fun z => PyData.eqv z x
def ixD (x y : D) : Option D := match x with
  | .list ds => if (SeqAt.shaped (.list ds) && SeqAt.shaped y) = true then (findD y ds).map fun (j : Nat) => PyData.int (j : Int) else none
  | _ => none
def cntD (x y : D) : Option D := match x, y with
  | .list ds, .int k => (asI ds).map fun ns => .int (ns.count k : Nat)
  | _, _ => none
/-- a method of a list that only looks -/
def eLook (g : D → D → Option D) (A B : ESem) : ESem := fun st => (A st).bind fun w s1 => match view s1 w with
  | some (.list _) => (B s1).bind fun u s2 => dat2 g w u s2
  | _ => .bad
abbrev eIndex (A B : ESem) : ESem := eLook ixD A B
abbrev eCount (A B : ESem) : ESem := eLook cntD A B
theorem look_read {g : D → D → Option D} {r : V → List V → Hp → VK → Prop} (hg : ∀ (σ : L2.St) (c : Cf) (Q : VK) (v u : V) (x y d : D), Ok X.K σ c → Vw X.K c.G c.H v x → Vw X.K c.G c.H u y → g x y = some d → Kt X.K σ c d Q → r v [u] c.H Q) {σ : L2.St} {H : Hp} {Q : VK} (h : tE X.K E (eLook g A B) σ H Q) :
    tBM X.K "list" r (tE X.K E A) (tCons (tE X.K E B) tNil) σ H Q := by
  obtain ⟨c, rfl, o, h⟩ := h
  refine ⟨c, rfl, o, h.bind.mono fun wa c1 l1 o1 h1 v hv => ?_⟩
  cases e1 : view c1.st wa with
  | none => simp only [e1] at h1; exact h1.elim
  | some x =>
    simp only [e1] at h1
    have z := view_ok o1 hv e1
    cases x with
    | list ds =>
      obtain ⟨p1, vs, rfl, q1, q2⟩ := z
      have h1 : Post X.K E σ c1 ((B c1.st).bind fun u s2 => dat2 g wa u s2) fun w c' => ∀ v, WOk X.K σ c' v w → Q v c'.H := h1
      refine ⟨.inl ⟨rfl, _, q1⟩, c1, rfl, o1, h1.bind.mono fun wb c2 l2 o2 h2 u hu => ?_⟩
      exact (r2_dat (r := fun v u H Q => r v [u] H Q) hg) σ c2 Q _ _ _ _ o2 (hv.mono l2) hu h2
    | _ => exact h1.elim
theorem e_index (hr : Room k X.A) (ha : PE X a (tE X.K E A)) (hb : PE X b (tE X.K E B)) (hs : starEach [b] X.env = (false, eval b X.env) :: starEach [] X.env := by rfl)
    (hbase : attributeBase a "index" X.env (eval a X.env) = eval a X.env := by rfl) (hfo : methodCallForm [b].length (backTo pos (starEach [b] X.env)) (backToKw pos (keywordEach [] X.env)) = true := by rfl) (hline : (apos.endLine == pos.line) = true := by rfl) (hpl : (backTo pos (starEach [] X.env)).any (·.1) = false := by rfl) :
    PE X (.Call (.Attribute a "index" apos) [b] [] pos) (tE X.K E (eIndex A B)) := by
  refine PE_imp (pe_bm PySem.F.plainAttrs_list PySem.F.slot_list_index PySem.F.type_list_index (mt_indexD (room65 hr)) ha (pa_cons hb pa_nil hs) hbase hfo hline hs hpl) fun σ H Q h => ?_
  refine look_read (fun σ c Q v u x y d o hv hu e k => ?_) h
  cases x with
  | list ds =>
    have e : (if (SeqAt.shaped (.list ds) && SeqAt.shaped y) = true then (findD y ds).map fun (j : Nat) => PyData.int (j : Int) else none) = some d := e
    by_cases hs : (SeqAt.shaped (.list ds) && SeqAt.shaped y) = true
    · rw [if_pos hs] at e
      obtain ⟨j, e1, rfl⟩ := Option.map_eq_some_iff.mp e
      obtain ⟨s1, s2⟩ := Bool.and_eq_true_iff.mp hs
      have hv2 := hv.dp (noDic_shaped s1) o.sub
      obtain ⟨p1, vs, rfl, q1, q2⟩ := hv
      unfold findD at e1
      obtain ⟨hj, h1, h2⟩ := List.findIdx?_eq_some_iff_getElem.mp e1
      refine ⟨p1, u, y, ds, j, ds[j], rfl, rfl, hv2, hu.dp (noDic_shaped s2) o.sub, s1, s2, List.getElem?_eq_getElem hj, h1, fun m z' hm hz => ?_, k.here o (.int _)⟩
      have hz2 := (List.getElem?_eq_some_iff.mp hz)
      obtain ⟨hm2, e3⟩ := hz2
      rw [← e3]
      simpa using h2 m hm
    · rw [if_neg hs] at e; cases e
  | _ => cases e
theorem e_count (ha : PE X a (tE X.K E A)) (hb : PE X b (tE X.K E B)) (hs : starEach [b] X.env = (false, eval b X.env) :: starEach [] X.env := by rfl)
    (hbase : attributeBase a "count" X.env (eval a X.env) = eval a X.env := by rfl) (hfo : methodCallForm [b].length (backTo pos (starEach [b] X.env)) (backToKw pos (keywordEach [] X.env)) = true := by rfl) (hline : (apos.endLine == pos.line) = true := by rfl) (hpl : (backTo pos (starEach [] X.env)).any (·.1) = false := by rfl) :
    PE X (.Call (.Attribute a "count" apos) [b] [] pos) (tE X.K E (eCount A B)) := by
  refine PE_imp (pe_bm PySem.F.plainAttrs_list PySem.F.slot_list_count PySem.F.type_list_count mt_lcount ha (pa_cons hb pa_nil hs) hbase hfo hline hs hpl) fun σ H Q h => ?_
  refine look_read (fun σ c Q v u x y d o hv hu e k => ?_) h
  cases x with
  | list ds =>
    cases y with
    | int n =>
      have e : (asI ds).map (fun ns => PyData.int (ns.count n : Nat)) = some d := e
      obtain ⟨ns, e1, rfl⟩ := Option.map_eq_some_iff.mp e
      have e2 := asI_eq e1
      subst e2
      obtain ⟨p1, vs, rfl, q1, q2⟩ := hv
      rw [q2.ints] at q1
      have hu : Rp c.G u (.int n) := hu
      cases hu
      exact ⟨p1, ns, n, rfl, rfl, q1, k.here o (.int _)⟩
    | _ => cases e
  | _ => cases e
end
end PD

set_option Elab.async false
set_option linter.all false
set_option maxRecDepth 100000
set_option maxHeartbeats 1000000
/-! PDSet: len(set(xs)). -/
namespace PD
open PySem PySem.Spec PyProof.Rows L2
/-! ### how many different ones -/
def dcount {α : Type} [DecidableEq α] : List α → Nat
  | [] => 0
  | x :: xs => if x ∈ xs then dcount xs else dcount xs + 1
section
variable {α : Type} [DecidableEq α]
def dd : List α → List α
  | [] => []
  | x :: xs => if x ∈ xs then dd xs else x :: dd xs
theorem dd_len : ∀ xs : List α, (dd xs).length = dcount xs
  | [] => rfl
  | x :: xs => by
    unfold dd dcount
    split
    · exact dd_len xs
    · rw [List.length_cons, dd_len xs]
theorem dd_mem {y : α} : ∀ {xs : List α}, y ∈ dd xs ↔ y ∈ xs
  | [] => Iff.rfl
  | x :: xs => by
    unfold dd
    by_cases h : x ∈ xs
    · rw [if_pos h, dd_mem, List.mem_cons]
      constructor
      · exact .inr
      · rintro (e | e)
        · rw [e]; exact h
        · exact e
    · rw [if_neg h, List.mem_cons, dd_mem, List.mem_cons]
theorem dd_nodup : ∀ xs : List α, (dd xs).Nodup
  | [] => List.Pairwise.nil
  | x :: xs => by
    unfold dd
    split
    · exact dd_nodup xs
    · rename_i h
      exact List.nodup_cons.mpr ⟨fun z => h (dd_mem.mp z), dd_nodup xs⟩
theorem nodup_le : ∀ {l m : List α}, l.Nodup → (∀ x ∈ l, x ∈ m) → l.length ≤ m.length
  | [], _, _, _ => Nat.zero_le _
  | x :: l, m, hn, h => by
    have hx := h x (by simp)
    have hn2 := List.nodup_cons.mp hn
    have := nodup_le (m := m.erase x) hn2.2 fun y hy => (List.mem_erase_of_ne (fun (e : y = x) => hn2.1 (by rw [← e]; exact hy))).mpr (h y (by simp [hy]))
    rw [List.length_erase_of_mem hx] at this
    have := List.length_pos_of_mem hx
    rw [List.length_cons]
    omega
theorem dcount_of {l m : List α} (hn : l.Nodup) (h : ∀ x, x ∈ l ↔ x ∈ m) : l.length = dcount m := by
  rw [← dd_len]
  exact Nat.le_antisymm (nodup_le hn fun x hx => dd_mem.mpr ((h x).mp hx)) (nodup_le (dd_nodup m) fun x hx => (h x).mpr (dd_mem.mp hx))
theorem dcount_nodup : ∀ {xs : List α}, dcount xs = xs.length ↔ xs.Nodup
  | [] => by simp [dcount]
  | x :: xs => by
    have ih := dcount_nodup (xs := xs)
    have hle : dcount xs ≤ xs.length := by rw [← dd_len]; exact nodup_le (dd_nodup xs) fun y hy => dd_mem.mp hy
    unfold dcount
    rw [List.nodup_cons, List.length_cons]
    by_cases h : x ∈ xs
    · rw [if_pos h]
      constructor
      · intro e; omega
      · intro e; exact absurd h e.1
    · rw [if_neg h]
      constructor
      · intro e; exact ⟨h, ih.mp (by omega)⟩
      · intro e; have := ih.mpr e.2; omega
end
theorem firstMet_nd (f : Nat → Int) : ∀ n, (firstMet f n).Nodup
  | 0 => List.Pairwise.nil
  | n + 1 => by
    rw [firstMet_succ]
    unfold step_dedup
    split
    · exact firstMet_nd f n
    · rename_i h
      rw [List.nodup_append]
      refine ⟨firstMet_nd f n, by simp, fun x hx y hy e => h ?_⟩
      rw [List.mem_singleton] at hy
      rw [List.any_eq_true]
      exact ⟨x, hx, by rw [e, hy]; exact beq_self_eq_true _⟩
theorem firstMet_is (ns : List Int) : (firstMet (fun i => ns.getD i 0) ns.length).length = dcount ns := by
  refine dcount_of (firstMet_nd _ _) fun x => ?_
  have h := firstMet_any (fun i => ns.getD i 0) ns.length x
  have e : (List.range ns.length).map (fun i => ns.getD i 0) = ns := by
    refine List.ext_getElem (by simp) fun i h1 h2 => ?_
    simp at h1
    simp [h1]
  rw [e] at h
  have k : ∀ l : List Int, (l.any (· == x)) = true ↔ x ∈ l := fun l => by simp
  rw [← k, h, k]
/-! ### lists of tuples of ints -/
def asT : List D → Option (List (List Int))
  | [] => some []
  | .tuple xs :: r => (asI xs).bind fun k => (asT r).map (k :: ·)
  | _ => none
theorem asT_eq : ∀ {ds : List D} {ks : List (List Int)}, asT ds = some ks → ds = ks.map fun k => .tuple (k.map .int)
  | [], _, h => by
    have h : some [] = some _ := h
    cases h
    rfl
  | .tuple xs :: r, ks, h => by
    have h : ((asI xs).bind fun k => (asT r).map (k :: ·)) = some ks := h
    obtain ⟨k, h1, h2⟩ := Option.bind_eq_some_iff.mp h
    obtain ⟨ms, h3, rfl⟩ := Option.map_eq_some_iff.mp h2
    rw [asI_eq h1, asT_eq h3]
    rfl
  | .none :: _, _, h => by cases h
  | .bool _ :: _, _, h => by cases h
  | .str _ :: _, _, h => by cases h
  | .list _ :: _, _, h => by cases h
  | .int _ :: _, _, h => by cases h
  | .dict _ :: _, _, h => by cases h
theorem asT_map : ∀ ks : List (List Int), asT (ks.map fun k => .tuple (k.map .int)) = some ks
  | [] => rfl
  | k :: ks => by
    show ((asI (k.map .int)).bind fun k => (asT (ks.map fun k => .tuple (k.map .int))).map (k :: ·)) = _
    rw [asI_map, asT_map ks]
    rfl
def setLen (ds : List D) : Option Nat := match asI ds with
  | some ns => if ns.length < 1000 then some (dcount ns) else none
  | none => match asT ds with
    | some ks => if ks.length < 64 then some (dcount ks) else none
    | none => none
theorem tups_of {K : PySem.W.Frag} {G H : Hp} (s : Same G H) : ∀ {vs : List V} {ks : List (List Int)}, RpAll G vs (ks.map fun k => .tuple (k.map .int)) → ∃ ps : List (Addr × List Int), vs = ps.map (fun p => V.ref p.1) ∧ ks = ps.map (·.2) ∧ ∀ p ∈ ps, SqT K H p.1 (p.2.map V.int)
  | _, [], h => by
    cases h
    exact ⟨[], rfl, rfl, by simp⟩
  | _, k :: ks, h => by
    cases h with
    | cons h1 h2 =>
      obtain ⟨ps, rfl, rfl, h3⟩ := tups_of s h2
      cases h1 with
      | tup q1 q2 =>
        rename_i a xs
        refine ⟨(a, k) :: ps, rfl, rfl, fun p hp => ?_⟩
        rcases List.mem_cons.mp hp with rfl | hp
        · rw [q2.ints] at q1
          exact SqT.of (s _ _ q1)
        · exact h3 p hp
section
variable {X : Cx} {E : XW} {a : Expr} {A : ESem} {p p2 q pos : Pos}
def tSetLn (K : PySem.W.Frag) (ta : TE) : TE := fun σ H Q => ta σ H fun x H1 => ∃ l : Addr, x = .ref l ∧
  ((∃ ns : List Int, SqL K H1 l (ns.map V.int) ∧ ns.length < 1000 ∧ Q (.int (dcount ns)) H1) ∨ ∃ ks : List (Addr × List Int), SqL K H1 l (ks.map fun p => V.ref p.1) ∧ (∀ p ∈ ks, SqT K H1 p.1 (p.2.map V.int)) ∧ ks.length < 64 ∧ Q (.int (dcount (ks.map (·.2)))) H1)
theorem pe_setLn {k : Nat} {ta : TE} (rm : Room k X.A) (hc : X.calm = true) (g1 : Gl X "len") (m1 : X.mg "len" = none) (g2 : Gl X "set") (m2 : X.mg "set" = none) (ha : PE X a ta)
    (na : starEach [a] X.env = (false, eval a X.env) :: starEach [] X.env := by rfl) : PE X (.Call (.Name "len" p) [.Call (.Name "set" p2) [a] [] q] [] pos) (tSetLn X.K ta) := by
  refine ⟨fun pins s0 σ H Q I h => Call_ (ld_blt I g1 m1 PySem.boot_len (callWith_builtin1 (args_cons (Call_ (ld_blt I g2 m2 boot_set (callWith_type1 (args_cons (thn (ha.run pins s0 σ H _ I h) fun v s1 ⟨x, H1, J, rx, w⟩ => args_nil ?_) na) na rfl))) rfl) rfl rfl))⟩
  obtain ⟨l, rfl, w⟩ := w
  cases rx
  rcases w with ⟨ns, hq, hn, w⟩ | ⟨ks, hq, ht, hn, w⟩
  · obtain ⟨us, rv, pl, _⟩ := J.list hq
    have hz : us.toArray.size = ns.length := by
      rw [List.size_toArray, ← rv.length, List.length_map]
    refine call_set_list (J.ok.hd hc) pl.isList (ns := ns) (by simpa using rv.ints) (by unfold scanBound; omega) fun h' tk st hk => args_nil ?_
    rw [hz] at st
    obtain ⟨o, es, _, _, e1, e2, e3, _, _, _, e4, e5⟩ := st
    rw [firstMet_is] at e5
    have hle : dcount ns ≤ ns.length := by
      rw [← dd_len]
      exact nodup_le (dd_nodup ns) fun y hy => dd_mem.mp hy
    have J2 : Inv X pins σ H1 { s1 with heap := h', toks := tk } := J.kept fun b o e => hk b o (Heap.lt_size e) e
    exact call_len_set e1 e2 e3 e4 (by rw [e5]; omega) ⟨.int (dcount ns), H1, J2.tok _, ⟨_, by rw [e5]⟩, w⟩
  · obtain ⟨us, rv, pl, _⟩ := J.list hq
    have hu := rm.un
    refine call_set_tups (P := X.prog) (w := X.w) ks (J.ok.hd hc) pl.isList (by simpa using refs_of_vals rv) (fun p hp => J.isT (ht p hp)) hn (by omega) fun h' tk L es ep t R g hk => args_nil ?_
    obtain ⟨o, e1, e2, e3⟩ := R.ob
    have e5 := SetTR.size (s := { s1 with heap := h', toks := tk }) R
    have e6 : L.length = dcount (ks.map (·.2)) := by
      rw [← List.length_map (f := fun p : Addr × List Int => p.2)]
      refine dcount_of R.nd fun x => ⟨fun hx => ?_, fun hx => ?_⟩
      · obtain ⟨p, hp, rfl⟩ := List.mem_map.mp hx
        exact List.mem_map.mpr ⟨p, List.mem_of_mem_take (g.sub p hp), rfl⟩
      · obtain ⟨p, hp, rfl⟩ := List.mem_map.mp hx
        exact g.all p (by rw [List.take_length]; exact hp)
    have hf := R.few
    have J2 : Inv X pins σ H1 { s1 with heap := h', toks := tk } := J.kept hk
    exact call_len_set e1 e2 e3 (SetTR.fits (s := { s1 with heap := h', toks := tk }) R) (by rw [e5]; omega) ⟨.int (dcount (ks.map (·.2))), H1, J2.tok _, ⟨_, by rw [e5, e6]⟩, w⟩
def eSetLen (A : ESem) : ESem := fun st => (A st).bind fun w s => match view s w with
  | some (.list ds) => (match setLen ds with
    | some n => retD (.int n) s
    | none => .bad)
  | _ => .bad
theorem e_setLen {k : Nat} (rm : Room k X.A) (hc : X.calm = true) (m1 : X.mg "len" = none) (m2 : X.mg "set" = none) (ha : PE X a (tE X.K E A)) (g1 : Gl X "len" := by rfl) (g2 : Gl X "set" := by rfl)
    (na : starEach [a] X.env = (false, eval a X.env) :: starEach [] X.env := by rfl) : PE X (.Call (.Name "len" p) [.Call (.Name "set" p2) [a] [] q] [] pos) (tE X.K E (eSetLen A)) := by
  refine PE_imp (pe_setLn rm hc g1 m1 g2 m2 ha na) fun σ H Q h => ?_
  obtain ⟨c, rfl, o, h⟩ := h
  refine ⟨c, rfl, o, h.bind.mono fun wa c1 l1 o1 h1 v hv => ?_⟩
  cases e1 : view c1.st wa with
  | none => simp only [e1] at h1; exact h1.elim
  | some x =>
    simp only [e1] at h1
    have z := view_ok o1 hv e1
    cases x with
    | list ds =>
      obtain ⟨l, vs, rfl, q1, q2⟩ := z
      have h1 : Post X.K E σ c1 (match setLen ds with
        | some n => retD (.int n) c1.st
        | none => .bad) fun w c' => ∀ v, WOk X.K σ c' v w → Q v c'.H := h1
      cases e2 : setLen ds with
      | none => rw [e2] at h1; exact h1.elim
      | some n =>
        rw [e2] at h1
        have fin : Q (.int n) c1.H := (retD_post h1).here o1 (.int _)
        refine ⟨l, rfl, ?_⟩
        unfold setLen at e2
        cases e3 : asI ds with
        | some ns =>
          rw [e3] at e2
          have e2 : (if ns.length < 1000 then some (dcount ns) else none) = some n := e2
          by_cases hn : ns.length < 1000
          · rw [if_pos hn] at e2
            cases e2
            have e4 := asI_eq e3
            subst e4
            rw [q2.ints] at q1
            exact .inl ⟨ns, q1, hn, fin⟩
          · rw [if_neg hn] at e2; cases e2
        | none =>
          rw [e3] at e2
          have e2 : (match asT ds with
            | some ks => if ks.length < 64 then some (dcount ks) else none
            | none => none) = some n := e2
          cases e4 : asT ds with
          | none => rw [e4] at e2; cases e2
          | some ks =>
            rw [e4] at e2
            have e2 : (if ks.length < 64 then some (dcount ks) else none) = some n := e2
            by_cases hn : ks.length < 64
            · rw [if_pos hn] at e2
              cases e2
              have e5 := asT_eq e4
              subst e5
              obtain ⟨ps, rfl, rfl, h3⟩ := tups_of (K := X.K) o1.sub q2
              rw [List.length_map] at hn
              exact .inr ⟨ps, q1, h3, hn, fin⟩
            · rw [if_neg hn] at e2; cases e2
    | _ => exact h1.elim
end
end PD

set_option Elab.async false
set_option linter.all false
set_option maxRecDepth 100000
set_option maxHeartbeats 1000000
/-! PDPar: a, b = x, y; xs[i], ys[j] = e; range(a, b, -1). -/
namespace PD
open PySem PySem.Spec PyProof.Rows L2
section
variable {X : Cx} {E : XW} {pos : Pos} {a b : Expr} {A B : ESem} {As : ASem}
theorem postS_forceV {K : PySem.W.Frag} {σ : L2.St} {c : Cf} {Dn : Ends} {ws : List W} {vs : List V} {f : List Dv → St → R St Fl} (o : Ok K σ c) (hw : WAll K σ c vs ws) (h : PostS K E c ((forceV ws c.st).bind f) Dn σ.length) :
    ∃ xs c', Le c c' ∧ Ok K σ c' ∧ c'.H = c.H ∧ DvAll K c'.G c'.A vs xs ∧ PostS K E c' (f xs c'.st) Dn σ.length := by
  cases e : forceV ws c.st with
  | ok xs st =>
    obtain ⟨c', l, e1, o', e2, hx⟩ := forceV_ok o hw e
    rw [e] at h
    refine ⟨xs, c', l, o', e2, hx, ?_⟩
    rw [e1]
    exact PostS.le l h
  | exc n st => exact absurd e forceV_exc
  | bad => rw [e] at h; exact h.elim
def sPar2 (i j : Nat) (As : ASem) : SSem := fun st => (As st).bind fun ws s => (forceV ws s).bind fun xs s1 => match xs with
  | [x, y] => .ok .nx ((s1.setS i (.v x)).setS j (.v y))
  | _ => .bad
theorem s_par2 {i j : Nat} {x y : Str} {px py pt pt2 : Pos} {kt k2 : Nat} (hc : X.calm = true) (hN : X.N.Nodup) (ha : PA X [a, b] (tA X.K E As)) (hij : i ≠ j) (hi : X.N[i]? = some x := by rfl) (hj : X.N[j]? = some y := by rfl)
    (hx : X.env.scope.names.lookup x = some .local := by rfl) (hy : X.env.scope.names.lookup y = some .local := by rfl)
    (hw : swappedStores [.Tuple [.Name x px, .Name y py] kt pt] (.Tuple [a, b] k2 pt2) X.env = pure (some [x, y]) := by rfl)
    (hs : swapsWithSole [.Tuple [.Name x px, .Name y py] kt pt] (.Tuple [a, b] k2 pt2) pos.line X.env = pure false := by rfl) :
    PS X (.Assign [.Tuple [.Name x px, .Name y py] kt pt] (.Tuple [a, b] k2 pt2) pos) (tS X.K E (sPar2 i j As)) := by
  refine PS_imp (ps_par hc hN hi hj hij hx hy ha hw hs) fun Dn σ H h => ?_
  obtain ⟨c, rfl, o, h⟩ := h
  refine ⟨c, rfl, o, (PostS.bind rfl h).mono fun ws c1 l1 o1 h1 vs hvs => ?_⟩
  obtain ⟨xs, c2, l2, o2, eh, hx, h2⟩ := postS_forceV o1 hvs h1
  match xs, hx, h2 with
  | [], _, h2 => exact h2.elim
  | [_], _, h2 => exact h2.elim
  | _ :: _ :: _ :: _, _, h2 => exact h2.elim
  | [x, y], .cons r1 (.cons r2 .nil), h2 =>
    refine ⟨_, _, rfl, ?_⟩
    rw [← eh]
    have o3 := o2.setV (i := i) r1
    have o4 := o3.setV (i := j) r2
    exact h2 _ { c2 with st := (c2.st.setS i (.v x)).setS j (.v y) } (by rw [List.length_set, List.length_set]) (Le.st c2 _) rfl o4
def sPar3 (i j l : Nat) (As : ASem) : SSem := fun st => (As st).bind fun ws s => (forceV ws s).bind fun xs s1 => match xs with
  | [x, y, z] => .ok .nx (((s1.setS i (.v x)).setS j (.v y)).setS l (.v z))
  | _ => .bad
theorem s_par3 {i j l : Nat} {x y z : Str} {e3 : Expr} {px py pz pt pt2 : Pos} {kt k2 : Nat} (hc : X.calm = true) (hN : X.N.Nodup) (ha : PA X [a, b, e3] (tA X.K E As)) (hij : i ≠ j) (hil : i ≠ l) (hjl : j ≠ l) (hi : X.N[i]? = some x := by rfl) (hj : X.N[j]? = some y := by rfl) (hl : X.N[l]? = some z := by rfl)
    (hx : X.env.scope.names.lookup x = some .local := by rfl) (hy : X.env.scope.names.lookup y = some .local := by rfl) (hz : X.env.scope.names.lookup z = some .local := by rfl)
    (hw : swappedStores [.Tuple [.Name x px, .Name y py, .Name z pz] kt pt] (.Tuple [a, b, e3] k2 pt2) X.env = pure (some [x, y, z]) := by rfl)
    (hs : swapsWithSole [.Tuple [.Name x px, .Name y py, .Name z pz] kt pt] (.Tuple [a, b, e3] k2 pt2) pos.line X.env = pure false := by rfl) :
    PS X (.Assign [.Tuple [.Name x px, .Name y py, .Name z pz] kt pt] (.Tuple [a, b, e3] k2 pt2) pos) (tS X.K E (sPar3 i j l As)) := by
  refine PS_imp (ps_par3 hc hN hi hj hl hij hil hjl hx hy hz ha hw hs) fun Dn σ H h => ?_
  obtain ⟨c, rfl, o, h⟩ := h
  refine ⟨c, rfl, o, (PostS.bind rfl h).mono fun ws c1 l1 o1 h1 vs hvs => ?_⟩
  obtain ⟨xs, c2, l2, o2, eh, hx, h2⟩ := postS_forceV o1 hvs h1
  match xs, hx, h2 with
  | [], _, h2 => exact h2.elim
  | [_], _, h2 => exact h2.elim
  | [_, _], _, h2 => exact h2.elim
  | _ :: _ :: _ :: _ :: _, _, h2 => exact h2.elim
  | [x, y, z], .cons r1 (.cons r2 (.cons r3 .nil)), h2 =>
    refine ⟨_, _, _, rfl, ?_⟩
    rw [← eh]
    have o3 := o2.setV (i := i) r1
    have o4 := o3.setV (i := j) r2
    have o5 := o4.setV (i := l) r3
    exact h2 _ { c2 with st := ((c2.st.setS i (.v x)).setS j (.v y)).setS l (.v z) } (by rw [List.length_set, List.length_set, List.length_set]) (Le.st c2 _) rfl o5
/-! ### xs[i], ys[j] = e -/
def putAt (O I : ESem) (d : D) : St → R St Unit := fun st => (O st).bind fun o s2 => (I s2).bind fun i s3 => match getL o s3, i with
  | some xs, .v (.d (.int k)) => (match ixN xs.length k with
    | some j => putL o (xs.set j d) s3
    | none => .bad)
  | _, _ => .bad
def sPut2 (A O1 I1 O2 I2 : ESem) : SSem := fun st => (A st).bind fun w s1 => (forceD w s1).bind fun d s2 => match d with
  | .tuple [x, y] => (putAt O1 I1 x s2).bind fun _ s3 => (putAt O2 I2 y s3).bind fun _ s4 => .ok .nx s4
  | _ => .bad
/-- one of the two -/
theorem putAt_read {σ : L2.St} {c : Cf} {P : Cf → Prop} {O I : ESem} {d : D} {v : V} {Q : L2.St → Hp → Prop} (ok : Ok X.K σ c) (hd : Rp c.G v d) (h : Post X.K E σ c (putAt O I d c.st) fun _ c' => P c') (hQ : ∀ c', Le c c' → Ok X.K σ c' → P c' → Q σ c'.H) :
    gSub (tE X.K E O) (tE X.K E I) rSetL v σ c.H Q := by
  refine ⟨c, rfl, ok, h.bind.mono fun wo c2 l2 o2 h2 vo hvo => ?_⟩
  refine ⟨c2, rfl, o2, h2.bind.mono fun wi c3 l3 o3 h3 vi hvi => ?_⟩
  have hvo := hvo.mono l3
  cases q : getL wo c3.st with
  | none => simp only [q] at h3; exact h3.elim
  | some xs =>
    simp only [q] at h3
    cases wi with
    | sl i => exact h3.elim
    | v u =>
      cases u with
      | c n => exact h3.elim
      | k u => exact h3.elim
      | d u =>
        cases u with
        | int k =>
          have hvi : Rp c3.G vi (.int k) := hvi
          cases hvi
          simp only at h3
          cases q2 : ixN xs.length k with
          | none => simp only [q2] at h3; exact h3.elim
          | some j =>
            simp only [q2] at h3
            obtain ⟨a1, vs, st, rfl, y1, y2, y3, y4⟩ := putL_ok (ys := xs.set j d) o3 hvo q
            rw [y3] at h3
            have hd3 : Rp c3.G v d := Rp.mono (l2.trans l3).g _ _ hd
            have o4 := y4 _ (RpAll.set hd3 j y2)
            exact ⟨a1, vs, k, j, rfl, rfl, y1, by rw [y2.length]; exact q2, hQ _ ((l2.trans l3).trans putL_le) o4 (h3 _ putL_le rfl o4)⟩
        | _ => exact h3.elim
theorem s_put2 {oa ia ob ib : Expr} {O1 I1 O2 I2 : ESem} {p1 p2 pt : Pos} {kt : Nat} (hc : X.calm = true) (ha : PE X a (tE X.K E A)) (ho1 : PE X oa (tE X.K E O1)) (hi1 : PE X ia (tE X.K E I1)) (ho2 : PE X ob (tE X.K E O2)) (hi2 : PE X ib (tE X.K E I2))
    (hp1 : ∀ v, assign (.Subscript oa ia p1) X.env v = (do
      let ov ← holding [v] (eval oa X.env)
      let iv ← holding [v, ov] (eval ia X.env)
      standAt p1
      holding [v, ov, iv] (setItem ov iv v)
      release [v, ov, iv] []) := by intro _; rfl)
    (hp2 : ∀ v, assign (.Subscript ob ib p2) X.env v = (do
      let ov ← holding [v] (eval ob X.env)
      let iv ← holding [v, ov] (eval ib X.env)
      standAt p2
      holding [v, ov, iv] (setItem ov iv v)
      release [v, ov, iv] []) := by intro _; rfl)
    (hs1 : (assignEach [.Subscript oa ia p1, .Subscript ob ib p2] X.env).map (·.2) = assign (.Subscript oa ia p1) X.env :: (assignEach [.Subscript ob ib p2] X.env).map (·.2) := by rfl)
    (hs2 : (assignEach [.Subscript ob ib p2] X.env).map (·.2) = assign (.Subscript ob ib p2) X.env :: (assignEach [] X.env).map (·.2) := by rfl)
    (hn : (assignEach [.Subscript oa ia p1, .Subscript ob ib p2] X.env).length = 2 := by rfl) (hst : (assignEach [.Subscript oa ia p1, .Subscript ob ib p2] X.env).findIdx? (·.1) = none := by rfl)
    (hs : swapsWithSole [.Tuple [.Subscript oa ia p1, .Subscript ob ib p2] kt pt] a pos.line X.env = pure false := by rfl) (hw : swappedStores [.Tuple [.Subscript oa ia p1, .Subscript ob ib p2] kt pt] a X.env = pure none := by rfl)
    (h1 : (assignEach [.Tuple [.Subscript oa ia p1, .Subscript ob ib p2] kt pt] X.env).map (·.2) = [assign (.Tuple [.Subscript oa ia p1, .Subscript ob ib p2] kt pt) X.env] := by rfl) :
    PS X (.Assign [.Tuple [.Subscript oa ia p1, .Subscript ob ib p2] kt pt] a pos) (tS X.K E (sPut2 A O1 I1 O2 I2)) := by
  refine PS_imp (ps_asg ha (pg_tup hc (pgs_cons (pg_sub ho1 hi1 set_list hp1) (pgs_cons (pg_sub ho2 hi2 set_list hp2) pgs_nil hs2) hs1) hn hst) hs hw h1) fun Dn σ H h => ?_
  obtain ⟨c, rfl, o, h⟩ := h
  refine ⟨c, rfl, o, (PostS.bind rfl h).mono fun w c1 l1 o1 h1 v hv => ?_⟩
  obtain ⟨d, c2, l2, o2, eh, hd, h2⟩ := postS_forceD o1 hv h1
  cases d with
  | tuple ds =>
    cases hd with
    | tup q1 q2 =>
      cases q2 with
      | nil => exact h2.elim
      | cons r1 t =>
        cases t with
        | nil => exact h2.elim
        | cons r2 t =>
          cases t with
          | cons _ _ => exact h2.elim
          | nil =>
            rename_i vx dx vy dy
            rw [← eh]
            refine ⟨_, _, rfl, SqT.of (o2.sub _ _ q1), rfl, vx, [vy], rfl, ?_⟩
            have h2 : PostS X.K E c2 ((putAt O1 I1 dx c2.st).bind fun _ s3 => (putAt O2 I2 dy s3).bind fun _ s4 => .ok .nx s4) Dn σ.length := h2
            refine putAt_read (P := fun c' => PostS X.K E c' ((putAt O2 I2 dy c'.st).bind fun _ s4 => .ok .nx s4) Dn σ.length) o2 r1 ((PostS.bind rfl h2).mono fun _ c' _ _ q => q) fun c3 l3 o3 h3 => ?_
            refine ⟨vy, [], rfl, ?_⟩
            exact putAt_read (P := fun c' => PostS X.K E c' (.ok .nx c'.st) Dn σ.length) o3 (Rp.mono l3.g _ _ r2) ((PostS.bind rfl h3).mono fun _ c' _ _ q => q) fun c4 l4 o4 h4 => ⟨rfl, h4.nx o4 rfl⟩
  | _ => exact h2.elim
/-! ### range(i, j, -1) -/
def rngC (lo c : Int) (n : Nat) : List D := (List.range n).map fun (i : Nat) => PyData.int (lo + (i : Int) * c)
theorem it_rngC {G : Hp} (lo c : Int) (n : Nat) : ItOk G (Itc lo c n) (rngC lo c n) where
  go := fun i H s hi => by
    unfold rngC at hi
    rw [List.length_map, List.length_range] at hi
    exact hi
  yld := fun i H x H' s y hi => by
    obtain ⟨e, rfl⟩ := y
    unfold rngC at hi ⊢
    rw [List.length_map, List.length_range] at hi
    refine ⟨e, .int (lo + i * c), ?_, .int _⟩
    rw [List.getElem?_map, List.getElem?_range hi]
    rfl
  stop := fun H s => by
    show n ≤ (rngC lo c n).length
    unfold rngC
    rw [List.length_map, List.length_range]
    exact Nat.le_refl _
def iRngD (A B C : ESem) : ISem := fun st => (A st).bind fun w s1 => (B s1).bind fun u s2 => (C s2).bind fun t s3 => match w, u, t with
  | .v (.d (.int i)), .v (.d (.int j)), .v (.d (.int c)) => if (small i && small j && decide (c = -1)) = true then .ok (rngC i (-1) (i - j).toNat) s3 else .bad
  | _, _, _ => .bad
theorem i_r3 {tg e3 : Expr} {C : ESem} {p : Pos} (hm : X.mg "range" = none) (ha : PE X a (tE X.K E A)) (hb : PE X b (tE X.K E B)) (hc : PE X e3 (tE X.K E C)) (hg : Gl X "range" := by rfl)
    (hs : starEach [a, b, e3] X.env = (false, eval a X.env) :: starEach [b, e3] X.env := by rfl) (hs2 : starEach [b, e3] X.env = (false, eval b X.env) :: starEach [e3] X.env := by rfl) (hs3 : starEach [e3] X.env = (false, eval e3 X.env) :: starEach [] X.env := by rfl) (hpl : (backTo pos (starEach [b, e3] X.env)).any (·.1) = false := by rfl) :
    PI X tg (.Call (.Name "range" p) [a, b, e3] [] pos) (tI X.K E (iRngD A B C)) := by
  refine PI_imp (pi_range3 hg hm (pa_cons ha (pa_cons hb (pa_cons hc pa_nil hs3) hs2) hs) hs hpl) fun σ H Q h => ?_
  obtain ⟨c, rfl, o, h⟩ := h
  refine ⟨c, rfl, o, h.bind.mono fun w c1 l1 o1 h1 v hv => ?_⟩
  refine ⟨c1, rfl, o1, h1.bind.mono fun u c2 l2 o2 h2 y hy => ?_⟩
  refine ⟨c2, rfl, o2, h2.bind.mono fun t c3 l3 o3 h3 z hz => ?_⟩
  have hv := (hv.mono l2).mono l3
  have hy := hy.mono l3
  cases w with
  | sl i => exact h3.elim
  | v w => cases w with
    | d w => cases w with
      | int i => cases u with
        | sl i => exact h3.elim
        | v u => cases u with
          | d u => cases u with
            | int j => cases t with
              | sl i => exact h3.elim
              | v t => cases t with
                | d t => cases t with
                  | int k =>
                    have h4 : Post X.K E σ c3 (if (small i && small j && decide (k = -1)) = true then .ok (rngC i (-1) (i - j).toNat) c3.st else .bad) fun ds c' => ∀ J, ItOk c'.G J ds → Q J c'.H := h3
                    by_cases hk : (small i && small j && decide (k = -1)) = true
                    · rw [if_pos hk] at h4
                      simp only [Bool.and_eq_true, decide_eq_true_eq] at hk
                      obtain ⟨⟨s1, s2⟩, e⟩ := hk
                      subst e
                      have s1 := small_of s1
                      have s2 := small_of s2
                      have hv : Rp c3.G v (.int i) := hv
                      have hy : Rp c3.G y (.int j) := hy
                      have hz : Rp c3.G z (.int (-1)) := hz
                      cases hv
                      cases hy
                      cases hz
                      exact ⟨i, j, -1, _, rfl, RgC.neg s1.1 s1.2 s2.1 s2.2, h4.here o3 _ (it_rngC i (-1) _)⟩
                    · rw [if_neg hk] at h4; exact h4.elim
                  | _ => exact h3.elim
                | _ => exact h3.elim
            | _ => exact h3.elim
          | _ => exact h3.elim
      | _ => exact h3.elim
    | _ => exact h3.elim
end
end PD

set_option Elab.async false
set_option linter.all false
set_option maxRecDepth 100000
set_option maxHeartbeats 1000000
/-! PDMore: x += e, lists of ranges, calls without arguments, dicts that are made. -/
namespace PD
open PySem PySem.Spec PyProof.Rows L2
section
variable {X : Cx} {E : XW} {a b : Expr} {A B : ESem} {p p2 pos : Pos} {k : Nat}
/-! ### x += e of ints -/
def sAug (neg : Bool) (i : Nat) (A : ESem) : SSem := fun st => match st.env[i]? with
  | some (.v (.d (.int x))) => (A st).bind fun w s => (match w with
    | .v (.d (.int y)) => .ok .nx (s.setS i (.v (.d (.int (if neg then x - y else x + y)))))
    | _ => .bad)
  | _ => .bad
theorem aug_read {K : PySem.W.Frag} {neg : Bool} {i : Nat} {Dn : Ends} {σ : L2.St} {H : Hp} (h : tS K E (sAug neg i A) Dn σ H) : tAug i (tE K E A) (ipI fun x y => if neg then x - y else x + y) Dn σ H := by
  obtain ⟨c, rfl, o, h⟩ := h
  unfold sAug at h
  cases q : c.st.env[i]? with
  | none => simp only [q] at h; exact h.elim
  | some sl =>
    simp only [q] at h
    cases sl with
    | emp => exact h.elim
    | own _ => exact h.elim
    | v x =>
      cases x with
      | c n => exact h.elim
      | k x => exact h.elim
      | d x =>
        cases x with
        | int x =>
          have hi : i < σ.length := by rw [← o.len]; exact (List.getElem?_eq_some_iff.mp q).1
          obtain ⟨v, e1, q1⟩ := o.slot i _ _ q (List.getElem?_eq_getElem hi)
          have q1 : Rp c.G v (.int x) := q1
          cases q1
          refine ⟨.int x, by rw [List.getElem?_eq_getElem hi, e1], c, rfl, o, (PostS.bind rfl h).mono fun w c1 l1 o1 h1 u hu => ?_⟩
          cases w with
          | sl j => exact h1.elim
          | v y =>
            cases y with
            | c n => exact h1.elim
            | k y => exact h1.elim
            | d y =>
              cases y with
              | int y =>
                have hu : Rp c1.G u (.int y) := hu
                cases hu
                refine ⟨x, y, rfl, rfl, ?_⟩
                exact h1 (σ.set i (some (.int (if neg then x - y else x + y)))) { c1 with st := c1.st.setS i (.v (.d (.int (if neg then x - y else x + y)))) } (by rw [List.length_set]) (Le.st c1 _) rfl (o1.setV (x := .d (.int (if neg then x - y else x + y))) (Rp.int _))
              | _ => exact h1.elim
        | _ => exact h.elim
theorem s_augA {i : Nat} {x : Str} {pos' : Pos} (ha : PE X a (tE X.K E A)) (hN : X.N.Nodup) (hi : X.N[i]? = some x := by rfl) (hx : Loc X.env.scope x := by first | exact Or.inl rfl | exact Or.inr rfl)
    (hf : X.fn x = true ∨ X.env.scope.names.lookup x = some .local := by first | exact .inl rfl | exact .inr rfl | assumption) : PS X (.AugAssign (.Name x pos') .Add a pos) (tS X.K E (sAug false i A)) :=
  PS_imp (ps_aug hN hi hx ha ip_add hf) fun _ _ _ h => aug_read (neg := false) h
theorem s_augS {i : Nat} {x : Str} {pos' : Pos} (ha : PE X a (tE X.K E A)) (hN : X.N.Nodup) (hi : X.N[i]? = some x := by rfl) (hx : Loc X.env.scope x := by first | exact Or.inl rfl | exact Or.inr rfl)
    (hf : X.fn x = true ∨ X.env.scope.names.lookup x = some .local := by first | exact .inl rfl | exact .inr rfl | assumption) : PS X (.AugAssign (.Name x pos') .Sub a pos) (tS X.K E (sAug true i A)) :=
  PS_imp (ps_aug hN hi hx ha ip_sub hf) fun _ _ _ h => aug_read (neg := true) h
/-! ### list(range(..)), tuple(range(..)) -/
def rgOk (x y : Int) : Bool := small x && small y && decide ((y - x).toNat ≤ 2 ^ 24)
theorem rgOk_of {x y : Int} (h : rgOk x y = true) : RgOk x y := by
  unfold rgOk at h
  obtain ⟨h1, h3⟩ := Bool.and_eq_true_iff.mp h
  obtain ⟨h1, h2⟩ := Bool.and_eq_true_iff.mp h1
  obtain ⟨s1, s2⟩ := small_of h1
  obtain ⟨s3, s4⟩ := small_of h2
  exact ⟨s1, s2, s3, s4, of_decide_eq_true h3⟩
abbrev GSem := St → R St (Int × Int)
def tRg (K : PySem.W.Frag) (E : XW) (sem : GSem) : L2.St → Hp → (Int → Int → Hp → Prop) → Prop := fun σ H Q => ∃ c, c.H = H ∧ Ok K σ c ∧ Post K E σ c (sem c.st) fun q c' => Q q.1 q.2 c'.H
def intW? (w : W) : Option Int := match w with
  | .v (.d (.int i)) => some i
  | _ => none
def gR1 (A : ESem) : GSem := fun st => (A st).bind fun w s => match intW? w with
  | some j => .ok (0, j) s
  | none => .bad
def gR2 (A B : ESem) : GSem := fun st => (A st).bind fun w s => (B s).bind fun u s' => match intW? w, intW? u with
  | some i, some j => .ok (i, j) s'
  | _, _ => .bad
theorem intW_inv {w : W} {i : Int} (h : intW? w = some i) : w = .v (.d (.int i)) := by
  cases w with
  | sl j => cases h
  | v x => cases x with
    | c n => cases h
    | k x => cases h
    | d x => cases x <;> first | (cases h; rfl) | cases h
theorem PRg_imp {e : Expr} {t t' : L2.St → Hp → (Int → Int → Hp → Prop) → Prop} (h : PRg X e t) (i : ∀ σ H Q, t' σ H Q → t σ H Q) : PRg X e t' := fun pins s σ H Q I q => h pins s σ H Q I (i σ H Q q)
theorem g_r1 (hm : X.mg "range" = none) (ha : PE X a (tE X.K E A)) (hg : Gl X "range" := by rfl) (na : starEach [a] X.env = (false, eval a X.env) :: starEach [] X.env := by rfl) : PRg X (.Call (.Name "range" p) [a] [] pos) (tRg X.K E (gR1 A)) := by
  refine PRg_imp (prg_1 hg hm ha na) fun σ H Q h => ?_
  obtain ⟨c, rfl, o, h⟩ := h
  refine ⟨c, rfl, o, h.bind.mono fun w c1 l1 o1 h1 v hv => ?_⟩
  cases e : intW? w with
  | none => simp only [e] at h1; exact h1.elim
  | some i =>
    simp only [e] at h1
    obtain rfl := intW_inv e
    have hv : Rp c1.G v (.int i) := hv
    cases hv
    exact ⟨i, rfl, h1.here o1⟩
theorem g_r2 (hm : X.mg "range" = none) (ha : PE X a (tE X.K E A)) (hb : PE X b (tE X.K E B)) (hg : Gl X "range" := by rfl) (na : starEach [a, b] X.env = (false, eval a X.env) :: starEach [b] X.env := by rfl)
    (nb : starEach [b] X.env = (false, eval b X.env) :: starEach [] X.env := by rfl) (hp : (backTo pos (starEach [b] X.env)).any (·.1) = false := by rfl) : PRg X (.Call (.Name "range" p) [a, b] [] pos) (tRg X.K E (gR2 A B)) := by
  refine PRg_imp (prg_2 hg hm ha hb na nb hp) fun σ H Q h => ?_
  obtain ⟨c, rfl, o, h⟩ := h
  refine ⟨c, rfl, o, h.bind.mono fun w c1 l1 o1 h1 v hv => ?_⟩
  refine ⟨c1, rfl, o1, h1.bind.mono fun u c2 l2 o2 h2 z hz => ?_⟩
  have hv := hv.mono l2
  cases e : intW? w with
  | none => simp only [e] at h2; exact h2.elim
  | some i =>
    cases e2 : intW? u with
    | none => simp only [e, e2] at h2; exact h2.elim
    | some j =>
      simp only [e, e2] at h2
      obtain rfl := intW_inv e
      obtain rfl := intW_inv e2
      have hv : Rp c2.G v (.int i) := hv
      have hz : Rp c2.G z (.int j) := hz
      cases hv; cases hz
      exact ⟨i, j, rfl, rfl, h2.here o2⟩
theorem rg_rp {G : Hp} (x y : Int) : RpAll G (rgV x y) (rngD x (y - x).toNat) := by
  unfold rgV rngD
  generalize List.range (y - x).toNat = l
  induction l with
  | nil => exact .nil
  | cons i l ih => exact .cons (.int _) ih
def fRg (G : GSem) : FSem := fun st => (G st).bind fun q s => if rgOk q.1 q.2 = true then .ok (rngD q.1 (q.2 - q.1).toNat) s else .bad
theorem f_listRg {e : Expr} {G : GSem} (hc : X.calm = true) (hm : X.mg "list" = none) (he : PRg X e (tRg X.K E G)) (hg : Gl X "list" := by rfl) (na : starEach [e] X.env = (false, eval e X.env) :: starEach [] X.env := by rfl) :
    PE X (.Call (.Name "list" p) [e] [] pos) (tF X.K E (fRg G)) := by
  refine PE_imp (pe_listRg hc hg hm he na) fun σ H Q h => ?_
  obtain ⟨c, rfl, o, h⟩ := h
  refine ⟨c, rfl, o, h.bind.mono fun q c1 l1 o1 h1 => ?_⟩
  by_cases hk : rgOk q.1 q.2 = true
  · rw [if_pos hk] at h1
    exact ⟨rgOk_of hk, fun l hl => h1.here o1 l _ hl (rg_rp _ _)⟩
  · rw [if_neg hk] at h1; exact h1.elim
def eTupRg (G : GSem) : ESem := fun st => (G st).bind fun q s => if rgOk q.1 q.2 = true then retD (.tuple (rngD q.1 (q.2 - q.1).toNat)) s else .bad
theorem e_tupRg {e : Expr} {G : GSem} (hc : X.calm = true) (hm : X.mg "tuple" = none) (he : PRg X e (tRg X.K E G)) (hg : Gl X "tuple" := by rfl) (na : starEach [e] X.env = (false, eval e X.env) :: starEach [] X.env := by rfl) :
    PE X (.Call (.Name "tuple" p) [e] [] pos) (tE X.K E (eTupRg G)) := by
  refine PE_imp (pe_tupRg hc hg hm he na) fun σ H Q h => ?_
  obtain ⟨c, rfl, o, h⟩ := h
  refine ⟨c, rfl, o, h.bind.mono fun q c1 l1 o1 h1 => ?_⟩
  by_cases hk : rgOk q.1 q.2 = true
  · rw [if_pos hk] at h1
    exact ⟨rgOk_of hk, (retD_post h1).tup o1 (rg_rp _ _)⟩
  · rw [if_neg hk] at h1; exact h1.elim
/-! ### f() -/
theorem e_cl0 {f : Fn} {x : Str} (F : Df X.prog X.w X.K X.mg X.base k x f) (hr : Room k X.A) (tk : Takes X (Wx X.K E)) (hg : Gl X x := by rfl) (hdb : (x == ("__debug__" : Str)) = false := by decide) : PE X (.Call (.Name x p) [] [] pos) (tE X.K E (eCall f aNil)) := by
  obtain ⟨g, fd, ps, G, gm, kp, hb⟩ := F.ex
  refine ⟨fun pins s σ H Q I h => ?_⟩
  have h1 := call_read h
  have h2 : spD X.K f [] H Q (WE (Wx X.K E) σ) := by
    obtain ⟨c, rfl, o, h1⟩ := h1
    exact h1.here o [] .nil
  refine wpAny_Call_Name_kw (ld_glob I hg gm ?_ hdb)
  exact PySem.W.callWith_K0 I.kIn kp (run_fnS (us := []) G hr hb (passAt tk σ) I .nil h2)
/-! ### fresh dicts -/
abbrev MSem := St → R St (List (D × D))
def tM (K : PySem.W.Frag) (E : XW) (sem : MSem) : TE := fun σ H Q => ∃ c, c.H = H ∧ Ok K σ c ∧ Post K E σ c (sem c.st) fun kvs c' => ∀ p u, c'.H p = none → DictOk c'.G (upd c'.H p u) p kvs → Q (.ref p) (upd c'.H p u)
def mNil : MSem := fun st => .ok [] st
theorem m_nil : PE X (.Dict [] [] pos) (tM X.K E mNil) := PE_imp pe_dnewK fun σ H Q h => by
  obtain ⟨c, rfl, o, h⟩ := h
  exact fun p hp => h.here o p _ hp (.inl ⟨[], upd_same, .nil⟩)
/-- as a thing of one's own in slot i -/
def sSetM (i : Nat) (F : MSem) : SSem := fun st => (F st).bind fun kvs s => .ok .nx (s.setS i (.own (.dct kvs)))
theorem setM_read {K : PySem.W.Frag} {F : MSem} {i : Nat} {Dn : Ends} {σ : L2.St} {H : Hp} (h : tS K E (sSetM i F) Dn σ H) : tAsg (tM K E F) (gName i) Dn σ H := by
  obtain ⟨c, rfl, o, h⟩ := h
  refine ⟨c, rfl, o, (PostS.bind rfl h).mono fun kvs c1 l1 o1 h1 p u hp hd => ?_⟩
  have o3 := o1.setW (i := i) (u := u) (w := .dct kvs) hp hd
  exact h1 (σ.set i (some (.ref p))) { c1 with st := c1.st.setS i (.own (.dct kvs)), H := upd c1.H p u } (by rw [List.length_set]) ⟨rfl, rfl, rfl, Same.refl _, List.prefix_refl _⟩ rfl o3
theorem s_setM {F : MSem} {i : Nat} {x : Str} {pos' : Pos} (ha : PE X a (tM X.K E F)) (hN : X.N.Nodup) (hi : X.N[i]? = some x := by rfl) (hx : Loc X.env.scope x := by first | exact Or.inl rfl | exact Or.inr rfl) (hs : swapsWith a (some (.Name x pos')) pos.line X.env = pure false := by rfl)
    (hf : X.fn x = true ∨ X.env.scope.names.lookup x = some .local := by first | exact .inl rfl | exact .inr rfl | assumption) : PS X (.Assign [.Name x pos'] a pos) (tS X.K E (sSetM i F)) :=
  PS_imp (ps_set hN hi hx ha hs hf) fun _ _ _ h => setM_read h
/-- as a cell in slot i -/
def sSetMC (i : Nat) (F : MSem) : SSem := fun st => (F st).bind fun kvs s => .ok .nx ⟨s.env.set i (.v (.c s.mem.length)), s.mem ++ [.dct kvs]⟩
theorem setMC_read {K : PySem.W.Frag} {F : MSem} {i : Nat} {Dn : Ends} {σ : L2.St} {H : Hp} (h : tS K E (sSetMC i F) Dn σ H) : tAsg (tM K E F) (gName i) Dn σ H := by
  obtain ⟨c, rfl, o, h⟩ := h
  refine ⟨c, rfl, o, (PostS.bind rfl h).mono fun kvs c1 l1 o1 h1 p u hp hd => ?_⟩
  have o3 := (o1.newC (H' := upd c1.H p u) (ce := .dct kvs) hp (fun b u' e => by rw [upd_ne (ne_of_none e hp)]; exact e) hd).setV (i := i) (v := .ref p) (x := .c c1.st.mem.length) ⟨p, newC_at o1, rfl⟩
  exact h1 (σ.set i (some (.ref p))) { c1 with A := c1.A ++ [p], st := ⟨c1.st.env.set i (.v (.c c1.st.mem.length)), c1.st.mem ++ [.dct kvs]⟩, H := upd c1.H p u } (by rw [List.length_set]) ⟨rfl, rfl, rfl, Same.refl _, List.prefix_append _ _⟩ rfl o3
theorem s_setMC {F : MSem} {i : Nat} {x : Str} {pos' : Pos} (ha : PE X a (tM X.K E F)) (hN : X.N.Nodup) (hi : X.N[i]? = some x := by rfl) (hx : Loc X.env.scope x := by first | exact Or.inl rfl | exact Or.inr rfl) (hs : swapsWith a (some (.Name x pos')) pos.line X.env = pure false := by rfl)
    (hf : X.fn x = true ∨ X.env.scope.names.lookup x = some .local := by first | exact .inl rfl | exact .inr rfl | assumption) : PS X (.Assign [.Name x pos'] a pos) (tS X.K E (sSetMC i F)) :=
  PS_imp (ps_set hN hi hx ha hs hf) fun _ _ _ h => setMC_read h
/-- x.get(k), x.get(k, d) -/
theorem post_view {K : PySem.W.Frag} {σ : L2.St} {c : Cf} (o : Ok K σ c) {w : W} {v : V} {kvs : List (D × D)} (h : WOk K σ c v w) (e : view c.st w = some (.dict kvs)) : ∃ a, v = .ref a ∧ DictRd c.G c.H a kvs := view_ok o h e
end
end PD

set_option Elab.async false
set_option linter.all false
set_option maxRecDepth 100000
set_option maxHeartbeats 1000000
/-! PDOwn: a def that returns a new list, and its caller, which has the list for itself. -/
namespace PD
open PySem PySem.Spec PyProof.Rows L2
section
variable {X : Cx} {E : XW} {pos p : Pos} {a : Expr} {As : ASem} {f : Fn} {k : Nat} {x : Str} {e : Expr} {es : List Expr}
/-- return a new list: as the last cell -/
def sRetC (F : FSem) : SSem := fun st => (F st).bind fun xs s => .ok (.rt (.c s.mem.length)) ⟨s.env, s.mem ++ [.lst xs]⟩
theorem s_retC {F : FSem} (ha : PE X a (tF X.K E F)) : PS X (.Return (some a) pos) (tS X.K E (sRetC F)) := by
  refine PS_imp (ps_ret ha) fun D σ H h => ?_
  obtain ⟨c, rfl, o, h⟩ := h
  refine ⟨c, rfl, o, (PostS.bind rfl h).mono fun xs c1 l1 o1 h1 p vs hp hv => ?_⟩
  have o2 := o1.newC (H' := upd c1.H p (.lst vs)) (ce := .lst xs) hp (fun b u e => by rw [upd_ne (ne_of_none e hp)]; exact e) ⟨vs, upd_same, hv⟩
  exact h1 σ { c1 with A := c1.A ++ [p], st := ⟨c1.st.env, c1.st.mem ++ [.lst xs]⟩, H := upd c1.H p (.lst vs) } (.ref p) rfl ⟨rfl, rfl, rfl, Same.refl _, List.prefix_append _ _⟩ rfl o2 ⟨p, newC_at o1, rfl⟩
/-- nothing of this kind has cells in it -/
def Cell.bare : Cell → Bool
  | .obj _ _ => false
  | .rows _ => false
  | .drows _ => false
  | _ => true
/-- the call's new list: the last cell, that the caller takes -/
def adopt (m0 : Nat) (x : Dv) (mem : List Cell) : Option (List D × List Cell) := match x with
  | .c n => (match mem.getLast? with
    | some (.lst ds) => if n + 1 = mem.length ∧ m0 ≤ n ∧ mem.all Cell.bare = true then some (ds, mem.dropLast) else none
    | _ => none)
  | _ => none
def fCall (f : Fn) (As : ASem) : FSem := fun st => (As st).bind fun ws s => (forceV ws s).bind fun xs s1 => match f xs s1.mem with
  | .ok x mem' => (match adopt s1.mem.length x mem' with
    | some q => .ok q.1 { s1 with mem := q.2 }
    | none => .bad)
  | .exc n mem' => .exc n { s1 with mem := mem' }
  | .bad => .bad
theorem adopt_inv {m0 : Nat} {x : Dv} {mem : List Cell} {q : List D × List Cell} (h : adopt m0 x mem = some q) : x = .c (mem.length - 1) ∧ mem = q.2 ++ [.lst q.1] ∧ m0 ≤ q.2.length ∧ mem.all Cell.bare = true := by
  unfold adopt at h
  cases x with
  | d x => cases h
  | k x => cases h
  | c n =>
    cases e : mem.getLast? with
    | none => simp only [e] at h; cases h
    | some ce =>
      simp only [e] at h
      cases ce with
      | lst ds =>
        by_cases hk : n + 1 = mem.length ∧ m0 ≤ n ∧ mem.all Cell.bare = true
        · have h : (if n + 1 = mem.length ∧ m0 ≤ n ∧ mem.all Cell.bare = true then some (ds, mem.dropLast) else none) = some q := h
          rw [if_pos hk] at h
          cases h
          obtain ⟨k1, k2, k3⟩ := hk
          have e2 : mem = mem.dropLast ++ [.lst ds] := by
            obtain ⟨ys, rfl⟩ := List.getLast?_eq_some_iff.mp e
            simp
          exact ⟨by congr 1; omega, e2, by rw [List.length_dropLast]; show m0 ≤ mem.length - 1; omega, k3⟩
        · have h : (if n + 1 = mem.length ∧ m0 ≤ n ∧ mem.all Cell.bare = true then some (ds, mem.dropLast) else none) = some q := h
          rw [if_neg hk] at h
          cases h
      | _ => cases h
/-- back in the caller, the last cell taken -/
theorem ok_backF {K : PySem.W.Frag} {σ : L2.St} {c : Cf} (o : Ok K σ c) {G' H' : Hp} {A' : List Addr} {mem1 : List Cell} {ds : List D} (h : Ok K [] (cf0 c.H c.A c.G G' A' (mem1 ++ [.lst ds]) H')) (g : Same c.G G') (pr : c.A <+: A') (hm : c.st.mem.length ≤ mem1.length)
    (hb : (mem1 ++ [Cell.lst ds]).all Cell.bare = true) : ∃ p vs A1, A'[mem1.length]? = some p ∧ H' p = some (.lst vs) ∧ RpAll G' vs ds ∧ c.A <+: A1 ∧
      Ok K σ ⟨c.H0, c.A0, c.G0, G', A1, { c.st with mem := mem1 }, fun b => if b = p then none else H' b⟩ := by
  have hl : A'.length = mem1.length + 1 := by
    have := h.alen
    rw [show (cf0 c.H c.A c.G G' A' (mem1 ++ [.lst ds]) H').A = A' from rfl, show (cf0 c.H c.A c.G G' A' (mem1 ++ [.lst ds]) H').st.mem = mem1 ++ [.lst ds] from rfl] at this
    simpa using this
  obtain ⟨A1, p, rfl⟩ : ∃ A1 p, A' = A1 ++ [p] := by
    rcases List.eq_nil_or_concat A' with e | ⟨A1, p, e⟩
    · rw [e] at hl; simp at hl
    · exact ⟨A1, p, by rw [e, List.concat_eq_append]⟩
  have hl1 : A1.length = mem1.length := by simpa using hl
  have ep : (A1 ++ [p])[mem1.length]? = some p := by rw [← hl1, List.getElem?_append_right (Nat.le_refl _), Nat.sub_self]; rfl
  have em : (mem1 ++ [Cell.lst ds])[mem1.length]? = some (.lst ds) := by rw [List.getElem?_append_right (Nat.le_refl _), Nat.sub_self]; rfl
  obtain ⟨vs, hp, hr⟩ := h.cell _ _ _ em ep
  have gp : G' p = none := h.agn _ _ _ em ep rfl
  have oal : c.A.length = c.st.mem.length := o.alen
  have pr1 : c.A <+: A1 := List.prefix_of_prefix_length_le pr (List.prefix_append _ _) (by omega)
  have nod : (A1 ++ [p]).Nodup := h.anod
  have np1 : p ∉ A1 := fun z => by
    have := List.nodup_append.mp nod
    exact this.2.2 p z p (by simp) rfl
  have npA : p ∉ c.A := fun z => np1 (pr1.subset z)
  have hp0 : c.H p = none := by
    rcases h.new p (by show p ∈ A1 ++ [p]; simp) with z | z
    · exact absurd z npA
    · exact z
  have hne : ∀ {b : Addr} {u : HO}, c.H b = some u → b ≠ p := fun {b u} e z => by rw [z, hp0] at e; cases e
  refine ⟨p, vs, A1, ep, hp, hr, pr1, ?_⟩
  have keep : ∀ {b : Addr}, b ≠ p → (if b = p then none else H' b) = H' b := fun hb => if_neg hb
  refine ⟨fun b u e => ?_, o.len, fun i s ov h1 h2 => ?_, o.apart, hl1, fun n ce a h1 h2 => ?_, ?_, fun n ce a h1 h2 nd => ?_, o.pre.trans pr1, fun b u h1 h2 => ?_, fun a ha => ?_, fun b u hb => ?_⟩
  · have hbp : b ≠ p := fun z => by rw [z] at e; rw [show G' p = some u from e] at gp; cases gp
    show (if b = p then none else H' b) = some u
    rw [if_neg hbp]
    exact h.sub b u e
  · have q := o.slot i s ov h1 h2
    cases s with
    | emp => trivial
    | v x =>
      obtain ⟨v, e, q⟩ := q
      exact ⟨v, e, q.mono g pr1⟩
    | own w =>
      obtain ⟨a, e, q1, q2, q3, q4⟩ := q
      obtain ⟨u, hu⟩ := q1.some
      have hk : H' a = some u := h.fr a u hu q3
      refine ⟨a, e, q1.mono g (by show c.H a = (if a = p then none else H' a); rw [if_neg (hne hu)]; exact hu.trans hk.symm), ?_, fun z => ?_, q4⟩
      · cases z : G' a with
        | none => exact z
        | some y =>
          rcases h.gnew a y z with z | z
          · rw [show c.G a = some y from z] at q2; cases q2
          · rcases z with z | z
            · rw [show c.H a = none from z] at hu; cases hu
            · exact absurd z q3
      · rcases h.new a (List.mem_append_left _ z) with z | z
        · exact q3 z
        · rw [show c.H a = none from z] at hu; cases hu
  · have h1 : mem1[n]? = some ce := h1
    have h2 : A1[n]? = some a := h2
    have hn1 : n < mem1.length := (List.getElem?_eq_some_iff.mp h1).1
    have hn2 : n < A1.length := (List.getElem?_eq_some_iff.mp h2).1
    have hap : a ≠ p := fun z => np1 (z ▸ List.mem_of_getElem? h2)
    have q : CellOk K G' (A1 ++ [p]) H' a ce := h.cell n ce a (by show (mem1 ++ [Cell.lst ds])[n]? = some ce; rw [List.getElem?_append_left hn1]; exact h1) (by show (A1 ++ [p])[n]? = some a; rw [List.getElem?_append_left hn2]; exact h2)
    have hbc := List.all_eq_true.mp hb ce (List.mem_append_left _ (List.mem_of_getElem? h1))
    cases ce with
    | lst xs =>
      obtain ⟨vs, q1, q2⟩ := q
      exact ⟨vs, by show (if a = p then none else H' a) = _; rw [if_neg hap]; exact q1, q2⟩
    | dct kvs =>
      rcases q with ⟨es, q1, q2⟩ | ⟨es, q1, q2⟩
      · exact .inl ⟨es, by show (if a = p then none else H' a) = _; rw [if_neg hap]; exact q1, q2⟩
      · exact .inr ⟨es, by show (if a = p then none else H' a) = _; rw [if_neg hap]; exact q1, q2⟩
    | obj C fs => cases hbc
    | rows ns => cases hbc
    | drows kvs => cases hbc
    | fz y =>
      obtain ⟨⟨u, q1⟩, q2⟩ := q
      exact ⟨⟨u, by show (if a = p then none else H' a) = _; rw [if_neg hap]; exact q1⟩, q2⟩
  · exact (List.nodup_append.mp nod).1
  · have h1 : mem1[n]? = some ce := h1
    have h2 : A1[n]? = some a := h2
    have hn1 : n < mem1.length := (List.getElem?_eq_some_iff.mp h1).1
    have hn2 : n < A1.length := (List.getElem?_eq_some_iff.mp h2).1
    exact h.agn n ce a (by show (mem1 ++ [Cell.lst ds])[n]? = some ce; rw [List.getElem?_append_left hn1]; exact h1) (by show (A1 ++ [p])[n]? = some a; rw [List.getElem?_append_left hn2]; exact h2) nd
  · show (if b = p then none else H' b) = some u
    by_cases hbA : b ∈ c.A
    · rcases o.new b hbA with z | z
      · exact absurd z h2
      · rw [show c.H0 b = some u from h1] at z; cases z
    · have hu := o.fr b u h1 h2
      rw [if_neg (hne hu)]
      exact h.fr b u hu hbA
  · rcases h.new a (List.mem_append_left _ ha) with z | z
    · exact o.new a z
    · exact .inr (o.hnone z)
  · rcases h.gnew b u hb with z | z
    · exact o.gnew b u z
    · rcases z with z | z
      · exact .inr (.inl (o.hnone z))
      · rcases o.new b z with y | y
        · exact .inr (.inr y)
        · exact .inr (.inl y)
theorem fcall_read {K : PySem.W.Frag} {σ : L2.St} {H : Hp} {Q : VK} (h : tF K E (fCall f As) σ H Q) : tA K E As σ H fun vs H1 => spD K f vs H1 Q (WE (Wx K E) σ) := by
  obtain ⟨c, rfl, o, h⟩ := h
  refine ⟨c, rfl, o, h.bind.mono fun ws c1 l1 o1 h1 vs hvs => ?_⟩
  cases q : forceV ws c1.st with
  | exc m t => exact absurd q forceV_exc
  | bad => rw [q] at h1; exact h1.elim
  | ok xs t =>
    rw [q] at h1
    obtain ⟨c2, l2, e2, o2, eh, r2⟩ := forceV_ok o1 hvs q
    rw [← eh]
    refine ⟨c2.G, c2.A, xs, c2.st.mem, ?_, r2, ?_⟩
    · have z := ok_bare o2
      exact ⟨z.sub, z.len, fun i s ov h => (nil_get h).elim, fun i j p q a h => (nil_get h).elim, z.alen, z.cell, z.anod, z.agn, List.prefix_refl _, fun b u h _ => h, fun a h => .inl h, fun b u h => .inl h⟩
    · have h1 : Post K E σ c1 (match f xs t.mem with
        | .ok x mem' => (match adopt t.mem.length x mem' with
          | some q => R.ok q.1 { t with mem := q.2 }
          | none => .bad)
        | .exc n mem' => .exc n { t with mem := mem' }
        | .bad => .bad) (fun xs c' => ∀ p vs, c'.H p = none → RpAll c'.G vs xs → Q (.ref p) (upd c'.H p (.lst vs))) := h1
      rw [← e2] at h1
      generalize f xs c2.st.mem = r at h1 ⊢
      cases r with
      | bad => exact h1.elim
      | exc n mem' =>
        intro G' A' H' hok g pr
        exact ⟨n, rfl, rfl, h1 ⟨c2.H0, c2.A0, c2.G0, G', A', { c2.st with mem := mem' }, H'⟩ (l2.trans ⟨rfl, rfl, rfl, g, pr⟩) rfl (ok_back o2 hok g pr)⟩
      | ok x mem' =>
        intro G' A' H' v hok g pr hv
        cases qa : adopt c2.st.mem.length x mem' with
        | none =>
          simp only [qa] at h1
          exact h1.elim
        | some q =>
          simp only [qa] at h1
          obtain ⟨ex, em, hm, hb⟩ := adopt_inv qa
          obtain ⟨ds, mem1⟩ := q
          have em : mem' = mem1 ++ [.lst ds] := em
          subst em
          subst ex
          obtain ⟨p, us, A1, ep, hp, hr, pr1, ok1⟩ := ok_backF o2 hok g pr hm hb
          obtain ⟨b, eb, rfl⟩ := hv
          have en : (mem1 ++ [Cell.lst ds]).length - 1 = mem1.length := by simp
          rw [en, ep] at eb
          cases eb
          have fin := h1 ⟨c2.H0, c2.A0, c2.G0, G', A1, { c2.st with mem := mem1 }, fun b => if b = p then none else H' b⟩ (l2.trans ⟨rfl, rfl, rfl, g, pr1⟩) rfl ok1 p us (if_pos rfl) hr
          have eH : upd (fun b => if b = p then none else H' b) p (.lst us) = H' := by
            funext b
            by_cases hb : b = p
            · rw [hb, upd_same, hp]
            · rw [upd_ne hb, if_neg hb]
          have fin : Q (.ref p) (upd (fun b => if b = p then none else H' b) p (.lst us)) := fin
          rw [eH] at fin
          exact fin
theorem f_call (F : Df X.prog X.w X.K X.mg X.base k x f) (hr : Room k X.A) (tk : Takes X (Wx X.K E)) (ha : PA X (e :: es) (tA X.K E As)) (hg : Gl X x := by rfl) (hdb : (x == ("__debug__" : Str)) = false := by decide)
    (he : starEach (e :: es) X.env = (false, eval e X.env) :: starEach es X.env := by rfl) (hpl : (backTo pos (starEach es X.env)).any (·.1) = false := by rfl) :
    PE X (.Call (.Name x p) (e :: es) [] pos) (tF X.K E (fCall f As)) := by
  obtain ⟨a, fd, ps, G, gm, kp, hb⟩ := F.ex
  exact PE_imp (pe_callS G hr hg gm kp hb (fun σ => passAt tk σ) ha hdb he hpl) fun σ H Q h => fcall_read h
end
end PD

set_option Elab.async false
set_option linter.all false
set_option maxRecDepth 100000
set_option maxHeartbeats 1000000
/-! PDDict: d.get, displays, copies, comprehensions of dicts. -/
namespace PD
open PySem PySem.Spec PyProof.Rows L2
section
variable {X : Cx} {E : XW} {a b c3 o : Expr} {A B C : ESem} {p p2 pos apos cpos : Pos} {k : Nat}
theorem len_type {pins : List (Addr × Obj)} {σ : L2.St} {H : Hp} {s : Shared} {d : Addr} {n : Nat} (I : Inv X pins σ H s) (g : LenG H d n) : s.TypeIs (.ref d) "dict" ∧ (∀ b, Value.ref d = .ref b → ∃ ob, s.heap.get? b = some ob ∧ ob.dict = none) ∧ (d == sysModules) = false := by
  rcases g with ⟨es, e, _⟩ | ⟨es, t, _⟩
  · obtain ⟨_, hd, vs, _, dd⟩ := dk_rd I.hok e
    refine ⟨dd.typeIs, fun b q => ?_, hd⟩
    cases q
    obtain ⟨ob, _, _, h1, h2, _⟩ := dd
    exact ⟨ob, h1, h2.2.1⟩
  · obtain ⟨_, hd, xs, _, dd⟩ := t.raw I.hok
    refine ⟨dd.typeIs, fun b q => ?_, hd⟩
    cases q
    obtain ⟨ob, _, _, h1, h2, _⟩ := dd
    exact ⟨ob, h1, h2.2.1⟩
/-! ### d.get(k), d.get(k, x) -/
def tGetG1 (td ty : TE) : TE := fun σ H Q => td σ H fun x H1 => ∃ a n, x = .ref a ∧ LenG H1 a n ∧ ty σ H1 fun y H2 => rGet1 x [y] H2 Q
def tGetG2 (td ty tx : TE) : TE := fun σ H Q => td σ H fun x H1 => ∃ a n, x = .ref a ∧ LenG H1 a n ∧ ty σ H1 fun y H2 => tx σ H2 fun z H3 => rGet2 x [y, z] H3 Q
theorem pe_getG1 {td ty : TE} (hu : X.A.units + 10 < cLine) (ho : PE X o td) (he : PE X a ty) (m : M1 X o "get" apos a cpos) : PE X (.Call (.Attribute o "get" apos) [a] [] cpos) (tGetG1 td ty) := by
  refine ⟨fun pins s σ H Q I h => ?_⟩
  refine wpAny_Call_method m.base m.few m.line PySem.F.plainAttrs_dict PySem.F.slot_dict_get PySem.F.type_dict_get (thn (ho.run pins s σ H _ I h) fun u s1 ⟨x, H1, I1, rx, d, n, ex, g, q1⟩ => ?_)
  subst ex
  obtain rfl : u = Value.ref d := rx
  obtain ⟨t1, t2, _⟩ := len_type I1 g
  refine ⟨t1, t2, ?_⟩
  rw [m.trees]
  exact Calls.callWith_builtin rfl (Calls.evalArgs_plain (Calls.spliced_cons (thn (he.run pins s1 σ H1 _ I1 q1) fun iv s2 ⟨y, H2, I2, ry, q2⟩ => Calls.spliced_nil (mt_get1 hu pins s2 σ H2 (.ref d) [y] (.ref d) [iv] Q I2 rfl (.cons ry .nil) q2))))
theorem pe_getG2 {td ty tx : TE} (hu : X.A.units + 10 < cLine) (ho : PE X o td) (he : PE X a ty) (hf : PE X b tx) (m : M2 X o "get" apos a b cpos) : PE X (.Call (.Attribute o "get" apos) [a, b] [] cpos) (tGetG2 td ty tx) := by
  refine ⟨fun pins s σ H Q I h => ?_⟩
  refine wpAny_Call_method m.base m.few m.line PySem.F.plainAttrs_dict PySem.F.slot_dict_get PySem.F.type_dict_get (thn (ho.run pins s σ H _ I h) fun u s1 ⟨x, H1, I1, rx, d, n, ex, g, q1⟩ => ?_)
  subst ex
  obtain rfl : u = Value.ref d := rx
  obtain ⟨t1, t2, _⟩ := len_type I1 g
  refine ⟨t1, t2, ?_⟩
  rw [m.trees]
  exact Calls.callWith_builtin rfl (Calls.evalArgs_plain (Calls.spliced_cons (thn (he.run pins s1 σ H1 _ I1 q1) fun iv s2 ⟨y, H2, I2, ry, q2⟩ => Calls.spliced_cons (thn (hf.run pins s2 σ H2 _ I2 q2) fun fv s3 ⟨z, H3, I3, rz, q3⟩ =>
    Calls.spliced_nil (mt_get2 hu pins s3 σ H3 (.ref d) [y, z] (.ref d) [iv, fv] Q I3 rfl (.cons ry (.cons rz .nil)) q3)))))
def eGet1 (A B : ESem) : ESem := fun st => (A st).bind fun w s1 => match view s1 w with
  | some (.dict _) => (B s1).bind fun u s2 => (match view s2 w, viewD s2 u with
    | some (.dict kvs), some x => if kkOk kvs x = true then retD ((lookD kvs x).getD .none) s2 else .bad
    | _, _ => .bad)
  | _ => .bad
def eGet2 (A B C : ESem) : ESem := fun st => (A st).bind fun w s1 => match view s1 w with
  | some (.dict _) => (B s1).bind fun u s2 => (C s2).bind fun z s3 => (forceD z s3).bind fun d s4 => (match view s4 w, viewD s4 u with
    | some (.dict kvs), some x => if kkOk kvs x = true then retD ((lookD kvs x).getD d) s4 else .bad
    | _, _ => .bad)
  | _ => .bad
theorem e_get1 (hr : Room k X.A) (ha : PE X a (tE X.K E A)) (hb : PE X b (tE X.K E B)) (h1 : attributeBase a "get" X.env (eval a X.env) = eval a X.env := by rfl)
    (h2 : ((backTo cpos (starEach [b] X.env)).all (fun x => !x.1) && (backToKw cpos (keywordEach [] X.env)).all (fun x => x.1.isSome) && decide (([b] : List Expr).length + ([] : List Keyword).length + (if ([] : List Keyword).isEmpty then 0 else 1) < 30)) = true := by rfl)
    (h3 : (apos.endLine == cpos.line) = true := by rfl) (h4 : backTo cpos (starEach [b] X.env) = [(false, eval b X.env)] := by rfl) : PE X (.Call (.Attribute a "get" apos) [b] [] cpos) (tE X.K E (eGet1 A B)) := by
  refine PE_imp (pe_getG1 (by have := hr.un; omega) ha hb ⟨h1, h2, h3, h4⟩) fun σ H Q h => ?_
  obtain ⟨c, rfl, o, h⟩ := h
  refine ⟨c, rfl, o, h.bind.mono fun w c1 l1 o1 h1 v hv => ?_⟩
  cases e : view c1.st w with
  | none => simp only [e] at h1; exact h1.elim
  | some x =>
    simp only [e] at h1
    cases x with
    | dict kvs0 =>
      obtain ⟨d, rfl, hd⟩ := view_ok o1 hv e
      refine ⟨d, _, rfl, lenG_of o1.sub hd, c1, rfl, o1, h1.bind.mono fun u c2 l2 o2 h2 z hz => ?_⟩
      have hv := hv.mono l2
      cases e1 : view c2.st w with
      | none => simp only [e1] at h2; exact h2.elim
      | some y =>
        cases e2 : viewD c2.st u with
        | none => simp only [e1, e2] at h2; cases y <;> exact h2.elim
        | some x =>
          simp only [e1, e2] at h2
          cases y with
          | dict kvs =>
            have h2 : Post X.K E σ c2 (if kkOk kvs x = true then retD ((lookD kvs x).getD .none) c2.st else .bad) (fun w c' => ∀ v, WOk X.K σ c' v w → Q v c'.H) := h2
            by_cases hk : kkOk kvs x = true
            · rw [if_pos hk] at h2
              obtain ⟨d', e', hd⟩ := view_ok o2 hv e1
              cases e'
              obtain ⟨ov, g, ro⟩ := gg_of o2.sub hd ((viewD_ok o2 hz e2).key hk) hk
              refine ⟨d, z, ov, rfl, rfl, g, ?_⟩
              cases ov with
              | none => cases e3 : lookD kvs x with
                | none => rw [e3] at h2; exact (retD_post h2).here o2 .non
                | some y => rw [e3] at ro; exact ro.elim
              | some v => cases e3 : lookD kvs x with
                | none => rw [e3] at ro; exact ro.elim
                | some y => rw [e3] at h2 ro; exact (retD_post h2).here o2 ro
            · rw [if_neg hk] at h2; exact h2.elim
          | _ => exact h2.elim
    | _ => exact h1.elim
theorem e_get2 (hr : Room k X.A) (ha : PE X a (tE X.K E A)) (hb : PE X b (tE X.K E B)) (hc : PE X c3 (tE X.K E C)) (h1 : attributeBase a "get" X.env (eval a X.env) = eval a X.env := by rfl)
    (h2 : ((backTo cpos (starEach [b, c3] X.env)).all (fun x => !x.1) && (backToKw cpos (keywordEach [] X.env)).all (fun x => x.1.isSome) && decide (([b, c3] : List Expr).length + ([] : List Keyword).length + (if ([] : List Keyword).isEmpty then 0 else 1) < 30)) = true := by rfl)
    (h3 : (apos.endLine == cpos.line) = true := by rfl) (h4 : backTo cpos (starEach [b, c3] X.env) = [(false, eval b X.env), (false, eval c3 X.env)] := by rfl) : PE X (.Call (.Attribute a "get" apos) [b, c3] [] cpos) (tE X.K E (eGet2 A B C)) := by
  refine PE_imp (pe_getG2 (by have := hr.un; omega) ha hb hc ⟨h1, h2, h3, h4⟩) fun σ H Q h => ?_
  obtain ⟨c, rfl, o, h⟩ := h
  refine ⟨c, rfl, o, h.bind.mono fun w c1 l1 o1 h1 v hv => ?_⟩
  cases e : view c1.st w with
  | none => simp only [e] at h1; exact h1.elim
  | some x =>
    simp only [e] at h1
    cases x with
    | dict kvs0 =>
      obtain ⟨d, rfl, hd⟩ := view_ok o1 hv e
      refine ⟨d, _, rfl, lenG_of o1.sub hd, c1, rfl, o1, h1.bind.mono fun u c2 l2 o2 h2 z hz => ?_⟩
      refine ⟨c2, rfl, o2, h2.bind.mono fun t c3 l3 o3 h3 y hy => ?_⟩
      obtain ⟨dd, c4, l4, o4, eh, hdd, h4⟩ := post_forceD o3 hy h3
      have hv := ((hv.mono l2).mono l3).mono l4
      have hz := (hz.mono l3).mono l4
      rw [← eh]
      cases e1 : view c4.st w with
      | none => simp only [e1] at h4; exact h4.elim
      | some y' =>
        cases e2 : viewD c4.st u with
        | none => simp only [e1, e2] at h4; cases y' <;> exact h4.elim
        | some x =>
          simp only [e1, e2] at h4
          cases y' with
          | dict kvs =>
            have h4 : Post X.K E σ c4 (if kkOk kvs x = true then retD ((lookD kvs x).getD dd) c4.st else .bad) (fun w c' => ∀ v, WOk X.K σ c' v w → Q v c'.H) := h4
            by_cases hk : kkOk kvs x = true
            · rw [if_pos hk] at h4
              obtain ⟨d', e', hd⟩ := view_ok o4 hv e1
              cases e'
              obtain ⟨ov, g, ro⟩ := gg_of o4.sub hd ((viewD_ok o4 hz e2).key hk) hk
              refine ⟨d, z, y, ov, rfl, rfl, g, ?_⟩
              cases ov with
              | none => cases e3 : lookD kvs x with
                | none => rw [e3] at h4; exact (retD_post h4).here o4 hdd
                | some y => rw [e3] at ro; exact ro.elim
              | some v => cases e3 : lookD kvs x with
                | none => rw [e3] at ro; exact ro.elim
                | some y => rw [e3] at h4 ro; exact (retD_post h4).here o4 ro
            · rw [if_neg hk] at h4; exact h4.elim
          | _ => exact h4.elim
    | _ => exact h1.elim
/-! ### {k: v}, the key a tuple -/
def tDisp1 (tk tv : TE) : TE := fun σ H Q => ∀ p, H p = none → tk σ (upd H p (.dK [])) fun y H1 => tv σ H1 fun z H2 => H2 p = some (.dK []) ∧ ∃ k b, goodN k = true ∧ y = .ref b ∧ Rp H2 (.ref b) k.data ∧
  (OkN p [(k, .ref b, z)] → Q (.ref p) (upd H2 p (dN p [(k, .ref b, z)])))
/-- what is asked of the one pair -/
def one1 (p : Addr) (Q : VK) (ps : List (V × V)) (H2 : Hp) : Prop := match ps with
  | [yz] => H2 p = some (.dK []) ∧ ∃ k b, goodN k = true ∧ yz.1 = .ref b ∧ Rp H2 (.ref b) k.data ∧ (OkN p [(k, .ref b, yz.2)] → Q (.ref p) (upd H2 p (dN p [(k, .ref b, yz.2)])))
  | _ => False
theorem pe_disp1 {tk tv : TE} (hu : X.A.units + 10 < cLine) (hk : PE X a tk) (hv : PE X b tv) : PE X (.Dict [some a] [b] pos) (tDisp1 tk tv) := by
  refine ⟨fun pins s σ H Q I q => ?_⟩
  have hn := I.hok.fresh (Nat.le_refl s.heap.objs.size)
  have I1 := I.laid (a := s.heap.objs.size) (o := .dK []) (h' := s.heap.push { cls := .type "dict", data := .dict #[] }) (t' := s.toks) (fun _ _ q => Heap.get?_push_of_some _ q) (Nat.le_refl _) (dk_empty s.heap I.big)
  have sh : (evalEachOpt [some a] X.env).zip ((evalEach [b] X.env).map fun (v : Sem Value) => (do let x ← v; standAt pos; pure x : Sem Value)) = ([(eval a X.env, (do let x ← eval b X.env; standAt pos; pure x : Sem Value))] : List (Sem Value × Sem Value)).map fun p => (some p.1, p.2) := by rfl
  rw [arm_eval_Dict, sh, dictDisplay_pairs _ (by simp) (by simp)]
  refine wpAny_bind (wpAny_standAt (wpAny_bind (wpAny_subDictH (knd := nestedKind X.prog X.w) (by show X.A.units + 8 < cLine; omega) (by simp) ?_)))
  have hrun := (pps_cons (pos := pos) hk hv (pps_nil (X := X) (pos := pos))).run pins { s with heap := s.heap.push { cls := .type "dict", data := .dict #[] } } σ _ (one1 s.heap.objs.size Q) I1 (q _ hn)
  · refine thn hrun fun ws s2 ⟨ps, H2, I2, rel, hq⟩ => ?_
    cases rel with
    | nil => exact hq.elim
    | @cons yz kv _ _ r1 r2 =>
      cases r2 with
      | cons _ _ => exact hq.elim
      | nil =>
      obtain ⟨y1, z1⟩ := yz
      obtain ⟨kv1, kv2⟩ := kv
      obtain ⟨e, k, b', g, ey, rk, go⟩ := hq
      have ey : y1 = V.ref b' := ey
      subst ey
      obtain ⟨ra, rb⟩ := r1
      obtain rfl : kv1 = Value.ref b' := ra
      have t : TabN H2 s.heap.objs.size [] := .inl ⟨rfl, e⟩
      obtain ⟨_, hd, xs, rel, dd⟩ := t.raw I2.hok
      cases rel
      refine ⟨[(k, b', kv2)], ⟨rfl, rfl, key_is I2.hok g rk, trivial⟩, dd, fun h' tk dk hs => wpAny_pure ?_⟩
      have N : OkN s.heap.objs.size [(k, .ref b', z1)] := ⟨by rw [sizeLine_eq]; simp, hd, by simp, fun q hq => by rw [List.mem_singleton.mp hq]; exact g, by simp⟩
      have he : ∃ q, h'.get? s.heap.objs.size = some q := let ⟨q, _, _, hq, _⟩ := dk; ⟨q, hq⟩
      exact ⟨.ref s.heap.objs.size, _, d_write I2 (by rw [e]; exact True.intro) hs he (dn_obj (phi_of (.cons ⟨rfl, rfl, rb⟩ .nil) N.good dk)), rfl, go N⟩
end
end PD

set_option Elab.async false
set_option linter.all false
set_option maxRecDepth 100000
set_option maxHeartbeats 1000000
/-! PDMath: what a plain computation shows: rules for reasoning backwards. -/
namespace PD
open PySem PySem.Spec PyProof.Rows L2

/-- an equation that simp does not take for a definition -/
theorem nrfl {α : Sort _} {a b : α} (h : a = b) : a = b := h
/-- a mark that keeps simp out of what comes later -/
inductive Kp {α : Sort _} {β : Sort _} (Q : α) (X : β) : Type
  | k
def wp {S α : Type} (r : R S α) (Q : α → S → Prop) (X : Str → S → Prop) (_ : Kp Q X := .k) : Prop := match r with
  | .ok a s => Q a s
  | .exc c s => X c s
  | .bad => False
/-- an option's value -/
def oq {α : Type} (o : Option α) (P : α → Prop) (_ : Kp P P := .k) : Prop := match o with
  | some a => P a
  | none => False
section
variable {S α β : Type} {Q Q' : α → S → Prop} {X X' : Str → S → Prop}
theorem and_iff {a b : Prop} (h : a) : (a ∧ b) = b := propext ⟨fun z => z.2, fun z => ⟨h, z⟩⟩
theorem and_no {a b : Prop} (h : ¬a) : (a ∧ b) = False := propext ⟨fun z => h z.1, False.elim⟩
theorem wp_fun {r : R S α} (h : ∀ a s, Q a s = Q' a s) : wp r Q X = wp r Q' X := by
  have e : Q = Q' := funext fun a => funext fun s => h a s
  subst e
  rfl
theorem oq_fun {o : Option α} {P P' : α → Prop} (h : ∀ a, P a = P' a) : oq o P = oq o P' := by
  have e : P = P' := funext fun a => h a
  subst e
  rfl
@[simp] theorem wp_ok {a : α} {s : S} : wp (.ok a s) Q X = Q a s := nrfl rfl
@[simp] theorem wp_exc {c : Str} {s : S} : wp (.exc c s : R S α) Q X = X c s := nrfl rfl
@[simp] theorem wp_bad : wp (.bad : R S α) Q X = False := nrfl rfl
@[simp] theorem wp_bind {r : R S β} {f : β → S → R S α} : wp (r.bind f) Q X = wp r (fun a s => wp (f a s) Q X) X := by cases r <;> rfl
theorem wp_ite {c : Prop} [Decidable c] {a b : R S α} : wp (if c then a else b) Q X = if c then wp a Q X else wp b Q X := by split <;> rfl
@[simp] theorem oq_some {a : α} {P : α → Prop} : oq (some a) P = P a := nrfl rfl
@[simp] theorem oq_none {P : α → Prop} : oq (none : Option α) P = False := nrfl rfl
@[simp] theorem oq_ite {c : Prop} [Decidable c] {o : Option α} {P : α → Prop} : oq (if c then o else none) P = (c ∧ oq o P) := by
  split
  · simp [*]
  · simp [*]
theorem wp_oq {o : Option β} {f : β → R S α} : wp (match o with | some a => f a | none => .bad) Q X = oq o fun a => wp (f a) Q X := by cases o <;> rfl
theorem wp.mono {r : R S α} (h : wp r Q X) (hq : ∀ a s, Q a s → Q' a s) (hx : ∀ c s, X c s → X' c s) : wp r Q' X' := by
  cases r with
  | ok a s => exact hq a s h
  | exc c s => exact hx c s h
  | bad => exact h
theorem wp.imp {r : R S α} (h : wp r Q X) (hq : ∀ a s, Q a s → Q' a s) : wp r Q' X := h.mono hq fun _ _ z => z
theorem wp_eq {r : R S α} {v : α} {m : S} : wp r (fun a s => a = v ∧ s = m) (fun _ _ => False) ↔ r = .ok v m := by
  cases r with
  | ok a s => exact ⟨fun ⟨h1, h2⟩ => by rw [h1, h2], fun h => by cases h; exact ⟨rfl, rfl⟩⟩
  | exc c s => exact ⟨False.elim, fun h => by cases h⟩
  | bad => exact ⟨False.elim, fun h => by cases h⟩
theorem wp_of_eq {r : R S α} {v : α} {m : S} (h : r = .ok v m) (q : Q v m) : wp r Q X := by rw [h]; exact q
end
section
variable {Q : W → St → Prop} {QB : Bool → St → Prop} {QL : List W → St → Prop} {QF : List D → St → Prop} {QS : Fl → St → Prop} {QO : Option Int → St → Prop} {X : Str → St → Prop}
variable {st : St} {A B C : ESem} {As : ASem} {T U : TSem} {F : FSem} {I : ISem} {P1 P2 : SSem} {i : Nat} {d : D}
/-! ### looking at values -/
@[simp] theorem view_d {x : D} : view st (.v (.d x)) = some x := nrfl rfl
@[simp] theorem view_k {x : D} : view st (.v (.k x)) = some x := nrfl rfl
@[simp] theorem viewD_d {x : D} : viewD st (.v (.d x)) = some x := nrfl rfl
def slD : Option Slot → Option D
  | some (.own w) => some w.data
  | some (.v (.d x)) => some x
  | _ => none
@[simp] theorem slD_own {xs : List D} : slD (some (.own (.lst xs))) = some (.list xs) := nrfl rfl
@[simp] theorem slD_ownd {xs : List (D × D)} : slD (some (.own (.dct xs))) = some (.dict xs) := nrfl rfl
@[simp] theorem slD_v {x : D} : slD (some (.v (.d x))) = some x := nrfl rfl
@[simp] theorem view_sl : view st (.sl i) = slD st.env[i]? := by
  unfold view slD
  first
  | done
  | (dsimp only; done)
  | (dsimp only
     cases st.env[i]? with
     | none => rfl
     | some s => cases s with
       | v x => cases x <;> rfl
       | _ => rfl)
@[simp] theorem viewD_sl : viewD st (.sl i) = slD st.env[i]? := view_sl
def ceD : Option Cell → Option D
  | some (.lst xs) => some (.list xs)
  | some (.dct xs) => some (.dict xs)
  | some (.fz x) => some x
  | _ => none
@[simp] theorem ceD_some {xs : List D} : ceD (some (.lst xs)) = some (.list xs) := nrfl rfl
@[simp] theorem ceD_fz {x : D} : ceD (some (.fz x)) = some x := nrfl rfl
@[simp] theorem ceD_dct {xs : List (D × D)} : ceD (some (.dct xs)) = some (.dict xs) := nrfl rfl
@[simp] theorem view_c {n : Nat} : view st (.v (.c n)) = ceD st.mem[n]? := by
  show (st.mem[n]?).bind Cell.data = _
  cases st.mem[n]? with
  | none => rfl
  | some c => cases c <;> rfl
@[simp] theorem viewD_c {n : Nat} : viewD st (.v (.c n)) = ceD st.mem[n]? := view_c
/-! ### expressions -/
def slW (i : Nat) : Option Slot → Option W
  | some (.v x) => some (.v x)
  | some (.own _) => some (.sl i)
  | _ => none
@[simp] theorem slW_v {x : Dv} : slW i (some (.v x)) = some (.v x) := nrfl rfl
@[simp] theorem slW_own {w : Own} : slW i (some (.own w)) = some (.sl i) := nrfl rfl
@[simp] theorem wp_eVar : wp (eVar i st) Q X = oq (slW i st.env[i]?) fun w => Q w st := by
  unfold eVar
  cases st.env[i]? with
  | none => rfl
  | some s => cases s <;> rfl
@[simp] theorem wp_eC : wp (eC d st) Q X = Q (.v (.d d)) st := nrfl rfl
@[simp] theorem wp_retD : wp (retD d st) Q X = Q (.v (.d d)) st := nrfl rfl
@[simp] theorem wp_dat1 {f : D → Option D} {w : W} : wp (dat1 f w st) Q X = oq (view st w) fun x => oq (f x) fun d => Q (.v (.d d)) st := by
  unfold dat1
  cases view st w with
  | none => rfl
  | some x =>
    show wp (match f x with | some d => retD d st | none => .bad) Q X = oq (f x) _
    cases f x <;> rfl
@[simp] theorem wp_dat2 {f : D → D → Option D} {w u : W} : wp (dat2 f w u st) Q X = oq (view st w) fun x => oq (view st u) fun y => oq (f x y) fun d => Q (.v (.d d)) st := by
  unfold dat2
  cases view st w with
  | none => rfl
  | some x =>
    cases view st u with
    | none => rfl
    | some y =>
      show wp (match f x y with | some d => retD d st | none => .bad) Q X = oq (f x y) _
      cases f x y <;> rfl
@[simp] theorem wp_dat2D {f : D → D → Option D} {w u : W} : wp (dat2D f w u st) Q X = oq (viewD st w) fun x => oq (viewD st u) fun y => oq (f x y) fun d => Q (.v (.d d)) st := by
  unfold dat2D
  cases viewD st w with
  | none => rfl
  | some x =>
    cases viewD st u with
    | none => rfl
    | some y =>
      show wp (match f x y with | some d => retD d st | none => .bad) Q X = oq (f x y) _
      cases f x y <;> rfl
@[simp] theorem wp_dat2L {f : D → D → Option D} {w u : W} : wp (dat2L f w u st) Q X = oq (viewD st w) fun x => oq (view st u) fun y => oq (f x y) fun d => Q (.v (.d d)) st := by
  unfold dat2L
  cases viewD st w with
  | none => rfl
  | some x =>
    cases view st u with
    | none => rfl
    | some y =>
      show wp (match f x y with | some d => retD d st | none => .bad) Q X = oq (f x y) _
      cases f x y <;> rfl
@[simp] theorem wp_dat2R {f : D → D → Option D} {w u : W} : wp (dat2R f w u st) Q X = oq (view st w) fun x => oq (viewD st u) fun y => oq (f x y) fun d => Q (.v (.d d)) st := by
  unfold dat2R
  cases view st w with
  | none => rfl
  | some x =>
    cases viewD st u with
    | none => rfl
    | some y =>
      show wp (match f x y with | some d => retD d st | none => .bad) Q X = oq (f x y) _
      cases f x y <;> rfl
@[simp] theorem wp_eOp2 {f : W → W → St → R St W} : wp (eOp2 f A B st) Q X = wp (A st) (fun wa s1 => wp (B s1) (fun wb s2 => wp (f wa wb s2) Q X) X) X := by unfold eOp2; repeat (first | rfl | (rw [wp_bind]; done) | (rw [wp_bind]; refine wp_fun fun _ _ => ?_))
@[simp] theorem wp_eUn {g : D → Option D} : wp (eUn g A st) Q X = wp (A st) (fun w s => wp (dat1 g w s) Q X) X := by unfold eUn; repeat (first | rfl | (rw [wp_bind]; done) | (rw [wp_bind]; refine wp_fun fun _ _ => ?_))
def bq (w : W) (P : Bool → Prop) (_ : Kp P P := .k) : Prop := match w with
  | .v (.d (.bool b)) => P b
  | _ => False
@[simp] theorem bq_b {b : Bool} {P : Bool → Prop} : bq (.v (.d (.bool b))) P = P b := nrfl rfl
@[simp] theorem wp_tOfE : wp (tOfE A st) QB X = wp (A st) (fun w s => bq w fun b => QB b s) X := by
  unfold tOfE
  rw [wp_bind]
  refine wp_fun fun w s => ?_
  cases w with
  | sl i => rfl
  | v x => cases x with
    | d x => cases x <;> rfl
    | _ => rfl
@[simp] theorem wp_tTruth : wp (tTruth A st) QB X = wp (A st) (fun w s => oq (view s w) fun d => oq (dTruth d) fun b => QB b s) X := by
  unfold tTruth
  rw [wp_bind]
  refine wp_fun fun w s => ?_
  cases view s w with
  | none => rfl
  | some d =>
    show wp (match dTruth d with | some b => .ok b s | none => .bad) QB X = oq (dTruth d) _
    cases dTruth d <;> rfl
@[simp] theorem wp_tNotS : wp (tNotS T st) QB X = wp (T st) (fun b s => QB (!b) s) X := by unfold tNotS; repeat (first | rfl | (rw [wp_bind]; done) | (rw [wp_bind]; refine wp_fun fun _ _ => ?_))
@[simp] theorem wp_tYesS : wp (tYesS st) QB X = QB true st := nrfl rfl
@[simp] theorem wp_tAndS : wp (tAndS T U st) QB X = wp (T st) (fun b s => if b = true then wp (U s) QB X else QB false s) X := by
  unfold tAndS
  rw [wp_bind]
  refine wp_fun fun b s => ?_
  cases b <;> rfl
@[simp] theorem wp_tOrS : wp (tOrS T U st) QB X = wp (T st) (fun b s => if b = true then QB true s else wp (U s) QB X) X := by
  unfold tOrS
  rw [wp_bind]
  refine wp_fun fun b s => ?_
  cases b <;> rfl
@[simp] theorem wp_eAnd : wp (eAnd A B st) Q X = wp (A st) (fun w s => bq w fun b => if b = true then wp (B s) Q X else Q (.v (.d (.bool false))) s) X := by
  unfold eAnd
  rw [wp_bind]
  refine wp_fun fun w s => ?_
  cases w with
  | sl i => rfl
  | v x => cases x with
    | d x => cases x with
      | bool b => cases b <;> rfl
      | _ => rfl
    | _ => rfl
@[simp] theorem wp_eOr : wp (eOr A B st) Q X = wp (A st) (fun w s => bq w fun b => if b = true then Q (.v (.d (.bool true))) s else wp (B s) Q X) X := by
  unfold eOr
  rw [wp_bind]
  refine wp_fun fun w s => ?_
  cases w with
  | sl i => rfl
  | v x => cases x with
    | d x => cases x with
      | bool b => cases b <;> rfl
      | _ => rfl
    | _ => rfl
@[simp] theorem wp_eNot : wp (eNot A st) Q X = wp (tTruth A st) (fun b s => Q (.v (.d (.bool (!b)))) s) X := by unfold eNot; repeat (first | rfl | (rw [wp_bind]; done) | (rw [wp_bind]; refine wp_fun fun _ _ => ?_))
@[simp] theorem wp_eIf : wp (eIf T A B st) Q X = wp (T st) (fun b s => if b = true then wp (A s) Q X else wp (B s) Q X) X := by
  unfold eIf
  rw [wp_bind]
  refine wp_fun fun b s => ?_
  cases b <;> rfl
@[simp] theorem wp_eChain {f g : W → W → St → R St W} : wp (eChain f g A B C st) Q X =
    wp (A st) (fun wa s1 => wp (B s1) (fun wb s2 => wp (f wa wb s2) (fun r s3 => bq r fun b => if b = true then wp (C s3) (fun wc s4 => wp (g wb wc s4) Q X) X else Q (.v (.d (.bool false))) s3) X) X) X := by
  unfold eChain
  rw [wp_bind]
  refine wp_fun fun wa s1 => ?_
  rw [wp_bind]
  refine wp_fun fun wb s2 => ?_
  rw [wp_bind]
  refine wp_fun fun w s => ?_
  cases w with
  | sl i => rfl
  | v x => cases x with
    | d x => cases x with
      | bool b => cases b <;> simp [bq, wp_bind]
      | _ => rfl
    | _ => rfl
@[simp] theorem vI_n : vI (some .none) = some .none := nrfl rfl
@[simp] theorem vI_b {b : Bool} : vI (some (.bool b)) = some (.bool b) := nrfl rfl
@[simp] theorem vI_i {i : Int} : vI (some (.int i)) = some (.int i) := nrfl rfl
@[simp] theorem vI_s {z : Str} : vI (some (.str z)) = some (.str z) := nrfl rfl
@[simp] theorem vI_l {xs : List D} : vI (some (.list xs)) = some (.list xs) := nrfl rfl
@[simp] theorem vI_t {xs : List D} : vI (some (.tuple xs)) = some (.tuple xs) := nrfl rfl
@[simp] theorem wp_eIsi {Y : Ty} : wp (eIsi Y A st) Q X = wp (A st) (fun w s => oq (vI (viewD s w)) fun x => Q (.v (.d (.bool (isTy Y x)))) s) X := by
  unfold eIsi
  rw [wp_bind]
  refine wp_fun fun w s => ?_
  cases vI (viewD s w) <;> rfl
@[simp] theorem wp_aNil : wp (aNil st) QL X = QL [] st := nrfl rfl
@[simp] theorem wp_aCons : wp (aCons A As st) QL X = wp (A st) (fun w s => wp (As s) (fun ws s2 => QL (w :: ws) s2) X) X := by unfold aCons; repeat (first | rfl | (rw [wp_bind]; done) | (rw [wp_bind]; refine wp_fun fun _ _ => ?_))
@[simp] theorem wp_eCB {f : List W → St → R St W} : wp (eCB f As st) Q X = wp (As st) (fun ws s => wp (f ws s) Q X) X := by unfold eCB; repeat (first | rfl | (rw [wp_bind]; done) | (rw [wp_bind]; refine wp_fun fun _ _ => ?_))
@[simp] theorem wp_cb1 {g : D → Option D} {w : W} : wp (cb1 g [w] st) Q X = wp (dat1 g w st) Q X := nrfl rfl
@[simp] theorem wp_cb2 {g : D → D → Option D} {w u : W} : wp (cb2 g [w, u] st) Q X = wp (dat2 g w u st) Q X := nrfl rfl
/-! ### freezing -/
def slF (i : Nat) (env : List Slot) (mem : List Cell) : Option Slot → Option (Dv × St)
  | some (.own (.lst xs)) => some (.d (.list xs), ⟨env.set i (.v (.d (.list xs))), mem⟩)
  | some (.v x) => some (x, ⟨env, mem⟩)
  | _ => none
@[simp] theorem slF_own {env : List Slot} {mem : List Cell} {xs : List D} : slF i env mem (some (.own (.lst xs))) = some (.d (.list xs), ⟨env.set i (.v (.d (.list xs))), mem⟩) := nrfl rfl
@[simp] theorem slF_v {env : List Slot} {mem : List Cell} {x : Dv} : slF i env mem (some (.v x)) = some (x, ⟨env, mem⟩) := nrfl rfl
@[simp] theorem wp_force_v {x : Dv} {QV : Dv → St → Prop} : wp (force (.v x) st) QV X = QV x st := nrfl rfl
@[simp] theorem wp_force_sl {QV : Dv → St → Prop} : wp (force (.sl i) st) QV X = oq (slF i st.env st.mem st.env[i]?) fun p => QV p.1 p.2 := by
  unfold force
  dsimp only
  cases st.env[i]? with
  | none => rfl
  | some s => cases s with
    | own w => cases w <;> rfl
    | _ => rfl
def dvD : Dv → Option D
  | .d d => some d
  | _ => none
@[simp] theorem dvD_d {x : D} : dvD (.d x) = some x := nrfl rfl
@[simp] theorem wp_forceD {w : W} {QD : D → St → Prop} : wp (forceD w st) QD X = wp (force w st) (fun x s => oq (dvD x) fun d => QD d s) X := by
  unfold forceD
  rw [wp_bind]
  refine wp_fun fun x s => ?_
  cases x <;> rfl
@[simp] theorem wp_forceV_nil {QV : List Dv → St → Prop} : wp (forceV [] st) QV X = QV [] st := nrfl rfl
@[simp] theorem wp_forceV_cons {w : W} {ws : List W} {QV : List Dv → St → Prop} : wp (forceV (w :: ws) st) QV X = wp (force w st) (fun x s => wp (forceV ws s) (fun xs s2 => QV (x :: xs) s2) X) X := by
  show wp ((force w st).bind fun x s => (forceV ws s).bind fun xs s' => .ok (x :: xs) s') QV X = _
  repeat (first | rfl | (rw [wp_bind]; done) | (rw [wp_bind]; refine wp_fun fun _ _ => ?_))
@[simp] theorem wp_forceAll_nil {QV : List D → St → Prop} : wp (forceAll [] st) QV X = QV [] st := nrfl rfl
@[simp] theorem wp_forceAll_cons {w : W} {ws : List W} {QV : List D → St → Prop} : wp (forceAll (w :: ws) st) QV X = wp (forceD w st) (fun x s => wp (forceAll ws s) (fun xs s2 => QV (x :: xs) s2) X) X := by
  show wp ((forceD w st).bind fun x s => (forceAll ws s).bind fun xs s' => .ok (x :: xs) s') QV X = _
  repeat (first | rfl | (rw [wp_bind]; done) | (rw [wp_bind]; refine wp_fun fun _ _ => ?_))
/-! ### locking -/
def slZ (i : Nat) (env : List Slot) (mem : List Cell) : Option Slot → Option (D × St)
  | some (.own u) => some (u.data, ⟨env.set i (.v (.d u.data)), mem⟩)
  | some (.v (.d x)) => some (x, ⟨env, mem⟩)
  | _ => none
@[simp] theorem slZ_l {env : List Slot} {mem : List Cell} {xs : List D} : slZ i env mem (some (.own (.lst xs))) = some (.list xs, ⟨env.set i (.v (.d (.list xs))), mem⟩) := nrfl rfl
@[simp] theorem slZ_d {env : List Slot} {mem : List Cell} {xs : List (D × D)} : slZ i env mem (some (.own (.dct xs))) = some (.dict xs, ⟨env.set i (.v (.d (.dict xs))), mem⟩) := nrfl rfl
@[simp] theorem slZ_v {env : List Slot} {mem : List Cell} {x : D} : slZ i env mem (some (.v (.d x))) = some (x, ⟨env, mem⟩) := nrfl rfl
def ceZ (n : Nat) (env : List Slot) (mem : List Cell) : Option Cell → Option (D × St)
  | some (.lst xs) => some (.list xs, ⟨env, mem.set n (.fz (.list xs))⟩)
  | some (.dct kvs) => some (.dict kvs, ⟨env, mem.set n (.fz (.dict kvs))⟩)
  | some (.fz x) => some (x, ⟨env, mem⟩)
  | _ => none
@[simp] theorem ceZ_l {n : Nat} {env : List Slot} {mem : List Cell} {xs : List D} : ceZ n env mem (some (.lst xs)) = some (.list xs, ⟨env, mem.set n (.fz (.list xs))⟩) := nrfl rfl
@[simp] theorem ceZ_d {n : Nat} {env : List Slot} {mem : List Cell} {xs : List (D × D)} : ceZ n env mem (some (.dct xs)) = some (.dict xs, ⟨env, mem.set n (.fz (.dict xs))⟩) := nrfl rfl
@[simp] theorem ceZ_z {n : Nat} {env : List Slot} {mem : List Cell} {x : D} : ceZ n env mem (some (.fz x)) = some (x, ⟨env, mem⟩) := nrfl rfl
@[simp] theorem fzW_sl {env : List Slot} {mem : List Cell} : fzW (.sl i) ⟨env, mem⟩ = slZ i env mem env[i]? := by
  unfold fzW slZ
  first
  | done
  | (dsimp only; done)
  | (dsimp only
     cases env[i]? with
     | none => rfl
     | some s => cases s with
       | v x => cases x <;> rfl
       | _ => rfl)
@[simp] theorem fzW_d {x : D} : fzW (.v (.d x)) st = some (x, st) := nrfl rfl
@[simp] theorem fzW_c {n : Nat} {env : List Slot} {mem : List Cell} : fzW (.v (.c n)) ⟨env, mem⟩ = ceZ n env mem mem[n]? := by
  unfold fzW ceZ
  first
  | done
  | (dsimp only; done)
  | (dsimp only
     cases mem[n]? with
     | none => rfl
     | some s => cases s <;> rfl)
@[simp] theorem wp_eFz : wp (eFz A st) Q X = wp (A st) (fun w s => oq (fzW w s) fun p => Q (.v (.d p.1)) p.2) X := by
  unfold eFz
  rw [wp_bind]
  refine wp_fun fun w s => ?_
  cases fzW w s <;> rfl
/-! ### fresh lists -/
@[simp] theorem wp_eOfF : wp (eOfF F st) Q X = wp (F st) (fun xs s => Q (.v (.d (.list xs))) s) X := by unfold eOfF; repeat (first | rfl | (rw [wp_bind]; done) | (rw [wp_bind]; refine wp_fun fun _ _ => ?_))
@[simp] theorem wp_fLst : wp (fLst As st) QF X = wp (As st) (fun ws s => ws.length ≤ 1000 ∧ wp (forceAll ws s) QF X) X := by
  unfold fLst
  rw [wp_bind]
  refine wp_fun fun ws s => ?_
  by_cases h : ws.length ≤ 1000
  · rw [if_pos h, and_iff h]
  · rw [if_neg h, and_no h]
    rfl
@[simp] theorem wp_eTup : wp (eTup As st) Q X = wp (As st) (fun ws s => ws.length ≤ 1000 ∧ wp (forceAll ws s) (fun xs s' => Q (.v (.d (.tuple xs))) s') X) X := by
  unfold eTup
  rw [wp_bind]
  refine wp_fun fun ws s => ?_
  by_cases h : ws.length ≤ 1000
  · rw [if_pos h, and_iff h, wp_bind]
    rfl
  · rw [if_neg h, and_no h]
    rfl
def seqD : D → Option (List D)
  | .list xs => some xs
  | .tuple xs => some xs
  | _ => none
@[simp] theorem seqD_l {xs : List D} : seqD (.list xs) = some xs := nrfl rfl
@[simp] theorem seqD_t {xs : List D} : seqD (.tuple xs) = some xs := nrfl rfl
@[simp] theorem wp_fListOf : wp (fListOf A st) QF X = wp (A st) (fun w s => oq (view s w) fun x => oq (seqD x) fun xs => QF xs s) X := by
  unfold fListOf
  rw [wp_bind]
  refine wp_fun fun w s => ?_
  cases view s w with
  | none => rfl
  | some x => cases x <;> rfl
def lstD : D → Option (List D)
  | .list xs => some xs
  | _ => none
@[simp] theorem lstD_l {xs : List D} : lstD (.list xs) = some xs := nrfl rfl
@[simp] theorem wp_fAdd : wp (fAdd A B st) QF X = wp (A st) (fun w s => wp (B s) (fun u s2 => oq (viewD s2 w) fun x => oq (lstD x) fun xs => oq (viewD s2 u) fun y => oq (lstD y) fun ys => xs.length + ys.length ≤ sizeLine ∧ QF (xs ++ ys) s2) X) X := by
  unfold fAdd
  rw [wp_bind]
  refine wp_fun fun w s => ?_
  rw [wp_bind]
  refine wp_fun fun u s2 => ?_
  cases viewD s2 w with
  | none => rfl
  | some x =>
    cases x with
    | list xs =>
      cases viewD s2 u with
      | none => rfl
      | some y =>
        cases y with
        | list ys =>
          show wp (if xs.length + ys.length ≤ sizeLine then .ok (xs ++ ys) s2 else .bad) QF X = _
          by_cases h : xs.length + ys.length ≤ sizeLine
          · rw [if_pos h]; simp [h]
          · rw [if_neg h]; simp [h]
        | _ => rfl
    | _ => cases viewD s2 u <;> rfl
/-! ### lists in place -/
def ceL : Option Cell → Option (List D)
  | some (.lst xs) => some xs
  | _ => none
@[simp] theorem ceL_some {xs : List D} : ceL (some (.lst xs)) = some xs := nrfl rfl
def slL : Option Slot → Option (List D)
  | some (.own (.lst xs)) => some xs
  | _ => none
@[simp] theorem slL_own {xs : List D} : slL (some (.own (.lst xs))) = some xs := nrfl rfl
@[simp] theorem getL_sl : getL (.sl i) st = slL st.env[i]? := by
  unfold getL slL
  first
  | done
  | (dsimp only; done)
  | (dsimp only
     cases st.env[i]? with
     | none => rfl
     | some s => cases s with
       | own w => cases w <;> rfl
       | _ => rfl)
@[simp] theorem getL_c {n : Nat} : getL (.v (.c n)) st = ceL st.mem[n]? := by
  unfold getL ceL
  first
  | done
  | (dsimp only; done)
  | (dsimp only
     cases st.mem[n]? with
     | none => rfl
     | some c => cases c <;> rfl)
@[simp] theorem wp_putL_sl {xs : List D} {QU : Unit → St → Prop} : wp (putL (.sl i) xs st) QU X = oq (slL st.env[i]?) fun _ => QU () ⟨st.env.set i (.own (.lst xs)), st.mem⟩ := by
  show wp (match st.env[i]? with | some (.own (.lst _)) => R.ok () (st.setS i (.own (.lst xs))) | _ => .bad) QU X = oq (slL st.env[i]?) _
  cases st.env[i]? with
  | none => rfl
  | some s => cases s with
    | own w => cases w <;> rfl
    | _ => rfl
@[simp] theorem wp_putL_c {n : Nat} {xs : List D} {QU : Unit → St → Prop} : wp (putL (.v (.c n)) xs st) QU X = oq (ceL st.mem[n]?) fun _ => QU () ⟨st.env, st.mem.set n (.lst xs)⟩ := by
  show wp (match st.mem[n]? with | some (.lst _) => R.ok () { st with mem := st.mem.set n (.lst xs) } | _ => .bad) QU X = oq (ceL st.mem[n]?) _
  cases st.mem[n]? with
  | none => rfl
  | some c => cases c <;> rfl
@[simp] theorem wp_eApp : wp (eApp A B st) Q X = wp (A st) (fun w s1 => oq (getL w s1) fun _ => wp (B s1) (fun u s2 => wp (forceD u s2) (fun d s3 => oq (getL w s3) fun xs => xs.length < sizeLine ∧ wp (putL w (xs ++ [d]) s3) (fun _ s4 => Q (.v (.d .none)) s4) X) X) X) X := by
  unfold eApp
  rw [wp_bind]
  refine wp_fun fun w s1 => ?_
  cases getL w s1 with
  | none => rfl
  | some _ =>
    show wp ((B s1).bind _) Q X = _
    rw [wp_bind]
    refine wp_fun fun u s2 => ?_
    rw [wp_bind]
    refine wp_fun fun d s3 => ?_
    cases getL w s3 with
    | none => rfl
    | some xs =>
      simp only [oq_some]
      by_cases h : xs.length < sizeLine
      · rw [if_pos h, and_iff h, wp_bind]
        rfl
      · rw [if_neg h, and_no h]
        rfl
/-! ### statements -/
@[simp] theorem wp_sNext : wp (sNext st) QS X = QS .nx st := nrfl rfl
@[simp] theorem wp_sBreak : wp (sBreak st) QS X = QS .bk st := nrfl rfl
@[simp] theorem wp_sCont : wp (sCont st) QS X = QS .ct st := nrfl rfl
@[simp] theorem wp_sRetN : wp (sRetN st) QS X = QS (.rt (.d .none)) st := nrfl rfl
@[simp] theorem wp_sRaise {n : Str} : wp (sRaise n st) QS X = X n st := nrfl rfl
/-- goes on behind a statement -/
def fq (f : Fl) (P : Prop) (Z : Fl → Prop) (_ : Kp P Z := .k) : Prop := match f with
  | .nx => P
  | f => Z f
@[simp] theorem fq_nx {P : Prop} {Z : Fl → Prop} : fq .nx P Z = P := nrfl rfl
@[simp] theorem fq_rt {P : Prop} {Z : Fl → Prop} {x : Dv} : fq (.rt x) P Z = Z (.rt x) := nrfl rfl
@[simp] theorem fq_bk {P : Prop} {Z : Fl → Prop} : fq .bk P Z = Z .bk := nrfl rfl
@[simp] theorem fq_ct {P : Prop} {Z : Fl → Prop} : fq .ct P Z = Z .ct := nrfl rfl
@[simp] theorem wp_sSeq : wp (sSeq P1 P2 st) QS X = wp (P1 st) (fun f s => fq f (wp (P2 s) QS X) fun f => QS f s) X := by
  unfold sSeq
  rw [wp_bind]
  refine wp_fun fun f s => ?_
  cases f <;> rfl
@[simp] theorem wp_sIf : wp (sIf T P1 P2 st) QS X = wp (T st) (fun b s => if b = true then wp (P1 s) QS X else wp (P2 s) QS X) X := by
  unfold sIf
  rw [wp_bind]
  refine wp_fun fun b s => ?_
  cases b <;> rfl
@[simp] theorem wp_sExpr : wp (sExpr A st) QS X = wp (A st) (fun _ s => QS .nx s) X := by unfold sExpr; repeat (first | rfl | (rw [wp_bind]; done) | (rw [wp_bind]; refine wp_fun fun _ _ => ?_))
@[simp] theorem wp_sRet : wp (sRet A st) QS X = wp (A st) (fun w s => wp (force w s) (fun x s' => QS (.rt x) s') X) X := by unfold sRet; repeat (first | rfl | (rw [wp_bind]; done) | (rw [wp_bind]; refine wp_fun fun _ _ => ?_))
@[simp] theorem setS_mk {env : List Slot} {mem : List Cell} {s : Slot} : St.setS ⟨env, mem⟩ i s = ⟨env.set i s, mem⟩ := nrfl rfl
@[simp] theorem wp_sSet : wp (sSet i A st) QS X = wp (A st) (fun w s => wp (force w s) (fun x s' => QS .nx (s'.setS i (.v x))) X) X := by unfold sSet; repeat (first | rfl | (rw [wp_bind]; done) | (rw [wp_bind]; refine wp_fun fun _ _ => ?_))
@[simp] theorem wp_sSetO : wp (sSetO i F st) QS X = wp (F st) (fun xs s => QS .nx (s.setS i (.own (.lst xs)))) X := by unfold sSetO; repeat (first | rfl | (rw [wp_bind]; done) | (rw [wp_bind]; refine wp_fun fun _ _ => ?_))
@[simp] theorem wp_sSetF : wp (sSetF i F st) QS X = wp (F st) (fun xs s => QS .nx (s.setS i (.v (.d (.list xs))))) X := by unfold sSetF; repeat (first | rfl | (rw [wp_bind]; done) | (rw [wp_bind]; refine wp_fun fun _ _ => ?_))
@[simp] theorem wp_sSetC : wp (sSetC i F st) QS X = wp (F st) (fun xs s => QS .nx ⟨s.env.set i (.v (.c s.mem.length)), s.mem ++ [.lst xs]⟩) X := by unfold sSetC; repeat (first | rfl | (rw [wp_bind]; done) | (rw [wp_bind]; refine wp_fun fun _ _ => ?_))
def intW : W → Option Int
  | .v (.d (.int k)) => some k
  | _ => none
@[simp] theorem intW_i {k : Int} : intW (.v (.d (.int k))) = some k := nrfl rfl
/-! ### putting -/
def slC : Option Slot → Option Own
  | some (.own u) => some u
  | _ => none
@[simp] theorem slC_own {u : Own} : slC (some (.own u)) = some u := nrfl rfl
def ceC : Option Cell → Option Own
  | some (.lst xs) => some (.lst xs)
  | some (.dct kvs) => some (.dct kvs)
  | _ => none
@[simp] theorem ceC_l {xs : List D} : ceC (some (.lst xs)) = some (.lst xs) := nrfl rfl
@[simp] theorem ceC_d {xs : List (D × D)} : ceC (some (.dct xs)) = some (.dct xs) := nrfl rfl
@[simp] theorem getC_sl : getC (.sl i) st = slC st.env[i]? := by
  unfold getC slC
  first
  | done
  | (dsimp only; done)
  | (dsimp only
     cases st.env[i]? with
     | none => rfl
     | some s => cases s <;> rfl)
@[simp] theorem getC_c {n : Nat} : getC (.v (.c n)) st = ceC st.mem[n]? := by
  unfold getC ceC
  first
  | done
  | (dsimp only; done)
  | (dsimp only
     cases st.mem[n]? with
     | none => rfl
     | some c => cases c <;> rfl)
@[simp] theorem getC_d {x : D} : getC (.v (.d x)) st = none := nrfl rfl
@[simp] theorem putC_sl {u : Own} {env : List Slot} {mem : List Cell} : putC (.sl i) u ⟨env, mem⟩ = ⟨env.set i (.own u), mem⟩ := nrfl rfl
@[simp] theorem putC_c {u : Own} {n : Nat} {env : List Slot} {mem : List Cell} : putC (.v (.c n)) u ⟨env, mem⟩ = ⟨env, mem.set n u.cell⟩ := nrfl rfl
@[simp] theorem cell_l {xs : List D} : Own.cell (.lst xs) = .lst xs := nrfl rfl
@[simp] theorem cell_d {xs : List (D × D)} : Own.cell (.dct xs) = .dct xs := nrfl rfl
def putU (u : Own) (o i : W) (d : D) (st : St) (P : St → Prop) (_ : Kp P P := .k) : Prop := match u with
  | .lst xs => oq (intW i) fun k => oq (ixN xs.length k) fun j => P (putC o (.lst (xs.set j d)) st)
  | .dct kvs => oq (viewD st i) fun kd => kkOk kvs kd = true ∧ kvs.length < sizeLine ∧ P (putC o (.dct (putD kvs kd d)) st)
@[simp] theorem putU_l {xs : List D} {o i : W} {d : D} {P : St → Prop} : putU (.lst xs) o i d st P = oq (intW i) fun k => oq (ixN xs.length k) fun j => P (putC o (.lst (xs.set j d)) st) := nrfl rfl
@[simp] theorem putU_d {kvs : List (D × D)} {o i : W} {d : D} {P : St → Prop} : putU (.dct kvs) o i d st P = oq (viewD st i) fun kd => kkOk kvs kd = true ∧ kvs.length < sizeLine ∧ P (putC o (.dct (putD kvs kd d)) st) := nrfl rfl
@[simp] theorem oq_put {o i : W} {d : D} {P : St → Prop} : oq (putD? o i d st) P = oq (getC o st) fun u => putU u o i d st P := by
  unfold putD?
  cases getC o st with
  | none => rfl
  | some u =>
    cases u with
    | lst xs =>
      cases i with
      | sl n => rfl
      | v x => cases x with
        | d y => cases y with
          | int k =>
            show oq ((ixN xs.length k).map fun j => putC o (.lst (xs.set j d)) st) P = oq (ixN xs.length k) fun j => P (putC o (.lst (xs.set j d)) st)
            cases ixN xs.length k <;> rfl
          | _ => rfl
        | _ => rfl
    | dct kvs =>
      simp only [putU_d, oq_some]
      cases viewD st i with
      | none => rfl
      | some kd =>
        show oq (if (kkOk kvs kd && decide (kvs.length < sizeLine)) = true then some (putC o (.dct (putD kvs kd d)) st) else none) P = (kkOk kvs kd = true ∧ kvs.length < sizeLine ∧ P (putC o (.dct (putD kvs kd d)) st))
        rw [oq_ite, Bool.and_eq_true_iff, decide_eq_true_eq, and_assoc]
        rfl
@[simp] theorem wp_sPut {O J : ESem} : wp (sPut A O J st) QS X = wp (A st) (fun w s1 => wp (O s1) (fun o s2 => wp (J s2) (fun i s3 => wp (forceD w s3) (fun d s4 => oq (putD? o i d s4) fun s5 => QS .nx s5) X) X) X) X := by
  unfold sPut
  rw [wp_bind]
  refine wp_fun fun w s1 => ?_
  rw [wp_bind]
  refine wp_fun fun o s2 => ?_
  rw [wp_bind]
  refine wp_fun fun i s3 => ?_
  rw [wp_bind]
  refine wp_fun fun d s4 => ?_
  cases putD? o i d s4 <;> rfl
@[simp] theorem put_nm {x : D} {env : List Slot} {mem : List Cell} : Bd.put (.nm i) x ⟨env, mem⟩ = some ⟨env.set i (.v (.d x)), mem⟩ := nrfl rfl
@[simp] theorem put_tup {is : List Nat} {ds : List D} : Bd.put (.tup is) (.tuple ds) st = setAll is ds st := nrfl rfl
@[simp] theorem setAll_nil : setAll [] [] st = some st := nrfl rfl
@[simp] theorem setAll_cons {is : List Nat} {ds : List D} {env : List Slot} {mem : List Cell} : setAll (i :: is) (d :: ds) ⟨env, mem⟩ = setAll is ds ⟨env.set i (.v (.d d)), mem⟩ := nrfl rfl
@[simp] theorem wp_sUnp {is : List Nat} : wp (sUnp is A st) QS X = wp (A st) (fun w s => wp (forceD w s) (fun d s' => oq (Bd.put (.tup is) d s') fun s2 => QS .nx s2) X) X := by
  unfold sUnp
  rw [wp_bind]
  refine wp_fun fun w s => ?_
  rw [wp_bind]
  refine wp_fun fun d s' => ?_
  cases Bd.put (.tup is) d s' <;> rfl
@[simp] theorem dvSeq_l {xs : List D} : dvSeq (.d (.list xs)) = some xs := nrfl rfl
@[simp] theorem dvSeq_t {xs : List D} : dvSeq (.d (.tuple xs)) = some xs := nrfl rfl
@[simp] theorem dvSeq_d {kvs : List (D × D)} : dvSeq (.d (.dict kvs)) = some (kvs.map (·.1)) := nrfl rfl
@[simp] theorem dvSeq_s {z : Str} : dvSeq (.d (.str z)) = some (strD z) := nrfl rfl
@[simp] theorem dvSeq_kl {xs : List D} : dvSeq (.k (.list xs)) = some xs := nrfl rfl
@[simp] theorem dvSeq_kt {xs : List D} : dvSeq (.k (.tuple xs)) = some xs := nrfl rfl
@[simp] theorem wp_iSeq : wp (iSeq A st) QF X = wp (A st) (fun w s => wp (force w s) (fun x s' => oq (dvSeq x) fun xs => QF xs s') X) X := by
  unfold iSeq
  rw [wp_bind]
  refine wp_fun fun w s => ?_
  rw [wp_bind]
  refine wp_fun fun x s' => ?_
  cases dvSeq x <;> rfl
@[simp] theorem wp_iRng1 : wp (iRng1 A st) QF X = wp (A st) (fun w s => oq (intW w) fun j => small j = true ∧ QF (rngD 0 j.toNat) s) X := by
  unfold iRng1
  rw [wp_bind]
  refine wp_fun fun w s => ?_
  cases w with
  | sl n => rfl
  | v x => cases x with
    | d y => cases y with
      | int j =>
        show wp (if small j = true then .ok (rngD 0 j.toNat) s else .bad) QF X = (small j = true ∧ QF (rngD 0 j.toNat) s)
        by_cases h : small j = true
        · rw [if_pos h]; simp [h]
        · rw [if_neg h]; simp [h]
      | _ => rfl
    | _ => rfl
@[simp] theorem wp_iRng2 : wp (iRng2 A B st) QF X = wp (A st) (fun w s => wp (B s) (fun u s' => oq (intW w) fun i => oq (intW u) fun j => small i = true ∧ small j = true ∧ QF (rngD i (j - i).toNat) s') X) X := by
  unfold iRng2
  rw [wp_bind]
  refine wp_fun fun w s => ?_
  rw [wp_bind]
  refine wp_fun fun u s' => ?_
  cases w with
  | sl n => rfl
  | v x => cases x with
    | d y => cases y with
      | int i =>
        cases u with
        | sl n => rfl
        | v z => cases z with
          | d z => cases z with
            | int j =>
              show wp (if (small i && small j) = true then .ok (rngD i (j - i).toNat) s' else .bad) QF X = (small i = true ∧ small j = true ∧ QF (rngD i (j - i).toNat) s')
              cases h1 : small i <;> cases h2 : small j <;> simp
            | _ => rfl
          | _ => rfl
      | _ => cases u with
        | sl n => rfl
        | v z => cases z with
          | d z => cases z <;> rfl
          | _ => rfl
    | _ => cases u with
      | sl n => rfl
      | v z => cases z with
        | d z => cases z <;> rfl
        | _ => rfl
@[simp] theorem wp_sFor {bd : Bd} {body : SSem} : wp (sFor I bd body st) QS X = wp (I st) (fun ds s => wp (loop bd body ds s) QS X) X := by unfold sFor; repeat (first | rfl | (rw [wp_bind]; done) | (rw [wp_bind]; refine wp_fun fun _ _ => ?_))
/-- an item of a loop -/
def turnQ (N : St → Prop) (QS : Fl → St → Prop) (f : Fl) (s : St) (_ : Kp N QS := .k) : Prop := match f with
  | .nx => N s
  | .ct => N s
  | .bk => QS .nx s
  | .rt v => QS (.rt v) s
@[simp] theorem turnQ_nx {N : St → Prop} {s : St} : turnQ N QS .nx s = N s := nrfl rfl
@[simp] theorem turnQ_ct {N : St → Prop} {s : St} : turnQ N QS .ct s = N s := nrfl rfl
@[simp] theorem turnQ_bk {N : St → Prop} {s : St} : turnQ N QS .bk s = QS .nx s := nrfl rfl
@[simp] theorem turnQ_rt {N : St → Prop} {s : St} {v : Dv} : turnQ N QS (.rt v) s = QS (.rt v) s := nrfl rfl
theorem wp_loop_nil {bd : Bd} {body : SSem} : wp (loop bd body [] st) QS X = QS .nx st := rfl
theorem wp_loop_cons {bd : Bd} {body : SSem} {x : D} {xs : List D} : wp (loop bd body (x :: xs) st) QS X = oq (bd.put x st) fun s1 => wp (body s1) (fun f s => turnQ (fun s2 => wp (loop bd body xs s2) QS X) QS f s) X := by
  show wp (match bd.put x st with | none => .bad | some s1 => (body s1).bind fun f s2 => match f with
      | .nx => loop bd body xs s2
      | .ct => loop bd body xs s2
      | .bk => .ok .nx s2
      | .rt v => .ok (.rt v) s2) QS X = _
  cases bd.put x st with
  | none => rfl
  | some s1 =>
    show wp ((body s1).bind _) QS X = wp (body s1) _ X
    rw [wp_bind]
    refine wp_fun fun f s2 => ?_
    cases f <;> rfl
/-- a loop by what holds between its items -/
theorem wp_loop {bd : Bd} {body : SSem} {xs : List D} (Inv : List D → List D → St → Prop) (h0 : Inv [] xs st)
    (hs : ∀ done x rest s, xs = done ++ x :: rest → Inv done (x :: rest) s → oq (bd.put x s) fun s1 => wp (body s1) (fun f s => turnQ (Inv (done ++ [x]) rest) QS f s) X)
    (hd : ∀ s, Inv xs [] s → QS .nx s) : wp (loop bd body xs st) QS X := by
  have key : ∀ rest done s, xs = done ++ rest → Inv done rest s → wp (loop bd body rest s) QS X := by
    intro rest
    induction rest with
    | nil =>
      intro done s e h
      rw [List.append_nil] at e
      rw [wp_loop_nil]
      exact hd s (e ▸ h)
    | cons x rest ih =>
      intro done s e h
      rw [wp_loop_cons]
      have h1 := hs done x rest s e h
      cases q : bd.put x s with
      | none => rw [q] at h1; exact h1.elim
      | some s1 =>
        rw [q] at h1
        refine wp.imp h1 fun f s2 h2 => ?_
        cases f with
        | nx => exact ih _ _ (by simp [e]) h2
        | ct => exact ih _ _ (by simp [e]) h2
        | bk => exact h2
        | rt v => exact h2
  exact key xs [] st rfl h0
/-- a loop whose items are the numbers of a range -/
theorem wp_loop_rng {bd : Bd} {body : SSem} {lo : Int} {n : Nat} (Inv : Nat → St → Prop) (h0 : Inv 0 st)
    (hs : ∀ i s, i < n → Inv i s → oq (bd.put (.int (lo + i)) s) fun s1 => wp (body s1) (fun f s => turnQ (Inv (i + 1)) QS f s) X)
    (hd : ∀ s, Inv n s → QS .nx s) : wp (loop bd body (rngD lo n) st) QS X := by
  refine wp_loop (fun done rest s => Inv done.length s) h0 (fun done x rest s e h => ?_) fun s h => ?_
  · have hl : done.length < n := by
      have := congrArg List.length e
      simp [rngD] at this
      omega
    have ex : x = .int (lo + done.length) := by
      have h1 : (rngD lo n)[done.length]? = some x := by rw [e]; simp
      have h2 : (rngD lo n)[done.length]? = some (.int (lo + done.length)) := by simp [rngD, hl]
      rw [h1] at h2
      exact Option.some.inj h2
    subst ex
    have h1 := hs done.length s hl h
    cases q : bd.put (PyData.int (lo + done.length)) s with
    | none => rw [q] at h1; exact h1.elim
    | some s1 =>
      rw [q] at h1
      exact wp.imp h1 fun f s2 h2 => by cases f <;> simpa [turnQ] using h2
  · have : (rngD lo n).length = n := by simp [rngD]
    rw [this] at h
    exact hd s h
/-! ### comprehensions -/
@[simp] theorem wp_fLc {own : List Nat} {bd : Bd} : wp (fLc I own bd T A st) QF X = wp (I st) (fun items s => okWipe own s.env = true ∧ items.length ≤ sizeLine ∧ wp (comp own bd T A items (s.wipe own)) (fun ds s' => QF ds { s' with env := restore own s.env s'.env }) X) X := by
  unfold fLc
  rw [wp_bind]
  refine wp_fun fun items s => ?_
  by_cases h : (okWipe own s.env && decide (items.length ≤ sizeLine)) = true
  · rw [if_pos h]
    rw [Bool.and_eq_true_iff, decide_eq_true_eq] at h
    simp [h.1, h.2]
    rfl
  · rw [if_neg h]
    rw [Bool.and_eq_true_iff, decide_eq_true_eq] at h
    simp only [wp_bad]
    refine (propext ⟨False.elim, fun ⟨h1, h2, _⟩ => h ⟨h1, h2⟩⟩)
abbrev nX : Str → St → Prop := fun _ _ => False
theorem wp_noX' {α : Type} {r : R St α} {Q : α → St → Prop} : wp (noX r) Q X = wp r Q nX := by cases r <;> rfl
theorem wp_comp_nil {own : List Nat} {bd : Bd} : wp (comp own bd T A [] st) QF X = QF [] st := rfl
theorem wp_comp_cons {own : List Nat} {bd : Bd} {x : D} {xs : List D} : wp (comp own bd T A (x :: xs) st) QF X = oq (bd.put x st) fun s1 => wp (T s1) (fun b s2 => if b = true then
    wp (A s2) (fun w s3 => wp (forceD w s3) (fun d s4 => wp (comp own bd T A xs (s4.wipe own)) (fun ds s5 => QF (d :: ds) s5) X) X) nX else wp (comp own bd T A xs (s2.wipe own)) QF X) nX := by
  show wp (match bd.put x st with
    | none => .bad
    | some s1 => (noX (T s1)).bind fun b s2 => if b = true then (noX (A s2)).bind fun w s3 => (forceD w s3).bind fun d s4 => (comp own bd T A xs (s4.wipe own)).bind fun ds s5 => .ok (d :: ds) s5
      else comp own bd T A xs (s2.wipe own)) QF X = _
  cases bd.put x st with
  | none => rfl
  | some s1 =>
    show wp ((noX (T s1)).bind _) QF X = wp (T s1) _ nX
    rw [wp_bind, wp_noX']
    refine wp_fun fun b s2 => ?_
    cases b with
    | true =>
      show wp ((noX (A s2)).bind _) QF X = wp (A s2) _ nX
      rw [wp_bind, wp_noX']
      refine wp_fun fun _ _ => ?_
      repeat (first | rfl | (rw [wp_bind]; done) | (rw [wp_bind]; refine wp_fun fun _ _ => ?_))
    | false => rfl
/-- a comprehension by what holds between its items -/
theorem wp_comp {own : List Nat} {bd : Bd} {xs : List D} (Inv : List D → List D → List D → St → Prop) (h0 : Inv [] xs [] st)
    (hs : ∀ done x rest out s, xs = done ++ x :: rest → Inv done (x :: rest) out s → oq (bd.put x s) fun s1 => wp (T s1) (fun b s2 => if b = true then
      wp (A s2) (fun w s3 => wp (forceD w s3) (fun d s4 => Inv (done ++ [x]) rest (out ++ [d]) (s4.wipe own)) nX) nX else Inv (done ++ [x]) rest out (s2.wipe own)) nX)
    (hd : ∀ out s, Inv xs [] out s → QF out s) : wp (comp own bd T A xs st) QF X := by
  have key : ∀ rest done out s, xs = done ++ rest → Inv done rest out s → wp (comp own bd T A rest s) (fun ds s' => QF (out ++ ds) s') X := by
    intro rest
    induction rest with
    | nil =>
      intro done out s e h
      rw [List.append_nil] at e
      rw [wp_comp_nil, List.append_nil]
      exact hd out s (e ▸ h)
    | cons x rest ih =>
      intro done out s e h
      rw [wp_comp_cons]
      have h1 := hs done x rest out s e h
      cases q : bd.put x s with
      | none => rw [q] at h1; exact h1.elim
      | some s1 =>
        rw [q] at h1
        refine wp.imp h1 fun b s2 h2 => ?_
        cases b with
        | true =>
          simp only [if_true] at h2 ⊢
          refine wp.imp h2 fun w s3 h3 => ?_
          refine wp.mono h3 (fun d s4 h4 => ?_) (fun _ _ z => z.elim)
          refine wp.imp (ih (done ++ [x]) (out ++ [d]) _ (by simp [e]) h4) fun ds s5 h5 => ?_
          rw [List.append_assoc] at h5
          exact h5
        | false =>
          simp only [Bool.false_eq_true, if_false] at h2 ⊢
          exact ih (done ++ [x]) out _ (by simp [e]) h2
  exact wp.imp (key xs [] [] st rfl h0) fun ds s h => by simpa using h
/-- a comprehension that leaves all as it is -/
theorem comp_pure {own : List Nat} {bd : Bd} {t : D → Bool} {a : D → D} {s0 : St} : ∀ {xs : List D}, (∀ x ∈ xs, oq (bd.put x s0) fun s1 => wp (T s1) (fun b s2 => b = t x ∧ if b = true then
      wp (A s2) (fun w s3 => wp (forceD w s3) (fun d s4 => d = a x ∧ s4.wipe own = s0) nX) nX else s2.wipe own = s0) nX) → comp own bd T A xs s0 = .ok ((xs.filter t).map a) s0 := by
  intro xs h
  rw [← wp_eq]
  refine wp_comp (fun done rest out s => s = s0 ∧ out = (done.filter t).map a) ⟨rfl, rfl⟩ (fun done x rest out s e ⟨h1, h2⟩ => ?_) fun out s ⟨h1, h2⟩ => ⟨h2, h1⟩
  subst h1 h2
  have h3 := h x (by rw [e]; simp)
  cases q : bd.put x s with
  | none => rw [q] at h3; exact h3.elim
  | some s1 =>
    rw [q] at h3
    refine wp.imp h3 fun b s2 ⟨hb, h4⟩ => ?_
    cases b with
    | true =>
      simp only [if_true] at h4 ⊢
      refine wp.imp h4 fun w s3 h5 => wp.imp h5 fun d s4 ⟨h6, h7⟩ => ⟨h7, ?_⟩
      rw [List.filter_append, List.map_append]
      simp [← hb, h6]
    | false =>
      simp only [Bool.false_eq_true, if_false] at h4 ⊢
      refine ⟨h4, ?_⟩
      rw [List.filter_append, List.map_append]
      simp [← hb]
/-! ### while -/
theorem wp_while {body : SSem} (Inv : Nat → St → Prop) {n : Nat} (hn : n < whFuel) (h0 : Inv n st)
    (hs : ∀ m s, Inv m s → wp (T s) (fun b s1 => if b = true then wp (body s1) (fun f s => turnQ (fun s2 => ∃ m', m' < m ∧ Inv m' s2) QS f s) X else QS .nx s1) X) : wp (sWhile T body st) QS X := by
  have key : ∀ fuel m s, m < fuel → Inv m s → wp (wloop T body fuel s) QS X := by
    intro fuel
    induction fuel with
    | zero => intro m s h; omega
    | succ fuel ih =>
      intro m s hm h
      show wp ((T s).bind fun b s => if b = true then (body s).bind fun f s2 => match f with
        | .nx => wloop T body fuel s2
        | .ct => wloop T body fuel s2
        | .bk => .ok .nx s2
        | .rt v => .ok (.rt v) s2
        else .ok .nx s) QS X
      rw [wp_bind]
      refine wp.imp (hs m s h) fun b s1 h1 => ?_
      cases b with
      | true =>
        simp only [if_true, wp_bind] at h1 ⊢
        refine wp.imp h1 fun f s2 h2 => ?_
        cases f with
        | nx =>
          obtain ⟨m', h3, h4⟩ := h2
          exact ih m' s2 (by omega) h4
        | ct =>
          obtain ⟨m', h3, h4⟩ := h2
          exact ih m' s2 (by omega) h4
        | bk => exact h2
        | rt v => exact h2
      | false =>
        simp only [Bool.false_eq_true, if_false] at h1 ⊢
        exact h1
  exact key whFuel n st hn h0
/-! ### defs -/
@[simp] theorem wp_eCall {f : Fn} : wp (eCall f As st) Q X = wp (As st) (fun ws s => wp (forceV ws s) (fun xs s1 => wp (f xs s1.mem) (fun x m => Q (.v x) ⟨s1.env, m⟩) (fun c m => X c ⟨s1.env, m⟩)) X) X := by
  unfold eCall
  rw [wp_bind]
  refine wp_fun fun ws s => ?_
  rw [wp_bind]
  refine wp_fun fun xs s1 => ?_
  cases f xs s1.mem <;> rfl
/-- a def's end -/
def endQ (Q : Dv → List Cell → Prop) (f : Fl) (s : St) : Prop := match f with
  | .nx => Q (.d .none) s.mem
  | .rt v => Q v s.mem
  | _ => False
@[simp] theorem endQ_nx {Q : Dv → List Cell → Prop} {s : St} : endQ Q .nx s = Q (.d .none) s.mem := nrfl rfl
@[simp] theorem endQ_rt {Q : Dv → List Cell → Prop} {s : St} {v : Dv} : endQ Q (.rt v) s = Q v s.mem := nrfl rfl
theorem wp_fn {n np : Nat} {body : SSem} {xs : List Dv} {mem : List Cell} {Q : Dv → List Cell → Prop} {X : Str → List Cell → Prop} (hl : xs.length = np) (h : wp (body ⟨xs.map .v ++ List.replicate (n - xs.length) .emp, mem⟩) (endQ Q) (fun c s => X c s.mem)) : wp (fnSem n np body xs mem) Q X := by
  unfold fnSem
  rw [if_pos hl]
  generalize body _ = r at h
  cases r with
  | ok f s => cases f <;> exact h
  | exc c s => exact h
  | bad => exact h
/-- a def that only tells a value -/
theorem fn_eq {n np : Nat} {body : SSem} {xs : List Dv} {mem : List Cell} {v : Dv} {m : List Cell} (hl : xs.length = np) (h : wp (body ⟨xs.map .v ++ List.replicate (n - xs.length) .emp, mem⟩) (endQ fun x s => x = v ∧ s = m) (fun _ _ => False)) : fnSem n np body xs mem = .ok v m := by
  rw [← wp_eq]
  exact wp_fn hl h
end
/-! ### operations -/
section
variable {i j : Int} {a b : Bool} {x y : D} {xs ys : List D} {u v : Str}
@[simp] theorem dLt_i : dLt (.int i) (.int j) = some (.bool (decide (i < j))) := nrfl rfl
@[simp] theorem dLe_i : dLe (.int i) (.int j) = some (.bool (decide (i ≤ j))) := nrfl rfl
@[simp] theorem dGt_i : dGt (.int i) (.int j) = some (.bool (decide (j < i))) := nrfl rfl
@[simp] theorem dGe_i : dGe (.int i) (.int j) = some (.bool (decide (j ≤ i))) := nrfl rfl
@[simp] theorem dAdd_i : dAdd (.int i) (.int j) = some (.int (i + j)) := nrfl rfl
@[simp] theorem dSub_i : dSub (.int i) (.int j) = some (.int (i - j)) := nrfl rfl
@[simp] theorem dMul_i : dMul (.int i) (.int j) = if (decide (i.natAbs < 2 ^ 64) || decide (j.natAbs < 2 ^ 64)) = true then some (.int (i * j)) else none := nrfl rfl
@[simp] theorem dDiv_i : dDiv (.int i) (.int j) = if (decide (0 < j) && decide (j < 1073741824)) = true then some (.int (i / j)) else none := nrfl rfl
@[simp] theorem dMod_i : dMod (.int i) (.int j) = if decide (0 < j) = true then some (.int (i % j)) else none := nrfl rfl
@[simp] theorem dPow_i : dPow (.int i) (.int j) = if (decide (0 ≤ j) && decide (j ≤ 1000000) && decide (i.natAbs < 2 ^ 64)) = true then some (.int (i ^ j.toNat)) else none := nrfl rfl
@[simp] theorem dNeg_i : dNeg (.int i) = some (.int (-i)) := nrfl rfl
@[simp] theorem dTruth_b : dTruth (.bool b) = some b := nrfl rfl
@[simp] theorem dTruth_i : dTruth (.int i) = some (i != 0) := nrfl rfl
@[simp] theorem dTruth_n : dTruth .none = some false := nrfl rfl
@[simp] theorem dTruth_l : dTruth (.list xs) = some (!xs.isEmpty) := nrfl rfl
@[simp] theorem dTruth_d {kvs : List (D × D)} : dTruth (.dict kvs) = some (!kvs.isEmpty) := nrfl rfl
@[simp] theorem dIdx_d {kvs : List (D × D)} : dIdx (.dict kvs) x = if kkOk kvs x = true then lookD kvs x else none := by cases x <;> exact nrfl rfl
@[simp] theorem dIn_d {kvs : List (D × D)} : dIn false x (.dict kvs) = if kkOk kvs x = true then some (.bool (lookD kvs x).isSome) else none := nrfl rfl
@[simp] theorem dNin_d {kvs : List (D × D)} : dIn true x (.dict kvs) = if kkOk kvs x = true then some (.bool (!(lookD kvs x).isSome)) else none := nrfl rfl
@[simp] theorem dLen_d {kvs : List (D × D)} : dLen (.dict kvs) = some (.int kvs.length) := nrfl rfl
@[simp] theorem dTruth_t : dTruth (.tuple xs) = some (!xs.isEmpty) := nrfl rfl
@[simp] theorem dIdx_l : dIdx (.list xs) (.int i) = atI xs i := nrfl rfl
@[simp] theorem dIdx_t : dIdx (.tuple xs) (.int i) = atI xs i := nrfl rfl
theorem atI_of {α : Type} {xs : List α} {n : Nat} {i : Int} {x : α} (e : i = n) (h : xs[n]? = some x) : atI xs i = some x := by
  subst e
  have hl := (List.getElem?_eq_some_iff.mp h).1
  unfold atI ixN
  rw [if_pos (by omega), if_pos (by omega)]
  show xs[(n : Int).toNat]? = some x
  rw [Int.toNat_natCast]
  exact h
@[simp] theorem atI_0 {α : Type} {x : α} {xs : List α} : atI (x :: xs) 0 = some x := atI_of (n := 0) rfl rfl
@[simp] theorem atI_1 {α : Type} {x y : α} {xs : List α} : atI (x :: y :: xs) 1 = some y := atI_of (n := 1) rfl rfl
@[simp] theorem atI_2 {α : Type} {x y z : α} {xs : List α} : atI (x :: y :: z :: xs) 2 = some z := atI_of (n := 2) rfl rfl
@[simp] theorem atI_3 {α : Type} {x y z w : α} {xs : List α} : atI (x :: y :: z :: w :: xs) 3 = some w := atI_of (n := 3) rfl rfl
@[simp] theorem atI_4 {α : Type} {x y z w t : α} {xs : List α} : atI (x :: y :: z :: w :: t :: xs) 4 = some t := atI_of (n := 4) rfl rfl
@[simp] theorem dIsN_n : dIsN x .none = some (.bool (isN x)) := nrfl rfl
@[simp] theorem dNotN_n : dNotN x .none = some (.bool (!isN x)) := nrfl rfl
@[simp] theorem isTy_ii : isTy .int (.int i) = true := nrfl rfl
@[simp] theorem isTy_ib : isTy .int (.bool b) = true := nrfl rfl
@[simp] theorem isTy_bi : isTy .bool (.int i) = false := nrfl rfl
@[simp] theorem isTy_bb : isTy .bool (.bool b) = true := nrfl rfl
@[simp] theorem isTy_ll : isTy .list (.list xs) = true := nrfl rfl
@[simp] theorem isTy_lt : isTy .list (.tuple xs) = false := nrfl rfl
@[simp] theorem isTy_tl : isTy .tuple (.list xs) = false := nrfl rfl
@[simp] theorem isTy_tt : isTy .tuple (.tuple xs) = true := nrfl rfl
@[simp] theorem Cp_lt : Cp.lt.f = dat2 dLt := nrfl rfl
@[simp] theorem Cp_le : Cp.le.f = dat2 dLe := nrfl rfl
@[simp] theorem Cp_gt : Cp.gt.f = dat2 dGt := nrfl rfl
@[simp] theorem Cp_ge : Cp.ge.f = dat2 dGe := nrfl rfl
@[simp] theorem Cp_eq : Cp.eq.f = dat2D dEq := nrfl rfl
@[simp] theorem Cp_ne : Cp.ne.f = dat2D dNe := nrfl rfl
@[simp] theorem Cp_isN : Cp.isN.f = dat2 dIsN := nrfl rfl
@[simp] theorem Cp_notN : Cp.notN.f = dat2 dNotN := nrfl rfl
@[simp] theorem Cp_inn : Cp.inn.f = dat2L (dIn false) := nrfl rfl
@[simp] theorem Cp_nin : Cp.nin.f = dat2L (dIn true) := nrfl rfl
@[simp] theorem wipe_mk {env : List Slot} {mem : List Cell} {own : List Nat} : St.wipe ⟨env, mem⟩ own = ⟨wipeE env own, mem⟩ := nrfl rfl
@[simp] theorem wipeE_nil {env : List Slot} : wipeE env [] = env := nrfl rfl
@[simp] theorem wipeE_cons {env : List Slot} {j : Nat} {js : List Nat} : wipeE env (j :: js) = (wipeE env js).set j .emp := nrfl rfl
@[simp] theorem restore_nil {e0 e1 : List Slot} : restore [] e0 e1 = e1 := nrfl rfl
@[simp] theorem restore_cons {e0 e1 : List Slot} {j : Nat} {js : List Nat} : restore (j :: js) e0 e1 = (restore js e0 e1).set j (e0[j]?.getD .emp) := by
  show (restore js e0 e1).set j (e0.getD j .emp) = _
  rw [List.getD_eq_getElem?_getD]
def noOwn : Option Slot → Bool
  | some (.own _) => false
  | _ => true
@[simp] theorem noOwn_v {x : Dv} : noOwn (some (.v x)) = true := nrfl rfl
@[simp] theorem noOwn_e : noOwn (some .emp) = true := nrfl rfl
@[simp] theorem noOwn_o {w : Own} : noOwn (some (.own w)) = false := nrfl rfl
@[simp] theorem okWipe_nil {env : List Slot} : okWipe [] env = true := nrfl rfl
@[simp] theorem okWipe_cons {env : List Slot} {j : Nat} {js : List Nat} : okWipe (j :: js) env = (noOwn env[j]? && okWipe js env) := by
  unfold okWipe
  rw [List.all_cons]
  cases env[j]? with
  | none => rfl
  | some s => cases s <;> rfl
theorem rngD_len {lo : Int} {n : Nat} : (rngD lo n).length = n := by simp [rngD]
end
end PD

set_option Elab.async false
set_option linter.all false
set_option maxRecDepth 100000
set_option maxHeartbeats 1000000
/-! PDHelp: the helpers that every law has: numbers drawn from the script, equality of data. -/
namespace PD
open PySem PySem.Spec PyProof.Rows L2
/-! ### mixed -/
def bMixed : SSem :=
 (sSeq (sSet 2 (eMod (eAdd (eAdd (eMul (eVar 0) (eC (.int 48271))) (eMul (eVar 1) (eC (.int 69621)))) (eC (.int 12345))) (eC (.int 2147483647))))
 (sRet (eMod (eAdd (eMul (eVar 2) (eAdd (eDiv (eVar 2) (eC (.int 65536))) (eC (.int 3)))) (eVar 1)) (eC (.int 2147483647)))))
def stp (a b : Int) : Int := (a * 48271 + b * 69621 + 12345) % 2147483647
def mix (a b : Int) : Int := (stp a b * (stp a b / 65536 + 3) + b) % 2147483647
theorem stp_lt (a b : Int) : 0 ≤ stp a b ∧ stp a b < 2147483647 := ⟨Int.emod_nonneg _ (by decide), Int.emod_lt_of_pos _ (by decide)⟩
theorem mix_lt (a b : Int) : 0 ≤ mix a b ∧ mix a b < 2147483647 := ⟨Int.emod_nonneg _ (by decide), Int.emod_lt_of_pos _ (by decide)⟩
theorem mixed_ok (a b : Int) (mem : List Cell) : fnSem 3 2 bMixed [.d (.int a), .d (.int b)] mem = .ok (.d (.int (mix a b))) mem := by
  refine fn_eq rfl ?_
  have h := stp_lt a b
  simp [bMixed]
  exact ⟨.inl (by unfold stp at h; omega), rfl⟩
def MixF (f : Fn) : Prop := ∀ (a b : Int) (mem : List Cell), f [.d (.int a), .d (.int b)] mem = .ok (.d (.int (mix a b))) mem
/-! ### the numbers -/
def nml (xs : List Int) : Prop := ∀ x ∈ xs, 0 ≤ x ∧ x < 1000000
abbrev dI (xs : List Int) : D := .list (xs.map .int)
theorem map_snoc {xs : List Int} {x : Int} : xs.map PyData.int ++ [.int x] = (xs ++ [x]).map .int := by simp
theorem nml.snoc {xs : List Int} (h : nml xs) {x : Int} (h0 : 0 ≤ x) (h1 : x < 1000000) : nml (xs ++ [x]) := by
  intro y hy
  rw [List.mem_append, List.mem_singleton] at hy
  rcases hy with hy | rfl
  · exact h y hy
  · exact ⟨h0, h1⟩
theorem szl {n : Nat} (h : n < 16777216) : n < sizeLine := by rw [sizeLine_eq]; exact h
def bNumbers (m : Fn) : SSem :=
 (sSeq (sSetO 1 (fLst aNil))
 (sSeq (sFor (iSeq (eVar 0)) (.nm 2) (sIf (tCmp .ge (eVar 2) (ePow (eC (.int 10)) (eC (.int 18)))) (sSeq (sSet 3 (eVar 2))
   (sFor (iRng1 (eC (.int 60))) (.nm 4) (sIf (tCmp .gt (eVar 3) (eC (.int 0))) (sSeq (sExpr (eApp (eVar 1) (eMod (eVar 3) (eC (.int 1000000)))))
     (sSet 3 (eDiv (eVar 3) (eC (.int 1000000))))) sNext))) (sSeq (sExpr (eApp (eVar 1) (eMod (eVar 2) (eC (.int 1000000)))))
   (sFor (iRng1 (eC (.int 5))) (.nm 4) (sExpr (eApp (eVar 1) (eMod (eCall m (aCons (eCall m (aCons (eMod (eVar 2) (eC (.int 2147483647))) (aCons (eVar 4) aNil))) (aCons (eAdd (eVar 4) (eC (.int 7))) aNil))) (eC (.int 1000000)))))))))
 (sRet (eVar 1))))
theorem small_lit {n : Int} (h0 : 0 ≤ n) (h : n < 1000000000) : small n = true := by
  unfold small
  simp
  omega
def NumI (ns : List Int) (mem : List Cell) (b : Nat) (s : St) : Prop := ∃ xs s2 s3 s4, nml xs ∧ xs.length ≤ b ∧ s = ⟨[.v (.k (dI ns)), .own (.lst (xs.map .int)), s2, s3, s4], mem⟩
def NumJ (ns : List Int) (mem : List Cell) (i : Int) (b : Nat) (s : St) : Prop := ∃ xs r s4, nml xs ∧ xs.length ≤ b ∧ s = ⟨[.v (.k (dI ns)), .own (.lst (xs.map .int)), .v (.d (.int i)), .v (.d (.int r)), s4], mem⟩
def NumK (ns : List Int) (mem : List Cell) (i : Int) (b : Nat) (s : St) : Prop := ∃ xs s3 s4, nml xs ∧ xs.length ≤ b ∧ s = ⟨[.v (.k (dI ns)), .own (.lst (xs.map .int)), .v (.d (.int i)), s3, s4], mem⟩
def NumQ (mem : List Cell) (v : Dv) (m : List Cell) : Prop := ∃ xs, nml xs ∧ xs.length ≤ 3780 ∧ v = .d (dI xs) ∧ m = mem
theorem numbers_ok {m : Fn} (hm : MixF m) (ns : List Int) (hl : ns.length ≤ 63) (mem : List Cell) : ∃ xs, nml xs ∧ xs.length ≤ 3780 ∧ fnSem 5 1 (bNumbers m) [.k (dI ns)] mem = .ok (.d (dI xs)) mem := by
  have key : wp (fnSem 5 1 (bNumbers m) [.k (dI ns)] mem) (NumQ mem) (fun _ _ => False) := by
    refine wp_fn rfl ?_
    simp [bNumbers]
    refine wp_loop (fun done rest s => NumI ns mem (60 * done.length) s) ⟨[], _, _, _, (fun x h => absurd h (by simp)), by simp, rfl⟩ ?_ ?_
    · rintro done x rest s e ⟨xs, s2, s3, s4, h1, h2, rfl⟩
      have hx : ∃ i : Int, x = .int i := by
        have : x ∈ ns.map PyData.int := by rw [e]; simp
        rw [List.mem_map] at this
        obtain ⟨i, _, rfl⟩ := this
        exact ⟨i, rfl⟩
      have hdl : done.length < 63 := by
        have := congrArg List.length e
        simp at this
        omega
      obtain ⟨i, rfl⟩ := hx
      simp
      split
      · refine ⟨small_lit (by decide) (by decide), ?_⟩
        refine wp_loop_rng (fun j s => NumJ ns mem i (60 * done.length + j) s) ⟨xs, _, _, h1, by omega, rfl⟩ ?_ ?_
        · rintro j s hj ⟨ys, r, s5, h3, h4, rfl⟩
          simp
          split
          · exact ⟨szl (by omega), ys ++ [r % 1000000], r / 1000000, .v (.d (.int j)), h3.snoc (Int.emod_nonneg _ (by decide)) (Int.emod_lt_of_pos _ (by decide)), by simp; omega, by simp⟩
          · exact ⟨ys, r, .v (.d (.int j)), h3, by omega, by simp⟩
        · rintro s ⟨ys, r, s5, h3, h4, rfl⟩
          simp at h4 ⊢
          exact ⟨ys, _, _, _, h3, by omega, rfl⟩
      · refine ⟨szl (by omega), small_lit (by decide) (by decide), ?_⟩
        refine wp_loop_rng (fun j s => NumK ns mem i (60 * done.length + 1 + j) s) ⟨xs ++ [i % 1000000], s3, s4, h1.snoc (Int.emod_nonneg _ (by decide)) (Int.emod_lt_of_pos _ (by decide)), by simp; omega, by simp⟩ ?_ ?_
        · rintro j s hj ⟨ys, s3, s5, h3, h4, rfl⟩
          simp [hm _ _ _]
          exact ⟨szl (by omega), ys ++ [mix (mix (i % 2147483647) j) (j + 7) % 1000000], s3, .v (.d (.int j)), h3.snoc (Int.emod_nonneg _ (by decide)) (Int.emod_lt_of_pos _ (by decide)), by simp; omega, by simp⟩
        · rintro s ⟨ys, r, s5, h3, h4, rfl⟩
          simp at h4 ⊢
          exact ⟨ys, _, _, _, h3, by omega, rfl⟩
    · rintro s ⟨xs, s2, s3, s4, h1, h2, rfl⟩
      simp at h2 ⊢
      exact ⟨xs, h1, by omega, rfl, rfl⟩
  cases q : fnSem 5 1 (bNumbers m) [.k (dI ns)] mem with
  | ok v mm =>
    rw [q] at key
    obtain ⟨xs, h1, h2, rfl, rfl⟩ := key
    exact ⟨xs, h1, h2, rfl⟩
  | exc c s => rw [q] at key; exact key.elim
  | bad => rw [q] at key; exact key.elim
/-! ### drawing -/
def dr (xs : List Int) (a : Int) : Cell := .lst [.list (xs.map .int), .int a]
structure Dm (mem : List Cell) : Prop where
  ex : ∃ xs a, nml xs ∧ 0 ≤ a ∧ mem = [dr xs a]
def bDraw (m : Fn) : SSem :=
 (sSeq (sSet 1 (eIdx (eVar 0) (eC (.int 1))))
 (sSeq (sPut (eAdd (eVar 1) (eC (.int 1))) (eVar 0) (eC (.int 1)))
 (sSeq (sIf (tCmp .lt (eVar 1) (eLen (eIdx (eVar 0) (eC (.int 0))))) (sRet (eIdx (eIdx (eVar 0) (eC (.int 0))) (eVar 1))) sNext)
 (sSeq (sSet 2 (eAdd (eC (.int 1)) (eVar 1)))
 (sSeq (sIf (tCmp .gt (eLen (eIdx (eVar 0) (eC (.int 0)))) (eC (.int 0))) (sSet 2 (eAdd (eVar 2) (eMul (eC (.int 1009)) (eIdx (eIdx (eVar 0) (eC (.int 0))) (eC (.int 0)))))) sNext)
 (sRet (eMod (eCall m (aCons (eCall m (aCons (eVar 2) (aCons (eVar 1) aNil))) (aCons (eC (.int 5)) aNil))) (eC (.int 1000000)))))))))
@[simp] theorem dLen_l {xs : List D} : dLen (.list xs) = some (.int xs.length) := nrfl rfl
@[simp] theorem dLen_t {xs : List D} : dLen (.tuple xs) = some (.int xs.length) := nrfl rfl
@[simp] theorem ceD_dr {xs : List Int} {a : Int} : ceD (some (dr xs a)) = some (.list [.list (xs.map .int), .int a]) := nrfl rfl
@[simp] theorem ceL_dr {xs : List Int} {a : Int} : ceL (some (dr xs a)) = some [.list (xs.map .int), .int a] := nrfl rfl
@[simp] theorem ceC_dr {xs : List Int} {a : Int} : ceC (some (dr xs a)) = some (.lst [.list (xs.map .int), .int a]) := nrfl rfl
@[simp] theorem ixN_2_1 : ixN 2 1 = some 1 := nrfl rfl
def DrQ (v : Dv) (m : List Cell) : Prop := ∃ n : Int, 0 ≤ n ∧ n < 1000000 ∧ v = .d (.int n) ∧ Dm m
theorem draw_q {m : Fn} (hm : MixF m) {mem : List Cell} (h : Dm mem) : wp (fnSem 3 1 (bDraw m) [.c 0] mem) DrQ (fun _ _ => False) := by
  obtain ⟨xs, a, h1, h2, rfl⟩ := h
  refine wp_fn rfl ?_
  simp [bDraw]
  have dm : ∀ b, 0 ≤ b → Dm [.lst [.list (xs.map .int), .int b]] := fun b hb => ⟨xs, b, h1, hb, rfl⟩
  split
  · rename_i hlt
    have hl : a.toNat < xs.length := by omega
    have e : atI (xs.map PyData.int) a = some (.int xs[a.toNat]) := atI_of (n := a.toNat) (by omega) (by simp [hl])
    rw [e]
    simp
    have := h1 xs[a.toNat] (List.getElem_mem hl)
    exact ⟨_, this.1, this.2, rfl, dm _ (by omega)⟩
  · split
    · rename_i hpos
      cases xs with
      | nil => simp at hpos
      | cons x xs =>
        simp [hm _ _ _]
        exact ⟨_, Int.emod_nonneg _ (by decide), Int.emod_lt_of_pos _ (by decide), rfl, dm _ (by omega)⟩
    · simp [hm _ _ _]
      exact ⟨_, Int.emod_nonneg _ (by decide), Int.emod_lt_of_pos _ (by decide), rfl, dm _ (by omega)⟩
def DrawF (f : Fn) : Prop := ∀ ⦃mem : List Cell⦄, Dm mem → wp (f [.c 0] mem) DrQ (fun _ _ => False)
theorem DrawF.go {f : Fn} (hf : DrawF f) {mem : List Cell} (h : Dm mem) {Q : Dv → List Cell → Prop} {X : Str → List Cell → Prop} (hq : ∀ n m, 0 ≤ n → n < 1000000 → Dm m → Q (.d (.int n)) m) : wp (f [.c 0] mem) Q X := by
  refine wp.mono (hf h) ?_ (fun _ _ z => z.elim)
  rintro v m ⟨n, h0, h1, rfl, h2⟩
  exact hq n m h0 h1 h2
/-! ### equal data -/
def fit : Nat → D → Bool
  | _, .none => true
  | _, .bool _ => true
  | _, .int _ => true
  | _, .str s => PyData.strOk s
  | 0, _ => false
  | k + 1, .list xs => xs.all (fit k) && decide (xs.length ≤ 1000000)
  | k + 1, .tuple xs => xs.all (fit k) && decide (xs.length ≤ 1000000)
  | _ + 1, .dict _ => false
def bEqual (A : Fn) : SSem :=
 (sSeq (sIf (tTruth (eIsi .list (eVar 1))) (sRet (eAnd (eIsi .list (eVar 0)) (eAnd (eCmp .eq (eLen (eVar 0)) (eLen (eVar 1))) (eCall A (aCons (eVar 0) (aCons (eVar 1) aNil)))))) sNext)
 (sSeq (sIf (tTruth (eIsi .tuple (eVar 1))) (sRet (eAnd (eIsi .tuple (eVar 0)) (eAnd (eCmp .eq (eLen (eVar 0)) (eLen (eVar 1))) (eCall A (aCons (eVar 0) (aCons (eVar 1) aNil)))))) sNext)
 (sSeq (sIf (tTruth (eIsi .bool (eVar 1))) (sRet (eAnd (eIsi .bool (eVar 0)) (eCmp .eq (eVar 0) (eVar 1)))) sNext)
 (sSeq (sIf (tTruth (eIsi .int (eVar 1))) (sRet (eAnd (eIsi .int (eVar 0)) (eAnd (eNot (eIsi .bool (eVar 0))) (eCmp .eq (eVar 0) (eVar 1))))) sNext)
 (sSeq (sIf (tTruth (eIsi .str (eVar 1))) (sRet (eAnd (eIsi .str (eVar 0)) (eCmp .eq (eVar 0) (eVar 1)))) sNext)
 (sRet (eCmp .isN (eVar 0) (eC .none))))))))
def bAllEqual (E : Fn) : SSem :=
 (sSeq (sFor (iRng1 (eLen (eVar 1))) (.nm 2) (sIf (tNotS (tTruth (eCall E (aCons (eIdx (eVar 0) (eVar 2)) (aCons (eIdx (eVar 1) (eVar 2)) aNil))))) (sRet (eC (.bool false))) sNext))
 (sRet (eC (.bool true))))
@[simp] theorem dEq_i {i j : Int} : dEq (.int i) (.int j) = some (.bool (decide (i = j))) := by
  unfold dEq
  simp [SeqAt.shaped, PyData.canLay0, PyData.depth, PyData.eqv]
  exact Bool.beq_eq_decide_eq _ _
@[simp] theorem dNe_i {i j : Int} : dNe (.int i) (.int j) = some (.bool (decide (i ≠ j))) := by
  unfold dNe
  simp [SeqAt.shaped, PyData.canLay0, PyData.depth, PyData.eqv]
  by_cases h : i = j <;> simp [h]
def EqF (f : Fn) (d : D) : Prop := ∀ mem : List Cell, f [.d d, .d d] mem = .ok (.d (.bool true)) mem
def AllI (xs : List D) (dx : D) (mem : List Cell) (s : St) : Prop := ∃ s2, s = ⟨[.v (.d dx), .v (.d dx), s2], mem⟩
theorem all_list {E : Fn} {xs : List D} (h : ∀ x ∈ xs, EqF E x) (hl : xs.length ≤ 1000000) (mem : List Cell) : fnSem 3 2 (bAllEqual E) [.d (.list xs), .d (.list xs)] mem = .ok (.d (.bool true)) mem := by
  refine fn_eq rfl ?_
  simp [bAllEqual]
  refine ⟨small_lit (by omega) (by omega), ?_⟩
  refine wp_loop_rng (fun _ s => AllI xs (.list xs) mem s) ⟨_, rfl⟩ ?_ ?_
  · rintro i s hi ⟨s2, rfl⟩
    have e : atI xs (i : Int) = some xs[i] := atI_of (n := i) rfl (by simp [hi])
    simp [e, h xs[i] (List.getElem_mem hi) mem]
    exact ⟨_, rfl⟩
  · rintro s ⟨s2, rfl⟩
    simp
theorem all_tuple {E : Fn} {xs : List D} (h : ∀ x ∈ xs, EqF E x) (hl : xs.length ≤ 1000000) (mem : List Cell) : fnSem 3 2 (bAllEqual E) [.d (.tuple xs), .d (.tuple xs)] mem = .ok (.d (.bool true)) mem := by
  refine fn_eq rfl ?_
  simp [bAllEqual]
  refine ⟨small_lit (by omega) (by omega), ?_⟩
  refine wp_loop_rng (fun _ s => AllI xs (.tuple xs) mem s) ⟨_, rfl⟩ ?_ ?_
  · rintro i s hi ⟨s2, rfl⟩
    have e : atI xs (i : Int) = some xs[i] := atI_of (n := i) rfl (by simp [hi])
    simp [e, h xs[i] (List.getElem_mem hi) mem]
    exact ⟨_, rfl⟩
  · rintro s ⟨s2, rfl⟩
    simp
@[simp] theorem isTy_ln : isTy .list .none = false := nrfl rfl
@[simp] theorem isTy_lb {b : Bool} : isTy .list (.bool b) = false := nrfl rfl
@[simp] theorem isTy_li {i : Int} : isTy .list (.int i) = false := nrfl rfl
@[simp] theorem isTy_lS {s : Str} : isTy .list (.str s) = false := nrfl rfl
@[simp] theorem isTy_tn : isTy .tuple .none = false := nrfl rfl
@[simp] theorem isTy_tb {b : Bool} : isTy .tuple (.bool b) = false := nrfl rfl
@[simp] theorem isTy_ti {i : Int} : isTy .tuple (.int i) = false := nrfl rfl
@[simp] theorem isTy_tS {s : Str} : isTy .tuple (.str s) = false := nrfl rfl
@[simp] theorem isTy_bn : isTy .bool .none = false := nrfl rfl
@[simp] theorem isTy_bS {s : Str} : isTy .bool (.str s) = false := nrfl rfl
@[simp] theorem isTy_bl {xs : List D} : isTy .bool (.list xs) = false := nrfl rfl
@[simp] theorem isTy_bt {xs : List D} : isTy .bool (.tuple xs) = false := nrfl rfl
@[simp] theorem isTy_in : isTy .int .none = false := nrfl rfl
@[simp] theorem isTy_iS {s : Str} : isTy .int (.str s) = false := nrfl rfl
@[simp] theorem isTy_il {xs : List D} : isTy .int (.list xs) = false := nrfl rfl
@[simp] theorem isTy_it {xs : List D} : isTy .int (.tuple xs) = false := nrfl rfl
@[simp] theorem isTy_Sn : isTy .str .none = false := nrfl rfl
@[simp] theorem isTy_Si {i : Int} : isTy .str (.int i) = false := nrfl rfl
@[simp] theorem isTy_Sb {b : Bool} : isTy .str (.bool b) = false := nrfl rfl
@[simp] theorem isTy_SS {s : Str} : isTy .str (.str s) = true := nrfl rfl
@[simp] theorem isTy_Sl {xs : List D} : isTy .str (.list xs) = false := nrfl rfl
@[simp] theorem isTy_St {xs : List D} : isTy .str (.tuple xs) = false := nrfl rfl
theorem dEq_b {b : Bool} : dEq (.bool b) (.bool b) = some (.bool true) := by
  unfold dEq
  simp [SeqAt.shaped, PyData.canLay0, PyData.depth, PyData.eqv]
theorem dEq_s {s : Str} (h : PyData.strOk s = true) : dEq (.str s) (.str s) = some (.bool true) := by
  unfold dEq
  simp [SeqAt.shaped, PyData.canLay0, PyData.depth, PyData.eqv, h]
theorem equal_ok {E A : Nat → Fn} (hE : ∀ n, E (n + 1) = fnSem 2 2 (bEqual (A n))) (hA : ∀ n, A (n + 1) = fnSem 3 2 (bAllEqual (E n))) : ∀ (k n : Nat) (d : D), fit k d = true → EqF (E (n + 2 * k + 1)) d
  | k, n, .none, h, mem => by
    rw [hE]
    refine fn_eq rfl ?_
    simp [bEqual]
    rfl
  | k, n, .bool b, h, mem => by
    rw [hE]
    refine fn_eq rfl ?_
    simp [bEqual, dEq_b]
  | k, n, .int i, h, mem => by
    rw [hE]
    refine fn_eq rfl ?_
    simp [bEqual]
  | k, n, .str s, h, mem => by
    rw [hE]
    refine fn_eq rfl ?_
    have h : PyData.strOk s = true := by cases k <;> exact h
    simp [bEqual, dEq_s h]
  | 0, n, .list xs, h, mem => by cases h
  | 0, n, .tuple xs, h, mem => by cases h
  | 0, n, .dict xs, h, mem => by cases h
  | k + 1, n, .dict xs, h, mem => by cases h
  | k + 1, n, .list xs, h, mem => by
    obtain ⟨h1, h2⟩ := Bool.and_eq_true_iff.mp (show (xs.all (fit k) && decide (xs.length ≤ 1000000)) = true from h)
    rw [hE]
    refine fn_eq rfl ?_
    have := all_list (E := E (n + 2 * k + 1)) (fun x hx => equal_ok hE hA k n x (List.all_eq_true.mp h1 x hx)) (of_decide_eq_true h2) mem
    simp [bEqual]
    rw [show n + 2 * (k + 1) = n + 2 * k + 1 + 1 from by omega, hA, this]
    simp
  | k + 1, n, .tuple xs, h, mem => by
    obtain ⟨h1, h2⟩ := Bool.and_eq_true_iff.mp (show (xs.all (fit k) && decide (xs.length ≤ 1000000)) = true from h)
    rw [hE]
    refine fn_eq rfl ?_
    have := all_tuple (E := E (n + 2 * k + 1)) (fun x hx => equal_ok hE hA k n x (List.all_eq_true.mp h1 x hx)) (of_decide_eq_true h2) mem
    simp [bEqual]
    rw [show n + 2 * (k + 1) = n + 2 * k + 1 + 1 from by omega, hA, this]
    simp
/-! ### is_number -/
def bIsNumber : SSem := (sRet (eAnd (eIsi .int (eVar 0)) (eAnd (eNot (eIsi .bool (eVar 0))) (eChn .le .le (eVar 1) (eVar 0) (eVar 2)))))
def isNum (x : D) (a b : Int) : Bool := match x with
  | .int n => decide (a ≤ n) && decide (n ≤ b)
  | _ => false
@[simp] theorem isNum_i {n a b : Int} : isNum (.int n) a b = (decide (a ≤ n) && decide (n ≤ b)) := nrfl rfl
theorem isNumber_ok (x : D) (hx : ∀ ds, x ≠ .dict ds) (a b : Int) (mem : List Cell) : fnSem 3 3 bIsNumber [.d x, .d (.int a), .d (.int b)] mem = .ok (.d (.bool (isNum x a b))) mem := by
  refine fn_eq rfl ?_
  cases x with
  | dict ds => exact absurd rfl (hx ds)
  | int n =>
    simp [bIsNumber]
    by_cases h : a ≤ n
    · simp [h]
    · simp [h]
  | _ => simp [bIsNumber, isNum]
theorem isNumber_i {f : Fn} (hf : f = fnSem 3 3 bIsNumber) (n a b : Int) (mem : List Cell) : f [.d (.int n), .d (.int a), .d (.int b)] mem = .ok (.d (.bool (decide (a ≤ n) && decide (n ≤ b)))) mem := by
  rw [hf]
  exact isNumber_ok (.int n) (fun ds h => by cases h) a b mem
/-! ### shapes -/
mutual
theorem fit_lay : ∀ (d : D) (k : Nat), fit k d = true → d.canLay0 = true ∧ d.depth ≤ k + 1
  | .none, k, _ => by cases k <;> simp [PyData.canLay0, PyData.depth]
  | .bool _, k, _ => by cases k <;> simp [PyData.canLay0, PyData.depth]
  | .int _, k, _ => by cases k <;> simp [PyData.canLay0, PyData.depth]
  | .str s, k, h => by
    have h2 : PyData.strOk s = true := by cases k <;> exact h
    exact ⟨by simp only [PyData.canLay0]; exact h2, by simp [PyData.depth]⟩
  | .list xs, 0, h => by cases h
  | .tuple xs, 0, h => by cases h
  | .dict xs, 0, h => by cases h
  | .dict xs, k + 1, h => by cases h
  | .list xs, k + 1, h => by
    obtain ⟨h1, _⟩ := Bool.and_eq_true_iff.mp (show (xs.all (fit k) && decide (xs.length ≤ 1000000)) = true from h)
    have z := fit_lays xs k h1
    simp only [PyData.canLay0, PyData.depth]
    exact ⟨z.1, by omega⟩
  | .tuple xs, k + 1, h => by
    obtain ⟨h1, _⟩ := Bool.and_eq_true_iff.mp (show (xs.all (fit k) && decide (xs.length ≤ 1000000)) = true from h)
    have z := fit_lays xs k h1
    simp only [PyData.canLay0, PyData.depth]
    exact ⟨z.1, by omega⟩
theorem fit_lays : ∀ (xs : List D) (k : Nat), xs.all (fit k) = true → PyData.canLayAll0 xs = true ∧ PyData.depthAll xs ≤ k + 1
  | [], k, _ => by simp [PyData.canLayAll0, PyData.depthAll]
  | x :: xs, k, h => by
    rw [List.all_cons, Bool.and_eq_true_iff] at h
    have h1 := fit_lay x k h.1
    have h2 := fit_lays xs k h.2
    simp only [PyData.canLayAll0, PyData.depthAll, h1.1, h2.1]
    exact ⟨rfl, by omega⟩
end
theorem fit_shaped {k : Nat} {d : D} (h : fit k d = true) (hk : k ≤ 60) : SeqAt.shaped d = true := by
  have z := fit_lay d k h
  unfold SeqAt.shaped
  rw [z.1, Bool.true_and, decide_eq_true_eq]
  omega
theorem dEq_fit {k : Nat} {x y : D} (hx : fit k x = true) (hy : fit k y = true) (hk : k ≤ 60) : dEq x y = some (.bool (PyData.eqv x y)) := by
  unfold dEq
  rw [fit_shaped hx hk, fit_shaped hy hk]
  rfl
theorem fit_list {k : Nat} {xs : List D} (h : ∀ x ∈ xs, fit k x = true) (hl : xs.length ≤ 1000000) : fit (k + 1) (.list xs) = true := by
  show (xs.all (fit k) && decide (xs.length ≤ 1000000)) = true
  rw [List.all_eq_true.mpr h, decide_eq_true hl]
  rfl
theorem fit_tuple {k : Nat} {xs : List D} (h : ∀ x ∈ xs, fit k x = true) (hl : xs.length ≤ 1000000) : fit (k + 1) (.tuple xs) = true := by
  show (xs.all (fit k) && decide (xs.length ≤ 1000000)) = true
  rw [List.all_eq_true.mpr h, decide_eq_true hl]
  rfl
@[simp] theorem fit_int {k : Nat} {i : Int} : fit k (.int i) = true := by cases k <;> rfl
@[simp] theorem fit_bool {k : Nat} {i : Bool} : fit k (.bool i) = true := by cases k <;> rfl
@[simp] theorem fit_none {k : Nat} : fit k .none = true := by cases k <;> rfl
theorem fit_ints {k : Nat} {xs : List Int} (hl : xs.length ≤ 1000000) : fit (k + 1) (dI xs) = true := fit_list (by
  intro x hx
  rw [List.mem_map] at hx
  obtain ⟨i, _, rfl⟩ := hx
  simp) (by simpa using hl)
theorem dEq_nil {xs : List Int} (hl : xs.length ≤ 1000000) : dEq (dI xs) (.list []) = some (.bool xs.isEmpty) := by
  rw [dEq_fit (k := 1) (fit_ints hl) (by rfl) (by decide)]
  cases xs <;> rfl
theorem any_eqv_i {xs : List Int} {x : Int} : ((xs.map PyData.int).any fun z => PyData.eqv z (.int x)) = decide (x ∈ xs) := by
  induction xs with
  | nil => rfl
  | cons y ys ih =>
    rw [List.map_cons, List.any_cons, ih]
    simp only [PyData.eqv, List.mem_cons, Bool.decide_or]
    congr 1
    by_cases e : y = x
    · subst e; simp
    · have e2 : x ≠ y := fun z => e z.symm
      simp [e, e2]
theorem all_flat_i {xs : List Int} : (xs.map PyData.int).all flatD = true := by
  rw [List.all_eq_true]
  intro x hx
  rw [List.mem_map] at hx
  obtain ⟨i, _, rfl⟩ := hx
  rfl
@[simp] theorem dIn_i {xs : List Int} {x : Int} : dIn false (.int x) (.list (xs.map .int)) = some (.bool (decide (x ∈ xs))) := by
  unfold dIn
  simp only [all_flat_i, flatD, Bool.and_self, Bool.true_or, if_true, Bool.false_eq_true, if_false, any_eqv_i]
@[simp] theorem dNin_i {xs : List Int} {x : Int} : dIn true (.int x) (.list (xs.map .int)) = some (.bool (decide (x ∉ xs))) := by
  unfold dIn
  simp only [all_flat_i, flatD, Bool.and_self, Bool.true_or, if_true, any_eqv_i]
  simp
@[simp] theorem dEq_nn : dEq (.list []) (.list []) = some (.bool true) := by
  have h := dEq_nil (xs := []) (by simp)
  exact h
/-! ### items of a kind -/
section
variable {τ : Type} {f : τ → D} {xs : List τ} {bd : Bd} {body : SSem} {st : St} {QS : Fl → St → Prop} {QF : List D → St → Prop} {X : Str → St → Prop} {T : TSem} {A : ESem} {own : List Nat}
theorem wp_loop_map (Inv : List τ → St → Prop) (h0 : Inv [] st)
    (hs : ∀ done x rest s, xs = done ++ x :: rest → Inv done s → oq (bd.put (f x) s) fun s1 => wp (body s1) (fun f s => turnQ (Inv (done ++ [x])) QS f s) X)
    (hd : ∀ s, Inv xs s → QS .nx s) : wp (loop bd body (xs.map f) st) QS X := by
  have key : ∀ rest done s, xs = done ++ rest → Inv done s → wp (loop bd body (rest.map f) s) QS X := by
    intro rest
    induction rest with
    | nil =>
      intro done s e h
      rw [List.append_nil] at e
      exact hd s (e ▸ h)
    | cons x rest ih =>
      intro done s e h
      rw [List.map_cons, wp_loop_cons]
      have h1 := hs done x rest s e h
      cases q : bd.put (f x) s with
      | none => rw [q] at h1; exact h1.elim
      | some s1 =>
        rw [q] at h1
        refine wp.imp h1 fun f s2 h2 => ?_
        cases f with
        | nx => exact ih _ _ (by simp [e]) h2
        | ct => exact ih _ _ (by simp [e]) h2
        | bk => exact h2
        | rt v => exact h2
  exact key xs [] st rfl h0
theorem wp_comp_map (Inv : List τ → List D → St → Prop) (h0 : Inv [] [] st)
    (hs : ∀ done x rest out s, xs = done ++ x :: rest → Inv done out s → oq (bd.put (f x) s) fun s1 => wp (T s1) (fun b s2 => if b = true then
      wp (A s2) (fun w s3 => wp (forceD w s3) (fun d s4 => Inv (done ++ [x]) (out ++ [d]) (s4.wipe own)) nX) nX else Inv (done ++ [x]) out (s2.wipe own)) nX)
    (hd : ∀ out s, Inv xs out s → QF out s) : wp (comp own bd T A (xs.map f) st) QF X := by
  have key : ∀ rest done out s, xs = done ++ rest → Inv done out s → wp (comp own bd T A (rest.map f) s) (fun ds s' => QF (out ++ ds) s') X := by
    intro rest
    induction rest with
    | nil =>
      intro done out s e h
      rw [List.append_nil] at e
      rw [List.map_nil, wp_comp_nil, List.append_nil]
      exact hd out s (e ▸ h)
    | cons x rest ih =>
      intro done out s e h
      rw [List.map_cons, wp_comp_cons]
      have h1 := hs done x rest out s e h
      cases q : bd.put (f x) s with
      | none => rw [q] at h1; exact h1.elim
      | some s1 =>
        rw [q] at h1
        refine wp.imp h1 fun b s2 h2 => ?_
        cases b with
        | true =>
          simp only [if_true] at h2 ⊢
          refine wp.imp h2 fun w s3 h3 => ?_
          refine wp.mono h3 (fun d s4 h4 => ?_) (fun _ _ z => z.elim)
          refine wp.imp (ih (done ++ [x]) (out ++ [d]) _ (by simp [e]) h4) fun ds s5 h5 => ?_
          rw [List.append_assoc] at h5
          exact h5
        | false =>
          simp only [Bool.false_eq_true, if_false] at h2 ⊢
          exact ih (done ++ [x]) out _ (by simp [e]) h2
  exact wp.imp (key xs [] [] st rfl h0) fun ds s h => by simpa using h
theorem comp_map {t : τ → Bool} {a : τ → D} {s0 : St} (h : ∀ x ∈ xs, oq (bd.put (f x) s0) fun s1 => wp (T s1) (fun b s2 => b = t x ∧ if b = true then
      wp (A s2) (fun w s3 => wp (forceD w s3) (fun d s4 => d = a x ∧ s4.wipe own = s0) nX) nX else s2.wipe own = s0) nX) : comp own bd T A (xs.map f) s0 = .ok ((xs.filter t).map a) s0 := by
  rw [← wp_eq]
  refine wp_comp_map (fun done out s => s = s0 ∧ out = (done.filter t).map a) ⟨rfl, rfl⟩ (fun done x rest out s e ⟨h1, h2⟩ => ?_) fun out s ⟨h1, h2⟩ => ⟨h2, h1⟩
  subst h1 h2
  have h3 := h x (by rw [e]; simp)
  cases q : bd.put (f x) s with
  | none => rw [q] at h3; exact h3.elim
  | some s1 =>
    rw [q] at h3
    refine wp.imp h3 fun b s2 ⟨hb, h4⟩ => ?_
    cases b with
    | true =>
      simp only [if_true] at h4 ⊢
      refine wp.imp h4 fun w s3 h5 => wp.imp h5 fun d s4 ⟨h6, h7⟩ => ⟨h7, ?_⟩
      rw [List.filter_append, List.map_append]
      simp [← hb, h6]
    | false =>
      simp only [Bool.false_eq_true, if_false] at h4 ⊢
      refine ⟨h4, ?_⟩
      rw [List.filter_append, List.map_append]
      simp [← hb]
/-- over a range, all left as it is -/
theorem comp_rng {lo : Int} {n : Nat} {t : Nat → Bool} {a : Nat → D} {s0 : St} (h : ∀ i, i < n → oq (bd.put (.int (lo + (i : Int))) s0) fun s1 => wp (T s1) (fun b s2 => b = t i ∧ if b = true then
      wp (A s2) (fun w s3 => wp (forceD w s3) (fun d s4 => d = a i ∧ s4.wipe own = s0) nX) nX else s2.wipe own = s0) nX) : comp own bd T A (rngD lo n) s0 = .ok (((List.range n).filter t).map a) s0 :=
  comp_map (f := fun (i : Nat) => PyData.int (lo + (i : Int))) fun i hi => h i (List.mem_range.mp hi)
theorem wp_comp_rng {lo : Int} {n : Nat} (Inv : Nat → List D → St → Prop) (h0 : Inv 0 [] st)
    (hs : ∀ i out s, i < n → Inv i out s → oq (bd.put (.int (lo + (i : Int))) s) fun s1 => wp (T s1) (fun b s2 => if b = true then
      wp (A s2) (fun w s3 => wp (forceD w s3) (fun d s4 => Inv (i + 1) (out ++ [d]) (s4.wipe own)) nX) nX else Inv (i + 1) out (s2.wipe own)) nX)
    (hd : ∀ out s, Inv n out s → QF out s) : wp (comp own bd T A (rngD lo n) st) QF X := by
  refine wp_comp_map (f := fun (i : Nat) => PyData.int (lo + (i : Int))) (xs := List.range n) (fun done out s => Inv done.length out s) h0 (fun done x rest out s e h => ?_) fun out s h => by
    rw [List.length_range] at h
    exact hd out s h
  have hl : done.length < n := by
    have := congrArg List.length e
    simp at this
    omega
  have ex : x = done.length := by
    have h1 : (List.range n)[done.length]? = some x := by rw [e]; simp
    rw [List.getElem?_range hl] at h1
    exact (Option.some.inj h1).symm
  subst ex
  have h1 := hs done.length out s hl h
  cases q : bd.put (PyData.int (lo + done.length)) s with
  | none => rw [q] at h1; exact h1.elim
  | some s1 =>
    rw [q] at h1
    have el : (done ++ [done.length]).length = done.length + 1 := by simp
    rw [el]
    exact h1
end
@[simp] theorem filter_ff {α : Type} {l : List α} : l.filter (fun _ => false) = [] := by induction l <;> simp_all
@[simp] theorem filter_tt {α : Type} {l : List α} : l.filter (fun _ => true) = l := by induction l <;> simp_all
/-- the law's answer -/
theorem law_by {f : Fn} {n np : Nat} {body : SSem} {xs : List Dv} {mem : List Cell} (e : f = fnSem n np body) (hl : xs.length = np) (h : wp (body ⟨xs.map .v ++ List.replicate (n - xs.length) .emp, mem⟩) (endQ fun v _ => v = .d (.bool true)) (fun _ _ => False)) : ∃ m, f xs mem = .ok (.d (.bool true)) m := by
  have z := wp_fn (Q := fun v _ => v = .d (.bool true)) (X := fun _ _ => False) hl h
  rw [← e] at z
  cases q : f xs mem with
  | ok v m =>
    rw [q] at z
    have z : v = .d (.bool true) := z
    exact ⟨m, by rw [z]⟩
  | exc c s => rw [q] at z; exact z.elim
  | bad => rw [q] at z; exact z.elim
/-! ### exceptions -/
theorem wp_exq {S α : Type} {r : R S α} {n : Str} {m : S} : wp r (fun _ _ => False) (fun c s => c = n ∧ s = m) ↔ r = .exc n m := by
  cases r with
  | ok a s => exact ⟨False.elim, fun h => by cases h⟩
  | exc c s => exact ⟨fun ⟨h1, h2⟩ => by rw [h1, h2], fun h => by cases h; exact ⟨rfl, rfl⟩⟩
  | bad => exact ⟨False.elim, fun h => by cases h⟩
/-- a def that raises -/
theorem fn_exc {n np : Nat} {body : SSem} {xs : List Dv} {mem : List Cell} {c : Str} {m : List Cell} (hl : xs.length = np) (h : wp (body ⟨xs.map .v ++ List.replicate (n - xs.length) .emp, mem⟩) (fun _ _ => False) (fun x s => x = c ∧ s.mem = m)) : fnSem n np body xs mem = .exc c m := by
  rw [← wp_exq]
  exact wp_fn hl (h.imp fun _ _ z => z.elim)
@[simp] theorem wp_sTry {tb : Str → Str → Option Bool} {S : SSem} {hs : List (Str × SSem)} {st : PD.St} {Q : Fl → PD.St → Prop} {X : Str → PD.St → Prop} : wp (sTry tb S hs st) Q X = wp (S st) Q (fun c s => wp (catchS tb hs c s) Q X) := by
  unfold sTry
  cases S st <;> rfl
theorem wp_catch {tb : Str → Str → Option Bool} {S : SSem} {c n : Str} {hs : List (Str × SSem)} {st : PD.St} {Q : Fl → PD.St → Prop} {X : Str → PD.St → Prop} (h : tb n c = some true) : wp (catchS tb ((c, S) :: hs) n st) Q X = wp (S st) Q (fun _ _ => False) := by
  show wp (match tb n c with
    | some true => (match S st with
      | .exc _ _ => .bad
      | r => r)
    | some false => catchS tb hs n st
    | none => .bad) Q X = _
  rw [h]
  show wp (match S st with
      | .exc _ _ => .bad
      | r => r) Q X = _
  cases S st <;> rfl
theorem wp_catch_no {tb : Str → Str → Option Bool} {S : SSem} {c n : Str} {hs : List (Str × SSem)} {st : PD.St} {Q : Fl → PD.St → Prop} {X : Str → PD.St → Prop} (h : tb n c = some false) : wp (catchS tb ((c, S) :: hs) n st) Q X = wp (catchS tb hs n st) Q X := by
  show wp (match tb n c with
    | some true => (match S st with
      | .exc _ _ => .bad
      | r => r)
    | some false => catchS tb hs n st
    | none => .bad) Q X = _
  rw [h]
/-! ### the new builtins -/
section
variable {Q : W → PD.St → Prop} {QF : List D → PD.St → Prop} {X : Str → PD.St → Prop} {st : PD.St} {A B : ESem}
@[simp] theorem wp_fSorted : wp (fSorted A st) QF X = wp (A st) (fun w s => oq (view s w) fun x => oq (lstD x) fun ds => okSort ds = true ∧ QF (sortD ds) s) X := by
  unfold fSorted
  rw [wp_bind]
  refine wp_fun fun w s => ?_
  cases view s w with
  | none => rfl
  | some x =>
    cases x with
    | list ds =>
      show wp (if okSort ds = true then .ok (sortD ds) s else .bad) QF X = (okSort ds = true ∧ QF (sortD ds) s)
      by_cases h : okSort ds = true
      · rw [if_pos h, and_iff h]; rfl
      · rw [if_neg h, and_no h]; rfl
    | _ => rfl
def hdD : D → Option (D × List D)
  | .list (d :: ds) => some (d, ds)
  | _ => none
@[simp] theorem hdD_c {d : D} {ds : List D} : hdD (.list (d :: ds)) = some (d, ds) := nrfl rfl
@[simp] theorem wp_eBest {sel : D → List D → D} : wp (eBest sel A st) Q X = wp (A st) (fun w s => oq (view s w) fun x => oq (hdD x) fun p => okOrd (p.1 :: p.2) = true ∧ Q (.v (.d (sel p.1 p.2))) s) X := by
  unfold eBest
  rw [wp_bind]
  refine wp_fun fun w s => ?_
  cases view s w with
  | none => rfl
  | some x =>
    cases x with
    | list ds =>
      cases ds with
      | nil => rfl
      | cons d ds =>
        show wp (if okOrd (d :: ds) = true then retD (sel d ds) s else .bad) Q X = (okOrd (d :: ds) = true ∧ Q (.v (.d (sel d ds))) s)
        by_cases h : okOrd (d :: ds) = true
        · rw [if_pos h, and_iff h]; rfl
        · rw [if_neg h, and_no h]; rfl
    | _ => rfl
@[simp] theorem wp_fRep : wp (fRep A B st) QF X = wp (A st) (fun w s => wp (B s) (fun u s2 => oq (viewD s2 w) fun x => oq (lstD x) fun xs => oq (intW u) fun j => (decide (-(2 ^ 62) ≤ j) && decide (j < 2 ^ 62) && decide (xs.length * j.toNat ≤ sizeLine)) = true ∧ QF (List.replicate j.toNat xs).flatten s2) X) X := by
  unfold fRep
  rw [wp_bind]
  refine wp_fun fun w s => ?_
  rw [wp_bind]
  refine wp_fun fun u s2 => ?_
  cases viewD s2 w with
  | none => rfl
  | some x =>
    cases x with
    | list xs =>
      cases u with
      | sl i => rfl
      | v y => cases y with
        | d y => cases y with
          | int j =>
            show wp (if (decide (-(2 ^ 62) ≤ j) && decide (j < 2 ^ 62) && decide (xs.length * j.toNat ≤ sizeLine)) = true then .ok (List.replicate j.toNat xs).flatten s2 else .bad) QF X = (_ ∧ _)
            by_cases h : (decide (-(2 ^ 62) ≤ j) && decide (j < 2 ^ 62) && decide (xs.length * j.toNat ≤ sizeLine)) = true
            · rw [if_pos h, and_iff h]; rfl
            · rw [if_neg h, and_no h]; rfl
          | _ => rfl
        | _ => rfl
    | _ => rfl
@[simp] theorem wp_eLook {g : D → D → Option D} : wp (eLook g A B st) Q X = wp (A st) (fun w s1 => oq (view s1 w) fun x => oq (lstD x) fun _ => wp (B s1) (fun u s2 => wp (dat2 g w u s2) Q X) X) X := by
  unfold eLook
  rw [wp_bind]
  refine wp_fun fun w s => ?_
  cases view s w with
  | none => rfl
  | some x =>
    cases x with
    | list ds =>
      show wp ((B s).bind fun u s2 => dat2 g w u s2) Q X = wp (B s) _ X
      rw [wp_bind]
    | _ => rfl
@[simp] theorem dMin2_i {i j : Int} : dMin2 (.int i) (.int j) = some (.int (if j < i then j else i)) := nrfl rfl
@[simp] theorem dMax2_i {i j : Int} : dMax2 (.int i) (.int j) = some (.int (if j > i then j else i)) := nrfl rfl
@[simp] theorem dSum_i {xs : List Int} : dSum (.list (xs.map .int)) = some (.int xs.sum) := by
  show (asI (xs.map .int)).map _ = _
  rw [asI_map]
  rfl
@[simp] theorem dAbs_i {i : Int} : dAbs (.int i) = some (.int (if i < 0 then -i else i)) := nrfl rfl
theorem okOrd_ints (xs : List Int) : okOrd (xs.map .int) = true := by
  unfold okOrd
  have e : PyData.depthAll (xs.map .int) = 0 := PySem.W.depth_ints xs
  rw [e]
  simp only [Bool.and_eq_true, List.all_eq_true, decide_eq_true_eq]
  refine ⟨⟨fun x hx y hy => ?_, fun x hx => ?_⟩, by decide⟩
  · rw [List.mem_map] at hx hy
    obtain ⟨i, _, rfl⟩ := hx
    obtain ⟨j, _, rfl⟩ := hy
    rfl
  · rw [List.mem_map] at hx
    obtain ⟨i, _, rfl⟩ := hx
    rfl
theorem foldl_min_first {a : Int} : ∀ {xs : List Int}, (∀ x ∈ xs, a ≤ x) → xs.foldl min a = a
  | [], _ => rfl
  | x :: xs, h => by
    rw [List.foldl_cons]
    have e : min a x = a := by have := h x (by simp); omega
    rw [e]
    exact foldl_min_first fun y hy => h y (by simp [hy])
theorem foldl_max_ge {a : Int} : ∀ {xs : List Int}, a ≤ xs.foldl max a ∧ ∀ x ∈ xs, x ≤ xs.foldl max a
  | [] => ⟨Int.le_refl _, by simp⟩
  | x :: xs => by
    rw [List.foldl_cons]
    obtain ⟨h1, h2⟩ := foldl_max_ge (a := max a x) (xs := xs)
    refine ⟨by omega, fun y hy => ?_⟩
    rcases List.mem_cons.mp hy with e | hy
    · omega
    · exact h2 y hy
theorem foldl_max_mem {a : Int} : ∀ {xs : List Int}, xs.foldl max a ∈ a :: xs
  | [] => by simp
  | x :: xs => by
    rw [List.foldl_cons]
    have := foldl_max_mem (a := max a x) (xs := xs)
    rcases List.mem_cons.mp this with e | e
    · rw [e]
      rcases Int.le_total a x with h | h
      · rw [Int.max_eq_right h]; simp
      · rw [Int.max_eq_left h]; simp
    · simp [e]
theorem foldl_max_is {a b : Int} {xs : List Int} (h1 : b ∈ a :: xs) (h2 : ∀ x ∈ a :: xs, x ≤ b) : xs.foldl max a = b := by
  have h3 := h2 _ (foldl_max_mem (a := a) (xs := xs))
  obtain ⟨h4, h5⟩ := foldl_max_ge (a := a) (xs := xs)
  rcases List.mem_cons.mp h1 with e | e
  · omega
  · have := h5 b e
    omega
@[simp] theorem wp_eSlice {L U : PSem} : wp (eSlice A L U st) Q X = wp (A st) (fun w s1 => wp (L s1) (fun l s2 => wp (U s2) (fun u s3 => oq (viewD s3 w) fun x => oq (dSlice l u x) fun d => Q (.v (.d d)) s3) X) X) X := by
  unfold eSlice
  rw [wp_bind]
  refine wp_fun fun w s => ?_
  rw [wp_bind]
  refine wp_fun fun l s2 => ?_
  rw [wp_bind]
  refine wp_fun fun u s3 => ?_
  cases viewD s3 w with
  | none => rfl
  | some x =>
    show wp (match dSlice l u x with | some d => retD d s3 | none => .bad) Q X = oq (dSlice l u x) _
    cases dSlice l u x <;> rfl
@[simp] theorem wp_pNone {QO : Option Int → PD.St → Prop} : wp (pNone st) QO X = QO none st := rfl
@[simp] theorem wp_pSome {QO : Option Int → PD.St → Prop} : wp (pSome A st) QO X = wp (A st) (fun w s => oq (intW w) fun i => QO (some i) s) X := by
  unfold pSome
  rw [wp_bind]
  refine wp_fun fun w s => ?_
  cases w with
  | sl i => rfl
  | v y => cases y with
    | d y => cases y <;> rfl
    | _ => rfl
@[simp] theorem dSlice_l {l u : Option Int} {xs : List D} : dSlice l u (.list xs) = some (.list (cutD xs l u)) := nrfl rfl
@[simp] theorem dSlice_t {l u : Option Int} {xs : List D} : dSlice l u (.tuple xs) = some (.tuple (cutD xs l u)) := nrfl rfl
end
theorem cutD_to {α : Type} (xs : List α) (k : Nat) : cutD xs none (some (k : Int)) = xs.take k := by
  unfold cutD
  rw [HT.sIx_none, HT.sIx_nat, List.drop_zero, Nat.sub_zero]
  rcases Nat.le_total k xs.length with h | h
  · rw [Nat.min_eq_left h]
  · rw [Nat.min_eq_right h, List.take_length, List.take_of_length_le h]
theorem cutD_from {α : Type} (xs : List α) (k : Nat) : cutD xs (some (k : Int)) none = xs.drop k := by
  unfold cutD
  rw [HT.sIx_none, HT.sIx_nat]
  rcases Nat.le_total k xs.length with h | h
  · rw [Nat.min_eq_left h, List.take_of_length_le (by simp)]
  · rw [Nat.min_eq_right h, List.drop_length, List.drop_of_length_le h]
    simp
/-! ### equal data, the other text -/
def bEqual2 (A : Fn) : SSem :=
 (sSeq (sIf (tTruth (eIsi .list (eVar 1))) (sSeq (sIf (tOrS (tNotS (tTruth (eIsi .list (eVar 0)))) (tCmp .ne (eLen (eVar 0)) (eLen (eVar 1)))) (sRet (eC (.bool false))) sNext)
  (sRet (eCall A (aCons (eVar 0) (aCons (eVar 1) aNil))))) sNext)
 (sSeq (sIf (tTruth (eIsi .tuple (eVar 1))) (sSeq (sIf (tOrS (tNotS (tTruth (eIsi .tuple (eVar 0)))) (tCmp .ne (eLen (eVar 0)) (eLen (eVar 1)))) (sRet (eC (.bool false))) sNext)
  (sRet (eCall A (aCons (eVar 0) (aCons (eVar 1) aNil))))) sNext)
 (sSeq (sIf (tTruth (eIsi .bool (eVar 1))) (sRet (eAnd (eIsi .bool (eVar 0)) (eCmp .eq (eVar 0) (eVar 1)))) sNext)
 (sSeq (sIf (tTruth (eIsi .int (eVar 1))) (sRet (eAnd (eIsi .int (eVar 0)) (eAnd (eNot (eIsi .bool (eVar 0))) (eCmp .eq (eVar 0) (eVar 1))))) sNext)
 (sSeq (sIf (tTruth (eIsi .str (eVar 1))) (sRet (eAnd (eIsi .str (eVar 0)) (eCmp .eq (eVar 0) (eVar 1)))) sNext)
 (sRet (eCmp .isN (eVar 0) (eC .none))))))))
theorem equal2_ok {E A : Nat → Fn} (hE : ∀ n, E (n + 1) = fnSem 2 2 (bEqual2 (A n))) (hA : ∀ n, A (n + 1) = fnSem 3 2 (bAllEqual (E n))) : ∀ (k n : Nat) (d : D), fit k d = true → EqF (E (n + 2 * k + 1)) d
  | k, n, .none, h, mem => by
    rw [hE]
    refine fn_eq rfl ?_
    simp [bEqual2]
    rfl
  | k, n, .bool b, h, mem => by
    rw [hE]
    refine fn_eq rfl ?_
    simp [bEqual2, dEq_b]
  | k, n, .int i, h, mem => by
    rw [hE]
    refine fn_eq rfl ?_
    simp [bEqual2]
  | k, n, .str s, h, mem => by
    rw [hE]
    refine fn_eq rfl ?_
    have h : PyData.strOk s = true := by cases k <;> exact h
    simp [bEqual2, dEq_s h]
  | 0, n, .list xs, h, mem => by cases h
  | 0, n, .tuple xs, h, mem => by cases h
  | 0, n, .dict xs, h, mem => by cases h
  | k + 1, n, .dict xs, h, mem => by cases h
  | k + 1, n, .list xs, h, mem => by
    obtain ⟨h1, h2⟩ := Bool.and_eq_true_iff.mp (show (xs.all (fit k) && decide (xs.length ≤ 1000000)) = true from h)
    rw [hE]
    refine fn_eq rfl ?_
    have := all_list (E := E (n + 2 * k + 1)) (fun x hx => equal2_ok hE hA k n x (List.all_eq_true.mp h1 x hx)) (of_decide_eq_true h2) mem
    simp [bEqual2]
    rw [show n + 2 * (k + 1) = n + 2 * k + 1 + 1 from by omega, hA, this]
    simp
  | k + 1, n, .tuple xs, h, mem => by
    obtain ⟨h1, h2⟩ := Bool.and_eq_true_iff.mp (show (xs.all (fit k) && decide (xs.length ≤ 1000000)) = true from h)
    rw [hE]
    refine fn_eq rfl ?_
    have := all_tuple (E := E (n + 2 * k + 1)) (fun x hx => equal2_ok hE hA k n x (List.all_eq_true.mp h1 x hx)) (of_decide_eq_true h2) mem
    simp [bEqual2]
    rw [show n + 2 * (k + 1) = n + 2 * k + 1 + 1 from by omega, hA, this]
    simp
section
variable {Q : W → PD.St → Prop} {QF : List D → PD.St → Prop} {QS : Fl → PD.St → Prop} {X : Str → PD.St → Prop} {st : PD.St} {A B C : ESem} {As : ASem}
def two (xs : List Dv) (P : Dv → Dv → Prop) (_ : Kp P P := .k) : Prop := match xs with
  | [x, y] => P x y
  | _ => False
@[simp] theorem two_2 {x y : Dv} {P : Dv → Dv → Prop} : two [x, y] P = P x y := nrfl rfl
def thr (xs : List Dv) (P : Dv → Dv → Dv → Prop) (_ : Kp P P := .k) : Prop := match xs with
  | [x, y, z] => P x y z
  | _ => False
@[simp] theorem thr_3 {x y z : Dv} {P : Dv → Dv → Dv → Prop} : thr [x, y, z] P = P x y z := nrfl rfl
@[simp] theorem wp_sPar2 {i j : Nat} : wp (sPar2 i j As st) QS X = wp (As st) (fun ws s => wp (forceV ws s) (fun xs s1 => two xs fun x y => QS .nx ((s1.setS i (.v x)).setS j (.v y))) X) X := by
  unfold sPar2
  rw [wp_bind]
  refine wp_fun fun ws s => ?_
  rw [wp_bind]
  refine wp_fun fun xs s1 => ?_
  match xs with
  | [] => rfl
  | [_] => rfl
  | [_, _] => rfl
  | _ :: _ :: _ :: _ => rfl
@[simp] theorem wp_sPar3 {i j l : Nat} : wp (sPar3 i j l As st) QS X = wp (As st) (fun ws s => wp (forceV ws s) (fun xs s1 => thr xs fun x y z => QS .nx (((s1.setS i (.v x)).setS j (.v y)).setS l (.v z))) X) X := by
  unfold sPar3
  rw [wp_bind]
  refine wp_fun fun ws s => ?_
  rw [wp_bind]
  refine wp_fun fun xs s1 => ?_
  match xs with
  | [] => rfl
  | [_] => rfl
  | [_, _] => rfl
  | [_, _, _] => rfl
  | _ :: _ :: _ :: _ :: _ => rfl
@[simp] theorem wp_putAt {d : D} {QU : Unit → PD.St → Prop} : wp (putAt A B d st) QU X = wp (A st) (fun o s2 => wp (B s2) (fun i s3 => oq (getL o s3) fun xs => oq (intW i) fun k => oq (ixN xs.length k) fun j => wp (putL o (xs.set j d) s3) QU X) X) X := by
  unfold putAt
  rw [wp_bind]
  refine wp_fun fun o s2 => ?_
  rw [wp_bind]
  refine wp_fun fun i s3 => ?_
  cases getL o s3 with
  | none => cases i with
    | sl n => rfl
    | v x => cases x with
      | d y => cases y <;> rfl
      | _ => rfl
  | some xs =>
    cases i with
    | sl n => rfl
    | v x => cases x with
      | d y => cases y with
        | int k =>
          show wp (match ixN xs.length k with | some j => putL o (xs.set j d) s3 | none => .bad) QU X = oq (ixN xs.length k) _
          cases ixN xs.length k <;> rfl
        | _ => rfl
      | _ => rfl
def pairD : D → Option (D × D)
  | .tuple [x, y] => some (x, y)
  | _ => none
@[simp] theorem pairD_2 {x y : D} : pairD (.tuple [x, y]) = some (x, y) := nrfl rfl
@[simp] theorem wp_sPut2 {O1 I1 O2 I2 : ESem} : wp (sPut2 A O1 I1 O2 I2 st) QS X = wp (A st) (fun w s1 => wp (forceD w s1) (fun d s2 => oq (pairD d) fun p => wp (putAt O1 I1 p.1 s2) (fun _ s3 => wp (putAt O2 I2 p.2 s3) (fun _ s4 => QS .nx s4) X) X) X) X := by
  unfold sPut2
  rw [wp_bind]
  refine wp_fun fun w s1 => ?_
  rw [wp_bind]
  refine wp_fun fun d s2 => ?_
  cases d with
  | tuple xs =>
    match xs with
    | [] => rfl
    | [_] => rfl
    | [x, y] =>
      show wp ((putAt O1 I1 x s2).bind _) QS X = wp (putAt O1 I1 x s2) _ X
      rw [wp_bind]
      refine wp_fun fun _ s3 => ?_
      rw [wp_bind]
      rfl
    | _ :: _ :: _ :: _ => rfl
  | _ => rfl
@[simp] theorem wp_eSetLen : wp (eSetLen A st) Q X = wp (A st) (fun w s => oq (view s w) fun x => oq (lstD x) fun ds => oq (setLen ds) fun n => Q (.v (.d (.int n))) s) X := by
  unfold eSetLen
  rw [wp_bind]
  refine wp_fun fun w s => ?_
  cases view s w with
  | none => rfl
  | some x =>
    cases x with
    | list ds =>
      show wp (match setLen ds with | some n => retD (.int n) s | none => .bad) Q X = oq (setLen ds) _
      cases setLen ds <;> rfl
    | _ => rfl
theorem setLen_i {ns : List Int} (h : ns.length < 1000) : setLen (ns.map .int) = some (dcount ns) := by
  unfold setLen
  rw [asI_map]
  show (if ns.length < 1000 then some (dcount ns) else none) = _
  rw [if_pos h]
theorem ixD_l {ds : List D} {y : D} : ixD (.list ds) y = if (SeqAt.shaped (.list ds) && SeqAt.shaped y) = true then (findD y ds).map fun (j : Nat) => PyData.int (j : Int) else none := nrfl rfl
@[simp] theorem cntD_i {ns : List Int} {n : Int} : cntD (.list (ns.map .int)) (.int n) = some (.int (ns.count n : Nat)) := by
  show (asI (ns.map .int)).map _ = _
  rw [asI_map]
  rfl
@[simp] theorem wp_eExt : wp (eExt A B st) Q X = wp (A st) (fun w s1 => oq (getL w s1) fun _ => wp (B s1) (fun u s2 => oq (getL w s2) fun xs => oq (viewD s2 u) fun y => oq (lstD y) fun ys => xs.length + ys.length ≤ sizeLine ∧ wp (putL w (xs ++ ys) s2) (fun _ s3 => Q (.v (.d .none)) s3) X) X) X := by
  unfold eExt
  rw [wp_bind]
  refine wp_fun fun w s1 => ?_
  cases getL w s1 with
  | none => rfl
  | some _ =>
    show wp ((B s1).bind _) Q X = wp (B s1) _ X
    rw [wp_bind]
    refine wp_fun fun u s2 => ?_
    cases getL w s2 with
    | none => rfl
    | some xs =>
      cases viewD s2 u with
      | none => rfl
      | some y =>
        cases y with
        | list ys =>
          show wp (if xs.length + ys.length ≤ sizeLine then (putL w (xs ++ ys) s2).bind fun _ s4 => retD .none s4 else .bad) Q X = (xs.length + ys.length ≤ sizeLine ∧ wp (putL w (xs ++ ys) s2) _ X)
          by_cases hz : xs.length + ys.length ≤ sizeLine
          · rw [if_pos hz, and_iff hz, wp_bind]
            rfl
          · rw [if_neg hz, and_no hz]
            rfl
        | _ => rfl
end
end PD

set_option Elab.async false
set_option linter.all false
set_option maxRecDepth 100000
set_option maxHeartbeats 1000000
/-! PDHelp2: rules for reasoning backwards: the later pieces; walks by index; lists in order. -/
namespace PD
open PySem PySem.Spec PyProof.Rows L2
section
variable {Q : W → St → Prop} {QF : List D → St → Prop} {QM : List (D × D) → St → Prop} {QG : Int × Int → St → Prop} {QS : Fl → St → Prop} {X : Str → St → Prop} {st : St} {A B C : ESem} {F : MSem} {G : GSem} {i : Nat}
def slI : Option Slot → Option Int
  | some (.v (.d (.int x))) => some x
  | _ => none
@[simp] theorem slI_v {x : Int} : slI (some (.v (.d (.int x)))) = some x := nrfl rfl
@[simp] theorem wp_sAug {neg : Bool} : wp (sAug neg i A st) QS X = oq (slI st.env[i]?) fun x => wp (A st) (fun w s => oq (intW w) fun y => QS .nx (s.setS i (.v (.d (.int (if neg = true then x - y else x + y)))))) X := by
  unfold sAug
  cases st.env[i]? with
  | none => rfl
  | some sl => cases sl with
    | emp => rfl
    | own _ => rfl
    | v x => cases x with
      | c n => rfl
      | k x => rfl
      | d x => cases x with
        | int x =>
          dsimp only [slI]
          rw [wp_bind, oq_some]
          refine wp_fun fun w s => ?_
          cases w with
          | sl j => rfl
          | v y => cases y with
            | c n => rfl
            | k y => rfl
            | d y => cases y with
              | int y => cases neg <;> rfl
              | _ => rfl
        | _ => rfl
theorem intW?_is {w : W} : intW? w = intW w := by
  cases w with
  | sl j => rfl
  | v x => cases x with
    | d x => cases x <;> rfl
    | _ => rfl
@[simp] theorem wp_gR1 : wp (gR1 A st) QG X = wp (A st) (fun w s => oq (intW w) fun j => QG (0, j) s) X := by
  unfold gR1
  rw [wp_bind]
  refine wp_fun fun w s => ?_
  rw [intW?_is]
  cases intW w <;> rfl
@[simp] theorem wp_gR2 : wp (gR2 A B st) QG X = wp (A st) (fun w s => wp (B s) (fun u s' => oq (intW w) fun i => oq (intW u) fun j => QG (i, j) s') X) X := by
  unfold gR2
  rw [wp_bind]
  refine wp_fun fun w s => ?_
  rw [wp_bind]
  refine wp_fun fun u s' => ?_
  rw [intW?_is, intW?_is]
  cases intW w <;> cases intW u <;> rfl
@[simp] theorem wp_fRg : wp (fRg G st) QF X = wp (G st) (fun q s => rgOk q.1 q.2 = true ∧ QF (rngD q.1 (q.2 - q.1).toNat) s) X := by
  unfold fRg
  rw [wp_bind]
  refine wp_fun fun q s => ?_
  by_cases h : rgOk q.1 q.2 = true
  · rw [if_pos h, and_iff h]; rfl
  · rw [if_neg h, and_no h]; rfl
@[simp] theorem wp_eTupRg : wp (eTupRg G st) Q X = wp (G st) (fun q s => rgOk q.1 q.2 = true ∧ Q (.v (.d (.tuple (rngD q.1 (q.2 - q.1).toNat)))) s) X := by
  unfold eTupRg
  rw [wp_bind]
  refine wp_fun fun q s => ?_
  by_cases h : rgOk q.1 q.2 = true
  · rw [if_pos h, and_iff h]; rfl
  · rw [if_neg h, and_no h]; rfl
theorem rgOk_lit {x y : Int} (h0 : 0 ≤ x) (h1 : x < 1000000000) (h2 : 0 ≤ y) (h3 : y < 16777216) : rgOk x y = true := by
  unfold rgOk
  rw [small_lit h0 h1, small_lit h2 (by omega), Bool.true_and, Bool.true_and, decide_eq_true_eq]
  omega
@[simp] theorem wp_mNil : wp (mNil st) QM X = QM [] st := nrfl rfl
@[simp] theorem wp_sSetM : wp (sSetM i F st) QS X = wp (F st) (fun kvs s => QS .nx (s.setS i (.own (.dct kvs)))) X := by
  unfold sSetM; rw [wp_bind]; rfl
@[simp] theorem wp_sSetMC : wp (sSetMC i F st) QS X = wp (F st) (fun kvs s => QS .nx ⟨s.env.set i (.v (.c s.mem.length)), s.mem ++ [.dct kvs]⟩) X := by
  unfold sSetMC; rw [wp_bind]; rfl
def dctD : D → Option (List (D × D))
  | .dict kvs => some kvs
  | _ => none
@[simp] theorem dctD_d {kvs : List (D × D)} : dctD (.dict kvs) = some kvs := nrfl rfl
@[simp] theorem wp_eGet1 : wp (eGet1 A B st) Q X = wp (A st) (fun w s1 => oq (view s1 w) fun x => oq (dctD x) fun _ => wp (B s1) (fun u s2 => oq (view s2 w) fun y => oq (dctD y) fun kvs => oq (viewD s2 u) fun z => kkOk kvs z = true ∧ Q (.v (.d ((lookD kvs z).getD .none))) s2) X) X := by
  unfold eGet1
  rw [wp_bind]
  refine wp_fun fun w s1 => ?_
  cases view s1 w with
  | none => rfl
  | some x => cases x with
    | dict kvs0 =>
      show wp ((B s1).bind _) Q X = wp (B s1) _ X
      rw [wp_bind]
      refine wp_fun fun u s2 => ?_
      cases view s2 w with
      | none => rfl
      | some y => cases y with
        | dict kvs =>
          cases viewD s2 u with
          | none => rfl
          | some z =>
            show wp (if kkOk kvs z = true then _ else _) Q X = (_ ∧ _)
            by_cases h : kkOk kvs z = true
            · rw [if_pos h, and_iff h]; rfl
            · rw [if_neg h, and_no h]; rfl
        | _ => cases viewD s2 u <;> rfl
    | _ => rfl
@[simp] theorem wp_eGet2 : wp (eGet2 A B C st) Q X = wp (A st) (fun w s1 => oq (view s1 w) fun x => oq (dctD x) fun _ => wp (B s1) (fun u s2 => wp (C s2) (fun z s3 => wp (forceD z s3) (fun d s4 => oq (view s4 w) fun y => oq (dctD y) fun kvs => oq (viewD s4 u) fun k => kkOk kvs k = true ∧ Q (.v (.d ((lookD kvs k).getD d))) s4) X) X) X) X := by
  unfold eGet2
  rw [wp_bind]
  refine wp_fun fun w s1 => ?_
  cases view s1 w with
  | none => rfl
  | some x => cases x with
    | dict kvs0 =>
      show wp ((B s1).bind _) Q X = wp (B s1) _ X
      rw [wp_bind]
      refine wp_fun fun u s2 => ?_
      rw [wp_bind]
      refine wp_fun fun z s3 => ?_
      rw [wp_bind]
      refine wp_fun fun d s4 => ?_
      cases view s4 w with
      | none => rfl
      | some y => cases y with
        | dict kvs =>
          cases viewD s4 u with
          | none => rfl
          | some k =>
            show wp (if kkOk kvs k = true then _ else _) Q X = (_ ∧ _)
            by_cases h : kkOk kvs k = true
            · rw [if_pos h, and_iff h]; rfl
            · rw [if_neg h, and_no h]; rfl
        | _ => cases viewD s4 u <;> rfl
    | _ => rfl
end
def lcq (o : Option Slot) (P : List D → Prop) (R : Prop) (_ : Kp P R := .k) : Prop := match o with
  | some (.own (.lst items)) => P items
  | some (.v _) => R
  | _ => False
@[simp] theorem lcq_own {xs : List D} {P : List D → Prop} {R : Prop} : lcq (some (.own (.lst xs))) P R = P xs := nrfl rfl
@[simp] theorem lcq_v {x : Dv} {P : List D → Prop} {R : Prop} : lcq (some (.v x)) P R = R := nrfl rfl
@[simp] theorem wp_fLcA {QF : List D → St → Prop} {X : Str → St → Prop} {st : St} {A : ESem} {own : List Nat} {bd : Bd} {T : TSem} {j : Nat} : wp (fLcA j own bd T A st) QF X = lcq st.env[j]? (fun items => okWipe own (st.setS j .emp).env = true ∧ items.length ≤ sizeLine ∧ wp (comp own bd T A items ((st.setS j .emp).wipe own)) (fun ds s' => QF ds (St.setS { s' with env := restore own (st.setS j .emp).env s'.env } j (.own (.lst items)))) X)
    (wp (fLc (iSeq (eVar j)) own bd T A st) QF X) := by
  unfold fLcA
  cases st.env[j]? with
  | none => rfl
  | some sl => cases sl with
    | emp => rfl
    | v x => rfl
    | own w => cases w with
      | dct _ => rfl
      | lst items =>
        show wp (if (okWipe own (st.setS j .emp).env && decide (items.length ≤ sizeLine)) = true then _ else _) QF X = (_ ∧ _ ∧ _)
        by_cases h : (okWipe own (st.setS j .emp).env && decide (items.length ≤ sizeLine)) = true
        · rw [if_pos h]
          rw [Bool.and_eq_true_iff, decide_eq_true_eq] at h
          rw [and_iff h.1, and_iff h.2, wp_bind]
          rfl
        · rw [if_neg h]
          rw [Bool.and_eq_true_iff, decide_eq_true_eq] at h
          exact propext ⟨False.elim, fun ⟨h1, h2, _⟩ => h ⟨h1, h2⟩⟩
@[simp] theorem isN_n : isN .none = true := nrfl rfl
@[simp] theorem isN_b {b : Bool} : isN (.bool b) = false := nrfl rfl
@[simp] theorem isN_i {i : Int} : isN (.int i) = false := nrfl rfl
@[simp] theorem isN_s {z : Str} : isN (.str z) = false := nrfl rfl
@[simp] theorem isN_l {xs : List D} : isN (.list xs) = false := nrfl rfl
@[simp] theorem isN_t {xs : List D} : isN (.tuple xs) = false := nrfl rfl
@[simp] theorem isN_d {xs : List (D × D)} : isN (.dict xs) = false := nrfl rfl
/-! ### walks by index -/
theorem take_snoc {α : Type} {xs : List α} {i : Nat} (h : i < xs.length) : xs.take (i + 1) = xs.take i ++ [xs[i]] := List.take_succ_eq_append_getElem h
theorem rng_list {α β : Type} {xs : List α} {t : Nat → Bool} {a : Nat → β} {t' : α → Bool} {a' : α → β} (ht : ∀ i (h : i < xs.length), t i = t' xs[i]) (ha : ∀ i (h : i < xs.length), a i = a' xs[i]) :
    ((List.range xs.length).filter t).map a = (xs.filter t').map a' := by
  have key : ∀ n, n ≤ xs.length → ((List.range n).filter t).map a = ((xs.take n).filter t').map a' := by
    intro n
    induction n with
    | zero => intro _; simp
    | succ n ih =>
      intro h
      rw [List.range_succ, List.filter_append, List.map_append, take_snoc (by omega), List.filter_append, List.map_append, ih (by omega)]
      congr 1
      have h1 := ht n (by omega)
      have h2 := ha n (by omega)
      cases e : t' xs[n] with
      | true => simp [h1, e, h2]
      | false => simp [h1, e]
  have := key xs.length (Nat.le_refl _)
  rwa [List.take_length] at this
section
variable {τ : Type} {xs : List τ} {bd : Bd} {body : SSem} {st s0 : St} {QS : Fl → St → Prop} {X : Str → St → Prop} {T : TSem} {A : ESem} {own : List Nat}
theorem comp_idx {t : τ → Bool} {a : τ → D} (h : ∀ i (hi : i < xs.length), oq (bd.put (.int (0 + (i : Int))) s0) fun s1 => wp (T s1) (fun b s2 => b = t xs[i] ∧ if b = true then
      wp (A s2) (fun w s3 => wp (forceD w s3) (fun d s4 => d = a xs[i] ∧ s4.wipe own = s0) nX) nX else s2.wipe own = s0) nX) : comp own bd T A (rngD 0 xs.length) s0 = .ok ((xs.filter t).map a) s0 := by
  have e := rng_list (xs := xs) (t := fun i => if h : i < xs.length then t xs[i] else false) (a := fun i => if h : i < xs.length then a xs[i] else .none) (t' := t) (a' := a) (fun i hi => by simp [hi]) (fun i hi => by simp [hi])
  rw [← e]
  refine comp_rng fun i hi => ?_
  have h1 := h i hi
  have e1 : (if h : i < xs.length then t xs[i] else false) = t xs[i] := dif_pos hi
  have e2 : (if h : i < xs.length then a xs[i] else .none) = a xs[i] := dif_pos hi
  rw [← e1, ← e2] at h1
  exact h1
theorem wp_loop_idx (Inv : List τ → St → Prop) (h0 : Inv [] st)
    (hs : ∀ i (hi : i < xs.length) s, Inv (xs.take i) s → oq (bd.put (.int (0 + (i : Int))) s) fun s1 => wp (body s1) (fun f s => turnQ (Inv (xs.take i ++ [xs[i]])) QS f s) X)
    (hd : ∀ s, Inv xs s → QS .nx s) : wp (loop bd body (rngD 0 xs.length) st) QS X := by
  refine wp_loop_rng (fun i s => Inv (xs.take i) s) (by simpa using h0) (fun i s hi h => ?_) fun s h => hd s (by simpa using h)
  have := hs i hi s h
  rw [← take_snoc hi] at this
  exact this
end
/-! ### lists in order -/
theorem okSort_ints (xs : List Int) : okSort (xs.map .int) = true := by
  unfold okSort
  rw [okOrd_ints]
  simp [noTup]
theorem sortD_ints (xs : List Int) : sortD (xs.map .int) = (xs.mergeSort fun a b => decide (a ≤ b)).map .int := by
  unfold sortD
  rw [List.map_mergeSort]
  intro a _ b _
  have := congrFun (congrFun (PySem.W.dataLe_int (β := Int) id) a) b
  exact this.symm
abbrev p2D (p : Int × Int) : D := .tuple [.int p.1, .int p.2]
def le2 (p q : Int × Int) : Bool := decide (p.1 < q.1 ∨ (p.1 = q.1 ∧ p.2 ≤ q.2))
theorem okSort_p2 (ps : List (Int × Int)) : okSort (ps.map p2D) = true := by
  have hd : PyData.depthAll (ps.map p2D) ≤ 1 := by
    induction ps with
    | nil => exact Nat.zero_le _
    | cons p ps ih =>
      rw [List.map_cons, PyData.depthAll]
      have : (p2D p).depth = 1 := rfl
      omega
  unfold okSort okOrd
  simp only [Bool.and_eq_true, Bool.or_eq_true, List.all_eq_true, decide_eq_true_eq]
  refine ⟨⟨⟨fun x hx y hy => ?_, fun x hx => ?_⟩, by omega⟩, .inl fun x hx => ?_⟩
  · obtain ⟨i, _, rfl⟩ := List.mem_map.mp hx
    obtain ⟨j, _, rfl⟩ := List.mem_map.mp hy
    rfl
  · obtain ⟨i, _, rfl⟩ := List.mem_map.mp hx
    rfl
  · obtain ⟨i, _, rfl⟩ := List.mem_map.mp hx
    rfl
theorem sortD_p2 (ps : List (Int × Int)) : sortD (ps.map p2D) = (ps.mergeSort le2).map p2D := by
  unfold sortD
  rw [List.map_mergeSort]
  intro a _ b _
  have := congrFun (congrFun (PySem.W.dataLe_ii (β := Int × Int) Prod.fst Prod.snd) a) b
  exact this.symm
theorem le2_trans (a b c : Int × Int) (h : le2 a b = true) (g : le2 b c = true) : le2 a c = true := by
  unfold le2 at *
  simp only [decide_eq_true_eq] at *
  omega
theorem le2_total (a b : Int × Int) : (le2 a b || le2 b a) = true := by
  unfold le2
  simp only [Bool.or_eq_true, decide_eq_true_eq]
  omega
theorem le2_anti {a b : Int × Int} (h : le2 a b = true) (g : le2 b a = true) : a = b := by
  unfold le2 at *
  simp only [decide_eq_true_eq] at *
  exact Prod.ext (by omega) (by omega)
theorem sort2_pw (ps : List (Int × Int)) : (ps.mergeSort le2).Pairwise fun a b => le2 a b = true := List.pairwise_mergeSort le2_trans le2_total ps
theorem sort2_is {ps qs : List (Int × Int)} (hp : ps.Perm qs) (h : qs.Pairwise fun a b => le2 a b = true) : ps.mergeSort le2 = qs :=
  List.Perm.eq_of_pairwise (fun a b _ _ h g => le2_anti h g) (sort2_pw ps) h ((List.mergeSort_perm ps le2).trans hp)
theorem sort1_pw (ps : List Int) : (ps.mergeSort fun a b => decide (a ≤ b)).Pairwise (· ≤ ·) := by
  have := List.pairwise_mergeSort (le := fun (a b : Int) => decide (a ≤ b)) (fun a b c h g => by simp at *; omega) (fun a b => by simp; omega) ps
  simpa using this
theorem sort1_is {ps qs : List Int} (hp : ps.Perm qs) (h : qs.Pairwise (· ≤ ·)) : (ps.mergeSort fun a b => decide (a ≤ b)) = qs :=
  List.Perm.eq_of_pairwise (fun a b _ _ h g => by omega) (sort1_pw ps) h ((List.mergeSort_perm ps _).trans hp)
/-! ### equal data -/
mutual
theorem eqv_self : ∀ (d : D) (k : Nat), fit k d = true → PyData.eqv d d = true
  | .none, k, _ => by simp [PyData.eqv]
  | .bool _, k, _ => by simp [PyData.eqv]
  | .int _, k, _ => by simp [PyData.eqv]
  | .str s, k, h => by simp [PyData.eqv]
  | .list xs, 0, h => by cases h
  | .tuple xs, 0, h => by cases h
  | .dict xs, 0, h => by cases h
  | .dict xs, k + 1, h => by cases h
  | .list xs, k + 1, h => by
    obtain ⟨h1, _⟩ := Bool.and_eq_true_iff.mp (show (xs.all (fit k) && decide (xs.length ≤ 1000000)) = true from h)
    simp only [PyData.eqv]
    exact eqv_selfs xs k h1
  | .tuple xs, k + 1, h => by
    obtain ⟨h1, _⟩ := Bool.and_eq_true_iff.mp (show (xs.all (fit k) && decide (xs.length ≤ 1000000)) = true from h)
    simp only [PyData.eqv]
    exact eqv_selfs xs k h1
theorem eqv_selfs : ∀ (xs : List D) (k : Nat), xs.all (fit k) = true → PyData.eqvAll xs xs = true
  | [], k, _ => by simp [PyData.eqvAll]
  | x :: xs, k, h => by
    rw [List.all_cons, Bool.and_eq_true_iff] at h
    simp only [PyData.eqvAll, eqv_self x k h.1, eqv_selfs xs k h.2, Bool.and_self]
end
theorem dNe_fit {k : Nat} {x y : D} (hx : fit k x = true) (hy : fit k y = true) (hk : k ≤ 60) : dNe x y = some (.bool (!PyData.eqv x y)) := by
  unfold dNe
  rw [fit_shaped hx hk, fit_shaped hy hk]
  rfl
theorem dEq_self {k : Nat} {x : D} (hx : fit k x = true) (hk : k ≤ 60) : dEq x x = some (.bool true) := by
  rw [dEq_fit hx hx hk, eqv_self x k hx]
theorem dNe_self {k : Nat} {x : D} (hx : fit k x = true) (hk : k ≤ 60) : dNe x x = some (.bool false) := by
  rw [dNe_fit hx hx hk, eqv_self x k hx]
  rfl
theorem dEq_lnil {k : Nat} {xs : List D} (hx : fit (k + 1) (.list xs) = true) (hk : k ≤ 59) : dEq (.list xs) (.list []) = some (.bool xs.isEmpty) := by
  rw [dEq_fit hx (by rfl) (by omega)]
  cases xs <;> rfl
theorem dNe_lnil {k : Nat} {xs : List D} (hx : fit (k + 1) (.list xs) = true) (hk : k ≤ 59) : dNe (.list xs) (.list []) = some (.bool (!xs.isEmpty)) := by
  rw [dNe_fit hx (by rfl) (by omega)]
  cases xs <;> rfl
/-- no bool in it -/
def nob : D → Bool
  | .none => true
  | .bool _ => false
  | .int _ => true
  | .str _ => true
  | .list xs => nobs xs
  | .tuple xs => nobs xs
  | .dict _ => false
where nobs : List D → Bool
  | [] => true
  | x :: xs => nob x && nobs xs
mutual
theorem eqv_iff : ∀ (x y : D), nob x = true → nob y = true → (PyData.eqv x y = true ↔ x = y)
  | .none, y, _, h => by cases y <;> simp [PyData.eqv]
  | .bool _, y, g, _ => by cases g
  | .int _, y, _, h => by cases y <;> simp [PyData.eqv] <;> cases h
  | .str _, y, _, h => by cases y <;> simp [PyData.eqv]
  | .dict _, y, g, _ => by cases g
  | .list xs, y, g, h => by
    cases y <;> simp only [PyData.eqv, reduceCtorEq, PyData.list.injEq, Bool.false_eq_true]
    exact eqvs_iff xs _ g h
  | .tuple xs, y, g, h => by
    cases y <;> simp only [PyData.eqv, reduceCtorEq, PyData.tuple.injEq, Bool.false_eq_true]
    exact eqvs_iff xs _ g h
theorem eqvs_iff : ∀ (xs ys : List D), nob.nobs xs = true → nob.nobs ys = true → (PyData.eqvAll xs ys = true ↔ xs = ys)
  | [], ys, _, _ => by cases ys <;> simp [PyData.eqvAll]
  | x :: xs, [], _, _ => by simp [PyData.eqvAll]
  | x :: xs, y :: ys, g, h => by
    obtain ⟨g1, g2⟩ := Bool.and_eq_true_iff.mp (show (nob x && nob.nobs xs) = true from g)
    obtain ⟨h1, h2⟩ := Bool.and_eq_true_iff.mp (show (nob y && nob.nobs ys) = true from h)
    simp only [PyData.eqvAll, Bool.and_eq_true, List.cons.injEq]
    rw [eqv_iff x y g1 h1, eqvs_iff xs ys g2 h2]
end
/-! ### parts -/
theorem part_perm {α : Type} (key : α → Int) : ∀ (n : Nat) (l : List α), (∀ a ∈ l, 0 ≤ key a ∧ key a < n) → ((List.range n).flatMap fun (d : Nat) => l.filter fun a => decide (key a = (d : Int))).Perm l
  | 0, l, h => by
    have : l = [] := List.eq_nil_iff_forall_not_mem.mpr fun a ha => by have := h a ha; omega
    subst this
    simp
  | n + 1, l, h => by
    rw [List.range_succ, List.flatMap_append]
    have ih := part_perm key n (l.filter fun a => !decide (key a = (n : Int))) (by
      intro a ha
      obtain ⟨h1, h2⟩ := List.mem_filter.mp ha
      have := h a h1
      simp at h2
      omega)
    have e : ((List.range n).flatMap fun (d : Nat) => l.filter fun a => decide (key a = (d : Int))) = (List.range n).flatMap fun (d : Nat) => (l.filter fun a => !decide (key a = (n : Int))).filter fun a => decide (key a = (d : Int)) := by
      rw [List.flatMap_def, List.flatMap_def]
      congr 1
      refine List.map_congr_left fun d hd => ?_
      rw [List.filter_filter]
      refine List.filter_congr fun a _ => ?_
      have := List.mem_range.mp hd
      by_cases h1 : key a = (d : Int)
      · have h2 : ¬ key a = (n : Int) := by omega
        simp [h1]
        omega
      · simp [h1]
    rw [e]
    refine (ih.append_right _).trans ?_
    simp only [List.flatMap_cons, List.flatMap_nil, List.append_nil]
    exact List.perm_append_comm.trans (List.filter_append_perm _ l)
/-! ### ends -/
/-- a text that ends by True; nothing looks into it -/
@[irreducible] def EndsT (P : SSem) (s : PD.St) : Prop := wp (P s) (endQ fun v _ => v = .d (.bool true)) (fun _ _ => False)
theorem EndsT_eq {P : SSem} {s : PD.St} : EndsT P s = wp (P s) (endQ fun v _ => v = .d (.bool true)) (fun _ _ => False) := by
  unfold EndsT
  rfl
@[simp] theorem tupOf_l {xs : List D} : dTupleOf (.list xs) = some (.tuple xs) := nrfl rfl
@[simp] theorem dAdd_l {xs ys : List D} : dAdd (.list xs) (.list ys) = if xs.length + ys.length ≤ sizeLine then some (.list (xs ++ ys)) else none := nrfl rfl
@[simp] theorem dAdd_t {xs ys : List D} : dAdd (.tuple xs) (.tuple ys) = if xs.length + ys.length ≤ sizeLine then some (.tuple (xs ++ ys)) else none := nrfl rfl
/-! ### a number and a row -/
abbrev ilD (p : Int × List Int) : D := .tuple [.int p.1, dI p.2]
def ltIl (p q : Int × List Int) : Bool := decide (p.1 < q.1 ∨ (p.1 = q.1 ∧ p.2 < q.2))
theorem eqv_dI : ∀ xs ys : List Int, PyData.eqvAll (xs.map .int) (ys.map .int) = decide (xs = ys)
  | [], [] => rfl
  | [], _ :: _ => rfl
  | _ :: _, [] => rfl
  | x :: xs, y :: ys => by
    rw [List.map_cons, List.map_cons, PyData.eqvAll, eqv_dI xs ys]
    simp only [PyData.eqv, List.cons.injEq, Bool.decide_and]
    rw [Bool.beq_eq_decide_eq]
theorem dataLt_il (p q : Int × List Int) : PySem.W.dataLt (ilD p) (ilD q) = ltIl p q := by
  have a1 : PySem.W.alike (dI p.2) (dI q.2) = true := by
    simp only [PySem.W.alike]
    exact PySem.W.alike_ints _ _
  rw [PySem.W.dataLt_pair (by simp [PySem.W.alike]) a1, PySem.W.dataLt_int]
  have e1 : PySem.W.dataLt (dI p.2) (dI q.2) = decide (p.2 < q.2) := by
    rw [PySem.W.dataLt_list]
    exact PySem.W.dataLt_ints _ _
  rw [e1]
  have e2 : PyData.eqv (dI p.2) (dI q.2) = decide (p.2 = q.2) := by
    simp only [PyData.eqv]
    exact eqv_dI _ _
  rw [e2]
  simp only [PyData.eqv, beq_iff_eq, ltIl]
  by_cases h1 : p.1 = q.1
  · by_cases h2 : p.2 = q.2
    · simp [h1, h2]
    · simp [h1, h2]
  · simp [h1]
theorem okOrd_il (ps : List (Int × List Int)) : okOrd (ps.map ilD) = true := by
  have hd : PyData.depthAll (ps.map ilD) ≤ 2 := by
    induction ps with
    | nil => exact Nat.zero_le _
    | cons p ps ih =>
      rw [List.map_cons, PyData.depthAll]
      have e : PyData.depthAll (p.2.map PyData.int) = 0 := PySem.W.depth_ints p.2
      have : (ilD p).depth ≤ 2 := by
        simp only [PyData.depth, PyData.depthAll, e]
        omega
      omega
  unfold okOrd
  simp only [Bool.and_eq_true, List.all_eq_true, decide_eq_true_eq]
  refine ⟨⟨fun x hx y hy => ?_, fun x hx => ?_⟩, by omega⟩
  · obtain ⟨p, _, rfl⟩ := List.mem_map.mp hx
    obtain ⟨q, _, rfl⟩ := List.mem_map.mp hy
    simp only [PySem.W.alike, PySem.W.alikeAll, Bool.and_true, Bool.true_and]
    exact PySem.W.alike_ints _ _
  · obtain ⟨p, _, rfl⟩ := List.mem_map.mp hx
    rfl
def minIl (p : Int × List Int) (ps : List (Int × List Int)) : Int × List Int := ps.foldl (fun a y => if ltIl y a = true then y else a) p
theorem minD_il : ∀ (ps : List (Int × List Int)) (p : Int × List Int), PySem.W.minD (ilD p) (ps.map ilD) = ilD (minIl p ps)
  | [], p => rfl
  | q :: ps, p => by
    show (ps.map ilD).foldl _ (if PySem.W.dataLt (ilD q) (ilD p) = true then ilD q else ilD p) = _
    rw [dataLt_il]
    have e : (if ltIl q p = true then ilD q else ilD p) = ilD (if ltIl q p = true then q else p) := by split <;> rfl
    rw [e]
    exact minD_il ps _
/-! ### lists handed over -/
@[simp] theorem wp_sRetC {F : FSem} {st : PD.St} {QS : Fl → PD.St → Prop} {X : Str → PD.St → Prop} : wp (sRetC F st) QS X = wp (F st) (fun xs s => QS (.rt (.c s.mem.length)) ⟨s.env, s.mem ++ [.lst xs]⟩) X := by
  unfold sRetC; rw [wp_bind]; rfl
@[simp] theorem wp_fCall {f : Fn} {As : ASem} {st : PD.St} {QF : List D → PD.St → Prop} {X : Str → PD.St → Prop} : wp (fCall f As st) QF X = wp (As st) (fun ws s => wp (forceV ws s) (fun xs s1 => wp (f xs s1.mem) (fun x m => oq (adopt s1.mem.length x m) fun q => QF q.1 { s1 with mem := q.2 }) (fun c m => X c { s1 with mem := m })) X) X := by
  unfold fCall
  rw [wp_bind]
  refine wp_fun fun ws s => ?_
  rw [wp_bind]
  refine wp_fun fun xs s1 => ?_
  cases f xs s1.mem with
  | ok x m =>
    show wp (match adopt s1.mem.length x m with | some q => _ | none => _) QF X = oq (adopt s1.mem.length x m) _
    cases adopt s1.mem.length x m <;> rfl
  | exc c m => rfl
  | bad => rfl
theorem adopt_last {m0 n : Nat} {mem : List Cell} {ds : List D} (h : m0 ≤ mem.length) (hn : n = mem.length) (hb : mem.all Cell.bare = true) : adopt m0 (.c n) (mem ++ [.lst ds]) = some (ds, mem) := by
  subst hn
  unfold adopt
  simp only [List.getLast?_append, List.getLast?_singleton, Option.some_or]
  rw [if_pos ⟨by simp, h, by rw [List.all_append, hb]; rfl⟩]
  simp
theorem Dm.bare {mem : List Cell} (h : Dm mem) : mem.all Cell.bare = true := by
  obtain ⟨xs, a, _, _, rfl⟩ := h
  rfl
theorem Dm.len {mem : List Cell} (h : Dm mem) : mem.length = 1 := by
  obtain ⟨xs, a, _, _, rfl⟩ := h
  rfl
@[simp] theorem atI_5 {α : Type} {a b c d e f : α} {xs : List α} : atI (a :: b :: c :: d :: e :: f :: xs) 5 = some f := atI_of (n := 5) rfl rfl
@[simp] theorem atI_6 {α : Type} {a b c d e f g : α} {xs : List α} : atI (a :: b :: c :: d :: e :: f :: g :: xs) 6 = some g := atI_of (n := 6) rfl rfl
@[simp] theorem atI_7 {α : Type} {a b c d e f g h : α} {xs : List α} : atI (a :: b :: c :: d :: e :: f :: g :: h :: xs) 7 = some h := atI_of (n := 7) rfl rfl
@[simp] theorem atI_8 {α : Type} {a b c d e f g h i : α} {xs : List α} : atI (a :: b :: c :: d :: e :: f :: g :: h :: i :: xs) 8 = some i := atI_of (n := 8) rfl rfl
end PD

set_option Elab.async false
set_option linter.all false
set_option maxRecDepth 100000
set_option maxHeartbeats 1000000
/-! PDObj: objects of the text's classes: fields, methods, new ones; new lists and dicts as cells; a dict of one pair. -/
namespace PD
open PySem PySem.Spec PyProof.Rows L2

/-! ### fields by name -/
def getF (f : Str) : List (Str × Dv) → Option Dv
  | [] => none
  | (g, x) :: r => if g = f then some x else getF f r
def putFD (f : Str) (x : Dv) : List (Str × Dv) → List (Str × Dv)
  | [] => [(f, x)]
  | (g, y) :: r => if g = f then (g, x) :: r else (g, y) :: putFD f x r
section
variable {K : PySem.W.Frag} {G : Hp} {A : List Addr} {f : Str} {v : V} {x : Dv}
theorem fld_get : ∀ {gs : List (Str × V)} {fs : List (Str × Dv)}, FldOk K G A gs fs → (getF f fs = none ∧ gs.lookup f = none) ∨ ∃ x v, getF f fs = some x ∧ gs.lookup f = some v ∧ DvOk K G A v x
  | _, _, .nil => .inl ⟨rfl, rfl⟩
  | (g, u) :: gs, (h, y) :: fs, .cons ⟨e, d⟩ t => by
    have e : g = h := e
    subst e
    unfold getF
    simp only [List.lookup]
    by_cases k : g = f
    · subst k
      rw [if_pos rfl, beq_self_eq_true]
      exact .inr ⟨y, u, rfl, rfl, d⟩
    · rw [if_neg k, beq_eq_false_iff_ne.mpr (fun z => k z.symm)]
      exact fld_get t
theorem fld_put (hv : DvOk K G A v x) : ∀ {gs : List (Str × V)} {fs : List (Str × Dv)}, FldOk K G A gs fs → FldOk K G A (putF f v gs) (putFD f x fs)
  | _, _, .nil => .cons ⟨rfl, hv⟩ .nil
  | (g, u) :: gs, (h, y) :: fs, .cons ⟨e, d⟩ t => by
    have e : g = h := e
    subst e
    show FldOk K G A (if g = f then (g, v) :: gs else (g, u) :: putF f v gs) (if g = f then (g, x) :: fs else (g, y) :: putFD f x fs)
    by_cases k : g = f
    · rw [if_pos k, if_pos k]
      exact .cons ⟨rfl, hv⟩ t
    · rw [if_neg k, if_neg k]
      exact .cons ⟨rfl, d⟩ (fld_put hv t)
theorem fld_len : ∀ {gs : List (Str × V)} {fs : List (Str × Dv)}, FldOk K G A gs fs → gs.length = fs.length
  | _, _, .nil => rfl
  | _ :: _, _ :: _, .cons _ t => congrArg (· + 1) (fld_len t)
end
/-- the object of class C that a value names: its cell, its fields -/
def objAt (C : Str) (w : W) (st : St) : Option (Nat × List (Str × Dv)) := match w with
  | .v (.c n) => (match st.mem[n]? with
    | some (.obj D fs) => if D = C then some (n, fs) else none
    | _ => none)
  | _ => none
theorem objAt_ok {K : PySem.W.Frag} {σ : L2.St} {c : Cf} (o : Ok K σ c) {C : Str} {w : W} {v : V} {q : Nat × List (Str × Dv)} (hw : WOk K σ c v w) (e : objAt C w c.st = some q) :
    w = .v (.c q.1) ∧ ∃ a dx gs, v = .ref a ∧ c.A[q.1]? = some a ∧ c.st.mem[q.1]? = some (.obj C q.2) ∧ c.H a = some (.ins (He.ga K C) dx gs) ∧ FldOk K c.G c.A gs q.2 := by
  unfold objAt at e
  cases w with
  | sl i => cases e
  | v x => cases x with
    | d x => cases e
    | k x => cases e
    | c n =>
      obtain ⟨a, ha, rfl⟩ := hw
      cases hm : c.st.mem[n]? with
      | none => simp only [hm] at e; cases e
      | some ce =>
        simp only [hm] at e
        cases ce with
        | obj D fs =>
          by_cases hD : D = C
          · subst hD
            have e : (if D = D then some (n, fs) else none) = some q := e
            rw [if_pos rfl] at e
            cases e
            obtain ⟨dx, gs, h1, h2⟩ := o.cell n _ a hm ha
            exact ⟨rfl, a, dx, gs, rfl, ha, hm, h1, h2⟩
          · have e : (if D = C then some (n, fs) else none) = some q := e
            rw [if_neg hD] at e
            cases e
        | _ => cases e
def eFld (C f : Str) (A : ESem) : ESem := fun st => (A st).bind fun w s => match objAt C w s with
  | some q => (match getF f q.2 with
    | some x => .ok (.v x) s
    | none => .bad)
  | none => .bad
/-- o.f = value -/
def sFS (C f : Str) (A O : ESem) : SSem := fun st => (A st).bind fun w s1 => (force w s1).bind fun x s2 => (O s2).bind fun o s3 => match objAt C o s3 with
  | some q => if q.2.length < 1000 then .ok .nx { s3 with mem := s3.mem.set q.1 (.obj C (putFD f x q.2)) } else .bad
  | none => .bad
section
variable {X : Cx} {E : XW} {pos pos' : Pos} {a e : Expr} {A B : ESem} {C f : Str}
theorem e_fld (c : Cls X.K (He.ga X.K C)) (n : NoAttr X.K (He.ga X.K C) f) (ha : PE X a (tE X.K E A)) (hb : attributeBase a f X.env (eval a X.env) = eval a X.env := by rfl) : PE X (.Attribute a f pos) (tE X.K E (eFld C f A)) := by
  refine PE_imp (pe_fld ha hb) fun σ H Q h => ?_
  obtain ⟨c0, rfl, o, h⟩ := h
  refine ⟨c0, rfl, o, h.bind.mono fun w c1 l1 o1 h1 v hv => ?_⟩
  cases q : objAt C w c1.st with
  | none => simp only [q] at h1; exact h1.elim
  | some p =>
    simp only [q] at h1
    obtain ⟨_, a0, dx, gs, rfl, _, _, hH, hF⟩ := objAt_ok o1 hv q
    rcases fld_get (f := f) hF with ⟨g1, _⟩ | ⟨x, u, g1, g2, d⟩
    · simp only [g1] at h1; exact h1.elim
    · simp only [g1] at h1
      exact ⟨a0, _, dx, gs, u, rfl, hH, c, n, g2, h1.here o1 u d⟩
theorem s_fs (c : Cls X.K (He.ga X.K C)) (n : NoAttr X.K (He.ga X.K C) f) (ha : PE X a (tE X.K E A)) (hb : PE X e (tE X.K E B)) (hs : swapsWith a (some (.Attribute e f pos')) pos.line X.env = pure false := by rfl) :
    PS X (.Assign [.Attribute e f pos'] a pos) (tS X.K E (sFS C f A B)) := by
  refine PS_imp (ps_fld hb ha hs) fun Dn σ H h => ?_
  obtain ⟨c0, rfl, o, h⟩ := h
  refine ⟨c0, rfl, o, (PostS.bind rfl h).mono fun w c1 l1 o1 h1 v hv => ?_⟩
  obtain ⟨x, c2, l2, o2, eh, r2, h2⟩ := postS_force o1 hv h1
  rw [← eh]
  refine ⟨c2, rfl, o2, (PostS.bind rfl h2).mono fun w3 c3 l3 o3 h3 v3 hv3 => ?_⟩
  cases q3 : objAt C w3 c3.st with
  | none => simp only [q3] at h3; exact h3.elim
  | some p =>
    simp only [q3] at h3
    obtain ⟨_, a0, dx, gs, rfl, hA, hM, hH, hF⟩ := objAt_ok o3 hv3 q3
    by_cases hl : p.2.length < 1000
    · rw [if_pos hl] at h3
      refine ⟨a0, _, dx, gs, rfl, hH, c, n, by rw [fld_len hF]; exact hl, ?_⟩
      have o4 := (o3.writeC (ce' := .obj C (putFD f x p.2)) hM hA rfl).2 (.ins (He.ga X.K C) dx (putF f v gs)) ⟨dx, _, upd_same, fld_put (r2.mono l3.g l3.p) hF⟩
      exact h3 σ { c3 with st := { c3.st with mem := c3.st.mem.set p.1 (.obj C (putFD f x p.2)) }, H := upd c3.H a0 (.ins (He.ga X.K C) dx (putF f v gs)) } rfl ⟨rfl, rfl, rfl, Same.refl _, List.prefix_refl _⟩ rfl o4
    · rw [if_neg hl] at h3; exact h3.elim
end

/-! ### new lists and dicts as cells -/
def eNewL (F : FSem) : ESem := fun st => (F st).bind fun xs s => .ok (.v (.c s.mem.length)) ⟨s.env, s.mem ++ [.lst xs]⟩
def eNewM (F : MSem) : ESem := fun st => (F st).bind fun kvs s => .ok (.v (.c s.mem.length)) ⟨s.env, s.mem ++ [.dct kvs]⟩
section
variable {X : Cx} {E : XW} {pos : Pos} {a : Expr}
theorem cell_old {H : Hp} {p : Addr} {u : HO} (hp : H p = none) : ∀ b w, H b = some w → upd H p u b = some w := fun b w e => (upd_ne (ne_of_none e hp)).trans e
theorem e_newL {F : FSem} (ha : PE X a (tF X.K E F)) : PE X a (tE X.K E (eNewL F)) := PE_imp ha fun σ H Q h => by
  obtain ⟨c, rfl, o, h⟩ := h
  refine ⟨c, rfl, o, h.bind.mono fun xs c1 l1 o1 h1 p vs hp hv => ?_⟩
  have o2 := o1.newC (ce := .lst xs) hp (cell_old hp) ⟨vs, upd_same, hv⟩
  exact h1 { c1 with A := c1.A ++ [p], st := ⟨c1.st.env, c1.st.mem ++ [.lst xs]⟩, H := upd c1.H p (.lst vs) } ⟨rfl, rfl, rfl, Same.refl _, List.prefix_append _ _⟩ rfl o2 (.ref p) ⟨p, newC_at o1, rfl⟩
theorem e_newM {F : MSem} (ha : PE X a (tM X.K E F)) : PE X a (tE X.K E (eNewM F)) := PE_imp ha fun σ H Q h => by
  obtain ⟨c, rfl, o, h⟩ := h
  refine ⟨c, rfl, o, h.bind.mono fun kvs c1 l1 o1 h1 p u hp hd => ?_⟩
  have o2 := o1.newC (ce := .dct kvs) hp (cell_old hp) hd
  exact h1 { c1 with A := c1.A ++ [p], st := ⟨c1.st.env, c1.st.mem ++ [.dct kvs]⟩, H := upd c1.H p u } ⟨rfl, rfl, rfl, Same.refl _, List.prefix_append _ _⟩ rfl o2 (.ref p) ⟨p, newC_at o1, rfl⟩
end

/-! ### methods -/
/-- a method at hand -/
structure Mh (P : Program) (w : World) (K : PySem.W.Frag) (mg : Str → Option Value) (base : Heap) (k : Nat) (C m : Str) (f : Fn) : Prop where
  ex : ∃ (a : Addr) (fd : FuncData) (ps : List Str), FnOk P w K mg base (L2.CX P w) k a fd ps (spD K f) ∧ Meth K (He.ga K C) m a ∧ Binds K fd ps []
/-- an __init__ at hand -/
structure Ih (P : Program) (w : World) (K : PySem.W.Frag) (mg : Str → Option Value) (base : Heap) (k : Nat) (C : Str) (f : Fn) : Prop where
  ex : ∃ (a : Addr) (fd : FuncData) (ps : List Str), FnOk P w K mg base (L2.CX P w) k a fd ps (spD K f) ∧ Mk K (He.ga K C) a ∧ Binds K fd ps []
def eMeth (C m : Str) (f : Fn) (O : ESem) (As : ASem) : ESem := fun st => (O st).bind fun o s1 => match objAt C o s1 with
  | some q => (match getF m q.2 with
    | none => (As s1).bind fun ws s2 => (forceV ws s2).bind fun xs s3 => match f (.c q.1 :: xs) s3.mem with
      | .ok x mem' => .ok (.v x) { s3 with mem := mem' }
      | .exc n mem' => .exc n { s3 with mem := mem' }
      | .bad => .bad
    | some _ => .bad)
  | none => .bad
def nonD : Dv → Bool
  | .d .none => true
  | _ => false
def eMake (C : Str) (f : Fn) (As : ASem) : ESem := fun st => (As st).bind fun ws s2 => (forceV ws s2).bind fun xs s3 => match f (.c s3.mem.length :: xs) (s3.mem ++ [.obj C []]) with
  | .ok x mem' => if nonD x = true then .ok (.v (.c s3.mem.length)) { s3 with mem := mem' } else .bad
  | .exc n mem' => .exc n { s3 with mem := mem' }
  | .bad => .bad
/-- forced arguments, then what follows -/
theorem post_forceV {K : PySem.W.Frag} {E : XW} {α : Type} {σ : L2.St} {c : Cf} {ws : List W} {vs : List V} {g : List Dv → St → R St α} {P : α → Cf → Prop} (o : Ok K σ c) (hw : WAll K σ c vs ws) (h : Post K E σ c ((forceV ws c.st).bind g) P) :
    ∃ xs c', Le c c' ∧ Ok K σ c' ∧ c'.H = c.H ∧ DvAll K c'.G c'.A vs xs ∧ Post K E σ c' (g xs c'.st) P := by
  cases q : forceV ws c.st with
  | exc m t => exact absurd q forceV_exc
  | bad => rw [q] at h; exact h.elim
  | ok xs t =>
    rw [q] at h
    obtain ⟨c2, l2, e2, o2, eh, r2⟩ := forceV_ok o hw q
    refine ⟨xs, c2, l2, o2, eh, r2, ?_⟩
    have h : Post K E σ c (g xs t) P := h
    rw [← e2] at h
    generalize g xs c2.st = r at h ⊢
    cases r with
    | ok b st2 => exact fun c3 l3 e3 o3 => h c3 (l2.trans l3) e3 o3
    | exc n st2 => exact fun c3 l3 e3 o3 => h c3 (l2.trans l3) e3 o3
    | bad => exact h
/-- what a call is handed -/
theorem ok_in {K : PySem.W.Frag} {σ : L2.St} {c : Cf} (o : Ok K σ c) : Ok K [] (cf0 c.H c.A c.G c.G c.A c.st.mem c.H) := by
  have z := ok_bare o
  exact ⟨z.sub, z.len, fun i s ov h => (nil_get h).elim, fun i j p q a h => (nil_get h).elim, z.alen, z.cell, z.anod, z.agn, List.prefix_refl _, fun b u h _ => h, fun a h => .inl h, fun b u h => .inl h⟩
theorem call_post {K : PySem.W.Frag} {E : XW} {σ : L2.St} {c : Cf} {f : Fn} {vs : List V} {xs : List Dv} {g : Dv → List Cell → R St W} {Q : VK} (o : Ok K σ c) (r : DvAll K c.G c.A vs xs)
    (h : Post K E σ c (match f xs c.st.mem with
      | .ok x mem' => g x mem'
      | .exc n mem' => .exc n { c.st with mem := mem' }
      | .bad => .bad) fun w c' => ∀ v, WOk K σ c' v w → Q v c'.H)
    {Q2 : VK} (hg : ∀ (x : Dv) (mem' : List Cell) (c' : Cf) (v : V), Le c c' → c'.st = { c.st with mem := mem' } → Ok K σ c' → DvOk K c'.G c'.A v x → Post K E σ c (g x mem') (fun w c' => ∀ v, WOk K σ c' v w → Q v c'.H) → Q2 v c'.H) :
    spD K f vs c.H Q2 (WE (Wx K E) σ) := by
  refine ⟨c.G, c.A, xs, c.st.mem, ok_in o, r, ?_⟩
  generalize f xs c.st.mem = r at h ⊢
  cases r with
  | bad => exact h.elim
  | exc n mem' => exact fun G' A' H' hok g pr => ⟨n, rfl, rfl, h ⟨c.H0, c.A0, c.G0, G', A', { c.st with mem := mem' }, H'⟩ ⟨rfl, rfl, rfl, g, pr⟩ rfl (ok_back o hok g pr)⟩
  | ok x mem' => exact fun G' A' H' v hok gs pr hv => hg x mem' ⟨c.H0, c.A0, c.G0, G', A', { c.st with mem := mem' }, H'⟩ v ⟨rfl, rfl, rfl, gs, pr⟩ rfl (ok_back o hok gs pr) hv h
section
variable {X : Cx} {E : XW} {pos apos p : Pos} {o e : Expr} {es : List Expr} {O : ESem} {As : ASem} {C m x : Str} {f : Fn} {k : Nat}
/-- o.m(..), at the slots as they stand -/
def tMethAt (C : Addr) (m : Str) (sp : Sp) (E : L2.St → XK) (ta : TE) (t : TA) : TE := fun σ H Q => ta σ H fun x H1 => ∃ a dx fs, x = .ref a ∧ H1 a = some (.ins C dx fs) ∧ fs.lookup m = none ∧ t σ H1 fun vs H2 => sp (x :: vs) H2 Q (E σ)
theorem meth_read {K : PySem.W.Frag} {σ : L2.St} {H : Hp} {Q : VK} (h : tE K E (eMeth C m f O As) σ H Q) : tMethAt (He.ga K C) m (spD K f) (WE (Wx K E)) (tE K E O) (tA K E As) σ H Q := by
  obtain ⟨c, rfl, o, h⟩ := h
  refine ⟨c, rfl, o, h.bind.mono fun w c1 l1 o1 h1 v hv => ?_⟩
  cases q : objAt C w c1.st with
  | none => simp only [q] at h1; exact h1.elim
  | some pr =>
    simp only [q] at h1
    obtain ⟨_, a0, dx, gs, rfl, hA, hM, hH, hF⟩ := objAt_ok o1 hv q
    rcases fld_get (f := m) hF with ⟨g1, g2⟩ | ⟨x, u, g1, g2, d⟩
    · simp only [g1] at h1
      refine ⟨a0, dx, gs, rfl, hH, g2, c1, rfl, o1, h1.bind.mono fun ws c2 l2 o2 h2 vs hvs => ?_⟩
      obtain ⟨xs, c3, l3, o3, eh, r3, h3⟩ := post_forceV o2 hvs h2
      rw [← eh]
      exact call_post (f := f) (xs := .c pr.1 :: xs) (g := fun x mem' => R.ok (W.v x) { c3.st with mem := mem' }) o3 (.cons ⟨a0, pre_get (l2.trans l3).p hA, rfl⟩ r3) h3 fun x mem' c' v l e ok hv hp => hp c' l e ok v hv
    · simp only [g1] at h1; exact h1.elim
theorem e_meth {pl : Sem Bool} (F : Mh X.prog X.w X.K X.mg X.base k C m f) (hr : Room k X.A) (tk : Takes X (Wx X.K E)) (c : Cls X.K (He.ga X.K C)) (he : PE X o (tE X.K E O)) (ha : PA X (e :: es) (tA X.K E As))
    (hst : starEach (e :: es) X.env = (false, eval e X.env) :: starEach es X.env := by rfl) (hpl : (backTo pos (starEach es X.env)).any (·.1) = false := by rfl)
    (ht : eval (.Call (.Attribute o m apos) (e :: es) [] pos) X.env = (eval o X.env >>= fun ov => standAt apos.atName >>= fun _ => holding [ov] (getMethod ov m pl) >>= fun fx => callWith pos fx.1 fx.2 (backTo pos (starEach (e :: es) X.env)) (backToKw pos (keywordEach [] X.env))) := by rfl) :
    PE X (.Call (.Attribute o m apos) (e :: es) [] pos) (tE X.K E (eMeth C m f O As)) := by
  obtain ⟨a, fd, ps, G, hm, hb⟩ := F.ex
  refine PE_imp (t := tMethAt (He.ga X.K C) m (spD X.K f) (WE (Wx X.K E)) (tE X.K E O) (tA X.K E As)) ?_ fun σ H Q h => meth_read h
  refine ⟨fun pins s σ H Q I h => ?_⟩
  refine PySem.W.methodCall_KW (pl := pl) (thn (he.run pins s σ H _ I h) fun u s1 ⟨x, H1, I1, rx, b, dx, fs, ex, ea, l, q⟩ => ?_) ht
  subst ex
  obtain rfl : u = Value.ref b := rx
  refine getmeth_ok I1 ea c hm l (PySem.W.callWith_K (first := [.ref b]) (h₀ := X.base) I.ok.mod.kin hm.kp (thn (ha.run pos pins s1 σ H1 _ I1 q) fun us s2 ⟨vs, H2, I2, r, q2⟩ => ⟨I2.kIn, ?_⟩) hst hpl)
  exact run_fnS (us := .ref b :: us) (vs := .ref b :: vs) G hr hb (passAt tk σ) I2 (.cons rfl r) q2
theorem e_meth0 {pl : Sem Bool} (F : Mh X.prog X.w X.K X.mg X.base k C m f) (hr : Room k X.A) (tk : Takes X (Wx X.K E)) (c : Cls X.K (He.ga X.K C)) (he : PE X o (tE X.K E O))
    (ht : eval (.Call (.Attribute o m apos) [] [] pos) X.env = (eval o X.env >>= fun ov => standAt apos.atName >>= fun _ => holding [ov] (getMethod ov m pl) >>= fun fx => callWith pos fx.1 fx.2 (backTo pos (starEach [] X.env)) (backToKw pos (keywordEach [] X.env))) := by rfl) :
    PE X (.Call (.Attribute o m apos) [] [] pos) (tE X.K E (eMeth C m f O aNil)) := by
  obtain ⟨a, fd, ps, G, hm, hb⟩ := F.ex
  refine ⟨fun pins s σ H Q I h => ?_⟩
  have h := meth_read h
  refine PySem.W.methodCall_KW (pl := pl) (thn (he.run pins s σ H _ I h) fun u s1 ⟨x, H1, I1, rx, b, dx, fs, ex, ea, l, q⟩ => ?_) ht
  subst ex
  obtain rfl : u = Value.ref b := rx
  obtain ⟨c1, rfl, o1, q⟩ := q
  have q2 := q.here o1 [] .nil
  exact getmeth_ok I1 ea c hm l (PySem.W.callWith_K0 (first := [.ref b]) I1.kIn hm.kp (run_fnS (us := [.ref b]) (vs := [.ref b]) G hr hb (passAt tk σ) I1 (.cons rfl .nil) q2))
/-- C(..), at the slots as they stand -/
def tMakeAt (C : Addr) (sp : Sp) (E : L2.St → XK) (t : TA) : TE := fun σ H Q => t σ H fun vs H1 => ∀ x dx, H1 x = none → H1 dx = none → dx ≠ x → sp (.ref x :: vs) (upd (upd H1 dx (.own x)) x (.ins C dx [])) (fun v H2 => v = .non ∧ Q (.ref x) H2) (E σ)
theorem run_makeAt {C g : Addr} {CX : CXT} {fd : FuncData} {ps : List Str} {sp : Sp} {W : L2.St → XK} {pins : List (Addr × Obj)} {σ : L2.St} {H : Hp} {s : Shared} {Q : VK} {us : List Value} {vs : List V} (M : Mk X.K C g) (F : FnOk X.prog X.w X.K X.mg X.base CX k g fd ps sp) (hr : Room (k + 1) X.A) (hb : Binds X.K fd ps [])
    (hx : ∀ σ, PassesAt CX X σ (W σ)) (I : Inv X pins σ H s) (r : Vals vs us)
    (h : ∀ x dx, H x = none → H dx = none → dx ≠ x → sp (.ref x :: vs) (upd (upd H dx (.own x)) x (.ins C dx [])) (fun v H2 => v = .non ∧ Q (.ref x) H2) (W σ)) : wpAny (model X.prog X.w) X.A (call (.ref C) us) (EP X pins σ Q) X.xe s := by
  have hq := h (s.heap.objs.size + 1) s.heap.objs.size (I.hok.fresh (Nat.le_succ _)) (I.hok.fresh (Nat.le_refl _)) (Nat.ne_of_lt (Nat.lt_succ_self _))
  have J := Inv.made (C := C) I
  have rr : Vals (V.ref (s.heap.objs.size + 1) :: vs) (Value.ref (s.heap.objs.size + 1) :: us) := .cons rfl r
  have hl : (Value.ref (s.heap.objs.size + 1) :: us).length = ps.length := by rw [← rr.length]; exact F.len _ _ _ _ hq
  have b := hb _ (Value.ref (s.heap.objs.size + 1) :: us) J.kIn (by rw [List.append_nil]; exact hl)
  rw [List.append_nil] at b
  refine wpAny_call (make_map (f := g) I.kIn M.makes M.init (beq_iff_eq.mp M.fn) (codeAny_mono (F.run _ X.stack _ _ ⟨Value.ref (s.heap.objs.size + 1) :: us, []⟩ (Value.ref (s.heap.objs.size + 1) :: us) _ _ (W σ) (hr.make C us []) (J.env0.make C us []) b rr hq) fun z s' hz => ?_))
  cases z with
  | error e => exact hx σ pins _ _ e s' J hz
  | ok fl =>
    cases fl with
    | ret u =>
      obtain ⟨v, H', I3, rv, ev, q3⟩ := J.after hz
      subst ev
      exact ⟨rv, ⟨V.ref (s.heap.objs.size + 1), H', I3, rfl, q3⟩⟩
    | next => exact False.elim hz
    | brk => exact False.elim hz
    | cont => exact False.elim hz
theorem make_read {K : PySem.W.Frag} {σ : L2.St} {H : Hp} {Q : VK} (h : tE K E (eMake C f As) σ H Q) : tMakeAt (He.ga K C) (spD K f) (WE (Wx K E)) (tA K E As) σ H Q := by
  obtain ⟨c, rfl, o, h⟩ := h
  refine ⟨c, rfl, o, h.bind.mono fun ws c2 l2 o2 h2 vs hvs => ?_⟩
  obtain ⟨xs, c3, l3, o3, eh, r3, h3⟩ := post_forceV o2 hvs h2
  intro a dx ha hdx hne
  rw [← eh] at ha hdx ⊢
  have old : ∀ b u, c3.H b = some u → upd (upd c3.H dx (.own a)) a (.ins (He.ga K C) dx []) b = some u := fun b u e => by rw [upd_ne (ne_of_none e ha), upd_ne (ne_of_none e hdx)]; exact e
  have o4 := o3.newC (H' := upd (upd c3.H dx (.own a)) a (.ins (He.ga K C) dx [])) (ce := .obj C []) ha old ⟨dx, [], upd_same, .nil⟩
  let c4 : Cf := { c3 with A := c3.A ++ [a], st := { c3.st with mem := c3.st.mem ++ [.obj C []] }, H := upd (upd c3.H dx (.own a)) a (.ins (He.ga K C) dx []) }
  have o4 : Ok K σ c4 := o4
  have l4 : Le c3 c4 := ⟨rfl, rfl, rfl, Same.refl _, List.prefix_append _ _⟩
  have hA : c4.A[c3.st.mem.length]? = some a := newC_at o3
  have h4 : Post K E σ c4 (match f (.c c3.st.mem.length :: xs) c4.st.mem with
    | .ok x mem' => if nonD x = true then R.ok (W.v (.c c3.st.mem.length)) { c4.st with mem := mem' } else .bad
    | .exc n mem' => .exc n { c4.st with mem := mem' }
    | .bad => .bad) (fun w c' => ∀ v, WOk K σ c' v w → Q v c'.H) := by
    have h3 : Post K E σ c3 (match f (.c c3.st.mem.length :: xs) c4.st.mem with
      | .ok x mem' => if nonD x = true then R.ok (W.v (.c c3.st.mem.length)) { c4.st with mem := mem' } else .bad
      | .exc n mem' => .exc n { c4.st with mem := mem' }
      | .bad => .bad) (fun w c' => ∀ v, WOk K σ c' v w → Q v c'.H) := h3
    generalize (match f (.c c3.st.mem.length :: xs) c4.st.mem with
      | .ok x mem' => if nonD x = true then R.ok (W.v (.c c3.st.mem.length)) { c4.st with mem := mem' } else .bad
      | .exc n mem' => .exc n { c4.st with mem := mem' }
      | .bad => .bad) = r at h3 ⊢
    cases r with
    | ok b st2 => exact fun c5 l5 e5 o5 => h3 c5 (l4.trans l5) e5 o5
    | exc n st2 => exact fun c5 l5 e5 o5 => h3 c5 (l4.trans l5) e5 o5
    | bad => exact h3
  refine call_post (f := f) (xs := .c c3.st.mem.length :: xs) (g := fun x mem' => if nonD x = true then R.ok (W.v (.c c3.st.mem.length)) { c4.st with mem := mem' } else .bad) o4 (.cons ⟨a, hA, rfl⟩ (r3.mono l4.g l4.p)) h4 fun x mem' c' v l e ok hv hp => ?_
  by_cases hn : nonD x = true
  · rw [if_pos hn] at hp
    unfold nonD at hn
    cases x with
    | d d =>
      cases d with
      | none =>
        cases hv
        exact ⟨rfl, hp c' l e ok (.ref a) ⟨a, pre_get l.p hA, rfl⟩⟩
      | _ => cases hn
    | _ => cases hn
  · rw [if_neg hn] at hp; exact hp.elim
theorem e_make (F : Ih X.prog X.w X.K X.mg X.base k C f) (hr : Room (k + 1) X.A) (tk : Takes X (Wx X.K E)) (gm : X.mg C = some (.ref (He.ga X.K C))) (ha : PA X (e :: es) (tA X.K E As)) (hg : Gl X C := by rfl) (hdb : (C == ("__debug__" : Str)) = false := by decide)
    (he : starEach (e :: es) X.env = (false, eval e X.env) :: starEach es X.env := by rfl) (hpl : (backTo pos (starEach es X.env)).any (·.1) = false := by rfl) : PE X (.Call (.Name C p) (e :: es) [] pos) (tE X.K E (eMake C f As)) := by
  obtain ⟨a, fd, ps, G, M, hb⟩ := F.ex
  refine PE_imp (t := tMakeAt (He.ga X.K C) (spD X.K f) (WE (Wx X.K E)) (tA X.K E As)) ?_ fun σ H Q h => make_read h
  refine ⟨fun pins s σ H Q I h => ?_⟩
  refine wpAny_Call_Name_kw (ld_glob I hg gm ?_ hdb)
  refine PySem.W.callWith_K (h₀ := X.base) I.ok.mod.kin M.kp (thn (ha.run pos pins s σ H _ I h) fun us s1 ⟨vs, H1, I1, r, q⟩ => ⟨I1.kIn, ?_⟩) he hpl
  exact run_makeAt M G hr hb (fun σ => passAt tk σ) I1 r q
end
end PD

set_option Elab.async false
set_option linter.all false
set_option maxRecDepth 100000
set_option maxHeartbeats 1000000
/-! PDDisp: a dict of one pair, its key a tuple in a variable; x is True. -/
namespace PD
open PySem PySem.Spec PyProof.Rows L2
/-- nothing but a constant -/
inductive Cst : V → D → Prop
  | non : Cst .non .none
  | bl (b : Bool) : Cst (.bl b) (.bool b)
  | int (i : Int) : Cst (.int i) (.int i)
theorem Cst.rp {G : Hp} {v : V} {d : D} (h : Cst v d) : Rp G v d := by
  cases h with
  | non => exact .non
  | bl b => exact .bl b
  | int i => exact .int i
/-- {x: d} -/
def mOne (i : Nat) (d : D) : MSem := fun st => match st.env[i]? with
  | some (.v (.d k)) => if kkOf k = some true then .ok [(k, d)] st else .bad
  | _ => .bad
section
variable {X : Cx} {E : XW} {pos : Pos} {a b : Expr} {A B : ESem} {k : Nat}
theorem one_read {K : PySem.W.Frag} {i : Nat} {v : V} {d : D} (hc : Cst v d) {σ : L2.St} {H : Hp} {Q : VK} (h : tM K E (mOne i d) σ H Q) : tDisp1 (tVar i) (tC v) σ H Q := by
  obtain ⟨c, rfl, o, h⟩ := h
  intro p hp
  unfold mOne at h
  cases q : c.st.env[i]? with
  | none => simp only [q] at h; exact h.elim
  | some s =>
    simp only [q] at h
    have hi : i < σ.length := by rw [← o.len]; exact (List.getElem?_eq_some_iff.mp q).1
    have z := o.slot i s _ q (List.getElem?_eq_getElem hi)
    cases s with
    | emp => exact h.elim
    | own w => exact h.elim
    | v x =>
      cases x with
      | c n => exact h.elim
      | k x => exact h.elim
      | d x =>
        obtain ⟨u, e1, hu⟩ := z
        have hu : Rp c.G u x := hu
        by_cases hk : kkOf x = some true
        · have h : Post K E σ c (if kkOf x = some true then R.ok [(x, d)] c.st else .bad) _ := h
          rw [if_pos hk] at h
          obtain ⟨nk, rfl, g⟩ := kk_nest hk
          obtain ⟨b, rfl⟩ := key_ref g hu
          have s1 : Same c.G (upd c.H p (.dK [])) := fun y w e => by
            rw [upd_ne (ne_of_none (o.sub y w e) hp)]
            exact o.sub y w e
          refine ⟨.ref b, by rw [List.getElem?_eq_getElem hi, e1], upd_same, nk, b, g, rfl, hu.mono' s1, fun N => ?_⟩
          rw [upd_upd]
          exact h.here o p _ hp (.inr ⟨_, upd_same, N, .cons hu hc.rp .nil⟩)
        · have h : Post K E σ c (if kkOf x = some true then R.ok [(x, d)] c.st else .bad) _ := h
          rw [if_neg hk] at h
          exact h.elim
theorem m_one {x : Str} {v : V} {d : D} {p1 : Pos} (i : Nat) (hr : Room k X.A) (hc : Cst v d) (hb : PE X b (tC v)) (hN : X.N[i]? = some x := by rfl) (hv : Vis X.env.scope x := by first | exact Or.inl rfl | exact Or.inr (Or.inl rfl) | exact Or.inr (Or.inr rfl)) (hd : (x == ("__debug__" : Str)) = false := by decide)
    (hcd : (x == ("__classdict__" : Str)) = false := by decide) : PE X (.Dict [some (.Name x p1)] [b] pos) (tM X.K E (mOne i d)) :=
  PE_imp (pe_disp1 (by have := hr.un; omega) (pe_var (i := i) hN hv hd hcd) hb) fun σ H Q h => one_read hc h
/-! ### x is True -/
def dIsB : D → D → Option D
  | .bool a, .bool b => some (.bool (decide (a = b)))
  | _, _ => none
def dNotB : D → D → Option D
  | .bool a, .bool b => some (.bool (!decide (a = b)))
  | _, _ => none
theorem vw_bl {K : PySem.W.Frag} {G H : Hp} {v : V} {b : Bool} (h : Vw K G H v (.bool b)) : v = .bl b := by
  have h : Rp G v (.bool b) := h
  cases h
  rfl
theorem r_isB {K : PySem.W.Frag} : R2Ok K E (dat2 dIsB) rIsB := r2_dat fun σ c Q v u x y d o hv hu e k => by
  cases x with
  | bool a =>
    cases y with
    | bool b =>
      cases e
      have := vw_bl hv
      have := vw_bl hu
      subst v u
      exact ⟨a, b, rfl, rfl, k.here o (.bl _)⟩
    | _ => cases e
  | _ => cases e
theorem r_notB {K : PySem.W.Frag} : R2Ok K E (dat2 dNotB) rNotB := r2_dat fun σ c Q v u x y d o hv hu e k => by
  cases x with
  | bool a =>
    cases y with
    | bool b =>
      cases e
      have := vw_bl hv
      have := vw_bl hu
      subst v u
      exact ⟨a, b, rfl, rfl, k.here o (.bl _)⟩
    | _ => cases e
  | _ => cases e
abbrev tIsB (A B : ESem) : TSem := tOfE (eOp2 (dat2 dIsB) A B)
abbrev tNotB (A B : ESem) : TSem := tOfE (eOp2 (dat2 dNotB) A B)
theorem t_isB (ha : PE X a (tE X.K E A)) (hb : PE X b (tE X.K E B)) : PT X (.Compare a [.Is] [b] pos) (tT X.K E (tIsB A B)) := t_cmp op_isBl r_isB ha hb (nomark _)
theorem t_notB (ha : PE X a (tE X.K E A)) (hb : PE X b (tE X.K E B)) : PT X (.Compare a [.IsNot] [b] pos) (tT X.K E (tNotB A B)) := t_cmp op_notBl r_notB ha hb (nomark _)
theorem e_isB (ha : PE X a (tE X.K E A)) (hb : PE X b (tE X.K E B)) : PE X (.Compare a [.Is] [b] pos) (tE X.K E (eOp2 (dat2 dIsB) A B)) := e_cmp op_isBl r_isB ha hb (nomark _)
theorem e_notB (ha : PE X a (tE X.K E A)) (hb : PE X b (tE X.K E B)) : PE X (.Compare a [.IsNot] [b] pos) (tE X.K E (eOp2 (dat2 dNotB) A B)) := e_cmp op_notBl r_notB ha hb (nomark _)
end

/-! ### what the head tells of a method -/
section
variable {P : Program} {w : World} {K : PySem.W.Frag} {mg : Str → Option Value} {base : Heap}
structure Hm (K : PySem.W.Frag) (C m q : Str) (st : Stmt) (ps : List Str) : Prop where
  ex : ∃ (f : Addr) (fd : FuncData), FunD K m q (defArgs st) (defBody st) (defScope st) [] [] f fd ∧ Meth K (He.ga K C) m f ∧ Binds K fd ps []
structure Hi (K : PySem.W.Frag) (C q : Str) (st : Stmt) (ps : List Str) : Prop where
  ex : ∃ (f : Addr) (fd : FuncData), FunD K "__init__" q (defArgs st) (defBody st) (defScope st) [] [] f fd ∧ Mk K (He.ga K C) f ∧ Binds K fd ps []
theorem fn_bad {f : Addr} {fd : FuncData} {ps : List Str} {k : Nat} : FnOk P w K mg base (L2.CX P w) k f fd ps (spD K badFn) :=
  ⟨fun vs H Q E ⟨_, _, _, _, _, _, h⟩ => h.elim, fun A outer s H args us vs Q E _ _ _ _ ⟨_, _, _, _, _, _, h⟩ => h.elim⟩
theorem dm_bad {C m q : Str} {st : Stmt} {ps : List Str} (D : Hm K C m q st ps) (k : Nat) : Mh P w K mg base k C m badFn := by
  obtain ⟨f, fd, F, M, b⟩ := D.ex
  exact ⟨f, fd, ps, fn_bad, M, b⟩
theorem di_bad {C q : Str} {st : Stmt} {ps : List Str} (D : Hi K C q st ps) (k : Nat) : Ih P w K mg base k C badFn := by
  obtain ⟨f, fd, F, M, b⟩ := D.ex
  exact ⟨f, fd, ps, fn_bad, M, b⟩
theorem dm_of {C m q : Str} {st : Stmt} {ps : List Str} {k : Nat} {g : Fn} (D : Hm K C m q st ps) (h : ∀ {f : Addr} {fd : FuncData}, FunD K m q (defArgs st) (defBody st) (defScope st) [] [] f fd → FnOk P w K mg base (L2.CX P w) k f fd ps (spD K g)) : Mh P w K mg base k C m g := by
  obtain ⟨f, fd, F, M, b⟩ := D.ex
  exact ⟨f, fd, ps, h F, M, b⟩
theorem di_of {C q : Str} {st : Stmt} {ps : List Str} {k : Nat} {g : Fn} (D : Hi K C q st ps) (h : ∀ {f : Addr} {fd : FuncData}, FunD K "__init__" q (defArgs st) (defBody st) (defScope st) [] [] f fd → FnOk P w K mg base (L2.CX P w) k f fd ps (spD K g)) : Ih P w K mg base k C g := by
  obtain ⟨f, fd, F, M, b⟩ := D.ex
  exact ⟨f, fd, ps, h F, M, b⟩
end

/-! ### a call whose new cells are dropped behind it -/
def Cell.below (n : Nat) : Cell → Bool
  | .obj _ fs => fs.all fun q => match q.2 with
    | .c j => decide (j < n)
    | _ => true
  | .rows ns => ns.all fun j => decide (j < n)
  | .drows kvs => kvs.all fun p => decide (p.2 < n)
  | _ => true
def Dv.bare : Dv → Bool
  | .c _ => false
  | _ => true
/-- the memory cut to its first n cells, if no one of them names another -/
def cutM (n : Nat) (mem : List Cell) : Option (List Cell) := if (mem.take n).all (Cell.below n) = true then some (mem.take n) else none
def gFn (f : Fn) : Fn := fun xs mem => match f xs mem with
  | .ok x mem' => (match cutM mem.length mem' with
    | some m => if x.bare = true then .ok x m else .bad
    | none => .bad)
  | .exc n mem' => (match cutM mem.length mem' with
    | some m => .exc n m
    | none => .bad)
  | .bad => .bad
section
variable {K : PySem.W.Frag}
theorem fld_cut {G : Hp} {A A1 : List Addr} {n : Nat} (hA : A1 = A.take n) : ∀ {gs : List (Str × V)} {fs : List (Str × Dv)}, (fs.all fun q => match q.2 with
    | .c j => decide (j < n)
    | _ => true) = true → FldOk K G A gs fs → FldOk K G A1 gs fs
  | _, _, _, .nil => .nil
  | (g, u) :: gs, (h, y) :: fs, hb, .cons ⟨e, d⟩ t => by
    rw [List.all_cons, Bool.and_eq_true] at hb
    refine .cons ⟨e, ?_⟩ (fld_cut hA hb.2 t)
    cases y with
    | d x => exact d
    | k x => exact d
    | c j =>
      obtain ⟨a, h1, h2⟩ := d
      have hj : j < n := of_decide_eq_true hb.1
      refine ⟨a, ?_, h2⟩
      rw [hA, List.getElem?_take, if_pos hj]
      exact h1
theorem rows_cut {A A1 : List Addr} {n : Nat} (hA : A1 = A.take n) : ∀ {vs : List V} {ns : List Nat}, (ns.all fun j => decide (j < n)) = true → RefsOk A vs ns → RefsOk A1 vs ns
  | _, _, _, .nil => .nil
  | _ :: _, j :: ns, hb, .cons ⟨b, h1, h2⟩ t => by
    rw [List.all_cons, Bool.and_eq_true] at hb
    have hj : j < n := of_decide_eq_true hb.1
    exact .cons ⟨b, by rw [hA, List.getElem?_take, if_pos hj]; exact h1, h2⟩ (rows_cut hA hb.2 t)
theorem cut_at {A A' : List Addr} {n j : Nat} {b : Addr} (e : A = A'.take n) (hj : j < n) (h : A'[j]? = some b) : A[j]? = some b := by
  rw [e, List.getElem?_take, if_pos hj]
  exact h
theorem refK_cut {A A' : List Addr} {n : Nat} (e : A = A'.take n) : ∀ {es : List (Key × V)} {kvs : List (D × Nat)}, (kvs.all fun p => decide (p.2 < n)) = true → RefK A' es kvs → RefK A es kvs
  | _, _, _, .nil => .nil
  | _, _, h, .cons q t => by
    rw [List.all_cons, Bool.and_eq_true, decide_eq_true_eq] at h
    exact .cons (cut_at e h.1 q) (refK_cut e h.2 t)
theorem refN_cut {G : Hp} {A A' : List Addr} {n : Nat} (e : A = A'.take n) : ∀ {es : List (NestedKey × V × V)} {kvs : List (D × Nat)}, (kvs.all fun p => decide (p.2 < n)) = true → RefN G A' es kvs → RefN G A es kvs
  | _, _, _, .nil => .nil
  | _, _, h, .cons r q t => by
    rw [List.all_cons, Bool.and_eq_true, decide_eq_true_eq] at h
    exact .cons r (cut_at e h.1 q) (refN_cut e h.2 t)
theorem ok_cut {H G0 G' : Hp} {A A' : List Addr} {mem mem' m : List Cell} {H' : Hp} (hl : A.length = mem.length) (h : Ok K [] (cf0 H A G0 G' A' mem' H')) (pr : A <+: A') (e : cutM mem.length mem' = some m) : Ok K [] (cf0 H A G0 G' A m H') := by
  unfold cutM at e
  by_cases hb : (mem'.take mem.length).all (Cell.below mem.length) = true
  · rw [if_pos hb] at e
    cases e
    have eA : A = A'.take mem.length := by rw [← hl]; exact List.prefix_iff_eq_take.mp pr
    have hle : mem.length ≤ mem'.length := by
      have z := h.alen
      have z : A'.length = mem'.length := z
      have := pr.length_le
      omega
    refine ⟨h.sub, rfl, fun i s ov h => (nil_get h).elim, fun i j p q a h => (nil_get h).elim, ?_, fun n o a h1 h2 => ?_, ?_, fun n o a h1 h2 nd => ?_, List.prefix_refl _, h.fr, fun a ha => .inl ha, h.gnew⟩
    · show A.length = (mem'.take mem.length).length
      rw [List.length_take]
      omega
    · have h1 : (mem'.take mem.length)[n]? = some o := h1
      have hn : n < mem.length := by
        have := (List.getElem?_eq_some_iff.mp h1).1
        rw [List.length_take] at this
        omega
      have hob : o.below mem.length = true := List.all_eq_true.mp hb o (List.mem_of_getElem? h1)
      rw [List.getElem?_take, if_pos hn] at h1
      have z := h.cell n o a h1 (pre_get pr h2)
      cases o with
      | lst xs => exact z
      | dct xs => exact z
      | fz x => exact z
      | rows ns =>
        obtain ⟨vs, z1, z2⟩ := z
        exact ⟨vs, z1, rows_cut eA hob z2⟩
      | drows kvs =>
        rcases z with ⟨es, z1, z2⟩ | ⟨es, z1, z2, z3⟩
        · exact .inl ⟨es, z1, refK_cut eA hob z2⟩
        · exact .inr ⟨es, z1, z2, refN_cut eA hob z3⟩
      | obj C fs =>
        obtain ⟨dx, gs, z1, z2⟩ := z
        exact ⟨dx, gs, z1, fld_cut eA hob z2⟩
    · exact List.Nodup.sublist pr.sublist h.anod
    · have h1 : (mem'.take mem.length)[n]? = some o := h1
      have hn : n < mem.length := by
        have := (List.getElem?_eq_some_iff.mp h1).1
        rw [List.length_take] at this
        omega
      rw [List.getElem?_take, if_pos hn] at h1
      exact h.agn n o a h1 (pre_get pr h2) nd
  · rw [if_neg hb] at e
    cases e
/-- what keeps a def's promise keeps that of the cut one -/
theorem spD_cut {f : Fn} {vs : List V} {H : Hp} {Q : VK} {E : XK} (h : spD K (gFn f) vs H Q E) : spD K f vs H Q E := by
  obtain ⟨G, A, xs, mem, o, r, h⟩ := h
  refine ⟨G, A, xs, mem, o, r, ?_⟩
  unfold gFn at h
  cases q : f xs mem with
  | bad => rw [q] at h; exact h.elim
  | exc n mem' =>
    rw [q] at h
    dsimp only at h ⊢
    cases e : cutM mem.length mem' with
    | none => rw [e] at h; exact h.elim
    | some m =>
      rw [e] at h
      exact fun G' A' H' hok g pr => h G' A H' (ok_cut o.alen hok pr e) g (List.prefix_refl _)
  | ok x mem' =>
    rw [q] at h
    dsimp only at h ⊢
    cases e : cutM mem.length mem' with
    | none => rw [e] at h; exact h.elim
    | some m =>
      rw [e] at h
      dsimp only at h
      by_cases hx : x.bare = true
      · rw [if_pos hx] at h
        intro G' A' H' v hok g pr hv
        refine h G' A H' v (ok_cut o.alen hok pr e) g (List.prefix_refl _) ?_
        cases x with
        | d x => exact hv
        | k x => exact hv
        | c n => cases hx
      · rw [if_neg hx] at h; exact h.elim
end
theorem fn_cut {P : Program} {w : World} {K : PySem.W.Frag} {mg : Str → Option Value} {base : Heap} {k : Nat} {a : Addr} {fd : FuncData} {ps : List Str} {f : Fn} (F : FnOk P w K mg base (L2.CX P w) k a fd ps (spD K f)) : FnOk P w K mg base (L2.CX P w) k a fd ps (spD K (gFn f)) :=
  ⟨fun vs H Q E h => F.len vs H Q E (spD_cut h), fun A outer s H args us vs Q E h1 h2 h3 h4 h => F.run A outer s H args us vs Q E h1 h2 h3 h4 (spD_cut h)⟩
theorem Df.cut {P : Program} {w : World} {K : PySem.W.Frag} {mg : Str → Option Value} {base : Heap} {k : Nat} {x : Str} {f : Fn} (F : Df P w K mg base k x f) : Df P w K mg base k x (gFn f) := by
  obtain ⟨a, fd, ps, G, gm, kp, hb⟩ := F.ex
  exact ⟨a, fd, ps, fn_cut G, gm, kp, hb⟩
end PD

set_option Elab.async false
set_option linter.all false
set_option maxRecDepth 100000
set_option maxHeartbeats 1000000
/-! PDHelpO: objects, new cells, cut calls, run backwards. -/
namespace PD
open PySem PySem.Spec PyProof.Rows L2
section
variable {A B O : ESem} {As : ASem} {st : PD.St} {Q : W → PD.St → Prop} {QS : Fl → PD.St → Prop} {QM : List (D × D) → PD.St → Prop} {QB : Bool → PD.St → Prop} {X : Str → PD.St → Prop} {C f m : Str} {F : FSem} {M : MSem} {g : Fn}
@[simp] theorem wp_eFld : wp (eFld C f A st) Q X = wp (A st) (fun w s => oq (objAt C w s) fun q => oq (getF f q.2) fun x => Q (.v x) s) X := by
  unfold eFld
  rw [wp_bind]
  refine wp_fun fun w s => ?_
  cases objAt C w s with
  | none => rfl
  | some q =>
    show wp (match getF f q.2 with | some x => R.ok (W.v x) s | none => .bad) Q X = oq (getF f q.2) _
    cases getF f q.2 <;> rfl
@[simp] theorem wp_sFS : wp (sFS C f A O st) QS X = wp (A st) (fun w s1 => wp (force w s1) (fun x s2 => wp (O s2) (fun o s3 => oq (objAt C o s3) fun q => q.2.length < 1000 ∧ QS .nx { s3 with mem := s3.mem.set q.1 (.obj C (putFD f x q.2)) }) X) X) X := by
  unfold sFS
  rw [wp_bind]
  refine wp_fun fun w s1 => ?_
  rw [wp_bind]
  refine wp_fun fun x s2 => ?_
  rw [wp_bind]
  refine wp_fun fun o s3 => ?_
  cases objAt C o s3 with
  | none => rfl
  | some q =>
    show wp (if q.2.length < 1000 then R.ok Fl.nx _ else .bad) QS X = (q.2.length < 1000 ∧ _)
    by_cases h : q.2.length < 1000
    · rw [if_pos h, and_iff h]; rfl
    · rw [if_neg h, and_no h]; rfl
@[simp] theorem wp_eRev : wp (eRev A st) Q X = wp (A st) (fun w s => oq (view s w) fun x => oq (lstD x) fun xs => Q (.v (.d (.list xs.reverse))) s) X := by
  unfold eRev
  rw [wp_bind]
  refine wp_fun fun w s => ?_
  cases view s w with
  | none => rfl
  | some x => cases x <;> rfl
@[simp] theorem wp_eNewL : wp (eNewL F st) Q X = wp (F st) (fun xs s => Q (.v (.c s.mem.length)) ⟨s.env, s.mem ++ [.lst xs]⟩) X := by
  unfold eNewL; rw [wp_bind]; rfl
@[simp] theorem wp_eNewM : wp (eNewM M st) Q X = wp (M st) (fun xs s => Q (.v (.c s.mem.length)) ⟨s.env, s.mem ++ [.dct xs]⟩) X := by
  unfold eNewM; rw [wp_bind]; rfl
@[simp] theorem wp_eMeth : wp (eMeth C m g O As st) Q X = wp (O st) (fun o s1 => oq (objAt C o s1) fun q => getF m q.2 = none ∧ wp (As s1) (fun ws s2 => wp (forceV ws s2) (fun xs s3 => wp (g (.c q.1 :: xs) s3.mem) (fun x m => Q (.v x) ⟨s3.env, m⟩) (fun c m => X c ⟨s3.env, m⟩)) X) X) X := by
  unfold eMeth
  rw [wp_bind]
  refine wp_fun fun o s1 => ?_
  cases objAt C o s1 with
  | none => rfl
  | some q =>
    show wp (match getF m q.2 with | none => _ | some _ => .bad) Q X = (getF m q.2 = none ∧ _)
    cases h : getF m q.2 with
    | some x =>
      rw [and_no (by intro z; cases z)]
      rfl
    | none =>
      rw [and_iff rfl]
      show wp ((As s1).bind _) Q X = _
      rw [wp_bind]
      refine wp_fun fun ws s2 => ?_
      rw [wp_bind]
      refine wp_fun fun xs s3 => ?_
      cases g (.c q.1 :: xs) s3.mem <;> rfl
@[simp] theorem wp_eMake : wp (eMake C g As st) Q X = wp (As st) (fun ws s2 => wp (forceV ws s2) (fun xs s3 => wp (g (.c s3.mem.length :: xs) (s3.mem ++ [.obj C []])) (fun x m => nonD x = true ∧ Q (.v (.c s3.mem.length)) ⟨s3.env, m⟩) (fun c m => X c ⟨s3.env, m⟩)) X) X := by
  unfold eMake
  rw [wp_bind]
  refine wp_fun fun ws s2 => ?_
  rw [wp_bind]
  refine wp_fun fun xs s3 => ?_
  cases g (.c s3.mem.length :: xs) (s3.mem ++ [.obj C []]) with
  | bad => rfl
  | exc n m => rfl
  | ok x m =>
    show wp (if nonD x = true then R.ok (W.v (.c s3.mem.length)) { s3 with mem := m } else .bad) Q X = (nonD x = true ∧ _)
    by_cases h : nonD x = true
    · rw [if_pos h, and_iff h]; rfl
    · rw [if_neg h, and_no h]; rfl
def slDv : Option Slot → Option D
  | some (.v (.d k)) => some k
  | _ => none
@[simp] theorem slDv_v {k : D} : slDv (some (.v (.d k))) = some k := nrfl rfl
@[simp] theorem wp_mOne {i : Nat} {d : D} : wp (mOne i d st) QM X = oq (slDv st.env[i]?) fun k => kkOf k = some true ∧ QM [(k, d)] st := by
  unfold mOne slDv
  cases st.env[i]? with
  | none => rfl
  | some s => cases s with
    | emp => rfl
    | own w => rfl
    | v x => cases x with
      | c n => rfl
      | k x => rfl
      | d k =>
        show wp (if kkOf k = some true then R.ok [(k, d)] st else .bad) QM X = (kkOf k = some true ∧ _)
        by_cases h : kkOf k = some true
        · rw [if_pos h, and_iff h]; rfl
        · rw [if_neg h, and_no h]; rfl
@[simp] theorem nonD_n : nonD (.d .none) = true := nrfl rfl
def ceO (C : Str) (n : Nat) : Option Cell → Option (Nat × List (Str × Dv))
  | some (.obj D fs) => if D = C then some (n, fs) else none
  | _ => none
@[simp] theorem objAt_c {n : Nat} : objAt C (.v (.c n)) st = ceO C n st.mem[n]? := by
  show (match st.mem[n]? with | some (.obj D fs) => if D = C then some (n, fs) else none | _ => none) = _
  unfold ceO
  cases st.mem[n]? with
  | none => rfl
  | some c => cases c <;> rfl
@[simp] theorem ceO_o {n : Nat} {D : Str} {fs : List (Str × Dv)} : ceO C n (some (.obj D fs)) = if D = C then some (n, fs) else none := nrfl rfl
@[simp] theorem getF_nil : getF f [] = none := nrfl rfl
@[simp] theorem getF_cons {h : Str} {x : Dv} {r : List (Str × Dv)} : getF f ((h, x) :: r) = if h = f then some x else getF f r := nrfl rfl
@[simp] theorem putFD_nil {x : Dv} : putFD f x [] = [(f, x)] := nrfl rfl
@[simp] theorem putFD_cons {h : Str} {x y : Dv} {r : List (Str × Dv)} : putFD f x ((h, y) :: r) = if h = f then (h, x) :: r else (h, y) :: putFD f x r := nrfl rfl
@[simp] theorem dIsB_b {a b : Bool} : dIsB (.bool a) (.bool b) = some (.bool (decide (a = b))) := nrfl rfl
@[simp] theorem dNotB_b {a b : Bool} : dNotB (.bool a) (.bool b) = some (.bool (!decide (a = b))) := nrfl rfl
end
/-! ### names of the text -/
theorem ofS_inj {a b : String} (h : PySem.Str.ofString a = PySem.Str.ofString b) : a = b := by
  rw [PySem.Str.ofString_eq_toList, PySem.Str.ofString_eq_toList] at h
  have h := congrArg (fun z : Str => z.cps.toList) h
  dsimp only at h
  have inj : ∀ l r : List Char, l.map Char.toNat = r.map Char.toNat → l = r := by
    intro l
    induction l with
    | nil => intro r e; cases r with
      | nil => rfl
      | cons c r => simp at e
    | cons d l ih => intro r e; cases r with
      | nil => simp at e
      | cons c r =>
        rw [List.map_cons, List.map_cons] at e
        injection e with e1 e2
        rw [ih r e2, Char.ext (UInt32.toNat_inj.mp e1)]
  exact String.toList_inj.mp (inj _ _ h)
@[simp] theorem ofS_eq {a b : String} : (PySem.Str.ofString a = PySem.Str.ofString b) = (a = b) := propext ⟨ofS_inj, fun e => e ▸ rfl⟩
/-! ### cells behind a memory -/
section
variable {α : Type} {m l : List α} {k : Nat} {x : α}
@[simp] theorem at_app : (m ++ l)[m.length + k]? = l[k]? := by rw [List.getElem?_append_right (Nat.le_add_right _ _), Nat.add_sub_cancel_left]
@[simp] theorem at_app0 : (m ++ l)[m.length]? = l[0]? := by rw [List.getElem?_append_right (Nat.le_refl _), Nat.sub_self]
@[simp] theorem set_app : (m ++ l).set (m.length + k) x = m ++ l.set k x := by rw [List.set_append_right _ _ (Nat.le_add_right _ _), Nat.add_sub_cancel_left]
@[simp] theorem set_app0 : (m ++ l).set m.length x = m ++ l.set 0 x := by rw [List.set_append_right _ _ (Nat.le_refl _), Nat.sub_self]
end
/-! ### cut calls -/
theorem cut_app {m l : List Cell} (h : m.all (Cell.below m.length) = true) : cutM m.length (m ++ l) = some m := by
  unfold cutM
  rw [List.take_left', if_pos h]
  rfl
theorem gFn_ok {f : Fn} {xs : List Dv} {m l : List Cell} {x : D} (e : f xs m = .ok (.d x) (m ++ l)) (h : m.all (Cell.below m.length) = true) : gFn f xs m = .ok (.d x) m := by
  unfold gFn
  rw [e]
  simp only [cut_app h]
  rfl
theorem gFn_exc {f : Fn} {xs : List Dv} {m l : List Cell} {n : Str} (e : f xs m = .exc n (m ++ l)) (h : m.all (Cell.below m.length) = true) : gFn f xs m = .exc n m := by
  unfold gFn
  rw [e]
  simp only [cut_app h]
end PD

set_option Elab.async false
set_option linter.all false
set_option maxRecDepth 100000
set_option maxHeartbeats 1000000
/-! PDRows: a list of lists that are changed: its items are cells; a walk over a cell's list as it stands. -/
namespace PD
open PySem PySem.Spec PyProof.Rows L2
/-! ### for x in e, e a cell's list, read anew at every turn -/
def cloop (n : Nat) (bd : Bd) (body : SSem) : Nat → Nat → SSem
  | 0, _, _ => .bad
  | f + 1, i, st => match st.mem[n]? with
    | some (.lst ys) => (match ys[i]? with
      | none => .ok .nx st
      | some x => match bd.put x st with
        | none => .bad
        | some s1 => (body s1).bind fun fl s2 => match fl with
          | .nx => cloop n bd body f (i + 1) s2
          | .ct => cloop n bd body f (i + 1) s2
          | .bk => .ok .nx s2
          | .rt v => .ok (.rt v) s2)
    | _ => .bad
def sForC (A : ESem) (bd : Bd) (body : SSem) : SSem := fun st => (A st).bind fun w s => match w with
  | .v (.c n) => cloop n bd body whFuel 0 s
  | _ => .bad
section
variable {X : Cx} {E : XW} {pos : Pos} {A B : ESem} {S : SSem} {bd : Bd}
theorem cell_lst {K : PySem.W.Frag} {σ : L2.St} {c : Cf} (o : Ok K σ c) {n : Nat} {a : Addr} {ys : List D} (ha : c.A[n]? = some a) (hm : c.st.mem[n]? = some (.lst ys)) : ∃ vs, c.H a = some (.lst vs) ∧ RpAll c.G vs ys := o.cell n _ a hm ha
theorem s_forC {tg it : Expr} {body : List Stmt} (hp : PassesOwn (model X.prog X.w) X.A X.env X.xe) (hc : X.calm = true) (ha : PE X it (tE X.K E A)) (hg : PG X tg (tG X.K bd)) (hb : PSs X body (tS X.K E S))
    (hs : ∀ x, foldedSetIterable it X.env x = pure x := by intro _; rfl) : PS X (.For tg it body [] pos) (tS X.K E (sForC A bd S)) := by
  refine PS_imp (ps_for hp hc (pi_seq ha) hg hb hs) fun Dn σ H h => ?_
  obtain ⟨c, rfl, o, h⟩ := h
  refine ⟨c, rfl, o, (PostS.bind rfl h).mono fun w c1 l1 o1 h1 v hv => ?_⟩
  cases w with
  | sl i => exact h1.elim
  | v x => cases x with
    | d x => exact h1.elim
    | k x => exact h1.elim
    | c n =>
      obtain ⟨a, hA, rfl⟩ := hv
      have h1 : PostS X.K E c1 (cloop n bd S whFuel 0 c1.st) Dn σ.length := h1
      have first : ∃ vs, c1.H a = some (.lst vs) := by
        have h2 := h1
        unfold whFuel cloop at h2
        cases q : c1.st.mem[n]? with
        | none => simp only [q] at h2; exact h2.elim
        | some ce =>
          simp only [q] at h2
          cases ce with
          | lst ys =>
            obtain ⟨vs, z, _⟩ := cell_lst o1 hA q
            exact ⟨vs, z⟩
          | _ => exact h2.elim
      obtain ⟨vs0, hvs0⟩ := first
      refine .inr ⟨a, rfl, .inl ⟨⟨vs0, SqL.of hvs0⟩, ?_⟩⟩
      refine ⟨fun i m σ' H => ∃ c', c'.H = H ∧ Le c1 c' ∧ Ok X.K σ' c' ∧ σ'.length = σ.length ∧ PostS X.K E c' (cloop n bd S m i c'.st) Dn σ.length, ⟨whFuel, c1, rfl, Le.refl _, o1, rfl, h1⟩, ?_⟩
      rintro i m σ' H ⟨c', rfl, l, o', hl, h⟩
      cases m with
      | zero => exact h.elim
      | succ m =>
        unfold cloop at h
        cases q : c'.st.mem[n]? with
        | none => simp only [q] at h; exact h.elim
        | some ce =>
          simp only [q] at h
          cases ce with
          | lst ys =>
            have hA' := pre_get l.p hA
            obtain ⟨vs, z1, z2⟩ := cell_lst o' hA' q
            have h : PostS X.K E c' (match ys[i]? with
              | none => R.ok Fl.nx c'.st
              | some x => match bd.put x c'.st with
                | none => .bad
                | some s1 => (S s1).bind fun fl s2 => match fl with
                  | .nx => cloop n bd S m (i + 1) s2
                  | .ct => cloop n bd S m (i + 1) s2
                  | .bk => .ok .nx s2
                  | .rt v => .ok (.rt v) s2) Dn σ.length := h
            cases qy : ys[i]? with
            | none =>
              simp only [qy] at h
              have hle : vs.length ≤ i := by rw [z2.length]; exact List.getElem?_eq_none_iff.mp qy
              exact .inl ⟨⟨vs, SqL.of z1, hle⟩, h.nx o' hl⟩
            | some d =>
              simp only [qy] at h
              obtain ⟨v, w1, w2⟩ := z2.get qy
              cases qp : bd.put d c'.st with
              | none => simp only [qp] at h; exact h.elim
              | some s1 =>
                simp only [qp] at h
                refine .inr ⟨⟨vs, v, SqL.of z1, w1⟩, fun σ2 H2 => ∃ c2, c2.H = H2 ∧ Le c' c2 ∧ Ok X.K σ2 c2 ∧ σ2.length = σ.length ∧ PostS X.K E c2 (cloop n bd S m (i + 1) c2.st) Dn σ.length, fun σ2 H2 hN => ?_, fun x H2 hy => ?_⟩
                · obtain ⟨c2, e, l2, o2, hl2, h2⟩ := hN
                  exact ⟨m, Nat.lt_succ_self _, c2, e, l.trans l2, o2, hl2, h2⟩
                · obtain ⟨e, y⟩ := hy
                  have e2 := y vs (SqL.of z1)
                  rw [w1] at e2
                  cases e2
                  subst e
                  refine ⟨c', d, s1, rfl, o', w2, qp, fun σ2 c2 hl2 _ l2 e2 o2 => ?_⟩
                  subst e2
                  have hl3 : σ2.length = σ.length := hl2.trans hl
                  have t := PostS.turn h
                  refine ⟨c2, rfl, o2, ?_⟩
                  rw [hl3]
                  exact PostS.le l2 t
          | _ => exact h.elim
/-! ### xs[i], xs a list of lists -/
def eIdxR (A B : ESem) : ESem := fun st => (A st).bind fun w s1 => (B s1).bind fun u s2 => match w, u with
  | .v (.c n), .v (.d (.int k)) => (match s2.mem[n]? with
    | some (.rows ns) => (match atI ns k with
      | some m => .ok (.v (.c m)) s2
      | none => .bad)
    | _ => .bad)
  | _, _ => .bad
theorem refs_at {A : List Addr} : ∀ {vs : List V} {ns : List Nat}, RefsOk A vs ns → vs.length = ns.length ∧ ∀ (i m : Nat), ns[i]? = some m → ∃ b, A[m]? = some b ∧ vs[i]? = some (.ref b)
  | _, _, .nil => ⟨rfl, fun i m h => by simp at h⟩
  | _ :: _, _ :: _, .cons r t => by
    obtain ⟨h1, h2⟩ := refs_at t
    refine ⟨congrArg (· + 1) h1, fun i m h => ?_⟩
    cases i with
    | zero =>
      simp at h
      subst h
      obtain ⟨b, z1, z2⟩ := r
      exact ⟨b, z1, by simp [z2]⟩
    | succ i => exact h2 i m (by simpa using h)
theorem e_ixR {a b : Expr} (ha : PE X a (tE X.K E A)) (hb : PE X b (tE X.K E B)) (hs : PlainIx b) : PE X (.Subscript a b pos) (tE X.K E (eIdxR A B)) := by
  refine PE_imp (pe_ix ix_list ha hb hs) fun σ H Q h => ?_
  obtain ⟨c, rfl, o, h⟩ := h
  refine ⟨c, rfl, o, h.bind.mono fun w c1 l1 o1 h1 v hv => ⟨c1, rfl, o1, h1.bind.mono fun u c2 l2 o2 h2 v2 hv2 => ?_⟩⟩
  have hv := hv.mono l2
  cases w with
  | sl i => exact h2.elim
  | v x => cases x with
    | d x => exact h2.elim
    | k x => exact h2.elim
    | c n => cases u with
      | sl i => exact h2.elim
      | v y => cases y with
        | c m => exact h2.elim
        | k y => exact h2.elim
        | d y => cases y with
          | int k =>
            obtain ⟨a0, hA, rfl⟩ := hv
            cases hv2
            cases q : c2.st.mem[n]? with
            | none => simp only [q] at h2; exact h2.elim
            | some ce =>
              simp only [q] at h2
              cases ce with
              | rows ns =>
                obtain ⟨vs, z1, z2⟩ := o2.cell n _ a0 q hA
                obtain ⟨el, at_⟩ := refs_at z2
                have h2 : Post X.K E σ c2 (match atI ns k with
                  | some m => R.ok (W.v (.c m)) c2.st
                  | none => .bad) (fun w c' => ∀ v, WOk X.K σ c' v w → Q v c'.H) := h2
                cases qa : atI ns k with
                | none => simp only [qa] at h2; exact h2.elim
                | some m =>
                  simp only [qa] at h2
                  unfold atI at qa
                  obtain ⟨j, e1, e2⟩ := Option.bind_eq_some_iff.mp qa
                  obtain ⟨b0, y1, y2⟩ := at_ j m e2
                  refine ⟨a0, vs, k, .ref b0, rfl, rfl, SqL.of z1, ?_, h2.here o2 (.ref b0) ⟨b0, y1, rfl⟩⟩
                  unfold atI
                  rw [el, e1]
                  exact y2
              | _ => exact h2.elim
          | _ => exact h2.elim
/-! ### [[..] for x in e], e a cell's list, the new lists cells -/
def fCst (ds : List D) : FSem := fun st => .ok ds st
def rowsSt (s : St) (j k : Nat) (ds0 : List D) : St := ⟨restore [j] s.env (s.wipe [j]).env, s.mem ++ List.replicate k (.lst ds0) ++ [.rows ((List.range k).map (s.mem.length + ·))]⟩
def eRowsC (A : ESem) (j : Nat) (ds0 : List D) : ESem := fun st => (A st).bind fun w s => match w with
  | .v (.c n) => (match s.mem[n]? with
    | some (.lst ys) => if okWipe [j] s.env = true ∧ ys.length ≤ sizeLine then .ok (.v (.c (s.mem.length + ys.length))) (rowsSt s j ys.length ds0) else .bad
    | _ => .bad)
  | _ => .bad
theorem RefsOk.mono {A A' : List Addr} (p : A <+: A') {vs : List V} {ns : List Nat} (r : RefsOk A vs ns) : RefsOk A' vs ns := Paired.mapP r fun _ _ ⟨b, z1, z2⟩ => ⟨b, pre_get p z1, z2⟩
theorem RefsOk.snoc {A : List Addr} {b : Addr} {m : Nat} (e : A[m]? = some b) : ∀ {vs : List V} {ns : List Nat}, RefsOk A vs ns → RefsOk A (vs ++ [.ref b]) (ns ++ [m])
  | _, _, .nil => .cons ⟨b, e, rfl⟩ .nil
  | _, _, .cons r t => .cons r (RefsOk.snoc e t)
theorem RefsOk.len {A : List Addr} : ∀ {vs : List V} {ns : List Nat}, RefsOk A vs ns → vs.length = ns.length
  | _, _, .nil => rfl
  | _, _, .cons _ t => congrArg (· + 1) (RefsOk.len t)
/-- where the block stands, ahead of its i-th item -/
def RwW (K : PySem.W.Frag) (σ : L2.St) (j : Nat) (ds0 : List D) (c1 : Cf) (Dl : Addr) (i : Nat) (H : Hp) : Prop := ∃ (cc : Cf) (accV : List V), cc.H = H ∧ Le c1 cc ∧ Ok K (L2.wipe σ [j]) cc ∧ Apart (L2.wipe σ [j]) cc Dl ∧ H Dl = some (.lst accV) ∧
  RefsOk cc.A accV ((List.range i).map (c1.st.mem.length + ·)) ∧ cc.st = ⟨(c1.st.wipe [j]).env, c1.st.mem ++ List.replicate i (.lst ds0)⟩
theorem rows_read {j : Nat} {ds0 : List D} {σ : L2.St} {H : Hp} {Q : VK} (h : tE X.K E (eRowsC A j ds0) σ H Q) :
    tLc (fun σ H R => tE X.K E A σ H fun x H1 => iAny X.K x H1 R) (tG X.K (.nm j)) (tT X.K XF tYesS) (tF X.K XF (fCst ds0)) [j] σ H Q := by
  obtain ⟨c, rfl, o, h⟩ := h
  refine ⟨c, rfl, o, h.bind.mono fun w c1 l1 o1 h1 v hv => ?_⟩
  cases w with
  | sl i => exact h1.elim
  | v x => cases x with
    | d x => exact h1.elim
    | k x => exact h1.elim
    | c n =>
      obtain ⟨a, hA, rfl⟩ := hv
      cases q : c1.st.mem[n]? with
      | none => simp only [q] at h1; exact h1.elim
      | some ce =>
        simp only [q] at h1
        cases ce with
        | lst ys =>
          have h1 : Post X.K E σ c1 (if okWipe [j] c1.st.env = true ∧ ys.length ≤ sizeLine then R.ok (W.v (.c (c1.st.mem.length + ys.length))) (rowsSt c1.st j ys.length ds0) else .bad) (fun w c' => ∀ v, WOk X.K σ c' v w → Q v c'.H) := h1
          by_cases hk : okWipe [j] c1.st.env = true ∧ ys.length ≤ sizeLine
          · rw [if_pos hk] at h1
            obtain ⟨hw1, hw2⟩ := hk
            obtain ⟨vs0, z0, _⟩ := cell_lst o1 hA q
            have hn : n < c1.st.mem.length := (List.getElem?_eq_some_iff.mp q).1
            refine .inr ⟨a, rfl, .inl ⟨⟨vs0, SqL.of z0⟩, ?_⟩⟩
            intro Dl hD
            have src : ∀ {cc : Cf} {i : Nat}, Le c1 cc → Ok X.K (L2.wipe σ [j]) cc → cc.st = ⟨(c1.st.wipe [j]).env, c1.st.mem ++ List.replicate i (.lst ds0)⟩ → ∃ vs, cc.H a = some (.lst vs) ∧ RpAll cc.G vs ys := fun l occ e =>
              cell_lst occ (pre_get l.p hA) (by rw [e]; show (c1.st.mem ++ _)[n]? = _; rw [List.getElem?_append_left hn]; exact q)
            refine ⟨fun i m H => m = ys.length - i ∧ i ≤ ys.length ∧ RwW X.K σ j ds0 c1 Dl i H, ⟨_, rfl, Nat.zero_le _, ?_⟩, ?_⟩
            · have ow := o1.wipe [j]
              have qw : Apart (L2.wipe σ [j]) { c1 with st := c1.st.wipe [j] } Dl := Apart.fresh ow hD
              exact ⟨{ c1 with st := c1.st.wipe [j], H := upd c1.H Dl (.lst []) }, [], rfl, ⟨rfl, rfl, rfl, Same.refl _, List.prefix_refl _⟩, ow.but qw fun b hb => upd_ne hb, ⟨qw.g, qw.a, qw.own, qw.h0⟩, upd_same, .nil, by
                show c1.st.wipe [j] = _
                rw [List.replicate_zero, List.append_nil]
                rfl⟩
            · rintro i m H ⟨rfl, hi, cc, accV, rfl, lc, occ, qd, hDl, hr, est⟩
              obtain ⟨vs, z1, z2⟩ := src lc occ est
              have hp : Dl ∉ cc.A0 := not_pre (o := occ) qd.a
              by_cases hlt : i < ys.length
              · have hv : i < vs.length := by rw [z2.length]; exact hlt
                refine .inr ⟨⟨vs, vs[i], SqL.of z1, List.getElem?_eq_getElem hv⟩, RwW X.K σ j ds0 c1 Dl (i + 1), fun H' hN => ⟨ys.length - (i + 1), by omega, rfl, hlt, hN⟩, fun x H' hy => ?_⟩
                obtain ⟨e, y⟩ := hy
                subst e
                obtain ⟨d, y1, y2⟩ := z2.getV (y vs (SqL.of z1))
                refine ⟨{ cc with H0 := upd cc.H0 Dl (.lst accV), G0 := cc.G }, d, cc.st.setS j (.v (.d d)), rfl, occ.framed2 qd hDl, y2, rfl, fun σ2 c2 hl2 hj2 l2 e2 o2 => ?_⟩
                have hwp : L2.wipe σ2 [j] = L2.wipe σ [j] := by
                  refine wipe_ext (by rw [hl2, wipe_len]) fun i hj => ?_
                  rw [hj2 i fun z => hj z, wipe_get_out hj]
                refine ⟨hwp, c2, rfl, o2, ?_⟩
                intro c3 l3 e3 o3
                refine iteT ⟨c3, rfl, o3, ?_⟩
                intro c4 l4 e4 o4 p vs2 hpn hv2
                have l24 := l2.trans (l3.trans l4)
                obtain ⟨hh4, _⟩ := Ok.unframed qd l24 o4 hp
                have npD : Dl ≠ p := fun z => by rw [z, hpn] at hh4; cases hh4
                have o5 := o4.newC (ce := .lst ds0) hpn (cell_old hpn) ⟨vs2, upd_same, hv2⟩
                let c5 : Cf := { c4 with A := c4.A ++ [p], st := { c4.st with mem := c4.st.mem ++ [.lst ds0] }, H := upd c4.H p (.lst vs2) }
                have o5 : Ok X.K σ2 c5 := o5
                have l45 : Le c4 c5 := ⟨rfl, rfl, rfl, Same.refl _, List.prefix_append _ _⟩
                have l25 := l24.trans l45
                obtain ⟨hh5, q5⟩ := Ok.unframed qd l25 o5 hp
                have o6 := Ok.reframe occ qd l25 o5 hp
                have q6 : Apart σ2 { c5 with H0 := cc.H0, G0 := cc.G0 } Dl := ⟨q5.g, q5.a, q5.own, q5.h0⟩
                have q7 := q6.wipe [j]
                have o7 := o6.wipe [j]
                rw [hwp] at q7 o7
                have est4 : c4.st = cc.st.setS j (.v (.d d)) := e4.trans (e3.trans e2)
                have hm4 : c4.st.mem = c1.st.mem ++ List.replicate i (.lst ds0) := by rw [est4, est]; rfl
                have hlen : c4.st.mem.length = c1.st.mem.length + i := by rw [hm4]; simp
                refine ⟨accV, hh5, ?_, ?_⟩
                · rw [hr.len, List.length_map, List.length_range]
                  omega
                · refine ⟨{ c5 with H0 := cc.H0, G0 := cc.G0, st := c5.st.wipe [j], H := upd (upd c4.H p (.lst vs2)) Dl (.lst (accV ++ [.ref p])) }, accV ++ [.ref p], rfl, lc.trans ⟨rfl, l25.a, rfl, l25.g, l25.p⟩, o7.but q7 fun b hb => upd_ne hb, ⟨q7.g, q7.a, q7.own, q7.h0⟩, upd_same, ?_, ?_⟩
                  · rw [List.range_succ, List.map_append]
                    refine RefsOk.snoc ?_ (hr.mono l25.p)
                    show (c4.A ++ [p])[c1.st.mem.length + i]? = some p
                    rw [← hlen]
                    exact newC_at o4
                  · show St.wipe ⟨c4.st.env, c4.st.mem ++ [.lst ds0]⟩ [j] = _
                    rw [hm4, est4, est]
                    show (⟨((c1.st.env.set j .emp).set j (.v (.d d))).set j .emp, _⟩ : St) = ⟨c1.st.env.set j .emp, _⟩
                    rw [List.set_set, List.set_set, List.append_assoc]
                    congr 2
                    rw [List.replicate_succ']
              · have ei : i = ys.length := by omega
                subst ei
                refine .inl ⟨⟨vs, SqL.of z1, by rw [z2.length]; exact Nat.le_refl _⟩, ?_⟩
                have oR := occ.but qd (H' := fun b => if b = Dl then none else cc.H b) (fun b hb => if_neg hb)
                have oS := Ok.restore o1 (c' := { cc with H := fun b => if b = Dl then none else cc.H b }) ⟨lc.h, lc.a, lc.g0, lc.g, lc.p⟩ hw1 oR
                have eH : upd (fun b => if b = Dl then none else cc.H b) Dl (.lst accV) = cc.H := by
                  funext b
                  by_cases hb : b = Dl
                  · subst hb
                    rw [upd_same, hDl]
                  · rw [upd_ne hb, if_neg hb]
                have oN := oS.newC (p := Dl) (H' := upd (fun b => if b = Dl then none else cc.H b) Dl (.lst accV)) (ce := .rows ((List.range ys.length).map (c1.st.mem.length + ·))) (if_pos rfl) (cell_old (if_pos rfl)) ⟨accV, upd_same, hr.mono (List.prefix_append _ _)⟩
                have hm : cc.st.mem = c1.st.mem ++ List.replicate ys.length (.lst ds0) := by rw [est]
                have fin := h1 { cc with A := cc.A ++ [Dl], st := ⟨PD.restore [j] c1.st.env cc.st.env, cc.st.mem ++ [.rows ((List.range ys.length).map (c1.st.mem.length + ·))]⟩, H := upd (fun b => if b = Dl then none else cc.H b) Dl (.lst accV) } ⟨lc.h, lc.a, lc.g0, lc.g, lc.p.trans (List.prefix_append _ _)⟩ (by unfold rowsSt; rw [hm, est]) oN (.ref Dl) ⟨Dl, by
                  have hl : cc.st.mem.length = c1.st.mem.length + ys.length := by rw [hm]; simp
                  have := newC_at (p := Dl) occ
                  rw [hl] at this
                  exact this, rfl⟩
                have fin : Q (.ref Dl) (upd (fun b => if b = Dl then none else cc.H b) Dl (.lst accV)) := fin
                rw [eH] at fin
                exact fin
          · rw [if_neg hk] at h1; exact h1.elim
        | _ => exact h1.elim
theorem t_yes {X : Cx} : PTs X [] (tT X.K XF tYesS) := ts_none
variable {elt tg it : Expr} {scope : Scope} {spos py p1 : Pos} {j : Nat} {xj : Str}
/-- [[] for x in e], e a cell's list: an expression -/
theorem e_rows (hc : X.calm = true) (hN : X.N.Nodup) (hi : PE X it (tE X.K E A)) (ok : BlkOk X.N X.env.scope scope [(xj, j)])
    (hg : ∀ (s : Shared) (H : Hp) (C : Addr) (cl : List (Str × Addr)) (fp : List Addr), PG (X.blk s H scope (compEnvC scope cl C X.env) fp) tg (tG X.K (.nm j))) (hs : ∀ x, foldedSetIterable it X.env x = pure x := by intro _; rfl) :
    PE X (.ListComp (.List [] p1) [⟨tg, it, [], 0⟩] scope pos) (tE X.K E (eRowsC A j [])) :=
  PE_imp (pe_lc hc hN (pi_seq hi) ok hg (fun _ _ _ _ _ => ts_none) (fun s H C cl fp => (f_lst a_nil : PE (X.blk s H scope (compEnvC scope cl C X.env) fp) (.List [] p1) (tF X.K XF (fCst [])))) hs) fun _ _ _ h => rows_read h
/-- y = [[] for x in e] -/
theorem s_rows {i : Nat} {y : Str} (hc : X.calm = true) (hN : X.N.Nodup) (hy : X.N[i]? = some y) (hyl : X.env.scope.names.lookup y = some .local)
    (hsw : swapsWith (.ListComp (.List [] p1) [⟨tg, it, [], 0⟩] scope pos) (some (.Name y py)) spos.line X.env = pure true) (hi : PE X it (tE X.K E A)) (ok : BlkOk X.N X.env.scope scope [(xj, j)])
    (hg : ∀ (s : Shared) (H : Hp) (C : Addr) (cl : List (Str × Addr)) (fp : List Addr), PG (X.blk s H scope (compEnvC scope cl C X.env) fp) tg (tG X.K (.nm j))) (hs : ∀ x, foldedSetIterable it X.env x = pure x := by intro _; rfl) :
    PS X (.Assign [.Name y py] (.ListComp (.List [] p1) [⟨tg, it, [], 0⟩] scope pos) spos) (tS X.K E (sSet i (eRowsC A j []))) :=
  PS_imp (ps_setLc hc hN hy hyl hsw (pi_seq hi) ok hg (fun _ _ _ _ _ => ts_none) (fun s H C cl fp => (f_lst a_nil : PE (X.blk s H scope (compEnvC scope cl C X.env) fp) (.List [] p1) (tF X.K XF (fCst [])))) hs) fun Dn σ H h => by
    have h1 := set_read h
    exact rows_read h1
end
/-! ### {x: d}, x an int or a text in a variable -/
def mOneF (i : Nat) (d : D) : MSem := fun st => match st.env[i]? with
  | some (.v (.d k)) => if kkOf k = some false then .ok [(k, d)] st else .bad
  | _ => .bad
section
variable {X : Cx} {E : XW} {pos : Pos} {b : Expr}
theorem oneF_read {K : PySem.W.Frag} {i : Nat} {v : V} {d : D} (hc : Cst v d) {σ : L2.St} {H : Hp} {Q : VK} (h : tM K E (mOneF i d) σ H Q) : tDisp [(tVar i, tC v)] σ H Q := by
  obtain ⟨c, rfl, o, h⟩ := h
  intro p hp
  unfold mOneF at h
  cases q : c.st.env[i]? with
  | none => simp only [q] at h; exact h.elim
  | some s =>
    simp only [q] at h
    have hi : i < σ.length := by rw [← o.len]; exact (List.getElem?_eq_some_iff.mp q).1
    have z := o.slot i s _ q (List.getElem?_eq_getElem hi)
    cases s with
    | emp => exact h.elim
    | own w => exact h.elim
    | v x =>
      cases x with
      | c n => exact h.elim
      | k x => exact h.elim
      | d x =>
        obtain ⟨u, e1, hu⟩ := z
        have hu : Rp c.G u x := hu
        by_cases hk : kkOf x = some false
        · have h : Post K E σ c (if kkOf x = some false then R.ok [(x, d)] c.st else .bad) _ := h
          rw [if_pos hk] at h
          obtain ⟨k, rfl⟩ := kk_flat hk
          obtain rfl := rp_kV hu
          refine ⟨kV k, by rw [List.getElem?_eq_getElem hi, e1], upd_same, [(k, v)], rfl, by simp, ?_⟩
          rw [upd_upd]
          exact h.here o p _ hp (.inl ⟨[(k, v)], upd_same, .cons hc.rp .nil⟩)
        · have h : Post K E σ c (if kkOf x = some false then R.ok [(x, d)] c.st else .bad) _ := h
          rw [if_neg hk] at h
          exact h.elim
theorem m_oneF {x : Str} {v : V} {d : D} {p1 : Pos} (i : Nat) (hc : Cst v d) (hb : PE X b (tC v)) (hN : X.N[i]? = some x := by rfl) (hv : Vis X.env.scope x := by first | exact Or.inl rfl | exact Or.inr (Or.inl rfl) | exact Or.inr (Or.inr rfl)) (hd : (x == ("__debug__" : Str)) = false := by decide)
    (hcd : (x == ("__classdict__" : Str)) = false := by decide) : PE X (.Dict [some (.Name x p1)] [b] pos) (tM X.K E (mOneF i d)) :=
  PE_imp (pe_disp (pps_cons (pe_var (i := i) hN hv hd hcd) hb pps_nil) rfl rfl (by simp) (by simp)) fun σ H Q h => oneF_read hc h
end
end PD

set_option Elab.async false
set_option linter.all false
set_option maxRecDepth 100000
set_option maxHeartbeats 1000000
/-! PDHelpR: lists of cells, run backwards. -/
namespace PD
open PySem PySem.Spec PyProof.Rows L2
section
variable {A B : ESem} {st : PD.St} {Q : W → PD.St → Prop} {QS : Fl → PD.St → Prop} {QM : List (D × D) → PD.St → Prop} {X : Str → PD.St → Prop} {bd : Bd} {body : SSem} {n : Nat}
def cW : W → Option Nat
  | .v (.c n) => some n
  | _ => none
@[simp] theorem cW_c : cW (.v (.c n)) = some n := nrfl rfl
def lstC : Option Cell → Option (List D)
  | some (.lst ds) => some ds
  | _ => none
@[simp] theorem lstC_l {ds : List D} : lstC (some (.lst ds)) = some ds := nrfl rfl
def rowsC : Option Cell → Option (List Nat)
  | some (.rows ds) => some ds
  | _ => none
@[simp] theorem rowsC_l {ds : List Nat} : rowsC (some (.rows ds)) = some ds := nrfl rfl
def cwalk (n : Nat) (bd : Bd) (body : SSem) : SSem := fun st => cloop n bd body whFuel 0 st
@[simp] theorem wp_sForC : wp (sForC A bd body st) QS X = wp (A st) (fun w s => oq (cW w) fun n => wp (cwalk n bd body s) QS X) X := by
  unfold sForC
  rw [wp_bind]
  refine wp_fun fun w s => ?_
  cases w with
  | sl n => rfl
  | v x => cases x <;> rfl
theorem wp_cwalk {xs : List D} (hx : xs.length < whFuel) (Inv : Nat → PD.St → Prop) (hm : ∀ i s, Inv i s → lstC s.mem[n]? = some xs) (h0 : Inv 0 st)
    (hs : ∀ i s (h : i < xs.length), Inv i s → oq (bd.put xs[i] s) fun s1 => wp (body s1) (fun f s => turnQ (Inv (i + 1)) QS f s) X) (hd : ∀ s, Inv xs.length s → QS .nx s) : wp (cwalk n bd body st) QS X := by
  have key : ∀ fuel i s, i ≤ xs.length → xs.length < fuel + i → Inv i s → wp (cloop n bd body fuel i s) QS X := by
    intro fuel
    induction fuel with
    | zero => intro i s h1 h2; omega
    | succ fuel ih =>
      intro i s h1 h2 h
      have e := hm i s h
      unfold cloop
      cases q : s.mem[n]? with
      | none => rw [q] at e; cases e
      | some ce =>
        rw [q] at e
        cases ce with
        | lst ys =>
          have e : some ys = some xs := e
          cases e
          by_cases hi : i < xs.length
          · have e1 : xs[i]? = some xs[i] := List.getElem?_eq_getElem hi
            have h3 := hs i s hi h
            show wp (match xs[i]? with
              | none => R.ok Fl.nx s
              | some x => match bd.put x s with
                | none => .bad
                | some s1 => (body s1).bind fun fl s2 => match fl with
                  | .nx => cloop n bd body fuel (i + 1) s2
                  | .ct => cloop n bd body fuel (i + 1) s2
                  | .bk => .ok .nx s2
                  | .rt v => .ok (.rt v) s2) QS X
            rw [e1]
            show wp (match bd.put xs[i] s with
                | none => .bad
                | some s1 => (body s1).bind fun fl s2 => match fl with
                  | .nx => cloop n bd body fuel (i + 1) s2
                  | .ct => cloop n bd body fuel (i + 1) s2
                  | .bk => .ok .nx s2
                  | .rt v => .ok (.rt v) s2) QS X
            cases qp : bd.put xs[i] s with
            | none => rw [qp] at h3; exact h3.elim
            | some s1 =>
              rw [qp] at h3
              show wp ((body s1).bind _) QS X
              rw [wp_bind]
              refine wp.imp h3 fun f s2 h4 => ?_
              cases f with
              | nx => exact ih _ _ hi (by omega) h4
              | ct => exact ih _ _ hi (by omega) h4
              | bk => exact h4
              | rt v => exact h4
          · have e1 : xs[i]? = none := List.getElem?_eq_none (by omega)
            have ei : i = xs.length := by omega
            subst ei
            show wp (match xs[xs.length]? with
              | none => R.ok Fl.nx s
              | some x => match bd.put x s with
                | none => .bad
                | some s1 => (body s1).bind fun fl s2 => match fl with
                  | .nx => cloop n bd body fuel (xs.length + 1) s2
                  | .ct => cloop n bd body fuel (xs.length + 1) s2
                  | .bk => .ok .nx s2
                  | .rt v => .ok (.rt v) s2) QS X
            rw [e1]
            exact hd s h
        | _ => cases e
  exact key whFuel 0 st (Nat.zero_le _) (by omega) h0
@[simp] theorem wp_eIdxR : wp (eIdxR A B st) Q X = wp (A st) (fun w s1 => wp (B s1) (fun u s2 => oq (cW w) fun n => oq (intW u) fun k => oq (rowsC s2.mem[n]?) fun ns => oq (atI ns k) fun m => Q (.v (.c m)) s2) X) X := by
  unfold eIdxR
  rw [wp_bind]
  refine wp_fun fun w s1 => ?_
  rw [wp_bind]
  refine wp_fun fun u s2 => ?_
  cases w with
  | sl i => cases u <;> rfl
  | v x => cases x with
    | d x => cases u <;> rfl
    | k x => cases u <;> rfl
    | c n => cases u with
      | sl i => rfl
      | v y => cases y with
        | c m => rfl
        | k y => rfl
        | d y => cases y with
          | int k =>
            show wp (match s2.mem[n]? with
              | some (.rows ns) => (match atI ns k with
                | some m => R.ok (W.v (.c m)) s2
                | none => .bad)
              | _ => .bad) Q X = oq (rowsC s2.mem[n]?) _
            cases s2.mem[n]? with
            | none => rfl
            | some ce => cases ce with
              | rows ns =>
                show wp (match atI ns k with
                  | some m => R.ok (W.v (.c m)) s2
                  | none => .bad) Q X = oq (atI ns k) _
                cases atI ns k <;> rfl
              | _ => rfl
          | _ => rfl
@[simp] theorem wp_eRowsC {j : Nat} {ds0 : List D} : wp (eRowsC A j ds0 st) Q X = wp (A st) (fun w s => oq (cW w) fun n => oq (lstC s.mem[n]?) fun ys => okWipe [j] s.env = true ∧ ys.length ≤ sizeLine ∧
    Q (.v (.c (s.mem.length + ys.length))) ⟨restore [j] s.env (s.wipe [j]).env, s.mem ++ List.replicate ys.length (.lst ds0) ++ [.rows ((List.range ys.length).map (s.mem.length + ·))]⟩) X := by
  unfold eRowsC
  rw [wp_bind]
  refine wp_fun fun w s => ?_
  cases w with
  | sl i => rfl
  | v x => cases x with
    | d x => rfl
    | k x => rfl
    | c n =>
      show wp (match s.mem[n]? with
        | some (.lst ys) => if okWipe [j] s.env = true ∧ ys.length ≤ sizeLine then R.ok (W.v (.c (s.mem.length + ys.length))) (rowsSt s j ys.length ds0) else .bad
        | _ => .bad) Q X = oq (lstC s.mem[n]?) _
      cases s.mem[n]? with
      | none => rfl
      | some ce => cases ce with
        | lst ys =>
          show wp (if okWipe [j] s.env = true ∧ ys.length ≤ sizeLine then R.ok (W.v (.c (s.mem.length + ys.length))) (rowsSt s j ys.length ds0) else .bad) Q X = (okWipe [j] s.env = true ∧ ys.length ≤ sizeLine ∧ _)
          by_cases h : okWipe [j] s.env = true ∧ ys.length ≤ sizeLine
          · rw [if_pos h, and_iff h.1, and_iff h.2]; rfl
          · rw [if_neg h]
            refine propext ⟨fun z => z.elim, fun z => (h ⟨z.1, z.2.1⟩).elim⟩
        | _ => rfl
@[simp] theorem wp_mOneF {i : Nat} {d : D} : wp (mOneF i d st) QM X = oq (slDv st.env[i]?) fun k => kkOf k = some false ∧ QM [(k, d)] st := by
  unfold mOneF
  cases st.env[i]? with
  | none => rfl
  | some s => cases s with
    | emp => rfl
    | own w => rfl
    | v x => cases x with
      | c n => rfl
      | k x => rfl
      | d k =>
        show wp (if kkOf k = some false then R.ok [(k, d)] st else .bad) QM X = (kkOf k = some false ∧ _)
        by_cases h : kkOf k = some false
        · rw [if_pos h, and_iff h]; rfl
        · rw [if_neg h, and_no h]; rfl
end
end PD

set_option Elab.async false
set_option linter.all false
set_option maxRecDepth 100000
set_option maxHeartbeats 1000000
/-! PDUnpF: self.a, self.b, .. = a tuple of data. -/
namespace PD
open PySem PySem.Spec PyProof.Rows L2
def setF1 (C : Str) (O : ESem) (f : Str) (x : Dv) (st : St) : Option St := match O st with
  | .ok w s => (match objAt C w s with
    | some q => if q.2.length < 1000 then some { s with mem := s.mem.set q.1 (.obj C (putFD f x q.2)) } else none
    | none => none)
  | _ => none
def setFs (C : Str) (O : ESem) : List Str → List D → St → Option St
  | [], [], st => some st
  | f :: fs, d :: ds, st => (setF1 C O f (.d d) st).bind (setFs C O fs ds)
  | _, _, _ => none
theorem setFs_len {C : Str} {O : ESem} : ∀ (fs : List Str) (ds : List D) (st : St) {st' : St}, setFs C O fs ds st = some st' → ds.length = fs.length
  | [], [], _, _, _ => rfl
  | [], _ :: _, _, _, e => by cases e
  | _ :: _, [], _, _, e => by cases e
  | f :: fs, d :: ds, st, st', e => by
    have e : (setF1 C O f (.d d) st).bind (setFs C O fs ds) = some st' := e
    obtain ⟨s1, _, e2⟩ := Option.bind_eq_some_iff.mp e
    exact congrArg (· + 1) (setFs_len fs ds s1 e2)
section
variable {X : Cx} {E : XW} {pos pos' : Pos} {a e : Expr} {O A : ESem} {C f : Str}
def gFld (K : PySem.W.Frag) (ta : TE) (f : Str) : TG := fun v σ H Q => ta σ H fun x H1 => ∃ a C dx fs, x = .ref a ∧ H1 a = some (.ins C dx fs) ∧ Cls K C ∧ NoAttr K C f ∧ fs.length < 1000 ∧ Q σ (upd H1 a (.ins C dx (putF f v fs)))
theorem pg_fld {ta : TE} (ho : PE X e ta) : PG X (.Attribute e f pos') (gFld X.K ta f) := by
  refine ⟨fun pins s σ H v u Q I r h => ?_⟩
  refine PySem.W.kas_attr (thn (ho.run pins s σ H _ I h) fun ov s1 ⟨x, H1, I1, rx, a, C, dx, fs, ex, ea, c, n, l, q⟩ => ?_)
  subst ex
  obtain rfl : ov = Value.ref a := rx
  exact setattr_ok I1 ea c n l r fun s3 I3 => ⟨σ, _, I3, q⟩
def tGF (_ : XW) (K : PySem.W.Frag) (C : Str) (O : ESem) (f : Str) : TG := fun v σ H Q => ∃ c d st', c.H = H ∧ Ok K σ c ∧ Rp c.G v d ∧ setF1 C O f (.d d) c.st = some st' ∧ ∀ σ' c', σ'.length = σ.length → Le c c' → c'.st = st' → Ok K σ' c' → Q σ' c'.H
def tGsF (_ : XW) (K : PySem.W.Frag) (C : Str) (O : ESem) (fs : List Str) : TGs := fun vs σ H Q => ∃ c ds st', c.H = H ∧ Ok K σ c ∧ RpAll c.G vs ds ∧ setFs C O fs ds c.st = some st' ∧ ∀ σ' c', σ'.length = σ.length → Le c c' → c'.st = st' → Ok K σ' c' → Q σ' c'.H
theorem g_fs (c : Cls X.K (He.ga X.K C)) (n : NoAttr X.K (He.ga X.K C) f) (ho : PE X e (tE X.K E O)) : PG X (.Attribute e f pos') (tGF E X.K C O f) := by
  refine PG_imp (pg_fld ho) fun v σ H Q h => ?_
  obtain ⟨c0, d, st', rfl, o, r, e1, h⟩ := h
  unfold setF1 at e1
  cases eO : O c0.st with
  | exc _ _ => simp only [eO] at e1; cases e1
  | bad => simp only [eO] at e1; cases e1
  | ok w s =>
    simp only [eO] at e1
    refine ⟨c0, rfl, o, ?_⟩
    rw [eO]
    intro c1 l1 es o1 v2 hv2
    subst es
    cases q3 : objAt C w c1.st with
    | none => simp only [q3] at e1; cases e1
    | some p =>
      simp only [q3] at e1
      obtain ⟨_, a0, dx, gs, rfl, hA, hM, hH, hF⟩ := objAt_ok o1 hv2 q3
      by_cases hl : p.2.length < 1000
      · rw [if_pos hl] at e1
        cases e1
        refine ⟨a0, _, dx, gs, rfl, hH, c, n, by rw [fld_len hF]; exact hl, ?_⟩
        have r2 : DvOk X.K c0.G c0.A v (.d d) := r
        have o4 := (o1.writeC (ce' := .obj C (putFD f (.d d) p.2)) hM hA rfl).2 (.ins (He.ga X.K C) dx (putF f v gs)) ⟨dx, _, upd_same, fld_put (r2.mono l1.g l1.p) hF⟩
        exact h σ { c1 with st := { c1.st with mem := c1.st.mem.set p.1 (.obj C (putFD f (.d d) p.2)) }, H := upd c1.H a0 (.ins (He.ga X.K C) dx (putF f v gs)) } rfl (l1.trans ⟨rfl, rfl, rfl, Same.refl _, List.prefix_refl _⟩) rfl o4
      · rw [if_neg hl] at e1; cases e1
theorem gsF_nil : PGs X [] (tGsF E X.K C O []) := PGs_imp pgs_nil fun v σ H Q h => by
  obtain ⟨c, ds, st', rfl, o, r, e, h⟩ := h
  cases ds with
  | nil =>
    cases r
    cases e
    exact ⟨rfl, h σ c rfl (Le.refl c) rfl o⟩
  | cons _ _ => cases e
theorem gsF_cons {fs : List Str} {es : List Expr} (h1 : PG X a (tGF E X.K C O f)) (h2 : PGs X es (tGsF E X.K C O fs)) (hs : (assignEach (a :: es) X.env).map (·.2) = assign a X.env :: (assignEach es X.env).map (·.2) := by rfl) : PGs X (a :: es) (tGsF E X.K C O (f :: fs)) := by
  refine PGs_imp (pgs_cons h1 h2 hs) fun v σ H Q h => ?_
  obtain ⟨c, ds, st', rfl, o, r, e, h⟩ := h
  cases ds with
  | nil => cases e
  | cons d ds =>
    cases r with
    | cons r1 r2 =>
      have e : (setF1 C O f (.d d) c.st).bind (setFs C O fs ds) = some st' := e
      obtain ⟨s1, e1, e2⟩ := Option.bind_eq_some_iff.mp e
      refine ⟨_, _, rfl, c, d, s1, rfl, o, r1, e1, fun σ1 c1 hl1 l1 es1 o1 => ?_⟩
      refine ⟨c1, ds, st', rfl, o1, r2.mono l1.g ds _, by rw [es1]; exact e2, fun σ2 c2 hl2 l2 es2 o2 => ?_⟩
      exact h σ2 c2 (hl2.trans hl1) (l1.trans l2) es2 o2
/-- self.a, self.b, .. = e -/
def sUnpF (C : Str) (O : ESem) (fs : List Str) (A : ESem) : SSem := fun st => (A st).bind fun w s => (forceD w s).bind fun d s' => match d with
  | .tuple ds => (match setFs C O fs ds s' with
    | some s2 => .ok .nx s2
    | none => .bad)
  | _ => .bad
theorem s_unpF {ts : List Expr} {fs : List Str} {k n : Nat} {pt : Pos} (hc : X.calm = true) (ha : PE X a (tE X.K E A)) (hg : PGs X ts (tGsF E X.K C O fs)) (hi : fs.length = n := by rfl) (hn : (assignEach ts X.env).length = n := by rfl) (hst : (assignEach ts X.env).findIdx? (·.1) = none := by rfl)
    (hs : swapsWithSole [.Tuple ts k pt] a pos.line X.env = pure false := by rfl) (hw : swappedStores [.Tuple ts k pt] a X.env = pure none := by rfl)
    (h1 : (assignEach [.Tuple ts k pt] X.env).map (·.2) = [assign (.Tuple ts k pt) X.env] := by rfl) : PS X (.Assign [.Tuple ts k pt] a pos) (tS X.K E (sUnpF C O fs A)) := by
  refine PS_imp (ps_asg ha (pg_tup hc hg hn hst) hs hw h1) fun Dn σ H h => ?_
  obtain ⟨c, rfl, ok, h⟩ := h
  refine ⟨c, rfl, ok, (PostS.bind rfl h).mono fun w c1 l1 o1 h1 v hv => ?_⟩
  obtain ⟨d, c2, l2, o2, eh, hd, h2⟩ := postS_forceD o1 hv h1
  cases d with
  | tuple ds =>
    cases hd with
    | tup q1 q2 =>
      cases q : setFs C O fs ds c2.st with
      | none => simp only [q] at h2; exact h2.elim
      | some st' =>
        simp only [q] at h2
        refine ⟨_, _, rfl, SqT.of (by rw [← eh]; exact o2.sub _ _ q1), by rw [q2.length, setFs_len _ _ _ q]; exact hi, c2, ds, st', eh, o2, q2, q, fun σ' c' hl l e o' => h2 σ' c' hl l e o'⟩
  | _ => exact h2.elim
end
section
variable {st : St} {QS : Fl → St → Prop} {X : Str → St → Prop} {O A : ESem} {C f : Str} {fs : List Str}
theorem oq_setF1 {x : Dv} {Q : St → Prop} : oq (setF1 C O f x st) Q = wp (O st) (fun w s => oq (objAt C w s) fun q => q.2.length < 1000 ∧ Q { s with mem := s.mem.set q.1 (.obj C (putFD f x q.2)) }) (fun _ _ => False) := by
  unfold setF1
  cases O st with
  | exc _ _ => rfl
  | bad => rfl
  | ok w s =>
    rw [wp_ok]
    dsimp only
    cases objAt C w s with
    | none => rfl
    | some q =>
      dsimp only
      by_cases h : q.2.length < 1000
      · rw [if_pos h]
        simp [h]
      · rw [if_neg h]
        simp [h]
@[simp] theorem oq_setFs_nil {Q : St → Prop} : oq (setFs C O [] [] st) Q = Q st := nrfl rfl
@[simp] theorem oq_setFs_cons {d : D} {ds : List D} {Q : St → Prop} : oq (setFs C O (f :: fs) (d :: ds) st) Q = wp (O st) (fun w s => oq (objAt C w s) fun q => q.2.length < 1000 ∧ oq (setFs C O fs ds { s with mem := s.mem.set q.1 (.obj C (putFD f (.d d) q.2)) }) Q) (fun _ _ => False) := by
  rw [← oq_setF1 (Q := fun s => oq (setFs C O fs ds s) Q)]
  show oq ((setF1 C O f (.d d) st).bind (setFs C O fs ds)) Q = _
  cases setF1 C O f (.d d) st <;> rfl
def tupD : D → Option (List D)
  | .tuple ds => some ds
  | _ => none
@[simp] theorem tupD_t {ds : List D} : tupD (.tuple ds) = some ds := nrfl rfl
@[simp] theorem wp_sUnpF : wp (sUnpF C O fs A st) QS X = wp (A st) (fun w s => wp (forceD w s) (fun d s' => oq (tupD d) fun ds => oq (setFs C O fs ds s') fun s2 => QS .nx s2) X) X := by
  unfold sUnpF
  rw [wp_bind]
  refine wp_fun fun w s => ?_
  rw [wp_bind]
  refine wp_fun fun d s' => ?_
  cases d with
  | tuple ds =>
    dsimp only [tupD]
    rw [oq_some]
    cases setFs C O fs ds s' <;> rfl
  | _ => rfl
end
end PD

set_option Elab.async false
set_option linter.all false
set_option maxRecDepth 100000
set_option maxHeartbeats 1000000
/-! PDLtD: a < b of data that are alike. -/
namespace PD
open PySem PySem.Spec PyProof.Rows L2
def dLtD (x y : D) : Option D := if (PySem.W.alike x y && PySem.W.alike x x && PySem.W.alike y y && !isN x && decide (x.depth ≤ 60)) = true then some (.bool (PySem.W.dataLt x y)) else none
section
variable {X : Cx}
def rLtD (K : PySem.W.Frag) : R2 := fun x y H Q => ∃ d e, Dp K H x d ∧ Dp K H y e ∧ PySem.W.alike d e = true ∧ d ≠ .none ∧ d.depth ≤ 60 ∧ Q (.bl (PySem.W.dataLt d e)) H
theorem op_ltD (hu : X.A.units + 64 < cLine) : OpR X (compareOp .Lt) (rLtD X.K) := by
  intro pins s σ H x y v u Q I rx ry h
  obtain ⟨d, e, hd, he, h1, h2, h3, q⟩ := h
  obtain ⟨as, r1⟩ := Dp.reads I d x v hd rx
  obtain ⟨bs, r2⟩ := Dp.reads I e y u he ry
  exact PySem.W.rcLt_alike d e X.A s v u as bs r1 r2 h1 h2 (by omega) _ _ _ _ ⟨.bl _, H, I, rfl, q⟩
end
section
variable {K : PySem.W.Frag} {E : XW}
theorem r_ltD : R2Ok K E (dat2D dLtD) (rLtD K) := r2_datD fun σ c Q v u x y d o hv hu e k => by
  unfold dLtD at e
  by_cases h : (PySem.W.alike x y && PySem.W.alike x x && PySem.W.alike y y && !isN x && decide (x.depth ≤ 60)) = true
  · rw [if_pos h] at e
    cases e
    simp only [Bool.and_eq_true, decide_eq_true_eq] at h
    obtain ⟨⟨⟨⟨h1, g1⟩, g2⟩, h2⟩, h3⟩ := h
    have n1 := noDic_alike x x g1 g1
    have n2 := noDic_alike y y g2 g2
    exact ⟨x, y, hv.dp n1 o.sub, hu.dp n2 o.sub, h1, (fun z => by rw [z] at h2; cases h2), h3, k.here o (.bl _)⟩
  · rw [if_neg h] at e; cases e
end
section
variable {X : Cx} {E : XW} {a b : Expr} {A B : ESem} {pos : Pos} {k : Nat}
abbrev tLtD (A B : ESem) : TSem := tOfE (eOp2 (dat2D dLtD) A B)
theorem t_ltD (hr : Room k X.A) (ha : PE X a (tE X.K E A)) (hb : PE X b (tE X.K E B)) : PT X (.Compare a [.Lt] [b] pos) (tT X.K E (tLtD A B)) := t_cmp (op_ltD hr.units) r_ltD ha hb (nomark _)
end
end PD

set_option Elab.async false
set_option linter.all false
set_option maxRecDepth 100000
set_option maxHeartbeats 1000000
/-! PDHelpL: pairs of a number and a row, compared. -/
namespace PD
open PySem PySem.Spec PyProof.Rows L2
section
variable {Q : W → St → Prop} {X : Str → St → Prop} {st : St} {A : ESem}
@[simp] theorem wp_ePop : wp (ePop A st) Q X = wp (A st) (fun w s1 => oq (getL w s1) fun xs => oq xs.getLast? fun d => wp (putL w xs.dropLast s1) (fun _ s2 => Q (.v (.d d)) s2) X) X := by
  unfold ePop
  rw [wp_bind]
  refine wp_fun fun w s1 => ?_
  cases getL w s1 with
  | none => rfl
  | some xs =>
    rw [oq_some, List.getLast?_eq_getElem?]
    dsimp only
    cases xs[xs.length - 1]? with
    | none => rfl
    | some d =>
      dsimp only
      rw [wp_bind]
      rfl
end
theorem dLtD_il (p q : Int × List Int) : dLtD (ilD p) (ilD q) = some (.bool (ltIl p q)) := by
  have a0 : ∀ p q : Int × List Int, PySem.W.alike (ilD p) (ilD q) = true := fun p q => by
    simp only [PySem.W.alike, PySem.W.alikeAll, Bool.and_true, Bool.true_and]
    exact PySem.W.alike_ints _ _
  have hd : (ilD p).depth ≤ 60 := by
    have e : PyData.depthAll (p.2.map PyData.int) = 0 := PySem.W.depth_ints p.2
    simp only [PyData.depth, PyData.depthAll, e]
    omega
  unfold dLtD
  rw [a0, a0, a0, dataLt_il, decide_eq_true hd]
  rfl
theorem ltIl_irr (p : Int × List Int) : ltIl p p = false := by
  unfold ltIl
  simp
theorem ltIl_tri {p q : Int × List Int} (h1 : ltIl p q = false) (h2 : ltIl q p = false) : p = q := by
  unfold ltIl at h1 h2
  simp only [decide_eq_false_iff_not, not_or, not_and] at h1 h2
  obtain ⟨a1, a2⟩ := h1
  obtain ⟨b1, b2⟩ := h2
  have e : p.1 = q.1 := by omega
  have c1 := a2 e
  have c2 := b2 e.symm
  have : p.2 = q.2 := by
    exact List.le_antisymm (List.not_lt.mp c2) (List.not_lt.mp c1)
  cases p; cases q; simp at e this; simp [e, this]
theorem ltIl_trans {p q r : Int × List Int} (h1 : ltIl p q = true) (h2 : ltIl q r = true) : ltIl p r = true := by
  unfold ltIl at *
  simp only [decide_eq_true_eq] at *
  rcases h1 with h1 | ⟨h1, h3⟩
  · rcases h2 with h2 | ⟨h2, h4⟩
    · left; omega
    · left; omega
  · rcases h2 with h2 | ⟨h2, h4⟩
    · left; omega
    · right
      exact ⟨by omega, List.lt_trans h3 h4⟩
/-- what a search for the least one gives -/
theorem minIl_spec : ∀ (ps : List (Int × List Int)) (p : Int × List Int), minIl p ps ∈ p :: ps ∧ ∀ q ∈ p :: ps, ltIl q (minIl p ps) = false
  | [], p => ⟨by simp [minIl], fun q hq => by
    rw [List.mem_singleton.mp hq]
    exact ltIl_irr _⟩
  | r :: ps, p => by
    have ih := minIl_spec ps (if ltIl r p = true then r else p)
    have e : minIl p (r :: ps) = minIl (if ltIl r p = true then r else p) ps := rfl
    rw [e]
    obtain ⟨h1, h2⟩ := ih
    have hs : ∀ q ∈ (if ltIl r p = true then r else p) :: ps, q ∈ p :: r :: ps := by
      intro q hq
      rcases List.mem_cons.mp hq with rfl | hq
      · split <;> simp
      · simp [hq]
    refine ⟨hs _ h1, fun q hq => ?_⟩
    have hm := h2 (if ltIl r p = true then r else p) (by simp)
    by_cases h : ltIl r p = true
    · have hlt := h
      simp only [h, if_true] at h1 h2 hm ⊢
      rcases List.mem_cons.mp hq with rfl | hq
      · by_cases h3 : ltIl q (minIl r ps) = true
        · have := ltIl_trans hlt h3
          rw [this] at hm
          cases hm
        · simpa using h3
      · exact h2 q hq
    · have hlt : ltIl r p = false := by simpa using h
      rw [if_neg h] at h1 h2 hm ⊢
      rcases List.mem_cons.mp hq with rfl | hq
      · exact hm
      · rcases List.mem_cons.mp hq with rfl | hq
        · by_cases h3 : ltIl q (minIl p ps) = true
          · rcases Bool.eq_false_or_eq_true (ltIl p q) with h4 | h4
            · have := ltIl_trans h4 h3
              have hm : ltIl p (minIl p ps) = false := hm
              rw [this] at hm
              cases hm
            · have h5 : ltIl q p = false := hlt
              have := ltIl_tri h4 h5
              subst this
              have hm : ltIl p (minIl p ps) = false := hm
              rw [h3] at hm
              cases hm
          · simpa using h3
        · exact h2 q (by simp [hq])
end PD

set_option Elab.async false
set_option linter.all false
set_option maxRecDepth 100000
set_option maxHeartbeats 1000000
/-! PDOrd: dicts whose keys are of one kind; sorted lists and least items, whatever order they come in. -/
namespace PD
open PySem PySem.Spec PyProof.Rows L2
/-! ### dicts whose keys are of one kind -/
structure Emb {κ : Type} [DecidableEq κ] (key : κ → D) (t : Bool) : Prop where
  eq : ∀ a b, PyData.eqv (key a) (key b) = decide (a = b)
  kk : ∀ a, kkOf (key a) = some t
section
variable {κ ν : Type} [DecidableEq κ] {key : κ → D} {t : Bool} {val : ν → D}
def kvM (key : κ → D) (val : ν → D) (l : List (κ × ν)) : List (D × D) := l.map fun p => (key p.1, val p.2)
def lkK (l : List (κ × ν)) (k : κ) : Option ν := (l.find? fun p => decide (p.1 = k)).map (·.2)
def ptK (l : List (κ × ν)) (k : κ) (v : ν) : List (κ × ν) := if k ∈ l.map (·.1) then l.map (fun p => if p.1 = k then (p.1, v) else p) else l ++ [(k, v)]
theorem Emb.look (e : Emb key t) (l : List (κ × ν)) (k : κ) : lookD (kvM key val l) (key k) = (lkK l k).map val := by
  unfold lookD kvM lkK
  induction l with
  | nil => rfl
  | cons p l ih =>
    rw [List.map_cons, List.find?_cons, List.find?_cons]
    show Option.map _ (match PyData.eqv (key p.1) (key k) with | true => _ | false => _) = _
    rw [e.eq]
    by_cases c : p.1 = k
    · simp [c]
    · simp only [c, decide_false]
      exact ih
theorem Emb.any (e : Emb key t) (l : List (κ × ν)) (k : κ) : ((kvM key val l).any fun p => PyData.eqv p.1 (key k)) = decide (k ∈ l.map (·.1)) := by
  unfold kvM
  rw [List.any_map, Bool.eq_iff_iff, List.any_eq_true, decide_eq_true_eq, List.mem_map]
  constructor
  · rintro ⟨p, hp, h⟩
    have h : PyData.eqv (key p.1) (key k) = true := h
    rw [e.eq, decide_eq_true_eq] at h
    exact ⟨p, hp, h⟩
  · rintro ⟨p, hp, h⟩
    refine ⟨p, hp, ?_⟩
    show PyData.eqv (key p.1) (key k) = true
    rw [e.eq, decide_eq_true_eq]
    exact h
theorem Emb.put (e : Emb key t) (l : List (κ × ν)) (k : κ) (v : ν) : putD (kvM key val l) (key k) (val v) = kvM key val (ptK l k v) := by
  unfold putD ptK
  rw [e.any]
  by_cases c : k ∈ l.map (·.1)
  · rw [if_pos (by simpa using c), if_pos c]
    unfold kvM
    rw [List.map_map, List.map_map]
    refine List.map_congr_left fun p _ => ?_
    show (if PyData.eqv (key p.1) (key k) = true then (key p.1, val v) else (key p.1, val p.2)) = _
    rw [e.eq]
    by_cases c2 : p.1 = k
    · simp [c2]
    · simp [c2]
  · rw [if_neg (by simpa using c), if_neg c]
    unfold kvM
    rw [List.map_append]
    rfl
theorem Emb.ok (e : Emb key t) (l : List (κ × ν)) (k : κ) : kkOk (kvM key val l) (key k) = true := by
  unfold kkOk kvM
  rw [e.kk]
  cases l with
  | nil => rfl
  | cons p l =>
    simp only [List.map_cons]
    rw [e.kk]
    cases t <;> rfl
theorem lkK_none {l : List (κ × ν)} {k : κ} : lkK l k = none ↔ k ∉ l.map (·.1) := by
  unfold lkK
  rw [Option.map_eq_none_iff, List.find?_eq_none, List.mem_map]
  constructor
  · rintro h ⟨p, hp, e⟩
    exact absurd (decide_eq_true e) (h p hp)
  · intro h p hp e
    exact h ⟨p, hp, by simpa using e⟩
theorem lkK_isSome {l : List (κ × ν)} {k : κ} : (lkK l k).isSome = decide (k ∈ l.map (·.1)) := by
  cases e : lkK l k with
  | none =>
    have := lkK_none.mp e
    simp [this]
  | some v =>
    have : k ∈ l.map (·.1) := by
      by_cases c : k ∈ l.map (·.1)
      · exact c
      · rw [lkK_none.mpr c] at e; cases e
    rw [decide_eq_true this]
    rfl
theorem ptK_new {l : List (κ × ν)} {k : κ} {v : ν} (h : k ∉ l.map (·.1)) : ptK l k v = l ++ [(k, v)] := if_neg h
theorem lkK_put {l : List (κ × ν)} {k k2 : κ} {v : ν} : lkK (ptK l k v) k2 = if k2 = k then some v else lkK l k2 := by
  unfold ptK
  by_cases c : k ∈ l.map (·.1)
  · rw [if_pos c]
    unfold lkK
    induction l with
    | nil => simp at c
    | cons p l ih =>
      rw [List.map_cons, List.find?_cons, List.find?_cons]
      by_cases h1 : p.1 = k
      · rw [if_pos h1]
        by_cases h2 : k2 = k
        · subst h2
          simp [h1]
        · have h3 : ¬ p.1 = k2 := fun z => h2 (z.symm.trans h1)
          simp only [h3, decide_false, if_neg h2]
          by_cases c2 : k ∈ l.map (·.1)
          · have := ih c2
            rw [if_neg h2] at this
            exact this
          · have : l.map (fun p => if p.1 = k then (p.1, v) else p) = l := by
              conv => rhs; rw [← List.map_id l]
              refine List.map_congr_left fun q hq => ?_
              rw [if_neg fun z => c2 (List.mem_map.mpr ⟨q, hq, z⟩)]
              rfl
            rw [this]
      · rw [if_neg h1]
        have c2 : k ∈ l.map (·.1) := by
          rw [List.map_cons, List.mem_cons] at c
          rcases c with c | c
          · exact absurd c.symm h1
          · exact c
        by_cases h3 : p.1 = k2
        · have h2 : ¬ k2 = k := fun z => h1 (h3.trans z)
          simp [h3, h2]
        · simp only [h3, decide_false]
          exact ih c2
  · rw [if_neg c]
    unfold lkK
    rw [List.find?_append]
    by_cases h2 : k2 = k
    · subst h2
      have : l.find? (fun p => decide (p.1 = k2)) = none := by
        rw [List.find?_eq_none]
        intro p hp e
        exact c (List.mem_map.mpr ⟨p, hp, by simpa using e⟩)
      rw [this]
      simp
    · have h3 : ¬ k = k2 := fun z => h2 z.symm
      rw [if_neg h2]
      simp [h3]
theorem kvM_len (l : List (κ × ν)) : (kvM key val l).length = l.length := by simp [kvM]
theorem kvM_keys (l : List (κ × ν)) : (kvM key val l).map (·.1) = (l.map (·.1)).map key := by simp [kvM]
end

/-! ### the order of data -/
theorem toks_inj {x y : D} (h : PySem.W.alike x y = true) (e : PySem.W.keyToks x = PySem.W.keyToks y) : PyData.eqv x y = true := by
  cases q : PyData.eqv x y with
  | true => rfl
  | false =>
    obtain ⟨_, h2⟩ := PySem.W.toks_eqv x y h
    have h3 := h2 q [] [.inl 0]
    rw [e, PySem.W.lex_pre, show PyProof.Rows.lexLt PyProof.Rows.itemOrd (PySem.W.keyToks y) (PySem.W.keyToks y) = false from lex_irrefl _] at h3
    exact absurd h3 (by decide)
def leD : D → D → Bool := PySem.W.dataLe false id
theorem leD_eq (x y : D) : leD x y = !PySem.W.dataLt y x := rfl
theorem leD_total : PySem.W.TotalLe leD := PySem.W.sortLe_total (PyProof.Rows.listOrd PyProof.Rows.itemOrd) false fun b => PySem.W.keyToks b
theorem leD_anti {x y : D} (a : PySem.W.alike x y = true) (h1 : leD x y = true) (h2 : leD y x = true) : PyData.eqv x y = true := by
  rw [leD_eq, Bool.not_eq_true'] at h1 h2
  exact toks_inj a (lex_total (O := PyProof.Rows.itemOrd) _ _ h2 h1)
/-- a kind of data that sorts to one list -/
structure Kin (xs : List D) : Prop where
  al : ∀ a ∈ xs, ∀ b ∈ xs, PySem.W.alike a b = true
  inj : ∀ a ∈ xs, ∀ b ∈ xs, PyData.eqv a b = true → a = b
theorem sortD_perm {xs ys : List D} (k : Kin xs) (p : xs.Perm ys) : sortD xs = sortD ys := by
  have px : (sortD xs).Perm xs := List.mergeSort_perm _ _
  have py : (sortD ys).Perm ys := List.mergeSort_perm _ _
  have wx : (sortD xs).Pairwise fun a b => leD a b = true := List.pairwise_mergeSort (le := leD) leD_total.trans (fun a b => by rw [Bool.or_eq_true]; exact leD_total.total a b) xs
  have wy : (sortD ys).Pairwise fun a b => leD a b = true := List.pairwise_mergeSort (le := leD) leD_total.trans (fun a b => by rw [Bool.or_eq_true]; exact leD_total.total a b) ys
  refine (px.trans (p.trans py.symm)).eq_of_pairwise (le := fun a b => leD a b = true) (fun a b ha hb h1 h2 => ?_) wx wy
  have ha := px.subset ha
  have hb := p.symm.subset (py.subset hb)
  exact k.inj a ha b hb (leD_anti (k.al a ha b hb) h1 h2)
theorem minD_spec : ∀ (xs : List D) (x : D), PySem.W.minD x xs ∈ x :: xs ∧ ∀ y ∈ x :: xs, leD (PySem.W.minD x xs) y = true
  | [], x => ⟨by simp [PySem.W.minD], fun y hy => by rw [List.mem_singleton.mp hy]; exact leD_total.refl x⟩
  | z :: xs, x => by
    have e : PySem.W.minD x (z :: xs) = PySem.W.minD (if PySem.W.dataLt z x = true then z else x) xs := rfl
    rw [e]
    by_cases c : PySem.W.dataLt z x = true
    · rw [if_pos c]
      obtain ⟨h1, h2⟩ := minD_spec xs z
      refine ⟨List.mem_cons_of_mem _ h1, fun y hy => ?_⟩
      rcases List.mem_cons.mp hy with rfl | hy
      · refine leD_total.trans _ _ _ (h2 z (by simp)) ?_
        rcases leD_total.total z y with h | h
        · exact h
        · rw [leD_eq, c] at h
          exact absurd h (by decide)
      · exact h2 y hy
    · rw [if_neg c]
      obtain ⟨h1, h2⟩ := minD_spec xs x
      have c2 : leD x z = true := by rw [leD_eq]; simpa using c
      refine ⟨?_, fun y hy => ?_⟩
      · rcases List.mem_cons.mp h1 with h | h
        · rw [h]; simp
        · simp [h]
      · rcases List.mem_cons.mp hy with rfl | hy
        · exact h2 y (by simp)
        · rcases List.mem_cons.mp hy with rfl | hy
          · exact leD_total.trans _ _ _ (h2 x (by simp)) c2
          · exact h2 y (by simp [hy])
theorem minD_perm {x y : D} {xs ys : List D} (k : Kin (x :: xs)) (p : (x :: xs).Perm (y :: ys)) : PySem.W.minD x xs = PySem.W.minD y ys := by
  obtain ⟨a1, a2⟩ := minD_spec xs x
  obtain ⟨b1, b2⟩ := minD_spec ys y
  have b1' := p.symm.subset b1
  exact k.inj _ a1 _ b1' (leD_anti (k.al _ a1 _ b1') (a2 _ b1') (b2 _ (p.subset a1)))
end PD

set_option Elab.async false
set_option linter.all false
set_option maxRecDepth 100000
set_option maxHeartbeats 1000000
/-! PDMulK: a dict of one pair, its key a product of two variables. -/
namespace PD
open PySem PySem.Spec PyProof.Rows L2
/-- {x * y: d} -/
def mMulF (i j : Nat) (d : D) : MSem := fun st => match st.env[i]?, st.env[j]? with
  | some (.v (.d (.int a))), some (.v (.d (.int b))) => if a.natAbs < 1000000 then .ok [(.int (a * b), d)] st else .bad
  | _, _ => .bad
theorem int_slot {K : PySem.W.Frag} {σ : L2.St} {c : Cf} (o : Ok K σ c) {i : Nat} {a : Int} (q : c.st.env[i]? = some (.v (.d (.int a)))) : σ[i]? = some (some (.int a)) := by
  have hi : i < σ.length := by rw [← o.len]; exact (List.getElem?_eq_some_iff.mp q).1
  obtain ⟨u, e1, hu⟩ := o.slot i _ _ q (List.getElem?_eq_getElem hi)
  have hu : Rp c.G u (.int a) := hu
  cases hu
  rw [List.getElem?_eq_getElem hi, e1]
section
variable {X : Cx} {E : XW} {pos : Pos} {a b : Expr}
theorem mulF_read {K : PySem.W.Frag} {i j : Nat} {v : V} {d : D} (hc : Cst v d) {σ : L2.St} {H : Hp} {Q : VK} (h : tM K E (mMulF i j d) σ H Q) : tDisp [(tMul (tVar i) (tVar j), tC v)] σ H Q := by
  obtain ⟨c, rfl, o, h⟩ := h
  unfold mMulF at h
  split at h
  · rename_i x y q1 q2
    by_cases hx : x.natAbs < 1000000
    · rw [if_pos hx] at h
      intro p hp
      refine ⟨_, int_slot o q1, _, int_slot o q2, x, y, rfl, rfl, ⟨by omega, by omega⟩, upd_same, [(.inl (x * y), v)], rfl, by simp, ?_⟩
      rw [upd_upd]
      exact h.here o p _ hp (.inl ⟨[(.inl (x * y), v)], upd_same, .cons hc.rp .nil⟩)
    · rw [if_neg hx] at h
      exact h.elim
  · exact h.elim
theorem m_mulF {x y : Str} {v : V} {d : D} {p1 p2 p3 : Pos} (i j : Nat) (hc : Cst v d) (hb : PE X b (tC v)) (hN : X.N[i]? = some x := by rfl) (hv : Vis X.env.scope x := by first | exact Or.inl rfl | exact Or.inr (Or.inl rfl) | exact Or.inr (Or.inr rfl)) (hd : (x == ("__debug__" : Str)) = false := by decide)
    (hcd : (x == ("__classdict__" : Str)) = false := by decide) (hN2 : X.N[j]? = some y := by rfl) (hv2 : Vis X.env.scope y := by first | exact Or.inl rfl | exact Or.inr (Or.inl rfl) | exact Or.inr (Or.inr rfl)) (hd2 : (y == ("__debug__" : Str)) = false := by decide)
    (hcd2 : (y == ("__classdict__" : Str)) = false := by decide) : PE X (.Dict [some (.BinOp (.Name x p1) .Mult (.Name y p2) p3)] [b] pos) (tM X.K E (mMulF i j d)) :=
  PE_imp (pe_disp (pps_cons (pe_mul (pe_var (i := i) hN hv hd hcd) (pe_var (i := j) hN2 hv2 hd2 hcd2)) hb pps_nil) rfl rfl (by simp) (by simp)) fun σ H Q h => mulF_read hc h
end
section
variable {st : St} {QM : List (D × D) → St → Prop} {X : Str → St → Prop}
@[simp] theorem wp_mMulF {i j : Nat} {a b : Int} {d : D} (h1 : st.env[i]? = some (.v (.d (.int a)))) (h2 : st.env[j]? = some (.v (.d (.int b)))) : wp (mMulF i j d st) QM X ↔ a.natAbs < 1000000 ∧ QM [(.int (a * b), d)] st := by
  unfold mMulF
  rw [h1, h2]
  by_cases h : a.natAbs < 1000000
  · simp only [if_pos h]
    exact ⟨fun q => ⟨h, q⟩, fun q => q.2⟩
  · simp only [if_neg h]
    exact ⟨fun q => q.elim, fun q => h q.1⟩
end
end PD

set_option Elab.async false
set_option linter.all false
set_option maxRecDepth 100000
set_option maxHeartbeats 0
namespace LW
open PySem PySem.Spec PyProof.Rows L2 PD
def top (i : Nat) : Stmt := PySem.Challenge.pw_everywayout_k54_orders_of_many_days.main.body.getD i (.Pass ⟨0, 0, 0, 0⟩)
structure FT where
  is_number : Fn
  check_number : Fn
  is_rising : Fn
  check_plays : Fn
  check_supply : Fn
  cost_of : Fn
  order_cost : Fn
  Orders_init : Fn
  Orders_paid : Fn
  Orders_behind : Fn
  Orders_least : Fn
  Orders_first : Fn
  best_order : Fn
  law_mixed : Fn
  law_numbers : Fn
  law_draw : Fn
  law_equal : Fn
  law_all_equal : Fn
  law_supply : Fn
  law_cost : Fn
  law_least : Fn
  law : Fn
abbrev N_is_number : List Str := ["value", "low", "high"]
abbrev P_is_number : List Str := ["value", "low", "high"]
theorem sc_is_number : FnScope N_is_number P_is_number (defScope (top 4)) := ⟨rfl, rfl, rfl, by decide +kernel, rfl, by decide +kernel, by decide +kernel⟩
def b_is_number (T : FT) : SSem :=
 (sRet (eAnd (eIsi .int (eVar 0)) (eAnd (eNot (eIsi .bool (eVar 0))) (eChn .le .le (eVar 1) (eVar 0) (eVar 2)))))
abbrev N_check_number : List Str := ["value", "low", "high"]
abbrev P_check_number : List Str := ["value", "low", "high"]
theorem sc_check_number : FnScope N_check_number P_check_number (defScope (top 5)) := ⟨rfl, rfl, rfl, by decide +kernel, rfl, by decide +kernel, by decide +kernel⟩
def b_check_number (T : FT) : SSem :=
 (sIf (tNotS (tTruth (eCall T.is_number (aCons (eVar 0) (aCons (eVar 1) (aCons (eVar 2) aNil)))))) (sRaise "BadArgument") sNext)
abbrev N_is_rising : List Str := ["value", "low", "high", "one", "k"]
abbrev P_is_rising : List Str := ["value", "low", "high"]
theorem sc_is_rising : FnScope N_is_rising P_is_rising (defScope (top 6)) := ⟨rfl, rfl, rfl, by decide +kernel, rfl, by decide +kernel, by decide +kernel⟩
def b_is_rising (T : FT) : SSem :=
 (sSeq (sIf (tOrS (tNotS (tTruth (eIsi .list (eVar 0)))) (tTruth (eOfF (fLc (iSeq (eVar 0)) [3] (.nm 3) (tNotS (tTruth (eCall T.is_number (aCons (eVar 3) (aCons (eVar 1) (aCons (eVar 2) aNil)))))) (eVar 3))))) (sRet (eC (.bool false))) sNext)
 (sRet (eCmp .eq (eOfF (fLc (iRng2 (eC (.int 1)) (eLen (eVar 0))) [4] (.nm 4) (tCmp .ge (eIdx (eVar 0) (eSub (eVar 4) (eC (.int 1)))) (eIdx (eVar 0) (eVar 4))) (eVar 4))) (eOfF (fLst aNil)))))
abbrev N_check_plays : List Str := ["plays", "many"]
abbrev P_check_plays : List Str := ["plays"]
theorem sc_check_plays : FnScope N_check_plays P_check_plays (defScope (top 10)) := ⟨rfl, rfl, rfl, by decide +kernel, rfl, by decide +kernel, by decide +kernel⟩
def b_check_plays (T : FT) : SSem :=
 (sSeq (sIf (tOrS (tNotS (tTruth (eIsi .list (eVar 0)))) (tNotS (tChn .le .le (eC (.int 1)) (eLen (eVar 0)) (eC (.int 30))))) (sRaise "BadArgument") sNext)
 (sIf (tTruth (eOfF (fLc (iSeq (eVar 0)) [1] (.nm 1) (tNotS (tTruth (eCall T.is_number (aCons (eVar 1) (aCons (eC (.int 0)) (aCons (eC (.int 20)) aNil)))))) (eVar 1)))) (sRaise "BadArgument") sNext))
abbrev N_check_supply : List Str := ["supply", "plays", "stock", "arrivals", "one"]
abbrev P_check_supply : List Str := ["supply", "plays", "stock", "arrivals"]
theorem sc_check_supply : FnScope N_check_supply P_check_supply (defScope (top 11)) := ⟨rfl, rfl, rfl, by decide +kernel, rfl, by decide +kernel, by decide +kernel⟩
def b_check_supply (T : FT) : SSem :=
 (sSeq (sIf (tOrS (tNotS (tTruth (eIsi .tuple (eVar 0)))) (tOrS (tCmp .ne (eLen (eVar 0)) (eC (.int 4))) (tNotS (tTruth (eCall T.is_number (aCons (eIdx (eVar 0) (eC (.int 0))) (aCons (eC (.int 1)) (aCons (eC (.int 50)) aNil)))))))) (sRaise "BadArgument") sNext)
 (sSeq (sIf (tTruth (eOfF (fLc (iSeq (eSlice (eVar 0) (pSome (eC (.int 1))) pNone)) [4] (.nm 4) (tNotS (tTruth (eCall T.is_number (aCons (eVar 4) (aCons (eC (.int 0)) (aCons (eC (.int 1000)) aNil)))))) (eVar 4)))) (sRaise "BadArgument") sNext)
 (sSeq (sExpr (eCall T.check_plays (aCons (eVar 1) aNil)))
 (sSeq (sExpr (eCall T.check_number (aCons (eVar 2) (aCons (eC (.int 0)) (aCons (eC (.int 20)) aNil)))))
 (sIf (tOrS (tNotS (tTruth (eCall T.is_rising (aCons (eVar 3) (aCons (eC (.int 0)) (aCons (eSub (eLen (eVar 1)) (eC (.int 1))) aNil)))))) (tCmp .gt (eLen (eVar 3)) (eC (.int 10)))) (sRaise "BadArgument") sNext)))))
abbrev N_cost_of : List Str := ["supply", "plays", "stock", "arrivals", "order", "lasts", "price", "fee", "loss", "uses", "lost", "day", "played", "paid", "one"]
abbrev P_cost_of : List Str := ["supply", "plays", "stock", "arrivals", "order"]
theorem sc_cost_of : FnScope N_cost_of P_cost_of (defScope (top 12)) := ⟨rfl, rfl, rfl, by decide +kernel, rfl, by decide +kernel, by decide +kernel⟩
def b_cost_of_3L_3 (T : FT) : SSem :=
 (sSet 9 (eSub (eVar 9) (eVar 12)))
def b_cost_of_3L_2 (T : FT) : SSem :=
 (sSeq (sSet 10 (eSub (eAdd (eVar 10) (eIdx (eVar 1) (eVar 11))) (eVar 12)))
 (b_cost_of_3L_3 T))
def b_cost_of_3L_1 (T : FT) : SSem :=
 (sSeq (sSet 12 (eMin2 (eVar 9) (eIdx (eVar 1) (eVar 11))))
 (b_cost_of_3L_2 T))
def b_cost_of_3L (T : FT) : SSem :=
 (sSeq (sIf (tCmp .inn (eVar 11) (eVar 3)) (sSet 9 (eAdd (eVar 9) (eMul (eIdx (eVar 4) (eIndex (eVar 3) (eVar 11))) (eVar 5)))) sNext)
 (b_cost_of_3L_1 T))
def b_cost_of_5 (T : FT) : SSem :=
 (sRet (eTup (aCons (eAdd (eVar 13) (eMul (eVar 8) (eVar 10))) (aCons (eVar 10) aNil))))
def b_cost_of_4 (T : FT) : SSem :=
 (sSeq (sSet 13 (eAdd (eMul (eVar 6) (eSum (eVar 4))) (eMul (eVar 7) (eLen (eOfF (fLc (iSeq (eVar 4)) [14] (.nm 14) (tCmp .gt (eVar 14) (eC (.int 0))) (eVar 14)))))))
 (b_cost_of_5 T))
def b_cost_of_3 (T : FT) : SSem :=
 (sSeq (sFor (iRng1 (eLen (eVar 1))) (.nm 11) (b_cost_of_3L T))
 (b_cost_of_4 T))
def b_cost_of_2 (T : FT) : SSem :=
 (sSeq (sSet 10 (eC (.int 0)))
 (b_cost_of_3 T))
def b_cost_of_1 (T : FT) : SSem :=
 (sSeq (sSet 9 (eMul (eVar 2) (eVar 5)))
 (b_cost_of_2 T))
def b_cost_of (T : FT) : SSem :=
 (sSeq (sUnp [5, 6, 7, 8] (eVar 0))
 (b_cost_of_1 T))
abbrev N_order_cost : List Str := ["supply", "plays", "stock", "arrivals", "order", "one"]
abbrev P_order_cost : List Str := ["supply", "plays", "stock", "arrivals", "order"]
theorem sc_order_cost : FnScope N_order_cost P_order_cost (defScope (top 13)) := ⟨rfl, rfl, rfl, by decide +kernel, rfl, by decide +kernel, by decide +kernel⟩
def b_order_cost (T : FT) : SSem :=
 (sSeq (sExpr (eCall T.check_supply (aCons (eVar 0) (aCons (eVar 1) (aCons (eVar 2) (aCons (eVar 3) aNil))))))
 (sSeq (sIf (tOrS (tNotS (tTruth (eIsi .list (eVar 4)))) (tCmp .ne (eLen (eVar 4)) (eLen (eVar 3)))) (sRaise "BadArgument") sNext)
 (sSeq (sIf (tTruth (eOfF (fLc (iSeq (eVar 4)) [5] (.nm 5) (tNotS (tTruth (eCall T.is_number (aCons (eVar 5) (aCons (eC (.int 0)) (aCons (eC (.int 9)) aNil)))))) (eVar 5)))) (sRaise "BadArgument") sNext)
 (sRet (eCall T.cost_of (aCons (eVar 0) (aCons (eVar 1) (aCons (eVar 2) (aCons (eVar 3) (aCons (eVar 4) aNil))))))))))
abbrev N_Orders_init : List Str := ["self", "supply", "plays", "arrivals"]
abbrev P_Orders_init : List Str := ["self", "supply", "plays", "arrivals"]
theorem sc_Orders_init : FnScope N_Orders_init P_Orders_init (defScope (inClass (top 14) 0)) := ⟨rfl, rfl, rfl, by decide +kernel, rfl, by decide +kernel, by decide +kernel⟩
def b_Orders_init (T : FT) : SSem :=
 (sSeq (sUnpF "Orders" (eVar 0) ["lasts", "price", "fee", "loss"] (eVar 1))
 (sSeq (sFS "Orders" "plays" (eVar 2) (eVar 0))
 (sSeq (sFS "Orders" "arrivals" (eVar 3) (eVar 0))
 (sFS "Orders" "known" (eNewM mNil) (eVar 0)))))
abbrev N_Orders_paid : List Str := ["self", "many"]
abbrev P_Orders_paid : List Str := ["self", "many"]
theorem sc_Orders_paid : FnScope N_Orders_paid P_Orders_paid (defScope (inClass (top 14) 1)) := ⟨rfl, rfl, rfl, by decide +kernel, rfl, by decide +kernel, by decide +kernel⟩
def b_Orders_paid (T : FT) : SSem :=
 (sRet (eAdd (eMul (eFld "Orders" "price" (eVar 0)) (eVar 1)) (eIf (tCmp .gt (eVar 1) (eC (.int 0))) (eFld "Orders" "fee" (eVar 0)) (eC (.int 0)))))
abbrev N_Orders_behind : List Str := ["self", "day", "uses", "played"]
abbrev P_Orders_behind : List Str := ["self", "day", "uses"]
theorem sc_Orders_behind : FnScope N_Orders_behind P_Orders_behind (defScope (inClass (top 14) 2)) := ⟨rfl, rfl, rfl, by decide +kernel, rfl, by decide +kernel, by decide +kernel⟩
def b_Orders_behind (T : FT) : SSem :=
 (sSeq (sSet 3 (eMin2 (eVar 2) (eIdx (eFld "Orders" "plays" (eVar 0)) (eVar 1))))
 (sRet (eAdd (eMul (eFld "Orders" "loss" (eVar 0)) (eSub (eIdx (eFld "Orders" "plays" (eVar 0)) (eVar 1)) (eVar 3))) (eMeth "Orders" "least" T.Orders_least (eVar 0) (aCons (eAdd (eVar 1) (eC (.int 1))) (aCons (eSub (eVar 2) (eVar 3)) aNil))))))
abbrev N_Orders_least : List Str := ["self", "day", "uses", "most", "k"]
abbrev P_Orders_least : List Str := ["self", "day", "uses"]
theorem sc_Orders_least : FnScope N_Orders_least P_Orders_least (defScope (inClass (top 14) 3)) := ⟨rfl, rfl, rfl, by decide +kernel, rfl, by decide +kernel, by decide +kernel⟩
def b_Orders_least_3 (T : FT) : SSem :=
 (sRet (eIdx (eFld "Orders" "known" (eVar 0)) (eTup (aCons (eVar 1) (aCons (eVar 2) aNil)))))
def b_Orders_least_2 (T : FT) : SSem :=
 (sSeq (sIf (tCmp .nin (eTup (aCons (eVar 1) (aCons (eVar 2) aNil))) (eFld "Orders" "known" (eVar 0))) (sSeq (sSet 3 (eIf (tCmp .inn (eVar 1) (eFld "Orders" "arrivals" (eVar 0))) (eC (.int 10)) (eC (.int 1))))
  (sPut (eMin1 (eOfF (fLc (iRng1 (eVar 3)) [4] (.nm 4) tYesS (eAdd (eMeth "Orders" "paid" T.Orders_paid (eVar 0) (aCons (eVar 4) aNil)) (eMeth "Orders" "behind" T.Orders_behind (eVar 0) (aCons (eVar 1) (aCons (eAdd (eVar 2) (eMul (eVar 4) (eFld "Orders" "lasts" (eVar 0)))) aNil))))))) (eFld "Orders" "known" (eVar 0)) (eTup (aCons (eVar 1) (aCons (eVar 2) aNil))))) sNext)
 (b_Orders_least_3 T))
def b_Orders_least_1 (T : FT) : SSem :=
 (sSeq (sSet 2 (eMin2 (eVar 2) (eSum (eSlice (eFld "Orders" "plays" (eVar 0)) (pSome (eVar 1)) pNone))))
 (b_Orders_least_2 T))
def b_Orders_least (T : FT) : SSem :=
 (sSeq (sIf (tCmp .eq (eVar 1) (eLen (eFld "Orders" "plays" (eVar 0)))) (sRet (eC (.int 0))) sNext)
 (b_Orders_least_1 T))
abbrev N_Orders_first : List Str := ["self", "uses", "found", "day", "least", "k"]
abbrev P_Orders_first : List Str := ["self", "uses"]
theorem sc_Orders_first : FnScope N_Orders_first P_Orders_first (defScope (inClass (top 14) 4)) := ⟨rfl, rfl, rfl, by decide +kernel, rfl, by decide +kernel, by decide +kernel⟩
def b_Orders_first_2 (T : FT) : SSem :=
 (sRet (eVar 2))
def b_Orders_first_1 (T : FT) : SSem :=
 (sSeq (sFor (iRng1 (eLen (eFld "Orders" "plays" (eVar 0)))) (.nm 3) (sSeq (sIf (tCmp .inn (eVar 3) (eFld "Orders" "arrivals" (eVar 0))) (sSeq (sSet 4 (eMeth "Orders" "least" T.Orders_least (eVar 0) (aCons (eVar 3) (aCons (eVar 1) aNil))))
   (sSeq (sSet 5 (eC (.int 0)))
   (sSeq (sWhile (tCmp .ne (eAdd (eMeth "Orders" "paid" T.Orders_paid (eVar 0) (aCons (eVar 5) aNil)) (eMeth "Orders" "behind" T.Orders_behind (eVar 0) (aCons (eVar 3) (aCons (eAdd (eVar 1) (eMul (eVar 5) (eFld "Orders" "lasts" (eVar 0)))) aNil)))) (eVar 4)) (sSet 5 (eAdd (eVar 5) (eC (.int 1)))))
   (sSeq (sExpr (eApp (eVar 2) (eVar 5)))
   (sSet 1 (eAdd (eVar 1) (eMul (eVar 5) (eFld "Orders" "lasts" (eVar 0))))))))) sNext)
  (sSet 1 (eSub (eVar 1) (eMin2 (eVar 1) (eIdx (eFld "Orders" "plays" (eVar 0)) (eVar 3)))))))
 (b_Orders_first_2 T))
def b_Orders_first (T : FT) : SSem :=
 (sSeq (sSetO 2 (fLst aNil))
 (b_Orders_first_1 T))
abbrev N_best_order : List Str := ["supply", "plays", "stock", "arrivals", "orders"]
abbrev P_best_order : List Str := ["supply", "plays", "stock", "arrivals"]
theorem sc_best_order : FnScope N_best_order P_best_order (defScope (top 15)) := ⟨rfl, rfl, rfl, by decide +kernel, rfl, by decide +kernel, by decide +kernel⟩
def b_best_order (T : FT) : SSem :=
 (sSeq (sExpr (eCall T.check_supply (aCons (eVar 0) (aCons (eVar 1) (aCons (eVar 2) (aCons (eVar 3) aNil))))))
 (sSeq (sSet 4 (eMake "Orders" T.Orders_init (aCons (eVar 0) (aCons (eVar 1) (aCons (eVar 3) aNil)))))
 (sRet (eTup (aCons (eMeth "Orders" "least" T.Orders_least (eVar 4) (aCons (eC (.int 0)) (aCons (eMul (eVar 2) (eIdx (eVar 0) (eC (.int 0)))) aNil))) (aCons (eMeth "Orders" "first" T.Orders_first (eVar 4) (aCons (eMul (eVar 2) (eIdx (eVar 0) (eC (.int 0)))) aNil)) aNil))))))
abbrev N_law_mixed : List Str := ["number", "k", "step"]
abbrev P_law_mixed : List Str := ["number", "k"]
theorem sc_law_mixed : FnScope N_law_mixed P_law_mixed (defScope (top 17)) := ⟨rfl, rfl, rfl, by decide +kernel, rfl, by decide +kernel, by decide +kernel⟩
def b_law_mixed (T : FT) : SSem :=
 (sSeq (sSet 2 (eMod (eAdd (eAdd (eMul (eVar 0) (eC (.int 48271))) (eMul (eVar 1) (eC (.int 69621)))) (eC (.int 12345))) (eC (.int 2147483647))))
 (sRet (eMod (eAdd (eMul (eVar 2) (eAdd (eDiv (eVar 2) (eC (.int 65536))) (eC (.int 3)))) (eVar 1)) (eC (.int 2147483647)))))
abbrev N_law_numbers : List Str := ["script", "numbers", "cell", "rest", "k"]
abbrev P_law_numbers : List Str := ["script"]
theorem sc_law_numbers : FnScope N_law_numbers P_law_numbers (defScope (top 18)) := ⟨rfl, rfl, rfl, by decide +kernel, rfl, by decide +kernel, by decide +kernel⟩
def b_law_numbers (T : FT) : SSem :=
 (sSeq (sSetO 1 (fLst aNil))
 (sSeq (sFor (iSeq (eVar 0)) (.nm 2) (sIf (tCmp .ge (eVar 2) (ePow (eC (.int 10)) (eC (.int 18)))) (sSeq (sSet 3 (eVar 2))
   (sFor (iRng1 (eC (.int 60))) (.nm 4) (sIf (tCmp .gt (eVar 3) (eC (.int 0))) (sSeq (sExpr (eApp (eVar 1) (eMod (eVar 3) (eC (.int 1000000)))))
     (sSet 3 (eDiv (eVar 3) (eC (.int 1000000))))) sNext))) (sSeq (sExpr (eApp (eVar 1) (eMod (eVar 2) (eC (.int 1000000)))))
   (sFor (iRng1 (eC (.int 5))) (.nm 4) (sExpr (eApp (eVar 1) (eMod (eCall T.law_mixed (aCons (eCall T.law_mixed (aCons (eMod (eVar 2) (eC (.int 2147483647))) (aCons (eVar 4) aNil))) (aCons (eAdd (eVar 4) (eC (.int 7))) aNil))) (eC (.int 1000000)))))))))
 (sRet (eVar 1))))
abbrev N_law_draw : List Str := ["draws", "at", "first"]
abbrev P_law_draw : List Str := ["draws"]
theorem sc_law_draw : FnScope N_law_draw P_law_draw (defScope (top 19)) := ⟨rfl, rfl, rfl, by decide +kernel, rfl, by decide +kernel, by decide +kernel⟩
def b_law_draw (T : FT) : SSem :=
 (sSeq (sSet 1 (eIdx (eVar 0) (eC (.int 1))))
 (sSeq (sPut (eAdd (eVar 1) (eC (.int 1))) (eVar 0) (eC (.int 1)))
 (sSeq (sIf (tCmp .lt (eVar 1) (eLen (eIdx (eVar 0) (eC (.int 0))))) (sRet (eIdx (eIdx (eVar 0) (eC (.int 0))) (eVar 1))) sNext)
 (sSeq (sSet 2 (eAdd (eC (.int 1)) (eVar 1)))
 (sSeq (sIf (tCmp .gt (eLen (eIdx (eVar 0) (eC (.int 0)))) (eC (.int 0))) (sSet 2 (eAdd (eVar 2) (eMul (eC (.int 1009)) (eIdx (eIdx (eVar 0) (eC (.int 0))) (eC (.int 0)))))) sNext)
 (sRet (eMod (eCall T.law_mixed (aCons (eCall T.law_mixed (aCons (eVar 2) (aCons (eVar 1) aNil))) (aCons (eC (.int 5)) aNil))) (eC (.int 1000000)))))))))
abbrev N_law_equal : List Str := ["actual", "due"]
abbrev P_law_equal : List Str := ["actual", "due"]
theorem sc_law_equal : FnScope N_law_equal P_law_equal (defScope (top 20)) := ⟨rfl, rfl, rfl, by decide +kernel, rfl, by decide +kernel, by decide +kernel⟩
def b_law_equal (T : FT) : SSem :=
 (sSeq (sIf (tTruth (eIsi .list (eVar 1))) (sSeq (sIf (tOrS (tNotS (tTruth (eIsi .list (eVar 0)))) (tCmp .ne (eLen (eVar 0)) (eLen (eVar 1)))) (sRet (eC (.bool false))) sNext)
  (sRet (eCall T.law_all_equal (aCons (eVar 0) (aCons (eVar 1) aNil))))) sNext)
 (sSeq (sIf (tTruth (eIsi .tuple (eVar 1))) (sSeq (sIf (tOrS (tNotS (tTruth (eIsi .tuple (eVar 0)))) (tCmp .ne (eLen (eVar 0)) (eLen (eVar 1)))) (sRet (eC (.bool false))) sNext)
  (sRet (eCall T.law_all_equal (aCons (eVar 0) (aCons (eVar 1) aNil))))) sNext)
 (sSeq (sIf (tTruth (eIsi .bool (eVar 1))) (sRet (eAnd (eIsi .bool (eVar 0)) (eCmp .eq (eVar 0) (eVar 1)))) sNext)
 (sSeq (sIf (tTruth (eIsi .int (eVar 1))) (sRet (eAnd (eIsi .int (eVar 0)) (eAnd (eNot (eIsi .bool (eVar 0))) (eCmp .eq (eVar 0) (eVar 1))))) sNext)
 (sSeq (sIf (tTruth (eIsi .str (eVar 1))) (sRet (eAnd (eIsi .str (eVar 0)) (eCmp .eq (eVar 0) (eVar 1)))) sNext)
 (sRet (eCmp .isN (eVar 0) (eC .none))))))))
abbrev N_law_all_equal : List Str := ["actual", "due", "k"]
abbrev P_law_all_equal : List Str := ["actual", "due"]
theorem sc_law_all_equal : FnScope N_law_all_equal P_law_all_equal (defScope (top 21)) := ⟨rfl, rfl, rfl, by decide +kernel, rfl, by decide +kernel, by decide +kernel⟩
def b_law_all_equal (T : FT) : SSem :=
 (sSeq (sFor (iRng1 (eLen (eVar 1))) (.nm 2) (sIf (tNotS (tTruth (eCall T.law_equal (aCons (eIdx (eVar 0) (eVar 2)) (aCons (eIdx (eVar 1) (eVar 2)) aNil))))) (sRet (eC (.bool false))) sNext))
 (sRet (eC (.bool true))))
abbrev N_law_supply : List Str := ["draws", "days", "many", "supply", "plays", "arrivals", "k", "day"]
abbrev P_law_supply : List Str := ["draws", "days", "many"]
theorem sc_law_supply : FnScope N_law_supply P_law_supply (defScope (top 22)) := ⟨rfl, rfl, rfl, by decide +kernel, rfl, by decide +kernel, by decide +kernel⟩
def b_law_supply (T : FT) : SSem :=
 (sSeq (sSet 3 (eTup (aCons (eAdd (eC (.int 1)) (eMod (eCall T.law_draw (aCons (eVar 0) aNil)) (eIdx (eOfF (fLst (aCons (eC (.int 5)) (aCons (eC (.int 50)) aNil)))) (eMod (eCall T.law_draw (aCons (eVar 0) aNil)) (eC (.int 2)))))) (aCons (eMod (eCall T.law_draw (aCons (eVar 0) aNil)) (eC (.int 12))) (aCons (eMod (eCall T.law_draw (aCons (eVar 0) aNil)) (eC (.int 12))) (aCons (eMod (eCall T.law_draw (aCons (eVar 0) aNil)) (eC (.int 6))) aNil))))))
 (sSeq (sSetF 4 (fLc (iRng1 (eAdd (eC (.int 1)) (eMod (eCall T.law_draw (aCons (eVar 0) aNil)) (eVar 1)))) [6] (.nm 6) tYesS (eMod (eCall T.law_draw (aCons (eVar 0) aNil)) (eIdx (eOfF (fLst (aCons (eC (.int 4)) (aCons (eC (.int 21)) aNil)))) (eMod (eCall T.law_draw (aCons (eVar 0) aNil)) (eC (.int 2)))))))
 (sSeq (sSet 5 (eSlice (eOfF (fLc (iRng1 (eLen (eVar 4))) [7] (.nm 7) (tCmp .eq (eMod (eCall T.law_draw (aCons (eVar 0) aNil)) (eC (.int 3))) (eC (.int 0))) (eVar 7))) pNone (pSome (eVar 2))))
 (sRet (eTup (aCons (eVar 3) (aCons (eVar 4) (aCons (eMod (eCall T.law_draw (aCons (eVar 0) aNil)) (eIdx (eOfF (fLst (aCons (eC (.int 3)) (aCons (eC (.int 21)) aNil)))) (eMod (eCall T.law_draw (aCons (eVar 0) aNil)) (eC (.int 2))))) (aCons (eVar 5) aNil)))))))))
abbrev N_law_cost : List Str := ["supply", "plays", "stock", "arrivals", "order", "lasts", "price", "fee", "loss", "new", "left", "paid", "lost", "day", "more", "play"]
abbrev P_law_cost : List Str := ["supply", "plays", "stock", "arrivals", "order"]
theorem sc_law_cost : FnScope N_law_cost P_law_cost (defScope (top 23)) := ⟨rfl, rfl, rfl, by decide +kernel, rfl, by decide +kernel, by decide +kernel⟩
def b_law_cost_6 (T : FT) : SSem :=
 (sRet (eTup (aCons (eAdd (eVar 11) (eMul (eVar 8) (eVar 12))) (aCons (eVar 12) aNil))))
def b_law_cost_5 (T : FT) : SSem :=
 (sSeq (sFor (iRng1 (eLen (eVar 1))) (.nm 13) (sSeq (sIf (tCmp .inn (eVar 13) (eVar 3)) (sSeq (sSet 14 (eIdx (eVar 4) (eIndex (eVar 3) (eVar 13))))
   (sSeq (sSet 9 (eAdd (eVar 9) (eVar 14)))
   (sSet 11 (eAdd (eAdd (eVar 11) (eMul (eVar 6) (eVar 14))) (eIf (tCmp .gt (eVar 14) (eC (.int 0))) (eVar 7) (eC (.int 0))))))) sNext)
  (sFor (iRng1 (eIdx (eVar 1) (eVar 13))) (.nm 15) (sSeq (sIf (tAndS (tCmp .eq (eVar 10) (eC (.int 0))) (tCmp .gt (eVar 9) (eC (.int 0)))) (sSeq (sSet 9 (eSub (eVar 9) (eC (.int 1))))
    (sSet 10 (eVar 5))) sNext)
   (sIf (tCmp .gt (eVar 10) (eC (.int 0))) (sSet 10 (eSub (eVar 10) (eC (.int 1)))) (sSet 12 (eAdd (eVar 12) (eC (.int 1)))))))))
 (b_law_cost_6 T))
def b_law_cost_4 (T : FT) : SSem :=
 (sSeq (sSet 12 (eC (.int 0)))
 (b_law_cost_5 T))
def b_law_cost_3 (T : FT) : SSem :=
 (sSeq (sSet 11 (eC (.int 0)))
 (b_law_cost_4 T))
def b_law_cost_2 (T : FT) : SSem :=
 (sSeq (sSet 10 (eC (.int 0)))
 (b_law_cost_3 T))
def b_law_cost_1 (T : FT) : SSem :=
 (sSeq (sSet 9 (eVar 2))
 (b_law_cost_2 T))
def b_law_cost (T : FT) : SSem :=
 (sSeq (sUnp [5, 6, 7, 8] (eVar 0))
 (b_law_cost_1 T))
abbrev N_law_least : List Str := ["supply", "plays", "stock", "arrivals", "lasts", "price", "fee", "loss", "level", "day", "further", "uses", "k", "have", "played", "cost", "left"]
abbrev P_law_least : List Str := ["supply", "plays", "stock", "arrivals"]
theorem sc_law_least : FnScope N_law_least P_law_least (defScope (top 24)) := ⟨rfl, rfl, rfl, by decide +kernel, rfl, by decide +kernel, by decide +kernel⟩
def b_law_least_2L_2 (T : FT) : SSem :=
 (sSet 8 (eFz (eVar 10)))
def b_law_least_2L_1 (T : FT) : SSem :=
 (sSeq (sFor (iSeq (eFz (eVar 8))) (.nm 11) (sFor (iRng1 (eIf (tCmp .inn (eVar 9) (eVar 3)) (eC (.int 10)) (eC (.int 1)))) (.nm 12) (sSeq (sSet 13 (eAdd (eVar 11) (eMul (eVar 12) (eVar 4))))
   (sSeq (sSet 14 (eMin2 (eVar 13) (eIdx (eVar 1) (eVar 9))))
   (sSeq (sSet 15 (eAdd (eAdd (eAdd (eIdx (eVar 8) (eVar 11)) (eMul (eVar 5) (eVar 12))) (eIf (tCmp .gt (eVar 12) (eC (.int 0))) (eVar 6) (eC (.int 0)))) (eMul (eVar 7) (eSub (eIdx (eVar 1) (eVar 9)) (eVar 14)))))
   (sSeq (sSet 16 (eMin2 (eSub (eVar 13) (eVar 14)) (eSum (eSlice (eVar 1) (pSome (eAdd (eVar 9) (eC (.int 1)))) pNone))))
   (sPut (eMin2 (eVar 15) (eGet2 (eVar 10) (eVar 16) (eVar 15))) (eVar 10) (eVar 16))))))))
 (b_law_least_2L_2 T))
def b_law_least_2L (T : FT) : SSem :=
 (sSeq (sSetM 10 mNil)
 (b_law_least_2L_1 T))
def b_law_least_3 (T : FT) : SSem :=
 (sRet (eMin1 (eOfF (fLc (iSeq (eFz (eVar 8))) [11] (.nm 11) tYesS (eIdx (eVar 8) (eVar 11))))))
def b_law_least_2 (T : FT) : SSem :=
 (sSeq (sFor (iRng1 (eLen (eVar 1))) (.nm 9) (b_law_least_2L T))
 (b_law_least_3 T))
def b_law_least_1 (T : FT) : SSem :=
 (sSeq (sSetM 8 (mMulF 2 4 (.int 0)))
 (b_law_least_2 T))
def b_law_least (T : FT) : SSem :=
 (sSeq (sUnp [4, 5, 6, 7] (eVar 0))
 (b_law_least_1 T))
abbrev N_law : List Str := ["script", "draws", "supply", "plays", "stock", "arrivals", "told", "cost", "order", "i", "k", "other", "there", "drawn", "day"]
abbrev P_law : List Str := ["script"]
theorem sc_law : FnScope N_law P_law (defScope (top 25)) := ⟨rfl, rfl, rfl, by decide +kernel, rfl, by decide +kernel, by decide +kernel⟩
def b_law_9 (T : FT) : SSem :=
 (sRet (eCall T.law_equal (aCons (eCall T.order_cost (aCons (eVar 2) (aCons (eVar 3) (aCons (eVar 4) (aCons (eVar 5) (aCons (eVar 13) aNil)))))) (aCons (eCall T.law_cost (aCons (eVar 2) (aCons (eVar 3) (aCons (eVar 4) (aCons (eVar 5) (aCons (eVar 13) aNil)))))) aNil))))
def b_law_8 (T : FT) : SSem :=
 (sSeq (sSetF 13 (fLc (iSeq (eVar 5)) [14] (.nm 14) tYesS (eMod (eCall T.law_draw (aCons (eVar 1) aNil)) (eC (.int 10)))))
 (b_law_9 T))
def b_law_7 (T : FT) : SSem :=
 (sSeq (sFor (iRng1 (eLen (eVar 8))) (.nm 9) (sFor (iRng1 (eC (.int 10))) (.nm 10) (sSeq (sSet 11 (eOfF (fAdd (eOfF (fAdd (eSlice (eVar 8) pNone (pSome (eVar 9))) (eOfF (fLst (aCons (eVar 10) aNil))))) (eSlice (eVar 8) (pSome (eAdd (eVar 9) (eC (.int 1)))) pNone))))
   (sSeq (sSet 12 (eIdx (eCall T.law_cost (aCons (eVar 2) (aCons (eVar 3) (aCons (eVar 4) (aCons (eVar 5) (aCons (eVar 11) aNil)))))) (eC (.int 0))))
   (sIf (tOrS (tLtD (eVar 12) (eVar 7)) (tAndS (tCmp .eq (eVar 12) (eVar 7)) (tLtD (eVar 11) (eVar 8)))) (sRet (eC (.bool false))) sNext)))))
 (b_law_8 T))
def b_law_6 (T : FT) : SSem :=
 (sSeq (sIf (tNotS (tTruth (eCall T.law_equal (aCons (eIdx (eCall T.law_cost (aCons (eVar 2) (aCons (eVar 3) (aCons (eVar 4) (aCons (eVar 5) (aCons (eVar 8) aNil)))))) (eC (.int 0))) (aCons (eVar 7) aNil))))) (sRet (eC (.bool false))) sNext)
 (b_law_7 T))
def b_law_5 (T : FT) : SSem :=
 (sSeq (sIf (tNotS (tTruth (eCall T.law_equal (aCons (eVar 7) (aCons (eCall T.law_least (aCons (eVar 2) (aCons (eVar 3) (aCons (eVar 4) (aCons (eVar 5) aNil))))) aNil))))) (sRet (eC (.bool false))) sNext)
 (b_law_6 T))
def b_law_4 (T : FT) : SSem :=
 (sSeq (sUnp [7, 8] (eVar 6))
 (b_law_5 T))
def b_law_3 (T : FT) : SSem :=
 (sSeq (sIf (tOrS (tNotS (tTruth (eIsi .tuple (eVar 6)))) (tOrS (tCmp .ne (eLen (eVar 6)) (eC (.int 2))) (tOrS (tNotS (tTruth (eIsi .list (eIdx (eVar 6) (eC (.int 1)))))) (tCmp .ne (eLen (eIdx (eVar 6) (eC (.int 1)))) (eLen (eVar 5)))))) (sRet (eC (.bool false))) sNext)
 (b_law_4 T))
def b_law_2 (T : FT) : SSem :=
 (sSeq (sSet 6 (eCall (gFn T.best_order) (aCons (eVar 2) (aCons (eVar 3) (aCons (eVar 4) (aCons (eVar 5) aNil))))))
 (b_law_3 T))
def b_law_1 (T : FT) : SSem :=
 (sSeq (sUnp [2, 3, 4, 5] (eCall T.law_supply (aCons (eVar 1) (aCons (eC (.int 30)) (aCons (eC (.int 10)) aNil)))))
 (b_law_2 T))
def b_law (T : FT) : SSem :=
 (sSeq (sSetC 1 (fLst (aCons (eCall T.law_numbers (aCons (eVar 0) aNil)) (aCons (eC (.int 0)) aNil))))
 (b_law_1 T))
def FF : Nat → FT
  | 0 => ⟨badFn, badFn, badFn, badFn, badFn, badFn, badFn, badFn, badFn, badFn, badFn, badFn, badFn, badFn, badFn, badFn, badFn, badFn, badFn, badFn, badFn, badFn⟩
  | k + 1 => ⟨fnSem N_is_number.length P_is_number.length (b_is_number (FF k)), fnSem N_check_number.length P_check_number.length (b_check_number (FF k)), fnSem N_is_rising.length P_is_rising.length (b_is_rising (FF k)), fnSem N_check_plays.length P_check_plays.length (b_check_plays (FF k)), fnSem N_check_supply.length P_check_supply.length (b_check_supply (FF k)), fnSem N_cost_of.length P_cost_of.length (b_cost_of (FF k)), fnSem N_order_cost.length P_order_cost.length (b_order_cost (FF k)), fnSem N_Orders_init.length P_Orders_init.length (b_Orders_init (FF k)), fnSem N_Orders_paid.length P_Orders_paid.length (b_Orders_paid (FF k)), fnSem N_Orders_behind.length P_Orders_behind.length (b_Orders_behind (FF k)), fnSem N_Orders_least.length P_Orders_least.length (b_Orders_least (FF k)), fnSem N_Orders_first.length P_Orders_first.length (b_Orders_first (FF k)), fnSem N_best_order.length P_best_order.length (b_best_order (FF k)), fnSem N_law_mixed.length P_law_mixed.length (b_law_mixed (FF k)), fnSem N_law_numbers.length P_law_numbers.length (b_law_numbers (FF k)), fnSem N_law_draw.length P_law_draw.length (b_law_draw (FF k)), fnSem N_law_equal.length P_law_equal.length (b_law_equal (FF k)), fnSem N_law_all_equal.length P_law_all_equal.length (b_law_all_equal (FF k)), fnSem N_law_supply.length P_law_supply.length (b_law_supply (FF k)), fnSem N_law_cost.length P_law_cost.length (b_law_cost (FF k)), fnSem N_law_least.length P_law_least.length (b_law_least (FF k)), fnSem N_law.length P_law.length (b_law (FF k))⟩
theorem FF_is_number (k : Nat) : (FF (k + 1)).is_number = fnSem 3 3 (b_is_number (FF k)) := rfl
theorem FF_check_number (k : Nat) : (FF (k + 1)).check_number = fnSem 3 3 (b_check_number (FF k)) := rfl
theorem FF_is_rising (k : Nat) : (FF (k + 1)).is_rising = fnSem 5 3 (b_is_rising (FF k)) := rfl
theorem FF_check_plays (k : Nat) : (FF (k + 1)).check_plays = fnSem 2 1 (b_check_plays (FF k)) := rfl
theorem FF_check_supply (k : Nat) : (FF (k + 1)).check_supply = fnSem 5 4 (b_check_supply (FF k)) := rfl
theorem FF_cost_of (k : Nat) : (FF (k + 1)).cost_of = fnSem 15 5 (b_cost_of (FF k)) := rfl
theorem FF_order_cost (k : Nat) : (FF (k + 1)).order_cost = fnSem 6 5 (b_order_cost (FF k)) := rfl
theorem FF_Orders_init (k : Nat) : (FF (k + 1)).Orders_init = fnSem 4 4 (b_Orders_init (FF k)) := rfl
theorem FF_Orders_paid (k : Nat) : (FF (k + 1)).Orders_paid = fnSem 2 2 (b_Orders_paid (FF k)) := rfl
theorem FF_Orders_behind (k : Nat) : (FF (k + 1)).Orders_behind = fnSem 4 3 (b_Orders_behind (FF k)) := rfl
theorem FF_Orders_least (k : Nat) : (FF (k + 1)).Orders_least = fnSem 5 3 (b_Orders_least (FF k)) := rfl
theorem FF_Orders_first (k : Nat) : (FF (k + 1)).Orders_first = fnSem 6 2 (b_Orders_first (FF k)) := rfl
theorem FF_best_order (k : Nat) : (FF (k + 1)).best_order = fnSem 5 4 (b_best_order (FF k)) := rfl
theorem FF_law_mixed (k : Nat) : (FF (k + 1)).law_mixed = fnSem 3 2 (b_law_mixed (FF k)) := rfl
theorem FF_law_numbers (k : Nat) : (FF (k + 1)).law_numbers = fnSem 5 1 (b_law_numbers (FF k)) := rfl
theorem FF_law_draw (k : Nat) : (FF (k + 1)).law_draw = fnSem 3 1 (b_law_draw (FF k)) := rfl
theorem FF_law_equal (k : Nat) : (FF (k + 1)).law_equal = fnSem 2 2 (b_law_equal (FF k)) := rfl
theorem FF_law_all_equal (k : Nat) : (FF (k + 1)).law_all_equal = fnSem 3 2 (b_law_all_equal (FF k)) := rfl
theorem FF_law_supply (k : Nat) : (FF (k + 1)).law_supply = fnSem 8 3 (b_law_supply (FF k)) := rfl
theorem FF_law_cost (k : Nat) : (FF (k + 1)).law_cost = fnSem 16 5 (b_law_cost (FF k)) := rfl
theorem FF_law_least (k : Nat) : (FF (k + 1)).law_least = fnSem 17 4 (b_law_least (FF k)) := rfl
theorem FF_law (k : Nat) : (FF (k + 1)).law = fnSem 15 1 (b_law (FF k)) := rfl
structure Facts (K : PySem.W.Frag) (mg : Str → Option Value) : Prop where
  m_bool : mg "bool" = none
  m_int : mg "int" = none
  m_isinstance : mg "isinstance" = none
  m_len : mg "len" = none
  m_list : mg "list" = none
  m_min : mg "min" = none
  m_range : mg "range" = none
  m_str : mg "str" = none
  m_sum : mg "sum" = none
  m_tuple : mg "tuple" = none
  c_MOST_ARRIVALS : ∃ t, mg "MOST_ARRIVALS" = some (.int 10 t)
  c_MOST_DAYS : ∃ t, mg "MOST_DAYS" = some (.int 30 t)
  k_Orders : Cls K (He.ga K "Orders")
  g_Orders : mg "Orders" = some (.ref (He.ga K "Orders"))
  n_Orders_arrivals : NoAttr K (He.ga K "Orders") "arrivals"
  n_Orders_fee : NoAttr K (He.ga K "Orders") "fee"
  n_Orders_known : NoAttr K (He.ga K "Orders") "known"
  n_Orders_lasts : NoAttr K (He.ga K "Orders") "lasts"
  n_Orders_loss : NoAttr K (He.ga K "Orders") "loss"
  n_Orders_plays : NoAttr K (He.ga K "Orders") "plays"
  n_Orders_price : NoAttr K (He.ga K "Orders") "price"
  x_BadArgument : Xc K mg "BadArgument"
  d_is_number : Dh K mg "is_number" (top 4) P_is_number
  d_check_number : Dh K mg "check_number" (top 5) P_check_number
  d_is_rising : Dh K mg "is_rising" (top 6) P_is_rising
  d_check_plays : Dh K mg "check_plays" (top 10) P_check_plays
  d_check_supply : Dh K mg "check_supply" (top 11) P_check_supply
  d_cost_of : Dh K mg "cost_of" (top 12) P_cost_of
  d_order_cost : Dh K mg "order_cost" (top 13) P_order_cost
  d_Orders_init : Hi K "Orders" "Orders.__init__" (inClass (top 14) 0) P_Orders_init
  d_Orders_paid : Hm K "Orders" "paid" "Orders.paid" (inClass (top 14) 1) P_Orders_paid
  d_Orders_behind : Hm K "Orders" "behind" "Orders.behind" (inClass (top 14) 2) P_Orders_behind
  d_Orders_least : Hm K "Orders" "least" "Orders.least" (inClass (top 14) 3) P_Orders_least
  d_Orders_first : Hm K "Orders" "first" "Orders.first" (inClass (top 14) 4) P_Orders_first
  d_best_order : Dh K mg "best_order" (top 15) P_best_order
  d_law_mixed : Dh K mg "_law_mixed" (top 17) P_law_mixed
  d_law_numbers : Dh K mg "_law_numbers" (top 18) P_law_numbers
  d_law_draw : Dh K mg "_law_draw" (top 19) P_law_draw
  d_law_equal : Dh K mg "_law_equal" (top 20) P_law_equal
  d_law_all_equal : Dh K mg "_law_all_equal" (top 21) P_law_all_equal
  d_law_supply : Dh K mg "_law_supply" (top 22) P_law_supply
  d_law_cost : Dh K mg "_law_cost" (top 23) P_law_cost
  d_law_least : Dh K mg "_law_least" (top 24) P_law_least
  d_law : Dh K mg "law" (top 25) P_law
structure All (P : Program) (w : World) (K : PySem.W.Frag) (mg : Str → Option Value) (base : Heap) (k : Nat) : Prop where
  is_number : Df P w K mg base (2 * k) "is_number" (FF k).is_number
  check_number : Df P w K mg base (2 * k) "check_number" (FF k).check_number
  is_rising : Df P w K mg base (2 * k) "is_rising" (FF k).is_rising
  check_plays : Df P w K mg base (2 * k) "check_plays" (FF k).check_plays
  check_supply : Df P w K mg base (2 * k) "check_supply" (FF k).check_supply
  cost_of : Df P w K mg base (2 * k) "cost_of" (FF k).cost_of
  order_cost : Df P w K mg base (2 * k) "order_cost" (FF k).order_cost
  Orders_init : Ih P w K mg base (2 * k) "Orders" (FF k).Orders_init
  Orders_paid : Mh P w K mg base (2 * k) "Orders" "paid" (FF k).Orders_paid
  Orders_behind : Mh P w K mg base (2 * k) "Orders" "behind" (FF k).Orders_behind
  Orders_least : Mh P w K mg base (2 * k) "Orders" "least" (FF k).Orders_least
  Orders_first : Mh P w K mg base (2 * k) "Orders" "first" (FF k).Orders_first
  best_order : Df P w K mg base (2 * k) "best_order" (FF k).best_order
  law_mixed : Df P w K mg base (2 * k) "_law_mixed" (FF k).law_mixed
  law_numbers : Df P w K mg base (2 * k) "_law_numbers" (FF k).law_numbers
  law_draw : Df P w K mg base (2 * k) "_law_draw" (FF k).law_draw
  law_equal : Df P w K mg base (2 * k) "_law_equal" (FF k).law_equal
  law_all_equal : Df P w K mg base (2 * k) "_law_all_equal" (FF k).law_all_equal
  law_supply : Df P w K mg base (2 * k) "_law_supply" (FF k).law_supply
  law_cost : Df P w K mg base (2 * k) "_law_cost" (FF k).law_cost
  law_least : Df P w K mg base (2 * k) "_law_least" (FF k).law_least
  law : Df P w K mg base (2 * k) "law" (FF k).law
section
variable {P : Program} {w : World} {K : PySem.W.Frag} {mg : Str → Option Value} {base : Heap} {k : Nat}
theorem ok_is_number (Fc : Facts K mg) (I : All P w K mg base k) {f : Addr} {fd : FuncData} (F : FunD K "is_number" "is_number" (defArgs (top 4)) (defBody (top 4)) (defScope (top 4)) [] [] f fd) :
    FnOk P w K mg base (L2.CX P w) (2 * k + 2) f fd P_is_number (spD K (FF (k + 1)).is_number) :=
  fn_okD (sem := b_is_number (FF k)) F sc_is_number fun cd A outer s H E hr2 tk hp =>
 have hr := hr2.mono (Nat.le_succ _)
 (s_one (s_ret (e_and (e_isint Fc.m_isinstance Fc.m_int (e_var 0)) (e_and (e_not (e_isbool Fc.m_isinstance Fc.m_bool (e_var 0))) (e_one (e_chn o_le o_le (e_var 1) (e_var 0) (e_var 2)))))))
theorem ok_check_number (Fc : Facts K mg) (I : All P w K mg base k) {f : Addr} {fd : FuncData} (F : FunD K "check_number" "check_number" (defArgs (top 5)) (defBody (top 5)) (defScope (top 5)) [] [] f fd) :
    FnOk P w K mg base (L2.CX P w) (2 * k + 2) f fd P_check_number (spD K (FF (k + 1)).check_number) :=
  fn_okD (sem := b_check_number (FF k)) F sc_check_number fun cd A outer s H E hr2 tk hp =>
 have hr := hr2.mono (Nat.le_succ _)
 (s_one (s_if (t_not (t_truth (e_cl I.is_number hr tk (a_cons (e_var 0) (a_cons (e_var 1) (a_cons (e_var 2) a_nil)))))) (s_one (s_rais Fc.x_BadArgument rfl tk)) s_nil))
theorem ok_is_rising (Fc : Facts K mg) (I : All P w K mg base k) {f : Addr} {fd : FuncData} (F : FunD K "is_rising" "is_rising" (defArgs (top 6)) (defBody (top 6)) (defScope (top 6)) [] [] f fd) :
    FnOk P w K mg base (L2.CX P w) (2 * k + 2) f fd P_is_rising (spD K (FF (k + 1)).is_rising) :=
  fn_okD (sem := b_is_rising (FF k)) F sc_is_rising fun cd A outer s H E hr2 tk hp =>
 have hr := hr2.mono (Nat.le_succ _)
 (s_cons (s_if (PW.pt (t_or (t_not (t_truth (e_islist Fc.m_isinstance Fc.m_list (e_var 0)))) (t_or1 (t_truth (e_ofF (f_lc rfl sc_is_rising.nd (i_seq (e_var 0)) (blkOk_by (own := [("one", 3)]) (by kernel_rfl)) (fun _ _ _ _ _ => (g_name 3 sc_is_rising.nd)) (fun _ _ _ _ _ => (ts_one (t_not (t_truth (e_cl I.is_number hr takesF (a_cons (e_var 3) (a_cons (e_var 1) (a_cons (e_var 2) a_nil)))))))) (fun _ _ _ _ _ => (e_var 3)))))))) (s_one (s_ret e_bl)) s_nil)
 (s_one (s_ret (e_eq hr (e_ofF (f_lc rfl sc_is_rising.nd (i_r2 Fc.m_range e_int (e_len Fc.m_len (e_var 0))) (blkOk_by (own := [("k", 4)]) (by kernel_rfl)) (fun _ _ _ _ _ => (g_name 4 sc_is_rising.nd)) (fun _ _ _ _ _ => (ts_one (t_ge (e_idx hr (e_var 0) (e_sub (e_var 4) e_int) (fun _ _ => rfl)) (e_idx hr (e_var 0) (e_var 4) (fun _ _ => rfl))))) (fun _ _ _ _ _ => (e_var 4)))) (e_ofF (f_lst a_nil))))))
theorem ok_check_plays (Fc : Facts K mg) (I : All P w K mg base k) {f : Addr} {fd : FuncData} (F : FunD K "check_plays" "check_plays" (defArgs (top 10)) (defBody (top 10)) (defScope (top 10)) [] [] f fd) :
    FnOk P w K mg base (L2.CX P w) (2 * k + 2) f fd P_check_plays (spD K (FF (k + 1)).check_plays) :=
  fn_okD (sem := b_check_plays (FF k)) F sc_check_plays fun cd A outer s H E hr2 tk hp =>
 have hr := hr2.mono (Nat.le_succ _)
 (s_cons (s_if (PW.pt (t_or (t_not (t_truth (e_islist Fc.m_isinstance Fc.m_list (e_var 0)))) (t_or1 (t_not (t_chn o_le o_le e_int (e_len Fc.m_len (e_var 0)) (e_gi Fc.c_MOST_DAYS)))))) (s_one (s_rais Fc.x_BadArgument rfl tk)) s_nil)
 (s_one (s_if (t_truth (e_ofF (f_lc rfl sc_check_plays.nd (i_seq (e_var 0)) (blkOk_by (own := [("many", 1)]) (by kernel_rfl)) (fun _ _ _ _ _ => (g_name 1 sc_check_plays.nd)) (fun _ _ _ _ _ => (ts_one (t_not (t_truth (e_cl I.is_number hr takesF (a_cons (e_var 1) (a_cons e_int (a_cons e_int a_nil)))))))) (fun _ _ _ _ _ => (e_var 1))))) (s_one (s_rais Fc.x_BadArgument rfl tk)) s_nil)))
theorem ok_check_supply (Fc : Facts K mg) (I : All P w K mg base k) {f : Addr} {fd : FuncData} (F : FunD K "check_supply" "check_supply" (defArgs (top 11)) (defBody (top 11)) (defScope (top 11)) [] [] f fd) :
    FnOk P w K mg base (L2.CX P w) (2 * k + 2) f fd P_check_supply (spD K (FF (k + 1)).check_supply) :=
  fn_okD (sem := b_check_supply (FF k)) F sc_check_supply fun cd A outer s H E hr2 tk hp =>
 have hr := hr2.mono (Nat.le_succ _)
 (s_cons (s_if (PW.pt (t_or (t_not (t_truth (e_istuple Fc.m_isinstance Fc.m_tuple (e_var 0)))) (t_or (t_ne hr (e_len Fc.m_len (e_var 0)) e_int) (t_or1 (t_not (t_truth (e_cl I.is_number hr tk (a_cons (e_idx hr (e_var 0) e_int (fun _ _ => rfl)) (a_cons e_int (a_cons e_int a_nil)))))))))) (s_one (s_rais Fc.x_BadArgument rfl tk)) s_nil)
 (s_cons (s_if (t_truth (e_ofF (f_lc rfl sc_check_supply.nd (i_seq (e_slice (e_var 0) (p_some e_int) p_none)) (blkOk_by (own := [("one", 4)]) (by kernel_rfl)) (fun _ _ _ _ _ => (g_name 4 sc_check_supply.nd)) (fun _ _ _ _ _ => (ts_one (t_not (t_truth (e_cl I.is_number hr takesF (a_cons (e_var 4) (a_cons e_int (a_cons e_int a_nil)))))))) (fun _ _ _ _ _ => (e_var 4))))) (s_one (s_rais Fc.x_BadArgument rfl tk)) s_nil)
 (s_cons (s_expr (e_cl I.check_plays hr tk (a_cons (e_var 1) a_nil)))
 (s_cons (s_expr (e_cl I.check_number hr tk (a_cons (e_var 2) (a_cons e_int (a_cons e_int a_nil)))))
 (s_one (s_if (PW.pt (t_or (t_not (t_truth (e_cl I.is_rising hr tk (a_cons (e_var 3) (a_cons e_int (a_cons (e_sub (e_len Fc.m_len (e_var 1)) e_int) a_nil)))))) (t_or1 (t_gt (e_len Fc.m_len (e_var 3)) (e_gi Fc.c_MOST_ARRIVALS))))) (s_one (s_rais Fc.x_BadArgument rfl tk)) s_nil))))))
theorem ok_cost_of (Fc : Facts K mg) (I : All P w K mg base k) {f : Addr} {fd : FuncData} (F : FunD K "cost_of" "cost_of" (defArgs (top 12)) (defBody (top 12)) (defScope (top 12)) [] [] f fd) :
    FnOk P w K mg base (L2.CX P w) (2 * k + 2) f fd P_cost_of (spD K (FF (k + 1)).cost_of) :=
  fn_okD (sem := b_cost_of (FF k)) F sc_cost_of fun cd A outer s H E hr2 tk hp =>
 have hr := hr2.mono (Nat.le_succ _)
 (s_cons (s_unp (e_var 0) (g_tup rfl (gs_cons (g_name 5 sc_cost_of.nd) (gs_cons (g_name 6 sc_cost_of.nd) (gs_cons (g_name 7 sc_cost_of.nd) (gs_cons (g_name 8 sc_cost_of.nd) gs_nil))))))
 (s_cons (s_set (e_mul (e_var 2) (e_var 5)) sc_cost_of.nd)
 (s_cons (s_set e_int sc_cost_of.nd)
 (s_cons (s_for hp rfl (i_r1 Fc.m_range (e_len Fc.m_len (e_var 1))) (g_name 11 sc_cost_of.nd) (s_cons (s_if (t_in hr (e_var 11) (e_var 3)) (s_one (s_set (e_add (e_var 9) (e_mul (e_idx hr (e_var 4) (e_index hr (e_var 3) (e_var 11)) (fun _ _ => rfl)) (e_var 5))) sc_cost_of.nd)) s_nil)
  (s_cons (s_set (e_min2 rfl Fc.m_min (e_var 9) (e_idx hr (e_var 1) (e_var 11) (fun _ _ => rfl))) sc_cost_of.nd)
  (s_cons (s_set (e_sub (e_add (e_var 10) (e_idx hr (e_var 1) (e_var 11) (fun _ _ => rfl))) (e_var 12)) sc_cost_of.nd)
  (s_one (s_set (e_sub (e_var 9) (e_var 12)) sc_cost_of.nd))))))
 (s_cons (s_set (e_add (e_mul (e_var 6) (e_sum rfl Fc.m_sum (e_var 4))) (e_mul (e_var 7) (e_len Fc.m_len (e_ofF (f_lc rfl sc_cost_of.nd (i_seq (e_var 4)) (blkOk_by (own := [("one", 14)]) (by kernel_rfl)) (fun _ _ _ _ _ => (g_name 14 sc_cost_of.nd)) (fun _ _ _ _ _ => (ts_one (t_gt (e_var 14) e_int))) (fun _ _ _ _ _ => (e_var 14))))))) sc_cost_of.nd)
 (s_one (s_ret (e_tup (a_cons (e_add (e_var 13) (e_mul (e_var 8) (e_var 10))) (a_cons (e_var 10) a_nil))))))))))
theorem ok_order_cost (Fc : Facts K mg) (I : All P w K mg base k) {f : Addr} {fd : FuncData} (F : FunD K "order_cost" "order_cost" (defArgs (top 13)) (defBody (top 13)) (defScope (top 13)) [] [] f fd) :
    FnOk P w K mg base (L2.CX P w) (2 * k + 2) f fd P_order_cost (spD K (FF (k + 1)).order_cost) :=
  fn_okD (sem := b_order_cost (FF k)) F sc_order_cost fun cd A outer s H E hr2 tk hp =>
 have hr := hr2.mono (Nat.le_succ _)
 (s_cons (s_expr (e_cl I.check_supply hr tk (a_cons (e_var 0) (a_cons (e_var 1) (a_cons (e_var 2) (a_cons (e_var 3) a_nil))))))
 (s_cons (s_if (PW.pt (t_or (t_not (t_truth (e_islist Fc.m_isinstance Fc.m_list (e_var 4)))) (t_or1 (t_ne hr (e_len Fc.m_len (e_var 4)) (e_len Fc.m_len (e_var 3)))))) (s_one (s_rais Fc.x_BadArgument rfl tk)) s_nil)
 (s_cons (s_if (t_truth (e_ofF (f_lc rfl sc_order_cost.nd (i_seq (e_var 4)) (blkOk_by (own := [("one", 5)]) (by kernel_rfl)) (fun _ _ _ _ _ => (g_name 5 sc_order_cost.nd)) (fun _ _ _ _ _ => (ts_one (t_not (t_truth (e_cl I.is_number hr takesF (a_cons (e_var 5) (a_cons e_int (a_cons e_int a_nil)))))))) (fun _ _ _ _ _ => (e_var 5))))) (s_one (s_rais Fc.x_BadArgument rfl tk)) s_nil)
 (s_one (s_ret (e_cl I.cost_of hr tk (a_cons (e_var 0) (a_cons (e_var 1) (a_cons (e_var 2) (a_cons (e_var 3) (a_cons (e_var 4) a_nil)))))))))))
theorem ok_Orders_init (Fc : Facts K mg) (I : All P w K mg base k) {f : Addr} {fd : FuncData} (F : FunD K "__init__" "Orders.__init__" (defArgs (inClass (top 14) 0)) (defBody (inClass (top 14) 0)) (defScope (inClass (top 14) 0)) [] [] f fd) :
    FnOk P w K mg base (L2.CX P w) (2 * k + 2) f fd P_Orders_init (spD K (FF (k + 1)).Orders_init) :=
  fn_okD (sem := b_Orders_init (FF k)) F sc_Orders_init fun cd A outer s H E hr2 tk hp =>
 have hr := hr2.mono (Nat.le_succ _)
 (s_cons (s_unpF rfl (e_var 1) (gsF_cons (g_fs Fc.k_Orders Fc.n_Orders_lasts (e_var 0)) (gsF_cons (g_fs Fc.k_Orders Fc.n_Orders_price (e_var 0)) (gsF_cons (g_fs Fc.k_Orders Fc.n_Orders_fee (e_var 0)) (gsF_cons (g_fs Fc.k_Orders Fc.n_Orders_loss (e_var 0)) gsF_nil)))))
 (s_cons (s_fs Fc.k_Orders Fc.n_Orders_plays (e_var 2) (e_var 0))
 (s_cons (s_fs Fc.k_Orders Fc.n_Orders_arrivals (e_var 3) (e_var 0))
 (s_one (s_fs Fc.k_Orders Fc.n_Orders_known (e_newM m_nil) (e_var 0))))))
theorem ok_Orders_paid (Fc : Facts K mg) (I : All P w K mg base k) {f : Addr} {fd : FuncData} (F : FunD K "paid" "Orders.paid" (defArgs (inClass (top 14) 1)) (defBody (inClass (top 14) 1)) (defScope (inClass (top 14) 1)) [] [] f fd) :
    FnOk P w K mg base (L2.CX P w) (2 * k + 2) f fd P_Orders_paid (spD K (FF (k + 1)).Orders_paid) :=
  fn_okD (sem := b_Orders_paid (FF k)) F sc_Orders_paid fun cd A outer s H E hr2 tk hp =>
 have hr := hr2.mono (Nat.le_succ _)
 (s_one (s_ret (e_add (e_mul (e_fld Fc.k_Orders Fc.n_Orders_price (e_var 0)) (e_var 1)) (e_if (t_gt (e_var 1) e_int) (e_fld Fc.k_Orders Fc.n_Orders_fee (e_var 0)) e_int))))
theorem ok_Orders_behind (Fc : Facts K mg) (I : All P w K mg base k) {f : Addr} {fd : FuncData} (F : FunD K "behind" "Orders.behind" (defArgs (inClass (top 14) 2)) (defBody (inClass (top 14) 2)) (defScope (inClass (top 14) 2)) [] [] f fd) :
    FnOk P w K mg base (L2.CX P w) (2 * k + 2) f fd P_Orders_behind (spD K (FF (k + 1)).Orders_behind) :=
  fn_okD (sem := b_Orders_behind (FF k)) F sc_Orders_behind fun cd A outer s H E hr2 tk hp =>
 have hr := hr2.mono (Nat.le_succ _)
 (s_cons (s_set (e_min2 rfl Fc.m_min (e_var 2) (e_idx hr (e_fld Fc.k_Orders Fc.n_Orders_plays (e_var 0)) (e_var 1) (fun _ _ => rfl))) sc_Orders_behind.nd)
 (s_one (s_ret (e_add (e_mul (e_fld Fc.k_Orders Fc.n_Orders_loss (e_var 0)) (e_sub (e_idx hr (e_fld Fc.k_Orders Fc.n_Orders_plays (e_var 0)) (e_var 1) (fun _ _ => rfl)) (e_var 3))) (e_meth I.Orders_least hr tk Fc.k_Orders (e_var 0) (a_cons (e_add (e_var 1) e_int) (a_cons (e_sub (e_var 2) (e_var 3)) a_nil)))))))
theorem ok_Orders_least (Fc : Facts K mg) (I : All P w K mg base k) {f : Addr} {fd : FuncData} (F : FunD K "least" "Orders.least" (defArgs (inClass (top 14) 3)) (defBody (inClass (top 14) 3)) (defScope (inClass (top 14) 3)) [] [] f fd) :
    FnOk P w K mg base (L2.CX P w) (2 * k + 2) f fd P_Orders_least (spD K (FF (k + 1)).Orders_least) :=
  fn_okD (sem := b_Orders_least (FF k)) F sc_Orders_least fun cd A outer s H E hr2 tk hp =>
 have hr := hr2.mono (Nat.le_succ _)
 (s_cons (s_if (t_eq hr (e_var 1) (e_len Fc.m_len (e_fld Fc.k_Orders Fc.n_Orders_plays (e_var 0)))) (s_one (s_ret e_int)) s_nil)
 (s_cons (s_set (e_min2 rfl Fc.m_min (e_var 2) (e_sum rfl Fc.m_sum (e_slice (e_fld Fc.k_Orders Fc.n_Orders_plays (e_var 0)) (p_some (e_var 1)) p_none))) sc_Orders_least.nd)
 (s_cons (s_if (t_notin hr (e_tup (a_cons (e_var 1) (a_cons (e_var 2) a_nil))) (e_fld Fc.k_Orders Fc.n_Orders_known (e_var 0))) (s_cons (s_set (e_if (t_in hr (e_var 1) (e_fld Fc.k_Orders Fc.n_Orders_arrivals (e_var 0))) e_int e_int) sc_Orders_least.nd)
  (s_one (s_put hr (e_min1 hr rfl Fc.m_min (e_ofF (f_lc rfl sc_Orders_least.nd (i_r1 Fc.m_range (e_var 3)) (blkOk_by (own := [("k", 4)]) (by kernel_rfl)) (fun _ _ _ _ _ => (g_name 4 sc_Orders_least.nd)) (fun _ _ _ _ _ => ts_none) (fun _ _ _ _ _ => (e_add (e_meth I.Orders_paid hr takesF Fc.k_Orders (e_var 0) (a_cons (e_var 4) a_nil)) (e_meth I.Orders_behind hr takesF Fc.k_Orders (e_var 0) (a_cons (e_var 1) (a_cons (e_add (e_var 2) (e_mul (e_var 4) (e_fld Fc.k_Orders Fc.n_Orders_lasts (e_var 0)))) a_nil)))))))) (e_fld Fc.k_Orders Fc.n_Orders_known (e_var 0)) (e_tup (a_cons (e_var 1) (a_cons (e_var 2) a_nil)))))) s_nil)
 (s_one (s_ret (e_idx hr (e_fld Fc.k_Orders Fc.n_Orders_known (e_var 0)) (e_tup (a_cons (e_var 1) (a_cons (e_var 2) a_nil))) (fun _ _ => rfl)))))))
theorem ok_Orders_first (Fc : Facts K mg) (I : All P w K mg base k) {f : Addr} {fd : FuncData} (F : FunD K "first" "Orders.first" (defArgs (inClass (top 14) 4)) (defBody (inClass (top 14) 4)) (defScope (inClass (top 14) 4)) [] [] f fd) :
    FnOk P w K mg base (L2.CX P w) (2 * k + 2) f fd P_Orders_first (spD K (FF (k + 1)).Orders_first) :=
  fn_okD (sem := b_Orders_first (FF k)) F sc_Orders_first fun cd A outer s H E hr2 tk hp =>
 have hr := hr2.mono (Nat.le_succ _)
 (s_cons (s_setO (f_lst a_nil) sc_Orders_first.nd)
 (s_cons (s_for hp rfl (i_r1 Fc.m_range (e_len Fc.m_len (e_fld Fc.k_Orders Fc.n_Orders_plays (e_var 0)))) (g_name 3 sc_Orders_first.nd) (s_cons (s_if (t_in hr (e_var 3) (e_fld Fc.k_Orders Fc.n_Orders_arrivals (e_var 0))) (s_cons (s_set (e_meth I.Orders_least hr tk Fc.k_Orders (e_var 0) (a_cons (e_var 3) (a_cons (e_var 1) a_nil))) sc_Orders_first.nd)
   (s_cons (s_set e_int sc_Orders_first.nd)
   (s_cons (s_while hp (t_ne hr (e_add (e_meth I.Orders_paid hr tk Fc.k_Orders (e_var 0) (a_cons (e_var 5) a_nil)) (e_meth I.Orders_behind hr tk Fc.k_Orders (e_var 0) (a_cons (e_var 3) (a_cons (e_add (e_var 1) (e_mul (e_var 5) (e_fld Fc.k_Orders Fc.n_Orders_lasts (e_var 0)))) a_nil)))) (e_var 4)) (s_one (s_set (e_add (e_var 5) e_int) sc_Orders_first.nd)))
   (s_cons (s_expr (e_app (e_var 2) (e_var 5)))
   (s_one (s_set (e_add (e_var 1) (e_mul (e_var 5) (e_fld Fc.k_Orders Fc.n_Orders_lasts (e_var 0)))) sc_Orders_first.nd)))))) s_nil)
  (s_one (s_set (e_sub (e_var 1) (e_min2 rfl Fc.m_min (e_var 1) (e_idx hr (e_fld Fc.k_Orders Fc.n_Orders_plays (e_var 0)) (e_var 3) (fun _ _ => rfl)))) sc_Orders_first.nd))))
 (s_one (s_ret (e_var 2)))))
theorem ok_best_order (Fc : Facts K mg) (I : All P w K mg base k) {f : Addr} {fd : FuncData} (F : FunD K "best_order" "best_order" (defArgs (top 15)) (defBody (top 15)) (defScope (top 15)) [] [] f fd) :
    FnOk P w K mg base (L2.CX P w) (2 * k + 2) f fd P_best_order (spD K (FF (k + 1)).best_order) :=
  fn_okD (sem := b_best_order (FF k)) F sc_best_order fun cd A outer s H E hr2 tk hp =>
 have hr := hr2.mono (Nat.le_succ _)
 (s_cons (s_expr (e_cl I.check_supply hr tk (a_cons (e_var 0) (a_cons (e_var 1) (a_cons (e_var 2) (a_cons (e_var 3) a_nil))))))
 (s_cons (s_set (e_make I.Orders_init hr2 tk Fc.g_Orders (a_cons (e_var 0) (a_cons (e_var 1) (a_cons (e_var 3) a_nil)))) sc_best_order.nd)
 (s_one (s_ret (e_tup (a_cons (e_meth I.Orders_least hr tk Fc.k_Orders (e_var 4) (a_cons e_int (a_cons (e_mul (e_var 2) (e_idx hr (e_var 0) e_int (fun _ _ => rfl))) a_nil))) (a_cons (e_meth I.Orders_first hr tk Fc.k_Orders (e_var 4) (a_cons (e_mul (e_var 2) (e_idx hr (e_var 0) e_int (fun _ _ => rfl))) a_nil)) a_nil)))))))
theorem ok_law_mixed (Fc : Facts K mg) (I : All P w K mg base k) {f : Addr} {fd : FuncData} (F : FunD K "_law_mixed" "_law_mixed" (defArgs (top 17)) (defBody (top 17)) (defScope (top 17)) [] [] f fd) :
    FnOk P w K mg base (L2.CX P w) (2 * k + 2) f fd P_law_mixed (spD K (FF (k + 1)).law_mixed) :=
  fn_okD (sem := b_law_mixed (FF k)) F sc_law_mixed fun cd A outer s H E hr2 tk hp =>
 have hr := hr2.mono (Nat.le_succ _)
 (s_cons (s_set (e_mod (e_add (e_add (e_mul (e_var 0) e_int) (e_mul (e_var 1) e_int)) e_int) e_int) sc_law_mixed.nd)
 (s_one (s_ret (e_mod (e_add (e_mul (e_var 2) (e_add (e_div (e_var 2) e_int) e_int)) (e_var 1)) e_int))))
theorem ok_law_numbers (Fc : Facts K mg) (I : All P w K mg base k) {f : Addr} {fd : FuncData} (F : FunD K "_law_numbers" "_law_numbers" (defArgs (top 18)) (defBody (top 18)) (defScope (top 18)) [] [] f fd) :
    FnOk P w K mg base (L2.CX P w) (2 * k + 2) f fd P_law_numbers (spD K (FF (k + 1)).law_numbers) :=
  fn_okD (sem := b_law_numbers (FF k)) F sc_law_numbers fun cd A outer s H E hr2 tk hp =>
 have hr := hr2.mono (Nat.le_succ _)
 (s_cons (s_setO (f_lst a_nil) sc_law_numbers.nd)
 (s_cons (s_for hp rfl (i_seq (e_var 0)) (g_name 2 sc_law_numbers.nd) (s_one (s_if (t_ge (e_var 2) (e_pow e_int e_int)) (s_cons (s_set (e_var 2) sc_law_numbers.nd)
   (s_one (s_for hp rfl (i_r1 Fc.m_range e_int) (g_name 4 sc_law_numbers.nd) (s_one (s_if (t_gt (e_var 3) e_int) (s_cons (s_expr (e_app (e_var 1) (e_mod (e_var 3) e_int)))
     (s_one (s_set (e_div (e_var 3) e_int) sc_law_numbers.nd))) s_nil))))) (s_cons (s_expr (e_app (e_var 1) (e_mod (e_var 2) e_int)))
   (s_one (s_for hp rfl (i_r1 Fc.m_range e_int) (g_name 4 sc_law_numbers.nd) (s_one (s_expr (e_app (e_var 1) (e_mod (e_cl I.law_mixed hr tk (a_cons (e_cl I.law_mixed hr tk (a_cons (e_mod (e_var 2) e_int) (a_cons (e_var 4) a_nil))) (a_cons (e_add (e_var 4) e_int) a_nil))) e_int))))))))))
 (s_one (s_ret (e_var 1)))))
theorem ok_law_draw (Fc : Facts K mg) (I : All P w K mg base k) {f : Addr} {fd : FuncData} (F : FunD K "_law_draw" "_law_draw" (defArgs (top 19)) (defBody (top 19)) (defScope (top 19)) [] [] f fd) :
    FnOk P w K mg base (L2.CX P w) (2 * k + 2) f fd P_law_draw (spD K (FF (k + 1)).law_draw) :=
  fn_okD (sem := b_law_draw (FF k)) F sc_law_draw fun cd A outer s H E hr2 tk hp =>
 have hr := hr2.mono (Nat.le_succ _)
 (s_cons (s_set (e_idx hr (e_var 0) e_int (fun _ _ => rfl)) sc_law_draw.nd)
 (s_cons (s_put hr (e_add (e_var 1) e_int) (e_var 0) e_int)
 (s_cons (s_if (t_lt (e_var 1) (e_len Fc.m_len (e_idx hr (e_var 0) e_int (fun _ _ => rfl)))) (s_one (s_ret (e_idx hr (e_idx hr (e_var 0) e_int (fun _ _ => rfl)) (e_var 1) (fun _ _ => rfl)))) s_nil)
 (s_cons (s_set (e_add e_int (e_var 1)) sc_law_draw.nd)
 (s_cons (s_if (t_gt (e_len Fc.m_len (e_idx hr (e_var 0) e_int (fun _ _ => rfl))) e_int) (s_one (s_set (e_add (e_var 2) (e_mul e_int (e_idx hr (e_idx hr (e_var 0) e_int (fun _ _ => rfl)) e_int (fun _ _ => rfl)))) sc_law_draw.nd)) s_nil)
 (s_one (s_ret (e_mod (e_cl I.law_mixed hr tk (a_cons (e_cl I.law_mixed hr tk (a_cons (e_var 2) (a_cons (e_var 1) a_nil))) (a_cons e_int a_nil))) e_int))))))))
theorem ok_law_equal (Fc : Facts K mg) (I : All P w K mg base k) {f : Addr} {fd : FuncData} (F : FunD K "_law_equal" "_law_equal" (defArgs (top 20)) (defBody (top 20)) (defScope (top 20)) [] [] f fd) :
    FnOk P w K mg base (L2.CX P w) (2 * k + 2) f fd P_law_equal (spD K (FF (k + 1)).law_equal) :=
  fn_okD (sem := b_law_equal (FF k)) F sc_law_equal fun cd A outer s H E hr2 tk hp =>
 have hr := hr2.mono (Nat.le_succ _)
 (s_cons (s_if (t_truth (e_islist Fc.m_isinstance Fc.m_list (e_var 1))) (s_cons (s_if (PW.pt (t_or (t_not (t_truth (e_islist Fc.m_isinstance Fc.m_list (e_var 0)))) (t_or1 (t_ne hr (e_len Fc.m_len (e_var 0)) (e_len Fc.m_len (e_var 1)))))) (s_one (s_ret e_bl)) s_nil)
  (s_one (s_ret (e_cl I.law_all_equal hr tk (a_cons (e_var 0) (a_cons (e_var 1) a_nil)))))) s_nil)
 (s_cons (s_if (t_truth (e_istuple Fc.m_isinstance Fc.m_tuple (e_var 1))) (s_cons (s_if (PW.pt (t_or (t_not (t_truth (e_istuple Fc.m_isinstance Fc.m_tuple (e_var 0)))) (t_or1 (t_ne hr (e_len Fc.m_len (e_var 0)) (e_len Fc.m_len (e_var 1)))))) (s_one (s_ret e_bl)) s_nil)
  (s_one (s_ret (e_cl I.law_all_equal hr tk (a_cons (e_var 0) (a_cons (e_var 1) a_nil)))))) s_nil)
 (s_cons (s_if (t_truth (e_isbool Fc.m_isinstance Fc.m_bool (e_var 1))) (s_one (s_ret (e_and (e_isbool Fc.m_isinstance Fc.m_bool (e_var 0)) (e_one (e_eq hr (e_var 0) (e_var 1)))))) s_nil)
 (s_cons (s_if (t_truth (e_isint Fc.m_isinstance Fc.m_int (e_var 1))) (s_one (s_ret (e_and (e_isint Fc.m_isinstance Fc.m_int (e_var 0)) (e_and (e_not (e_isbool Fc.m_isinstance Fc.m_bool (e_var 0))) (e_one (e_eq hr (e_var 0) (e_var 1))))))) s_nil)
 (s_cons (s_if (t_truth (e_isstr Fc.m_isinstance Fc.m_str (e_var 1))) (s_one (s_ret (e_and (e_isstr Fc.m_isinstance Fc.m_str (e_var 0)) (e_one (e_eq hr (e_var 0) (e_var 1)))))) s_nil)
 (s_one (s_ret (e_is (e_var 0) e_non))))))))
theorem ok_law_all_equal (Fc : Facts K mg) (I : All P w K mg base k) {f : Addr} {fd : FuncData} (F : FunD K "_law_all_equal" "_law_all_equal" (defArgs (top 21)) (defBody (top 21)) (defScope (top 21)) [] [] f fd) :
    FnOk P w K mg base (L2.CX P w) (2 * k + 2) f fd P_law_all_equal (spD K (FF (k + 1)).law_all_equal) :=
  fn_okD (sem := b_law_all_equal (FF k)) F sc_law_all_equal fun cd A outer s H E hr2 tk hp =>
 have hr := hr2.mono (Nat.le_succ _)
 (s_cons (s_for hp rfl (i_r1 Fc.m_range (e_len Fc.m_len (e_var 1))) (g_name 2 sc_law_all_equal.nd) (s_one (s_if (t_not (t_truth (e_cl I.law_equal hr tk (a_cons (e_idx hr (e_var 0) (e_var 2) (fun _ _ => rfl)) (a_cons (e_idx hr (e_var 1) (e_var 2) (fun _ _ => rfl)) a_nil))))) (s_one (s_ret e_bl)) s_nil)))
 (s_one (s_ret e_bl)))
theorem ok_law_supply (Fc : Facts K mg) (I : All P w K mg base k) {f : Addr} {fd : FuncData} (F : FunD K "_law_supply" "_law_supply" (defArgs (top 22)) (defBody (top 22)) (defScope (top 22)) [] [] f fd) :
    FnOk P w K mg base (L2.CX P w) (2 * k + 2) f fd P_law_supply (spD K (FF (k + 1)).law_supply) :=
  fn_okD (sem := b_law_supply (FF k)) F sc_law_supply fun cd A outer s H E hr2 tk hp =>
 have hr := hr2.mono (Nat.le_succ _)
 (s_cons (s_set (e_tup (a_cons (e_add e_int (e_mod (e_cl I.law_draw hr tk (a_cons (e_var 0) a_nil)) (e_idx hr (e_ofF (f_lst (a_cons e_int (a_cons e_int a_nil)))) (e_mod (e_cl I.law_draw hr tk (a_cons (e_var 0) a_nil)) e_int) (fun _ _ => rfl)))) (a_cons (e_mod (e_cl I.law_draw hr tk (a_cons (e_var 0) a_nil)) e_int) (a_cons (e_mod (e_cl I.law_draw hr tk (a_cons (e_var 0) a_nil)) e_int) (a_cons (e_mod (e_cl I.law_draw hr tk (a_cons (e_var 0) a_nil)) e_int) a_nil))))) sc_law_supply.nd)
 (s_cons (s_lcF (i := 4) rfl sc_law_supply.nd rfl rfl (sw_true rfl rfl rfl (by decide +kernel)) (i_r1 Fc.m_range (e_add e_int (e_mod (e_cl I.law_draw hr tk (a_cons (e_var 0) a_nil)) (e_var 1)))) (blkOk_by (own := [("k", 6)]) (by kernel_rfl)) (fun _ _ _ _ _ => (g_name 6 sc_law_supply.nd)) (fun _ _ _ _ _ => ts_none) (fun _ _ _ _ _ => (e_mod (e_cl I.law_draw hr takesF (a_cons (e_var 0) a_nil)) (e_idx hr (e_ofF (f_lst (a_cons e_int (a_cons e_int a_nil)))) (e_mod (e_cl I.law_draw hr takesF (a_cons (e_var 0) a_nil)) e_int) (fun _ _ => rfl)))))
 (s_cons (s_set (e_slice (e_ofF (f_lc rfl sc_law_supply.nd (i_r1 Fc.m_range (e_len Fc.m_len (e_var 4))) (blkOk_by (own := [("day", 7)]) (by kernel_rfl)) (fun _ _ _ _ _ => (g_name 7 sc_law_supply.nd)) (fun _ _ _ _ _ => (ts_one (t_eq hr (e_mod (e_cl I.law_draw hr takesF (a_cons (e_var 0) a_nil)) e_int) e_int))) (fun _ _ _ _ _ => (e_var 7)))) p_none (p_some (e_var 2))) sc_law_supply.nd)
 (s_one (s_ret (e_tup (a_cons (e_var 3) (a_cons (e_var 4) (a_cons (e_mod (e_cl I.law_draw hr tk (a_cons (e_var 0) a_nil)) (e_idx hr (e_ofF (f_lst (a_cons e_int (a_cons e_int a_nil)))) (e_mod (e_cl I.law_draw hr tk (a_cons (e_var 0) a_nil)) e_int) (fun _ _ => rfl))) (a_cons (e_var 5) a_nil))))))))))
theorem ok_law_cost (Fc : Facts K mg) (I : All P w K mg base k) {f : Addr} {fd : FuncData} (F : FunD K "_law_cost" "_law_cost" (defArgs (top 23)) (defBody (top 23)) (defScope (top 23)) [] [] f fd) :
    FnOk P w K mg base (L2.CX P w) (2 * k + 2) f fd P_law_cost (spD K (FF (k + 1)).law_cost) :=
  fn_okD (sem := b_law_cost (FF k)) F sc_law_cost fun cd A outer s H E hr2 tk hp =>
 have hr := hr2.mono (Nat.le_succ _)
 (s_cons (s_unp (e_var 0) (g_tup rfl (gs_cons (g_name 5 sc_law_cost.nd) (gs_cons (g_name 6 sc_law_cost.nd) (gs_cons (g_name 7 sc_law_cost.nd) (gs_cons (g_name 8 sc_law_cost.nd) gs_nil))))))
 (s_cons (s_set (e_var 2) sc_law_cost.nd)
 (s_cons (s_set e_int sc_law_cost.nd)
 (s_cons (s_set e_int sc_law_cost.nd)
 (s_cons (s_set e_int sc_law_cost.nd)
 (s_cons (s_for hp rfl (i_r1 Fc.m_range (e_len Fc.m_len (e_var 1))) (g_name 13 sc_law_cost.nd) (s_cons (s_if (t_in hr (e_var 13) (e_var 3)) (s_cons (s_set (e_idx hr (e_var 4) (e_index hr (e_var 3) (e_var 13)) (fun _ _ => rfl)) sc_law_cost.nd)
   (s_cons (s_set (e_add (e_var 9) (e_var 14)) sc_law_cost.nd)
   (s_one (s_set (e_add (e_add (e_var 11) (e_mul (e_var 6) (e_var 14))) (e_if (t_gt (e_var 14) e_int) (e_var 7) e_int)) sc_law_cost.nd)))) s_nil)
  (s_one (s_for hp rfl (i_r1 Fc.m_range (e_idx hr (e_var 1) (e_var 13) (fun _ _ => rfl))) (g_name 15 sc_law_cost.nd) (s_cons (s_if (PW.pt (t_and (t_eq hr (e_var 10) e_int) (t_and1 (t_gt (e_var 9) e_int)))) (s_cons (s_set (e_sub (e_var 9) e_int) sc_law_cost.nd)
    (s_one (s_set (e_var 5) sc_law_cost.nd))) s_nil)
   (s_one (s_if (t_gt (e_var 10) e_int) (s_one (s_set (e_sub (e_var 10) e_int) sc_law_cost.nd)) (s_one (s_set (e_add (e_var 12) e_int) sc_law_cost.nd)))))))))
 (s_one (s_ret (e_tup (a_cons (e_add (e_var 11) (e_mul (e_var 8) (e_var 12))) (a_cons (e_var 12) a_nil)))))))))))
theorem ok_law_least (Fc : Facts K mg) (I : All P w K mg base k) {f : Addr} {fd : FuncData} (F : FunD K "_law_least" "_law_least" (defArgs (top 24)) (defBody (top 24)) (defScope (top 24)) [] [] f fd) :
    FnOk P w K mg base (L2.CX P w) (2 * k + 2) f fd P_law_least (spD K (FF (k + 1)).law_least) :=
  fn_okD (sem := b_law_least (FF k)) F sc_law_least fun cd A outer s H E hr2 tk hp =>
 have hr := hr2.mono (Nat.le_succ _)
 (s_cons (s_unp (e_var 0) (g_tup rfl (gs_cons (g_name 4 sc_law_least.nd) (gs_cons (g_name 5 sc_law_least.nd) (gs_cons (g_name 6 sc_law_least.nd) (gs_cons (g_name 7 sc_law_least.nd) gs_nil))))))
 (s_cons (s_setM (m_mulF 2 4 (.int _) pe_int) sc_law_least.nd)
 (s_cons (s_for hp rfl (i_r1 Fc.m_range (e_len Fc.m_len (e_var 1))) (g_name 9 sc_law_least.nd) (s_cons (s_setM m_nil sc_law_least.nd)
  (s_cons (s_for hp rfl (i_seq (e_fz (e_var 8))) (g_name 11 sc_law_least.nd) (s_one (s_for hp rfl (i_r1 Fc.m_range (e_if (t_in hr (e_var 9) (e_var 3)) e_int e_int)) (g_name 12 sc_law_least.nd) (s_cons (s_set (e_add (e_var 11) (e_mul (e_var 12) (e_var 4))) sc_law_least.nd)
    (s_cons (s_set (e_min2 rfl Fc.m_min (e_var 13) (e_idx hr (e_var 1) (e_var 9) (fun _ _ => rfl))) sc_law_least.nd)
    (s_cons (s_set (e_add (e_add (e_add (e_idx hr (e_var 8) (e_var 11) (fun _ _ => rfl)) (e_mul (e_var 5) (e_var 12))) (e_if (t_gt (e_var 12) e_int) (e_var 6) e_int)) (e_mul (e_var 7) (e_sub (e_idx hr (e_var 1) (e_var 9) (fun _ _ => rfl)) (e_var 14)))) sc_law_least.nd)
    (s_cons (s_set (e_min2 rfl Fc.m_min (e_sub (e_var 13) (e_var 14)) (e_sum rfl Fc.m_sum (e_slice (e_var 1) (p_some (e_add (e_var 9) e_int)) p_none))) sc_law_least.nd)
    (s_one (s_put hr (e_min2 rfl Fc.m_min (e_var 15) (e_get2 hr (e_var 10) (e_var 16) (e_var 15))) (e_var 10) (e_var 16))))))))))
  (s_one (s_set (e_fz (e_var 10)) sc_law_least.nd)))))
 (s_one (s_ret (e_min1 hr rfl Fc.m_min (e_ofF (f_lc rfl sc_law_least.nd (i_seq (e_fz (e_var 8))) (blkOk_by (own := [("uses", 11)]) (by kernel_rfl)) (fun _ _ _ _ _ => (g_name 11 sc_law_least.nd)) (fun _ _ _ _ _ => ts_none) (fun _ _ _ _ _ => (e_idx hr (e_var 8) (e_var 11) (fun _ _ => rfl)))))))))))
theorem ok_law (Fc : Facts K mg) (I : All P w K mg base k) {f : Addr} {fd : FuncData} (F : FunD K "law" "law" (defArgs (top 25)) (defBody (top 25)) (defScope (top 25)) [] [] f fd) :
    FnOk P w K mg base (L2.CX P w) (2 * k + 2) f fd P_law (spD K (FF (k + 1)).law) :=
  fn_okD (sem := b_law (FF k)) F sc_law fun cd A outer s H E hr2 tk hp =>
 have hr := hr2.mono (Nat.le_succ _)
 (s_cons (s_setC (f_lst (a_cons (e_cl I.law_numbers hr tk (a_cons (e_var 0) a_nil)) (a_cons e_int a_nil))) sc_law.nd)
 (s_cons (s_unp (e_cl I.law_supply hr tk (a_cons (e_var 1) (a_cons e_int (a_cons e_int a_nil)))) (g_tup rfl (gs_cons (g_name 2 sc_law.nd) (gs_cons (g_name 3 sc_law.nd) (gs_cons (g_name 4 sc_law.nd) (gs_cons (g_name 5 sc_law.nd) gs_nil))))))
 (s_cons (s_set (e_cl (Df.cut I.best_order) hr tk (a_cons (e_var 2) (a_cons (e_var 3) (a_cons (e_var 4) (a_cons (e_var 5) a_nil))))) sc_law.nd)
 (s_cons (s_if (PW.pt (t_or (t_not (t_truth (e_istuple Fc.m_isinstance Fc.m_tuple (e_var 6)))) (t_or (t_ne hr (e_len Fc.m_len (e_var 6)) e_int) (t_or (t_not (t_truth (e_islist Fc.m_isinstance Fc.m_list (e_idx hr (e_var 6) e_int (fun _ _ => rfl))))) (t_or1 (t_ne hr (e_len Fc.m_len (e_idx hr (e_var 6) e_int (fun _ _ => rfl))) (e_len Fc.m_len (e_var 5)))))))) (s_one (s_ret e_bl)) s_nil)
 (s_cons (s_unp (e_var 6) (g_tup rfl (gs_cons (g_name 7 sc_law.nd) (gs_cons (g_name 8 sc_law.nd) gs_nil))))
 (s_cons (s_if (t_not (t_truth (e_cl I.law_equal hr tk (a_cons (e_var 7) (a_cons (e_cl I.law_least hr tk (a_cons (e_var 2) (a_cons (e_var 3) (a_cons (e_var 4) (a_cons (e_var 5) a_nil))))) a_nil))))) (s_one (s_ret e_bl)) s_nil)
 (s_cons (s_if (t_not (t_truth (e_cl I.law_equal hr tk (a_cons (e_idx hr (e_cl I.law_cost hr tk (a_cons (e_var 2) (a_cons (e_var 3) (a_cons (e_var 4) (a_cons (e_var 5) (a_cons (e_var 8) a_nil)))))) e_int (fun _ _ => rfl)) (a_cons (e_var 7) a_nil))))) (s_one (s_ret e_bl)) s_nil)
 (s_cons (s_for hp rfl (i_r1 Fc.m_range (e_len Fc.m_len (e_var 8))) (g_name 9 sc_law.nd) (s_one (s_for hp rfl (i_r1 Fc.m_range e_int) (g_name 10 sc_law.nd) (s_cons (s_set (e_ofF (f_add (e_ofF (f_add (e_slice (e_var 8) p_none (p_some (e_var 9))) (e_ofF (f_lst (a_cons (e_var 10) a_nil))))) (e_slice (e_var 8) (p_some (e_add (e_var 9) e_int)) p_none))) sc_law.nd)
   (s_cons (s_set (e_idx hr (e_cl I.law_cost hr tk (a_cons (e_var 2) (a_cons (e_var 3) (a_cons (e_var 4) (a_cons (e_var 5) (a_cons (e_var 11) a_nil)))))) e_int (fun _ _ => rfl)) sc_law.nd)
   (s_one (s_if (PW.pt (t_or (t_ltD hr (e_var 12) (e_var 7)) (t_or1 (PW.pt (t_and (t_eq hr (e_var 12) (e_var 7)) (t_and1 (t_ltD hr (e_var 11) (e_var 8)))))))) (s_one (s_ret e_bl)) s_nil)))))))
 (s_cons (s_lcF (i := 13) rfl sc_law.nd rfl rfl (sw_true rfl rfl rfl (by decide +kernel)) (i_seq (e_var 5)) (blkOk_by (own := [("day", 14)]) (by kernel_rfl)) (fun _ _ _ _ _ => (g_name 14 sc_law.nd)) (fun _ _ _ _ _ => ts_none) (fun _ _ _ _ _ => (e_mod (e_cl I.law_draw hr takesF (a_cons (e_var 1) a_nil)) e_int)))
 (s_one (s_ret (e_cl I.law_equal hr tk (a_cons (e_cl I.order_cost hr tk (a_cons (e_var 2) (a_cons (e_var 3) (a_cons (e_var 4) (a_cons (e_var 5) (a_cons (e_var 13) a_nil)))))) (a_cons (e_cl I.law_cost hr tk (a_cons (e_var 2) (a_cons (e_var 3) (a_cons (e_var 4) (a_cons (e_var 5) (a_cons (e_var 13) a_nil)))))) a_nil))))))))))))))
theorem all_ok (Fc : Facts K mg) : ∀ k, All P w K mg base k
  | 0 => ⟨df_bad Fc.d_is_number, df_bad Fc.d_check_number, df_bad Fc.d_is_rising, df_bad Fc.d_check_plays, df_bad Fc.d_check_supply, df_bad Fc.d_cost_of, df_bad Fc.d_order_cost, di_bad Fc.d_Orders_init _, dm_bad Fc.d_Orders_paid _, dm_bad Fc.d_Orders_behind _, dm_bad Fc.d_Orders_least _, dm_bad Fc.d_Orders_first _, df_bad Fc.d_best_order, df_bad Fc.d_law_mixed, df_bad Fc.d_law_numbers, df_bad Fc.d_law_draw, df_bad Fc.d_law_equal, df_bad Fc.d_law_all_equal, df_bad Fc.d_law_supply, df_bad Fc.d_law_cost, df_bad Fc.d_law_least, df_bad Fc.d_law⟩
  | k + 1 => have I := all_ok Fc k; ⟨df_of Fc.d_is_number fun F => ok_is_number Fc I F, df_of Fc.d_check_number fun F => ok_check_number Fc I F, df_of Fc.d_is_rising fun F => ok_is_rising Fc I F, df_of Fc.d_check_plays fun F => ok_check_plays Fc I F, df_of Fc.d_check_supply fun F => ok_check_supply Fc I F, df_of Fc.d_cost_of fun F => ok_cost_of Fc I F, df_of Fc.d_order_cost fun F => ok_order_cost Fc I F, di_of Fc.d_Orders_init fun F => ok_Orders_init Fc I F, dm_of Fc.d_Orders_paid fun F => ok_Orders_paid Fc I F, dm_of Fc.d_Orders_behind fun F => ok_Orders_behind Fc I F, dm_of Fc.d_Orders_least fun F => ok_Orders_least Fc I F, dm_of Fc.d_Orders_first fun F => ok_Orders_first Fc I F, df_of Fc.d_best_order fun F => ok_best_order Fc I F, df_of Fc.d_law_mixed fun F => ok_law_mixed Fc I F, df_of Fc.d_law_numbers fun F => ok_law_numbers Fc I F, df_of Fc.d_law_draw fun F => ok_law_draw Fc I F, df_of Fc.d_law_equal fun F => ok_law_equal Fc I F, df_of Fc.d_law_all_equal fun F => ok_law_all_equal Fc I F, df_of Fc.d_law_supply fun F => ok_law_supply Fc I F, df_of Fc.d_law_cost fun F => ok_law_cost Fc I F, df_of Fc.d_law_least fun F => ok_law_least Fc I F, df_of Fc.d_law fun F => ok_law Fc I F⟩
end
def df (x : Str) (i : Nat) : He.DefD := ⟨(x, none), x, x, defArgs (top i), defBody (top i), defScope (top i), [], []⟩
def dm (C m q : Str) (i j : Nat) : He.DefD := ⟨(C, some m), m, q, defArgs (inClass (top i) j), defBody (inClass (top i) j), defScope (inClass (top i) j), [], []⟩
def fn : List He.DefD := [df "is_number" 4, df "check_number" 5, df "is_rising" 6, df "check_plays" 10, df "check_supply" 11, df "cost_of" 12, df "order_cost" 13, dm "Orders" "__init__" "Orders.__init__" 14 0, dm "Orders" "paid" "Orders.paid" 14 1, dm "Orders" "behind" "Orders.behind" 14 2, dm "Orders" "least" "Orders.least" 14 3, dm "Orders" "first" "Orders.first" 14 4, df "best_order" 15, df "_law_mixed" 17, df "_law_numbers" 18, df "_law_draw" 19, df "_law_equal" 20, df "_law_all_equal" 21, df "_law_supply" 22, df "_law_cost" 23, df "_law_least" 24, df "law" 25]
def fa : List He.Fa := [.glo "is_number", .glo "check_number", .glo "is_rising", .glo "check_plays", .glo "check_supply", .glo "cost_of", .glo "order_cost", .mkr "Orders", .meth "Orders" "paid", .meth "Orders" "behind", .meth "Orders" "least", .meth "Orders" "first", .glo "best_order", .glo "_law_mixed", .glo "_law_numbers", .glo "_law_draw", .glo "_law_equal", .glo "_law_all_equal", .glo "_law_supply", .glo "_law_cost", .glo "_law_least", .glo "law", .free "bool", .free "int", .free "isinstance", .free "len", .free "list", .free "min", .free "range", .free "str", .free "sum", .free "tuple", .int "MOST_ARRIVALS" 10, .int "MOST_DAYS" 30, .cls "Orders", .glo "Orders", .noat "Orders" "arrivals", .noat "Orders" "fee", .noat "Orders" "known", .noat "Orders" "lasts", .noat "Orders" "loss", .noat "Orders" "plays", .noat "Orders" "price", .glo "BadArgument", .exc "BadArgument"]
abbrev RowL : PySem.W.OpenRow := PySem.W.OpenLaw.row PySem.Challenge.rw_everywayout_k54_orders_of_many_days
abbrev hk : PySem.W.Hook := He.hookD 4 fa fn
def ob (s : PySem.W.SharedT) : He.AlD := He.obsDG 4 fa fn (HandSHeadRun.getT s)
theorem ob_eq (s : PySem.W.SharedT) : ob s = hk.obs s.abs := He.obsDG_eq (HandSHeadRun.getT_eq s)
def loose : List PySem.Str := (["is_number", "check_number", "is_rising", "check_plays", "check_supply", "cost_of", "order_cost", "best_order", "_law_mixed", "_law_numbers", "_law_draw", "_law_equal", "_law_all_equal", "_law_supply", "_law_cost", "_law_least", "WayError", "BadArgument", "Orders", "MOST_DAYS", "MOST_ARRIVALS"] : List PySem.Str)
theorem run (w : World) : HandSHeadRun.RunEq RowL (PySem.W.view RowL.prog [25]) hk ob 2000 loose w := by
  intro os
  kernel_rfl
theorem mkFacts {K : PySem.W.Frag} {h : Heap} {mg : Str → Option Value} (X : K.In h) (G : h.Ns mainGlobals mg) (c : He.SaysD fa fn K) : Facts K mg :=
  ⟨He.free_ok X G (c.fact 22 (f := .free "bool") rfl),
   He.free_ok X G (c.fact 23 (f := .free "int") rfl),
   He.free_ok X G (c.fact 24 (f := .free "isinstance") rfl),
   He.free_ok X G (c.fact 25 (f := .free "len") rfl),
   He.free_ok X G (c.fact 26 (f := .free "list") rfl),
   He.free_ok X G (c.fact 27 (f := .free "min") rfl),
   He.free_ok X G (c.fact 28 (f := .free "range") rfl),
   He.free_ok X G (c.fact 29 (f := .free "str") rfl),
   He.free_ok X G (c.fact 30 (f := .free "sum") rfl),
   He.free_ok X G (c.fact 31 (f := .free "tuple") rfl),
   He.int_ok X G (c.fact 32 (f := .int "MOST_ARRIVALS" 10) rfl),
   He.int_ok X G (c.fact 33 (f := .int "MOST_DAYS" 30) rfl),
   He.cls_ok (c.fact 34 (f := .cls "Orders") rfl),
   He.glo_ok X G (c.fact 35 (f := .glo "Orders") rfl),
   He.noat_ok (c.fact 36 (f := .noat "Orders" "arrivals") rfl),
   He.noat_ok (c.fact 37 (f := .noat "Orders" "fee") rfl),
   He.noat_ok (c.fact 38 (f := .noat "Orders" "known") rfl),
   He.noat_ok (c.fact 39 (f := .noat "Orders" "lasts") rfl),
   He.noat_ok (c.fact 40 (f := .noat "Orders" "loss") rfl),
   He.noat_ok (c.fact 41 (f := .noat "Orders" "plays") rfl),
   He.noat_ok (c.fact 42 (f := .noat "Orders" "price") rfl),
   xc_of (He.glo_ok X G (c.fact 43 (f := .glo "BadArgument") rfl)) (He.exc_ok (c.fact 44 (f := .exc "BadArgument") rfl)),
   (by obtain ⟨fd, F⟩ := c.def_ 0 (d := df "is_number" 4) rfl; exact ⟨_, fd, F, He.glo_ok X G (c.fact 0 (f := .glo "is_number") rfl), F.bindsN fun _ _ _ _ _ _ us hl => match us, hl with | [_, _, _], _ => rfl⟩),
   (by obtain ⟨fd, F⟩ := c.def_ 1 (d := df "check_number" 5) rfl; exact ⟨_, fd, F, He.glo_ok X G (c.fact 1 (f := .glo "check_number") rfl), F.bindsN fun _ _ _ _ _ _ us hl => match us, hl with | [_, _, _], _ => rfl⟩),
   (by obtain ⟨fd, F⟩ := c.def_ 2 (d := df "is_rising" 6) rfl; exact ⟨_, fd, F, He.glo_ok X G (c.fact 2 (f := .glo "is_rising") rfl), F.bindsN fun _ _ _ _ _ _ us hl => match us, hl with | [_, _, _], _ => rfl⟩),
   (by obtain ⟨fd, F⟩ := c.def_ 3 (d := df "check_plays" 10) rfl; exact ⟨_, fd, F, He.glo_ok X G (c.fact 3 (f := .glo "check_plays") rfl), F.bindsN fun _ _ _ _ _ _ us hl => match us, hl with | [_], _ => rfl⟩),
   (by obtain ⟨fd, F⟩ := c.def_ 4 (d := df "check_supply" 11) rfl; exact ⟨_, fd, F, He.glo_ok X G (c.fact 4 (f := .glo "check_supply") rfl), F.bindsN fun _ _ _ _ _ _ us hl => match us, hl with | [_, _, _, _], _ => rfl⟩),
   (by obtain ⟨fd, F⟩ := c.def_ 5 (d := df "cost_of" 12) rfl; exact ⟨_, fd, F, He.glo_ok X G (c.fact 5 (f := .glo "cost_of") rfl), F.bindsN fun _ _ _ _ _ _ us hl => match us, hl with | [_, _, _, _, _], _ => rfl⟩),
   (by obtain ⟨fd, F⟩ := c.def_ 6 (d := df "order_cost" 13) rfl; exact ⟨_, fd, F, He.glo_ok X G (c.fact 6 (f := .glo "order_cost") rfl), F.bindsN fun _ _ _ _ _ _ us hl => match us, hl with | [_, _, _, _, _], _ => rfl⟩),
   (by obtain ⟨fd, F⟩ := c.def_ 7 (d := (dm "Orders" "__init__" "Orders.__init__" 14 0)) rfl; exact ⟨_, fd, F, He.mkr_ok (c.fact 7 (f := .mkr "Orders") rfl), F.bindsN fun _ _ _ _ _ _ us hl => match us, hl with | [_, _, _, _], _ => rfl⟩),
   (by obtain ⟨fd, F⟩ := c.def_ 8 (d := (dm "Orders" "paid" "Orders.paid" 14 1)) rfl; exact ⟨_, fd, F, He.meth_ok (c.fact 8 (f := .meth "Orders" "paid") rfl), F.bindsN fun _ _ _ _ _ _ us hl => match us, hl with | [_, _], _ => rfl⟩),
   (by obtain ⟨fd, F⟩ := c.def_ 9 (d := (dm "Orders" "behind" "Orders.behind" 14 2)) rfl; exact ⟨_, fd, F, He.meth_ok (c.fact 9 (f := .meth "Orders" "behind") rfl), F.bindsN fun _ _ _ _ _ _ us hl => match us, hl with | [_, _, _], _ => rfl⟩),
   (by obtain ⟨fd, F⟩ := c.def_ 10 (d := (dm "Orders" "least" "Orders.least" 14 3)) rfl; exact ⟨_, fd, F, He.meth_ok (c.fact 10 (f := .meth "Orders" "least") rfl), F.bindsN fun _ _ _ _ _ _ us hl => match us, hl with | [_, _, _], _ => rfl⟩),
   (by obtain ⟨fd, F⟩ := c.def_ 11 (d := (dm "Orders" "first" "Orders.first" 14 4)) rfl; exact ⟨_, fd, F, He.meth_ok (c.fact 11 (f := .meth "Orders" "first") rfl), F.bindsN fun _ _ _ _ _ _ us hl => match us, hl with | [_, _], _ => rfl⟩),
   (by obtain ⟨fd, F⟩ := c.def_ 12 (d := df "best_order" 15) rfl; exact ⟨_, fd, F, He.glo_ok X G (c.fact 12 (f := .glo "best_order") rfl), F.bindsN fun _ _ _ _ _ _ us hl => match us, hl with | [_, _, _, _], _ => rfl⟩),
   (by obtain ⟨fd, F⟩ := c.def_ 13 (d := df "_law_mixed" 17) rfl; exact ⟨_, fd, F, He.glo_ok X G (c.fact 13 (f := .glo "_law_mixed") rfl), F.bindsN fun _ _ _ _ _ _ us hl => match us, hl with | [_, _], _ => rfl⟩),
   (by obtain ⟨fd, F⟩ := c.def_ 14 (d := df "_law_numbers" 18) rfl; exact ⟨_, fd, F, He.glo_ok X G (c.fact 14 (f := .glo "_law_numbers") rfl), F.bindsN fun _ _ _ _ _ _ us hl => match us, hl with | [_], _ => rfl⟩),
   (by obtain ⟨fd, F⟩ := c.def_ 15 (d := df "_law_draw" 19) rfl; exact ⟨_, fd, F, He.glo_ok X G (c.fact 15 (f := .glo "_law_draw") rfl), F.bindsN fun _ _ _ _ _ _ us hl => match us, hl with | [_], _ => rfl⟩),
   (by obtain ⟨fd, F⟩ := c.def_ 16 (d := df "_law_equal" 20) rfl; exact ⟨_, fd, F, He.glo_ok X G (c.fact 16 (f := .glo "_law_equal") rfl), F.bindsN fun _ _ _ _ _ _ us hl => match us, hl with | [_, _], _ => rfl⟩),
   (by obtain ⟨fd, F⟩ := c.def_ 17 (d := df "_law_all_equal" 21) rfl; exact ⟨_, fd, F, He.glo_ok X G (c.fact 17 (f := .glo "_law_all_equal") rfl), F.bindsN fun _ _ _ _ _ _ us hl => match us, hl with | [_, _], _ => rfl⟩),
   (by obtain ⟨fd, F⟩ := c.def_ 18 (d := df "_law_supply" 22) rfl; exact ⟨_, fd, F, He.glo_ok X G (c.fact 18 (f := .glo "_law_supply") rfl), F.bindsN fun _ _ _ _ _ _ us hl => match us, hl with | [_, _, _], _ => rfl⟩),
   (by obtain ⟨fd, F⟩ := c.def_ 19 (d := df "_law_cost" 23) rfl; exact ⟨_, fd, F, He.glo_ok X G (c.fact 19 (f := .glo "_law_cost") rfl), F.bindsN fun _ _ _ _ _ _ us hl => match us, hl with | [_, _, _, _, _], _ => rfl⟩),
   (by obtain ⟨fd, F⟩ := c.def_ 20 (d := df "_law_least" 24) rfl; exact ⟨_, fd, F, He.glo_ok X G (c.fact 20 (f := .glo "_law_least") rfl), F.bindsN fun _ _ _ _ _ _ us hl => match us, hl with | [_, _, _, _], _ => rfl⟩),
   (by obtain ⟨fd, F⟩ := c.def_ 21 (d := df "law" 25) rfl; exact ⟨_, fd, F, He.glo_ok X G (c.fact 21 (f := .glo "law") rfl), F.bindsN fun _ _ _ _ _ _ us hl => match us, hl with | [_], _ => rfl⟩)⟩
end LW

namespace LW
open PySem PySem.Spec PyProof.Rows L2 PD
theorem ends {P : Program} {w : World} {K : PySem.W.Frag} {h : Heap} {mg : Str → Option Value} {f : Addr} (X : K.In h) (G : h.Ns mainGlobals mg) (hfa : mg ("law" : Str) = some (.ref f)) (c : He.SaysD fa fn K) :
    ∃ fd : FuncData, (∀ (s : Shared) (v : Value), BindsTo s fd ⟨[v], []⟩ [("script", v)]) ∧ ∀ base : Heap, K.In base → base.Ns mainGlobals mg → FnOk P w K mg base (L2.CX P w) (2 * 100) f fd ["script"] (spD K (FF 100).law) := by
  obtain ⟨fd, F⟩ := c.def_ 21 (d := df "law" 25) rfl
  have e := hfa.symm.trans (He.glo_ok X G (c.fact 21 (f := .glo "law") rfl))
  cases e
  have b := FunD.bindsA (ps := ["script"]) F fun _ _ _ _ _ _ us hl => match us, hl with | [_], _ => rfl
  have Fc := mkFacts X G c
  exact ⟨fd, fun s v => b s [v] rfl, fun base _ _ => ok_law Fc (all_ok Fc 99) F⟩
end LW


namespace LW
open PySem PD
open L2 (atI)
theorem f_mixed (k : Nat) : MixF (FF (k + 1)).law_mixed := fun a b mem => mixed_ok a b mem
theorem f_draw (k : Nat) : DrawF (FF (k + 2)).law_draw := fun _ h => draw_q (m := (FF (k + 1)).law_mixed) (f_mixed k) h
theorem f_num (k : Nat) (n a b : Int) (mem : List Cell) : (FF (k + 1)).is_number [.d (.int n), .d (.int a), .d (.int b)] mem = .ok (.d (.bool (decide (a ≤ n) && decide (n ≤ b)))) mem := isNumber_i rfl n a b mem
theorem f_numD (k : Nat) (x : D) (hx : ∀ ds, x ≠ .dict ds) (a b : Int) (mem : List Cell) : (FF (k + 1)).is_number [.d x, .d (.int a), .d (.int b)] mem = .ok (.d (.bool (isNum x a b))) mem := isNumber_ok x hx a b mem
theorem f_equal (k n : Nat) (d : D) (h : fit k d = true) (mem : List Cell) : (FF (n + 2 * k + 1)).law_equal [.d d, .d d] mem = .ok (.d (.bool true)) mem :=
  equal2_ok (E := fun n => (FF n).law_equal) (A := fun n => (FF n).law_all_equal) (fun _ => rfl) (fun _ => rfl) k n d h mem
def okp (xs : List Int) : Prop := ∀ x ∈ xs, 0 ≤ x ∧ x ≤ 20
theorem number_ok (k : Nat) {n a b : Int} (h1 : a ≤ n) (h2 : n ≤ b) (mem : List Cell) : (FF (k + 2)).check_number [.d (.int n), .d (.int a), .d (.int b)] mem = .ok (.d .none) mem := by
  rw [FF_check_number]
  refine fn_eq rfl ?_
  simp [b_check_number, f_num, *]
theorem plays_ok (k : Nat) (pl : List Int) (hp : okp pl) (h1 : 1 ≤ pl.length) (hl : pl.length ≤ 30) (mem : List Cell) : (FF (k + 2)).check_plays [.d (dI pl)] mem = .ok (.d .none) mem := by
  rw [FF_check_plays]
  refine fn_eq rfl ?_
  have hsz := sizeLine_eq
  have h1' : (1 : Int) ≤ pl.length := by omega
  have hl' : (pl.length : Int) ≤ 30 := by omega
  simp [b_check_plays, h1', hl']
  refine ⟨by omega, ?_⟩
  rw [comp_map (t := fun _ => false) (a := fun x => .int x)]
  · simp
  · intro x hx
    have := hp x hx
    simp [f_num, this]
theorem rising_ok (k : Nat) {T : List Int} {n : Nat} (hp : T.Pairwise (· < ·)) (hr : ∀ x ∈ T, 0 ≤ x ∧ x < n) (hl : T.length ≤ 1000) (mem : List Cell) : (FF (k + 2)).is_rising [.d (dI T), .d (.int 0), .d (.int ((n : Int) - 1))] mem = .ok (.d (.bool true)) mem := by
  rw [FF_is_rising]
  refine fn_eq rfl ?_
  have hsz := sizeLine_eq
  simp [b_is_rising]
  refine ⟨by omega, ?_⟩
  rw [comp_map (f := PyData.int) (t := fun _ => false) (a := PyData.int)]
  · simp
    refine ⟨small_lit (by decide) (by decide), small_lit (by omega) (by omega), by rw [rngD_len]; omega, ?_⟩
    rw [comp_rng (t := fun _ => false) (a := fun i => .int (1 + (i : Int)))]
    · simp
    · intro i hi
      have h1 : i + 1 < T.length := by omega
      have h0 : i < T.length := by omega
      have a0 : atI (T.map PyData.int) (i : Int) = some (.int T[i]) := atI_of (n := i) rfl (by simp [h0])
      have a1 : atI (T.map PyData.int) (1 + (i : Int)) = some (.int T[i + 1]) := atI_of (n := i + 1) (by omega) (by simp [h1])
      have lt := List.pairwise_iff_getElem.mp hp i (i + 1) h0 h1 (by omega)
      have e1 : (1 : Int) + (i : Int) - 1 = (i : Int) := by omega
      have nle : ¬ T[i + 1] ≤ T[i] := by omega
      generalize T[i + 1] = y at *
      generalize T[i] = x at *
      simp [e1, a0, a1, nle]
  · intro x hx
    obtain ⟨x1, x2⟩ := hr x hx
    have x3 : x ≤ (n : Int) - 1 := by omega
    simp [f_num, x1, x3]
end LW

namespace LW
open PySem PD
open L2 (atI)
/-- a supply: how long a piece lasts, its price, the fee of an order, the loss of a play -/
structure Su where
  la : Int
  pr : Int
  fe : Int
  lo : Int
structure Su.ok (s : Su) : Prop where
  la1 : 1 ≤ s.la
  la2 : s.la ≤ 50
  pr0 : 0 ≤ s.pr
  pr1 : s.pr ≤ 1000
  fe0 : 0 ≤ s.fe
  fe1 : s.fe ≤ 1000
  lo0 : 0 ≤ s.lo
  lo1 : s.lo ≤ 1000
def Su.pd (s : Su) (k : Int) : Int := s.pr * k + if 0 < k then s.fe else 0
def stp (s : Su) (f : Int → Int) (p w : Int) : Int := s.lo * (p - min w p) + f (w - min w p)
def k10 : List Int := (List.range 10).map fun (i : Nat) => (i : Int)
def ks (b : Bool) : List Int := if b then k10 else [0]
def mnL : List Int → Int
  | [] => 0
  | x :: xs => xs.foldl min x
def Fm (s : Su) (ar : List Int) : List Int → Nat → Int → Int
  | [], _, _ => 0
  | p :: ds, d, u => mnL ((ks (decide ((d : Int) ∈ ar))).map fun k => s.pd k + stp s (Fm s ar ds (d + 1)) p (u + k * s.la))
theorem k10_mem {k : Int} : k ∈ k10 ↔ 0 ≤ k ∧ k < 10 := by
  unfold k10
  rw [List.mem_map]
  constructor
  · rintro ⟨i, hi, rfl⟩
    have := List.mem_range.mp hi
    omega
  · rintro ⟨h0, h1⟩
    exact ⟨k.toNat, List.mem_range.mpr (by omega), by omega⟩
theorem ks_mem {b : Bool} {k : Int} (h : k ∈ ks b) : 0 ≤ k ∧ k < 10 := by
  unfold ks at h
  cases b with
  | true => exact k10_mem.mp h
  | false =>
    have : k = 0 := by simpa using h
    omega
theorem ks_ne (b : Bool) : ks b ≠ [] := by
  cases b <;> decide
theorem mn_fold : ∀ (xs : List Int) (a : Int), (xs.foldl min a ≤ a ∧ ∀ x ∈ xs, xs.foldl min a ≤ x) ∧ (xs.foldl min a = a ∨ xs.foldl min a ∈ xs)
  | [], a => ⟨⟨Int.le_refl _, by simp⟩, .inl rfl⟩
  | y :: xs, a => by
    obtain ⟨⟨h1, h2⟩, h3⟩ := mn_fold xs (min a y)
    rw [List.foldl_cons]
    refine ⟨⟨by omega, fun x hx => ?_⟩, ?_⟩
    · rcases List.mem_cons.mp hx with rfl | hx
      · omega
      · exact h2 x hx
    · rcases h3 with h3 | h3
      · by_cases c : a ≤ y
        · exact .inl (by rw [h3]; omega)
        · exact .inr (by rw [h3]; simp; omega)
      · exact .inr (List.mem_cons_of_mem _ h3)
theorem mn_le {xs : List Int} {x : Int} (h : x ∈ xs) : mnL xs ≤ x := by
  cases xs with
  | nil => cases h
  | cons y xs =>
    obtain ⟨⟨h1, h2⟩, _⟩ := mn_fold xs y
    rcases List.mem_cons.mp h with rfl | h
    · exact h1
    · exact h2 x h
theorem mn_in {xs : List Int} (h : xs ≠ []) : mnL xs ∈ xs := by
  cases xs with
  | nil => exact absurd rfl h
  | cons y xs =>
    obtain ⟨_, h3⟩ := mn_fold xs y
    show xs.foldl min y ∈ y :: xs
    rcases h3 with h3 | h3
    · rw [h3]; simp
    · exact List.mem_cons_of_mem _ h3
theorem Fm_cap {s : Su} (hl : 0 ≤ s.la) {ar : List Int} : ∀ (ds : List Int) (d : Nat) (u : Int), (∀ p ∈ ds, 0 ≤ p) → 0 ≤ u → Fm s ar ds d u = Fm s ar ds d (min u ds.sum)
  | [], _, _, _, _ => rfl
  | p :: ds, d, u, hp, hu => by
    have hp0 := hp p (by simp)
    have hds : ∀ q ∈ ds, 0 ≤ q := fun q hq => hp q (by simp [hq])
    have ih := fun u hu => Fm_cap hl (ar := ar) ds (d + 1) u hds hu
    have hs : 0 ≤ ds.sum := by
      clear ih hp
      induction ds with
      | nil => simp
      | cons q ds ih =>
        have := ih fun x hx => hds x (by simp [hx])
        have := hds q (by simp)
        simp
        omega
    unfold Fm
    congr 1
    refine List.map_congr_left fun k hk => ?_
    obtain ⟨k0, _⟩ := ks_mem hk
    have hm := Int.mul_nonneg k0 hl
    rw [List.sum_cons]
    congr 1
    by_cases c : u ≤ p + ds.sum
    · rw [Int.min_eq_left c]
    · rw [Int.min_eq_right (by omega : p + ds.sum ≤ u)]
      unfold stp
      generalize k * s.la = kl at *
      have e1 : min (u + kl) p = p := by omega
      have e2 : min (p + ds.sum + kl) p = p := by omega
      rw [e1, e2, ih (u + kl - p) (by omega), ih (p + ds.sum + kl - p) (by omega)]
      congr 2
      omega
/-! ### orders -/
def nA (ar : List Int) : List Int → Nat → Nat
  | [], _ => 0
  | _ :: ds, d => (if (d : Int) ∈ ar then 1 else 0) + nA ar ds (d + 1)
def cst (s : Su) (ar : List Int) : List Int → Nat → Int → List Int → Int
  | [], _, _, _ => 0
  | p :: ds, d, u, o => if (d : Int) ∈ ar then s.pd (o.headD 0) + stp s (fun w => cst s ar ds (d + 1) w o.tail) p (u + o.headD 0 * s.la) else stp s (fun w => cst s ar ds (d + 1) w o) p u
def fk (s : Su) (ar : List Int) (p : Int) (ds : List Int) (d : Nat) (u : Int) : Int := (k10.find? fun k => decide (s.pd k + stp s (Fm s ar ds (d + 1)) p (u + k * s.la) = Fm s ar (p :: ds) d u)).getD 0
def gr (s : Su) (ar : List Int) : List Int → Nat → Int → List Int
  | [], _, _ => []
  | p :: ds, d, u => if (d : Int) ∈ ar then fk s ar p ds d u :: gr s ar ds (d + 1) (u + fk s ar p ds d u * s.la - min (u + fk s ar p ds d u * s.la) p) else gr s ar ds (d + 1) (u - min u p)
def okO (n : Nat) (o : List Int) : Prop := o.length = n ∧ ∀ x ∈ o, 0 ≤ x ∧ x < 10
theorem fk_ok {s : Su} {ar : List Int} {p : Int} {ds : List Int} {d : Nat} {u : Int} (h : (d : Int) ∈ ar) : (0 ≤ fk s ar p ds d u ∧ fk s ar p ds d u < 10) ∧ s.pd (fk s ar p ds d u) + stp s (Fm s ar ds (d + 1)) p (u + fk s ar p ds d u * s.la) = Fm s ar (p :: ds) d u ∧
    ∀ k, 0 ≤ k → k < fk s ar p ds d u → s.pd k + stp s (Fm s ar ds (d + 1)) p (u + k * s.la) ≠ Fm s ar (p :: ds) d u := by
  have ex : ∃ k ∈ k10, s.pd k + stp s (Fm s ar ds (d + 1)) p (u + k * s.la) = Fm s ar (p :: ds) d u := by
    have := mn_in (xs := (ks true).map fun k => s.pd k + stp s (Fm s ar ds (d + 1)) p (u + k * s.la)) (fun z => ks_ne true (List.map_eq_nil_iff.mp z))
    obtain ⟨k, hk, e⟩ := List.mem_map.mp this
    refine ⟨k, hk, ?_⟩
    rw [e]
    unfold Fm
    rw [decide_eq_true h]
  have key : ∀ n : Nat, n ≤ 10 → ∀ P : Int → Bool, (∃ k ∈ ((List.range n).map fun (i : Nat) => (i : Int)), P k = true) → ∃ k : Nat, k < n ∧ (((List.range n).map fun (i : Nat) => (i : Int)).find? P) = some (k : Int) ∧ P k = true ∧ ∀ j : Nat, j < k → P j = false := by
    intro n hn P
    clear ex hn
    induction n with
    | zero => rintro ⟨k, hk, _⟩; simp at hk
    | succ n ih =>
      rintro ⟨k, hk, e⟩
      rw [List.range_succ, List.map_append, List.find?_append]
      by_cases z : ∃ k ∈ ((List.range n).map fun (i : Nat) => (i : Int)), P k = true
      · obtain ⟨k, h1, h2, h3, h4⟩ := ih z
        exact ⟨k, by omega, by rw [h2]; rfl, h3, h4⟩
      · have hno : ∀ j : Nat, j < n → P j = false := fun j hj => by
          cases q : P j with
          | false => rfl
          | true => exact absurd ⟨(j : Int), List.mem_map.mpr ⟨j, List.mem_range.mpr hj, rfl⟩, q⟩ z
        have e0 : (((List.range n).map fun (i : Nat) => (i : Int)).find? P) = none := List.find?_eq_none.mpr fun x hx => by
          obtain ⟨j, hj, rfl⟩ := List.mem_map.mp hx
          simp [hno j (List.mem_range.mp hj)]
        obtain ⟨i, hi, rfl⟩ := List.mem_map.mp hk
        have hi := List.mem_range.mp hi
        have ein : i = n := by
          by_cases q : i < n
          · rw [hno i q] at e; cases e
          · omega
        subst ein
        exact ⟨i, by omega, by rw [e0]; simp [e], e, hno⟩
  obtain ⟨k, h1, h2, h3, h4⟩ := key 10 (Nat.le_refl _) (fun k => decide (s.pd k + stp s (Fm s ar ds (d + 1)) p (u + k * s.la) = Fm s ar (p :: ds) d u)) (by
    obtain ⟨k, hk, e⟩ := ex
    exact ⟨k, hk, by simpa using e⟩)
  have ef : fk s ar p ds d u = (k : Int) := by
    unfold fk k10
    rw [h2]
    rfl
  rw [ef]
  refine ⟨⟨by omega, by omega⟩, by simpa using h3, fun j j0 j1 => ?_⟩
  have := h4 j.toNat (by omega)
  have ej : ((j.toNat : Nat) : Int) = j := by omega
  rw [ej] at this
  simpa using this
theorem stp_mono {s : Su} {f g : Int → Int} {p w : Int} (h : ∀ x, f x ≤ g x) : stp s f p w ≤ stp s g p w := by
  unfold stp
  have := h (w - min w p)
  omega
theorem best_is {s : Su} {ar : List Int} : ∀ (ds : List Int) (d : Nat) (u : Int), (okO (nA ar ds d) (gr s ar ds d u) ∧ cst s ar ds d u (gr s ar ds d u) = Fm s ar ds d u) ∧ ∀ o, okO (nA ar ds d) o → Fm s ar ds d u ≤ cst s ar ds d u o ∧ (cst s ar ds d u o = Fm s ar ds d u → ¬ o < gr s ar ds d u)
  | [], d, u => by
    refine ⟨⟨⟨rfl, by simp [gr]⟩, rfl⟩, fun o ho => ⟨Int.le_refl _, fun _ z => ?_⟩⟩
    simp [gr] at z
  | p :: ds, d, u => by
    by_cases h : (d : Int) ∈ ar
    · obtain ⟨⟨f0, f1⟩, f2, f3⟩ := fk_ok (s := s) (p := p) (ds := ds) (u := u) h
      have eg : gr s ar (p :: ds) d u = fk s ar p ds d u :: gr s ar ds (d + 1) (u + fk s ar p ds d u * s.la - min (u + fk s ar p ds d u * s.la) p) := by
        show (if (d : Int) ∈ ar then _ else _) = _
        rw [if_pos h]
      have en : nA ar (p :: ds) d = nA ar ds (d + 1) + 1 := by
        show (if (d : Int) ∈ ar then 1 else 0) + nA ar ds (d + 1) = _
        rw [if_pos h]
        omega
      have ec : ∀ k o, cst s ar (p :: ds) d u (k :: o) = s.pd k + stp s (fun w => cst s ar ds (d + 1) w o) p (u + k * s.la) := fun k o => by
        show (if (d : Int) ∈ ar then _ else _) = _
        rw [if_pos h]
        rfl
      have eF : ∀ k, 0 ≤ k → k < 10 → Fm s ar (p :: ds) d u ≤ s.pd k + stp s (Fm s ar ds (d + 1)) p (u + k * s.la) := fun k h0 h1 => by
        show mnL _ ≤ _
        refine mn_le (List.mem_map.mpr ⟨k, ?_, rfl⟩)
        rw [decide_eq_true h]
        exact k10_mem.mpr ⟨h0, h1⟩
      obtain ⟨⟨⟨g1, g2⟩, g3⟩, g4⟩ := best_is (s := s) (ar := ar) ds (d + 1) (u + fk s ar p ds d u * s.la - min (u + fk s ar p ds d u * s.la) p)
      rw [eg, en]
      refine ⟨⟨⟨by simp [g1], fun x hx => ?_⟩, ?_⟩, fun o ho => ?_⟩
      · rcases List.mem_cons.mp hx with rfl | hx
        · exact ⟨f0, f1⟩
        · exact g2 x hx
      · rw [ec, ← f2]
        unfold stp
        dsimp only
        rw [g3]
      · obtain ⟨o1, o2⟩ := ho
        cases o with
        | nil => simp at o1
        | cons k o =>
          obtain ⟨k0, k1⟩ := o2 k (by simp)
          have ho : okO (nA ar ds (d + 1)) o := ⟨by simpa using o1, fun x hx => o2 x (by simp [hx])⟩
          obtain ⟨⟨_, _⟩, q4⟩ := best_is (s := s) (ar := ar) ds (d + 1) (u + k * s.la - min (u + k * s.la) p)
          obtain ⟨q5, q6⟩ := q4 o ho
          have hk := eF k k0 k1
          rw [ec]
          have hle : stp s (Fm s ar ds (d + 1)) p (u + k * s.la) ≤ stp s (fun w => cst s ar ds (d + 1) w o) p (u + k * s.la) := by
            unfold stp
            dsimp only
            omega
          refine ⟨by omega, fun e lt => ?_⟩
          have e1 : s.pd k + stp s (Fm s ar ds (d + 1)) p (u + k * s.la) = Fm s ar (p :: ds) d u := by omega
          have hge : ¬ k < fk s ar p ds d u := fun z => f3 k k0 z e1
          rcases List.cons_lt_cons_iff.mp lt with lt | ⟨e2, lt⟩
          · exact hge lt
          · have q7 := (g4 o ho).2
            refine q7 ?_ lt
            rw [← e2]
            have e3 : stp s (Fm s ar ds (d + 1)) p (u + k * s.la) = stp s (fun w => cst s ar ds (d + 1) w o) p (u + k * s.la) := by omega
            unfold stp at e3
            dsimp only at e3
            omega
    · have eg : gr s ar (p :: ds) d u = gr s ar ds (d + 1) (u - min u p) := by
        show (if (d : Int) ∈ ar then _ else _) = _
        rw [if_neg h]
      have en : nA ar (p :: ds) d = nA ar ds (d + 1) := by
        show (if (d : Int) ∈ ar then 1 else 0) + nA ar ds (d + 1) = _
        rw [if_neg h]
        omega
      have ec : ∀ o, cst s ar (p :: ds) d u o = stp s (fun w => cst s ar ds (d + 1) w o) p u := fun o => by
        show (if (d : Int) ∈ ar then _ else _) = _
        rw [if_neg h]
      have eF : Fm s ar (p :: ds) d u = stp s (Fm s ar ds (d + 1)) p u := by
        unfold Fm
        rw [decide_eq_false h]
        show mnL [_] = _
        show s.pd 0 + stp s (Fm s ar ds (d + 1)) p (u + 0 * s.la) = _
        unfold Su.pd
        simp
      obtain ⟨⟨g1, g3⟩, g4⟩ := best_is (s := s) (ar := ar) ds (d + 1) (u - min u p)
      rw [eg, en, eF]
      refine ⟨⟨g1, ?_⟩, fun o ho => ?_⟩
      · rw [ec]
        unfold stp
        dsimp only
        rw [g3]
      · obtain ⟨q5, q6⟩ := g4 o ho
        rw [ec]
        unfold stp
        dsimp only
        exact ⟨by omega, fun e => q6 (by omega)⟩
end LW

namespace LW
open PySem PD
open L2 (atI)
theorem eqv_p2 (a b : Int × Int) : PyData.eqv (p2D a) (p2D b) = decide (a = b) := by
  obtain ⟨a1, a2⟩ := a
  obtain ⟨b1, b2⟩ := b
  simp only [PyData.eqv, PyData.eqvAll, Prod.mk.injEq, Bool.decide_and, Bool.and_true]
  rw [Bool.beq_eq_decide_eq, Bool.beq_eq_decide_eq]
theorem kk_p2 (k : Int × Int) : kkOf (p2D k) = some true := by
  show (if gdK 8 (p2D k) = true then some true else none) = some true
  rw [if_pos (by rfl)]
theorem emb_p2 : Emb (fun p : Int × Int => p2D p) true := ⟨eqv_p2, kk_p2⟩
abbrev Kv := List ((Int × Int) × Int)
def kvD (kv : Kv) : List (D × D) := kvM (fun p : Int × Int => p2D p) PyData.int kv
theorem kv_put {kv : Kv} {k : Int × Int} {v : Int} (h : k ∉ kv.map (·.1)) : putD (kvD kv) (p2D k) (.int v) = kvD (kv ++ [(k, v)]) := by
  have := emb_p2.put (val := PyData.int) kv k v
  rw [ptK_new h] at this
  exact this
theorem kv_look (kv : Kv) (k : Int × Int) : lookD (kvD kv) (p2D k) = (lkK kv k).map .int := emb_p2.look kv k
theorem kv_kk (kv : Kv) (k : Int × Int) : kkOk (kvD kv) (p2D k) = true := emb_p2.ok kv k
theorem kv_len (kv : Kv) : (kvD kv).length = kv.length := kvM_len kv
section
variable {s : Su} {pl ar : List Int} {kv : Kv} {m : List Cell}
def oF (s : Su) (pl ar : List Int) (n : Nat) : List (Str × Dv) := [("lasts", .d (.int s.la)), ("price", .d (.int s.pr)), ("fee", .d (.int s.fe)), ("loss", .d (.int s.lo)), ("plays", .d (dI pl)), ("arrivals", .d (dI ar)), ("known", .c n)]
def OM (s : Su) (pl ar : List Int) (m : List Cell) (kv : Kv) : List Cell := m ++ [.obj "Orders" (oF s pl ar (m.length + 1)), .dct (kvD kv)]
theorem om_0 : (OM s pl ar m kv)[m.length]? = some (.obj "Orders" (oF s pl ar (m.length + 1))) := by simp [OM]
theorem om_1 : (OM s pl ar m kv)[m.length + 1]? = some (.dct (kvD kv)) := by
  unfold OM
  rw [List.getElem?_append_right (by omega)]
  simp
theorem om_set (kv' : Kv) : (OM s pl ar m kv).set (m.length + 1) (.dct (kvD kv')) = OM s pl ar m kv' := by
  unfold OM
  rw [List.set_append_right _ _ (by omega)]
  simp
theorem of_la {n : Nat} : getF "lasts" (oF s pl ar n) = some (.d (.int s.la)) := by rfl
theorem of_pr {n : Nat} : getF "price" (oF s pl ar n) = some (.d (.int s.pr)) := by rfl
theorem of_fe {n : Nat} : getF "fee" (oF s pl ar n) = some (.d (.int s.fe)) := by rfl
theorem of_lo {n : Nat} : getF "loss" (oF s pl ar n) = some (.d (.int s.lo)) := by rfl
theorem of_pl {n : Nat} : getF "plays" (oF s pl ar n) = some (.d (dI pl)) := by rfl
theorem of_ar {n : Nat} : getF "arrivals" (oF s pl ar n) = some (.d (dI ar)) := by rfl
theorem of_kn {n : Nat} : getF "known" (oF s pl ar n) = some (.c n) := by rfl
theorem of_m1 {n : Nat} : getF "least" (oF s pl ar n) = none := by rfl
theorem of_m2 {n : Nat} : getF "paid" (oF s pl ar n) = none := by rfl
theorem of_m3 {n : Nat} : getF "behind" (oF s pl ar n) = none := by rfl
theorem of_m4 {n : Nat} : getF "first" (oF s pl ar n) = none := by rfl
theorem paid_ok (k : Nat) {x : Int} (x0 : 0 ≤ x) (x9 : x ≤ 10) : (FF (k + 1)).Orders_paid [.c m.length, .d (.int x)] (OM s pl ar m kv) = .ok (.d (.int (s.pd x))) (OM s pl ar m kv) := by
  rw [FF_Orders_paid]
  refine fn_eq rfl ?_
  have g0 := om_0 (s := s) (pl := pl) (ar := ar) (m := m) (kv := kv)
  have f1 := of_pr (s := s) (pl := pl) (ar := ar) (n := m.length + 1)
  have f2 := of_fe (s := s) (pl := pl) (ar := ar) (n := m.length + 1)
  unfold Su.pd
  generalize OM s pl ar m kv = M at *
  generalize oF s pl ar (m.length + 1) = of at *
  by_cases c : 0 < x
  · simp [b_Orders_paid, g0, f1, f2, c]
    omega
  · simp [b_Orders_paid, g0, f1, f2, c]
    omega
/-- what stands in known -/
structure Kn (s : Su) (pl ar : List Int) (kv : Kv) : Prop where
  nd : (kv.map (·.1)).Nodup
  rng : ∀ k ∈ kv.map (·.1), (0 ≤ k.1 ∧ k.1 < 30) ∧ 0 ≤ k.2 ∧ k.2 ≤ 600
  ok : ∀ d : Nat, ∀ u v, lkK kv ((d : Int), u) = some v → v = Fm s ar (pl.drop d) d u
def allK : List (Int × Int) := (List.range 30).flatMap fun (a : Nat) => (List.range 601).map fun (b : Nat) => ((a : Int), (b : Int))
theorem allK_len : allK.length ≤ 20000 := by
  unfold allK
  rw [List.length_flatMap]
  simp only [List.length_map, List.length_range]
  decide
theorem Kn.len (h : Kn s pl ar kv) : kv.length ≤ 20000 := by
  have h1 := nodup_le (l := kv.map (·.1)) (m := allK) h.nd fun k hk => by
    obtain ⟨⟨a0, a1⟩, b0, b1⟩ := h.rng k hk
    refine List.mem_flatMap.mpr ⟨k.1.toNat, List.mem_range.mpr (by omega), List.mem_map.mpr ⟨k.2.toNat, List.mem_range.mpr (by omega), ?_⟩⟩
    exact Prod.ext (by show ((k.1.toNat : Nat) : Int) = k.1; omega) (by show ((k.2.toNat : Nat) : Int) = k.2; omega)
  rw [List.length_map] at h1
  have := allK_len
  omega
theorem Kn.put (h : Kn s pl ar kv) {d : Nat} {u : Int} (hd : d < 30) (u0 : 0 ≤ u) (u1 : u ≤ 600) (hn : ((d : Int), u) ∉ kv.map (·.1)) : Kn s pl ar (kv ++ [(((d : Int), u), Fm s ar (pl.drop d) d u)]) := by
  obtain ⟨h1, h2, h3⟩ := h
  refine ⟨?_, fun k hk => ?_, fun d' u' v e => ?_⟩
  · rw [List.map_append, List.nodup_append]
    exact ⟨h1, by simp, fun a ha b hb e => hn (by simp at hb; rw [← hb, ← e]; exact ha)⟩
  · rw [List.map_append, List.mem_append] at hk
    rcases hk with hk | hk
    · exact h2 k hk
    · simp at hk
      subst hk
      exact ⟨⟨by show (0 : Int) ≤ d; omega, by show (d : Int) < 30; omega⟩, u0, u1⟩
  · have := lkK_put (l := kv) (k := ((d : Int), u)) (k2 := ((d' : Int), u')) (v := Fm s ar (pl.drop d) d u)
    rw [ptK_new hn] at this
    rw [this] at e
    by_cases c : ((d' : Int), u') = ((d : Int), u)
    · rw [if_pos c] at e
      cases e
      have e1 : d' = d := by have := congrArg Prod.fst c; dsimp only at this; omega
      have e2 : u' = u := congrArg Prod.snd c
      rw [e1, e2]
    · rw [if_neg c] at e
      exact h3 d' u' v e
end
end LW

namespace LW
open PySem PD
open L2 (atI)
section
variable {s : Su} {pl ar : List Int} {kv : Kv} {m : List Cell}
theorem wp_ex {S α : Type} {r : R S α} {Q : α → S → Prop} (h : wp r Q (fun _ _ => False)) : ∃ v m, r = .ok v m ∧ Q v m := by
  cases r with
  | ok a s => exact ⟨a, s, rfl, h⟩
  | exc c s => exact h.elim
  | bad => exact h.elim
structure Pl (s : Su) (pl ar : List Int) : Prop where
  so : s.ok
  p : okp pl
  l1 : 1 ≤ pl.length
  l30 : pl.length ≤ 30
  al : ar.length ≤ 10
  ap : ar.Pairwise (· < ·)
  ai : ∀ x ∈ ar, 0 ≤ x ∧ x < pl.length
theorem sum_le : ∀ {xs : List Int}, okp xs → 0 ≤ xs.sum ∧ xs.sum ≤ 20 * xs.length
  | [], _ => by simp
  | x :: xs, h => by
    have := sum_le (xs := xs) fun y hy => h y (by simp [hy])
    have := h x (by simp)
    rw [List.sum_cons, List.length_cons]
    omega
def LeastAt (s : Su) (pl ar : List Int) (m : List Cell) (q K : Nat) : Prop := ∀ (day : Nat) (u : Int) (kv : Kv), day + q = pl.length → 0 ≤ u → u ≤ 100000 → Kn s pl ar kv → ∃ kv', Kn s pl ar kv' ∧
  (FF K).Orders_least [.c m.length, .d (.int day), .d (.int u)] (OM s pl ar m kv) = .ok (.d (.int (Fm s ar (pl.drop day) day u))) (OM s pl ar m kv')
theorem behind_ok (h : Pl s pl ar) {q K : Nat} (ih : LeastAt s pl ar m q K) {day : Nat} {w : Int} (hd : day + (q + 1) = pl.length) (w0 : 0 ≤ w) (w1 : w ≤ 100000) (kn : Kn s pl ar kv) : ∃ kv', Kn s pl ar kv' ∧
    (FF (K + 1)).Orders_behind [.c m.length, .d (.int day), .d (.int w)] (OM s pl ar m kv) = .ok (.d (.int (stp s (Fm s ar (pl.drop (day + 1)) (day + 1)) (pl.getD day 0) w))) (OM s pl ar m kv') := by
  have hdl : day < pl.length := by omega
  have pd := h.p pl[day] (List.getElem_mem hdl)
  have gd : pl.getD day 0 = pl[day] := by rw [List.getD_eq_getElem?_getD, List.getElem?_eq_getElem hdl]; rfl
  obtain ⟨kv', k1, k2⟩ := ih (day + 1) (w - min w pl[day]) kv (by omega) (by omega) (by omega) kn
  refine ⟨kv', k1, ?_⟩
  rw [FF_Orders_behind]
  refine fn_eq rfl ?_
  have g0 := om_0 (s := s) (pl := pl) (ar := ar) (m := m) (kv := kv)
  have f1 := of_pl (s := s) (pl := pl) (ar := ar) (n := m.length + 1)
  have f2 := of_lo (s := s) (pl := pl) (ar := ar) (n := m.length + 1)
  have f3 := of_m1 (s := s) (pl := pl) (ar := ar) (n := m.length + 1)
  have ga : atI (pl.map PyData.int) (day : Int) = some (.int pl[day]) := atI_of (n := day) rfl (by rw [List.getElem?_map, List.getElem?_eq_getElem hdl]; rfl)
  have e1 : ((day + 1 : Nat) : Int) = (day : Int) + 1 := by omega
  have so := h.so
  have l1 := so.lo1
  have l0 := so.lo0
  rw [e1] at k2
  unfold stp
  rw [gd]
  have edi : dI pl = .list (pl.map .int) := rfl
  rw [edi] at f1
  clear edi
  have em : (if w < pl[day] then w else pl[day]) = min w pl[day] := by
    split <;> omega
  have em2 : (if pl[day] < w then pl[day] else w) = min w pl[day] := by
    split <;> omega
  generalize OM s pl ar m kv = M at *
  generalize OM s pl ar m kv' = M' at *
  generalize oF s pl ar (m.length + 1) = of at *
  generalize Fm s ar (pl.drop (day + 1)) (day + 1) = F at *
  generalize pl[day] = p at *
  generalize pl.map PyData.int = pd2 at *
  simp [b_Orders_behind, g0, f1, f2, f3, ga]
  rw [em2]
  refine ⟨by omega, ?_⟩
  rw [k2]
  simp
def vL (s : Su) (ar : List Int) (pl : List Int) (day : Nat) (u : Int) (i : Nat) : Int := s.pd (i : Int) + stp s (Fm s ar (pl.drop (day + 1)) (day + 1)) (pl.getD day 0) (u + (i : Int) * s.la)
theorem ptK_keys {κ ν : Type} [DecidableEq κ] (l : List (κ × ν)) (k : κ) (v : ν) : (ptK l k v).map (·.1) = if k ∈ l.map (·.1) then l.map (·.1) else l.map (·.1) ++ [k] := by
  unfold ptK
  split
  · rw [List.map_map]
    refine List.map_congr_left fun p _ => ?_
    show (if p.1 = k then (p.1, v) else p).1 = p.1
    split <;> rfl
  · simp
theorem Kn.put2 (h : Kn s pl ar kv) {d : Nat} {u : Int} (hd : d < 30) (u0 : 0 ≤ u) (u1 : u ≤ 600) : Kn s pl ar (ptK kv ((d : Int), u) (Fm s ar (pl.drop d) d u)) := by
  by_cases hn : ((d : Int), u) ∈ kv.map (·.1)
  · obtain ⟨h1, h2, h3⟩ := h
    refine ⟨by rw [ptK_keys, if_pos hn]; exact h1, by rw [ptK_keys, if_pos hn]; exact h2, fun d' u' v e => ?_⟩
    rw [lkK_put] at e
    by_cases c : ((d' : Int), u') = ((d : Int), u)
    · rw [if_pos c] at e
      cases e
      have e1 : d' = d := by have := congrArg Prod.fst c; dsimp only at this; omega
      have e2 : u' = u := congrArg Prod.snd c
      rw [e1, e2]
    · rw [if_neg c] at e
      exact h3 d' u' v e
  · rw [ptK_new hn]
    exact h.put hd u0 u1 hn
theorem kv_put2 (kv : Kv) (k : Int × Int) (v : Int) : putD (kvD kv) (p2D k) (.int v) = kvD (ptK kv k v) := emb_p2.put (val := PyData.int) kv k v
theorem lt_go (h : Pl s pl ar) {K : Nat} {day : Nat} {u : Int} (hd : day < pl.length) (u0 : 0 ≤ u) (u1 : u ≤ 100000) {Q : Fl → PD.St → Prop} {X : Str → PD.St → Prop}
    (fin : wp (b_Orders_least_2 (FF K) ⟨[.v (.c m.length), .v (.d (.int day)), .v (.d (.int (min u (pl.drop day).sum))), .emp, .emp], OM s pl ar m kv⟩) Q X) :
    wp (b_Orders_least (FF K) ⟨[.v (.c m.length), .v (.d (.int day)), .v (.d (.int u)), .emp, .emp], OM s pl ar m kv⟩) Q X := by
  have hsz := sizeLine_eq
  have g0 := om_0 (s := s) (pl := pl) (ar := ar) (m := m) (kv := kv)
  have f1 := of_pl (s := s) (pl := pl) (ar := ar) (n := m.length + 1)
  have edi : dI pl = .list (pl.map .int) := rfl
  rw [edi] at f1
  have c1 : cutD (pl.map PyData.int) (some (day : Int)) none = (pl.drop day).map PyData.int := by
    rw [cutD_from, ← List.map_drop]
  have l30 := h.l30
  have hl : ¬ (day : Int) = (pl.length : Int) := by omega
  have pll : (pl.map PyData.int).length = pl.length := List.length_map _
  have hsum := sum_le (xs := pl.drop day) fun y hy => h.p y (List.mem_of_mem_drop hy)
  have hdlen : (pl.drop day).length ≤ 30 := by rw [List.length_drop]; omega
  have em2 : (if (pl.drop day).sum < u then (pl.drop day).sum else u) = min u (pl.drop day).sum := by
    split <;> omega
  have esum : dSum (.list ((pl.drop day).map PyData.int)) = some (.int (pl.drop day).sum) := dSum_i
  generalize hOM : OM s pl ar m kv = M at *
  generalize oF s pl ar (m.length + 1) = of at *
  generalize (pl.drop day).map PyData.int = sl at *
  generalize pl.map PyData.int = pd2 at *
  simp [b_Orders_least, g0, f1, pll, hl, b_Orders_least_1, c1, esum]
  rw [em2]
  simpa using fin
def LcI (s : Su) (pl ar : List Int) (m : List Cell) (day : Nat) (u most : Int) (j : Nat) (out : List D) (st : PD.St) : Prop := ∃ kv : Kv, Kn s pl ar kv ∧ out = (List.range j).map (fun i => PyData.int (vL s ar pl day u i)) ∧ st = ⟨[.v (.c m.length), .v (.d (.int day)), .v (.d (.int u)), .v (.d (.int most)), .emp], OM s pl ar m kv⟩
theorem least_ok (h : Pl s pl ar) : ∀ (q k : Nat), LeastAt s pl ar m q (k + 2 * q + 1)
  | 0, k => fun day u kv hd u0 u1 kn => by
    refine ⟨kv, kn, ?_⟩
    have e0 : pl.drop day = [] := List.drop_eq_nil_of_le (by omega)
    rw [e0, FF_Orders_least]
    refine fn_eq rfl ?_
    have g0 := om_0 (s := s) (pl := pl) (ar := ar) (m := m) (kv := kv)
    have f1 := of_pl (s := s) (pl := pl) (ar := ar) (n := m.length + 1)
    have hl : (pl.length : Int) = (day : Int) := by omega
    have hl2 : (day : Int) = (pl.length : Int) := by omega
    generalize OM s pl ar m kv = M at *
    generalize oF s pl ar (m.length + 1) = of at *
    show wp _ (endQ fun x s => x = .d (.int 0) ∧ s = M) _
    simp [b_Orders_least, g0, f1, hl2]
  | q + 1, k => fun day u kv hd u0 u1 kn => by
    have ih := least_ok h q k
    have hdl : day < pl.length := by omega
    have l30 := h.l30
    have so := h.so
    have la0 := so.la1
    have hp : ∀ p ∈ pl.drop day, 0 ≤ p := fun p hp => (h.p p (List.mem_of_mem_drop hp)).1
    have hcap := Fm_cap (s := s) (by omega) (ar := ar) (pl.drop day) day u hp u0
    have hsum := sum_le (xs := pl.drop day) fun y hy => h.p y (List.mem_of_mem_drop hy)
    have hdlen : (pl.drop day).length ≤ 30 := by rw [List.length_drop]; omega
    rw [hcap]
    have hu2 : 0 ≤ min u (pl.drop day).sum ∧ min u (pl.drop day).sum ≤ 600 := by omega
    generalize hu' : min u (pl.drop day).sum = u' at *
    have edr : pl.drop day = pl[day] :: pl.drop (day + 1) := (List.getElem_cons_drop hdl).symm
    have gd : pl.getD day 0 = pl[day] := by rw [List.getD_eq_getElem?_getD, List.getElem?_eq_getElem hdl]; rfl
    have eF : Fm s ar (pl.drop day) day u' = mnL ((ks (decide ((day : Int) ∈ ar))).map fun k => s.pd k + stp s (Fm s ar (pl.drop (day + 1)) (day + 1)) (pl.getD day 0) (u' + k * s.la)) := by
      rw [edr, gd]
      rfl
    have fk1 := of_kn (s := s) (pl := pl) (ar := ar) (n := m.length + 1)
    have ek : PyData.tuple [.int day, .int u'] = p2D ((day : Int), u') := rfl
    by_cases hk : ((day : Int), u') ∈ kv.map (·.1)
    · refine ⟨kv, kn, ?_⟩
      rw [FF_Orders_least]
      refine fn_eq rfl ?_
      refine lt_go h hdl u0 u1 ?_
      rw [hu']
      have lk : ∃ v, lkK kv ((day : Int), u') = some v := by
        cases z : lkK kv ((day : Int), u') with
        | some v => exact ⟨v, rfl⟩
        | none => exact absurd hk (lkK_none.mp z)
      obtain ⟨v, lk⟩ := lk
      have ev := kn.ok day u' v lk
      have l1 := kv_look kv ((day : Int), u')
      have l2 := kv_kk kv ((day : Int), u')
      rw [lk] at l1
      rw [← ev]
      have g0 := om_0 (s := s) (pl := pl) (ar := ar) (m := m) (kv := kv)
      have g1 := om_1 (s := s) (pl := pl) (ar := ar) (m := m) (kv := kv)
      simp only [Option.map_some] at l1
      generalize OM s pl ar m kv = M at *
      generalize oF s pl ar (m.length + 1) = of at *
      generalize kvD kv = kd at *
      simp [b_Orders_least_2, b_Orders_least_3, g0, g1, fk1, l1, l2]
    · obtain ⟨n, n1, n10, en, ein⟩ : ∃ n : Nat, 1 ≤ n ∧ n ≤ 10 ∧ (if decide ((day : Int) ∈ ar) = true then (10 : Int) else 1) = (n : Int) ∧ ks (decide ((day : Int) ∈ ar)) = (List.range n).map fun (i : Nat) => (i : Int) := by
        cases decide ((day : Int) ∈ ar) with
        | true => exact ⟨10, by decide, by decide, rfl, rfl⟩
        | false => exact ⟨1, by decide, by decide, rfl, rfl⟩
      have eF2 : Fm s ar (pl.drop day) day u' = mnL ((List.range n).map fun i => vL s ar pl day u' i) := by
        rw [eF, ein, List.map_map]
        rfl
      have cstep : wp (comp [4] (.nm 4) tYesS (eAdd (eMeth "Orders" "paid" (FF (k + 2 * q + 2)).Orders_paid (eVar 0) (aCons (eVar 4) aNil)) (eMeth "Orders" "behind" (FF (k + 2 * q + 2)).Orders_behind (eVar 0) (aCons (eVar 1) (aCons (eAdd (eVar 2) (eMul (eVar 4) (eFld "Orders" "lasts" (eVar 0)))) aNil)))) (rngD 0 n) ⟨[.v (.c m.length), .v (.d (.int day)), .v (.d (.int u')), .v (.d (.int n)), .emp], OM s pl ar m kv⟩)
          (fun out st => LcI s pl ar m day u' n n out st) (fun _ _ => False) := by
        refine wp_comp_rng (fun j out st => LcI s pl ar m day u' n j out st) ⟨kv, kn, rfl, rfl⟩ ?_ ?_
        · rintro j out st hj ⟨kv1, kn1, rfl, rfl⟩
          have hm : 0 ≤ (j : Int) * s.la ∧ (j : Int) * s.la ≤ 500 := by
            have h1 := Int.mul_nonneg (show (0 : Int) ≤ j by omega) (show (0 : Int) ≤ s.la by omega)
            have h2 : (j : Int) * s.la ≤ 10 * 50 := Int.mul_le_mul (by omega) so.la2 (by omega) (by omega)
            omega
          obtain ⟨kv2, kn2, hb⟩ := behind_ok h ih (kv := kv1) (w := u' + (j : Int) * s.la) hd (by omega) (by omega) kn1
          have pk := paid_ok (s := s) (pl := pl) (ar := ar) (m := m) (kv := kv1) (k + 2 * q + 1) (x := (j : Int)) (by omega) (by omega)
          have g0 := om_0 (s := s) (pl := pl) (ar := ar) (m := m) (kv := kv1)
          have f1 := of_la (s := s) (pl := pl) (ar := ar) (n := m.length + 1)
          have f2 := of_m2 (s := s) (pl := pl) (ar := ar) (n := m.length + 1)
          have f3 := of_m3 (s := s) (pl := pl) (ar := ar) (n := m.length + 1)
          have fin : LcI s pl ar m day u' n (j + 1) ((List.range j).map (fun i => PyData.int (vL s ar pl day u' i)) ++ [.int (vL s ar pl day u' j)]) ⟨[.v (.c m.length), .v (.d (.int day)), .v (.d (.int u')), .v (.d (.int n)), .emp], OM s pl ar m kv2⟩ := ⟨kv2, kn2, by rw [List.range_succ, List.map_append]; rfl, rfl⟩
          have la2 := so.la2
          have ev : vL s ar pl day u' j = s.pd (j : Int) + stp s (Fm s ar (pl.drop (day + 1)) (day + 1)) (pl.getD day 0) (u' + (j : Int) * s.la) := rfl
          rw [ev] at fin
          have hb : (FF (k + 2 * q + 2)).Orders_behind [.c m.length, .d (.int day), .d (.int (u' + (j : Int) * s.la))] (OM s pl ar m kv1) = .ok (.d (.int (stp s (Fm s ar (pl.drop (day + 1)) (day + 1)) (pl.getD day 0) (u' + (j : Int) * s.la)))) (OM s pl ar m kv2) := hb
          have pk : (FF (k + 2 * q + 2)).Orders_paid [.c m.length, .d (.int j)] (OM s pl ar m kv1) = .ok (.d (.int (s.pd (j : Int)))) (OM s pl ar m kv1) := pk
          generalize stp s (Fm s ar (pl.drop (day + 1)) (day + 1)) (pl.getD day 0) (u' + (j : Int) * s.la) = bv at *
          generalize s.pd (j : Int) = pv at *
          generalize hM1 : OM s pl ar m kv1 = M1 at *
          generalize hM2 : OM s pl ar m kv2 = M2 at *
          generalize oF s pl ar (m.length + 1) = of at *
          generalize (List.range j).map (fun i => PyData.int (vL s ar pl day u' i)) = vo at *
          simp [g0, f1, f2, f3, pk]
          refine ⟨by omega, ?_⟩
          rw [hb]
          simp
          exact fin
        · intro out st z
          exact z
      obtain ⟨out, st, ec, kv2, kn2, rfl, rfl⟩ := wp_ex cstep
      refine ⟨ptK kv2 ((day : Int), u') (Fm s ar (pl.drop day) day u'), kn2.put2 (by omega) hu2.1 hu2.2, ?_⟩
      rw [FF_Orders_least]
      refine fn_eq rfl ?_
      rw [show k + 2 * (q + 1) = k + 2 * q + 2 from by omega]
      refine lt_go h hdl u0 u1 ?_
      rw [hu']
      have hsz := sizeLine_eq
      have lk : lookD (kvD kv) (p2D ((day : Int), u')) = none := by rw [kv_look, lkK_none.mpr hk]; rfl
      have l2 := kv_kk kv ((day : Int), u')
      have g0 := om_0 (s := s) (pl := pl) (ar := ar) (m := m) (kv := kv)
      have g1 := om_1 (s := s) (pl := pl) (ar := ar) (m := m) (kv := kv)
      have h0 := om_0 (s := s) (pl := pl) (ar := ar) (m := m) (kv := kv2)
      have h1 := om_1 (s := s) (pl := pl) (ar := ar) (m := m) (kv := kv2)
      have h2 := kv_kk kv2 ((day : Int), u')
      have hst := om_set (s := s) (pl := pl) (ar := ar) (m := m) (kv := kv2) (ptK kv2 ((day : Int), u') (Fm s ar (pl.drop day) day u'))
      rw [← kv_put2] at hst
      have j0 := om_0 (s := s) (pl := pl) (ar := ar) (m := m) (kv := ptK kv2 ((day : Int), u') (Fm s ar (pl.drop day) day u'))
      have j1 := om_1 (s := s) (pl := pl) (ar := ar) (m := m) (kv := ptK kv2 ((day : Int), u') (Fm s ar (pl.drop day) day u'))
      have jl := kv_look (ptK kv2 ((day : Int), u') (Fm s ar (pl.drop day) day u')) ((day : Int), u')
      rw [lkK_put, if_pos rfl] at jl
      have jk := kv_kk (ptK kv2 ((day : Int), u') (Fm s ar (pl.drop day) day u')) ((day : Int), u')
      have kl2 := kn2.len
      have kd2 := kv_len kv2
      have far := of_ar (s := s) (pl := pl) (ar := ar) (n := m.length + 1)
      obtain ⟨x, xs, exs⟩ : ∃ x xs, (List.range n).map (fun i => vL s ar pl day u' i) = x :: xs := by
        obtain ⟨n', rfl⟩ : ∃ n', n = n' + 1 := ⟨n - 1, by omega⟩
        rw [List.range_succ_eq_map]
        exact ⟨_, _, rfl⟩
      have eout : (List.range n).map (fun i => PyData.int (vL s ar pl day u' i)) = .int x :: xs.map .int := by
        have := congrArg (List.map PyData.int) exs
        rw [List.map_map] at this
        exact this
      have emin : PySem.W.minD (.int x) (xs.map .int) = .int (Fm s ar (pl.drop day) day u') := by
        rw [PySem.W.minD_ints, eF2, exs]
        rfl
      have ook : okOrd (PyData.int x :: xs.map .int) = true := okOrd_ints (x :: xs)
      rw [eout] at ec
      have edi : dI ar = .list (ar.map .int) := rfl
      have din := dIn_i (xs := ar) (x := (day : Int))
      rw [edi] at far
      generalize Fm s ar (pl.drop day) day u' = F at *
      generalize hMM : OM s pl ar m (ptK kv2 ((day : Int), u') F) = M3 at *
      generalize kvD (ptK kv2 ((day : Int), u') F) = kd3 at *
      generalize OM s pl ar m kv2 = M2 at *
      generalize OM s pl ar m kv = M at *
      generalize oF s pl ar (m.length + 1) = of at *
      generalize kvD kv2 = kdd2 at *
      generalize kvD kv = kd at *
      generalize ar.map PyData.int = ard at *
      generalize xs.map PyData.int = xd at *
      by_cases cd : (day : Int) ∈ ar
      · have en : (10 : Int) = (n : Int) := by simpa [cd] using en
        have en : n = 10 := by omega
        subst en
        rw [show ((10 : Nat) : Int) = 10 from rfl] at ec
        simp [b_Orders_least_2, b_Orders_least_3, g0, g1, fk1, lk, l2, far, din, cd]
        refine ⟨small_lit (by decide) (by decide), by rw [rngD_len]; omega, ?_⟩
        rw [ec]
        simp [ook, emin, h0, h1, h2, fk1]
        refine ⟨by omega, ?_⟩
        rw [hst]
        simp [j0, j1, jl, jk, fk1]
      · have en : (1 : Int) = (n : Int) := by simpa [cd] using en
        have en : n = 1 := by omega
        subst en
        rw [show ((1 : Nat) : Int) = 1 from rfl] at ec
        simp [b_Orders_least_2, b_Orders_least_3, g0, g1, fk1, lk, l2, far, din, cd]
        refine ⟨small_lit (by decide) (by decide), by rw [rngD_len]; omega, ?_⟩
        rw [ec]
        simp [ook, emin, h0, h1, h2, fk1]
        refine ⟨by omega, ?_⟩
        rw [hst]
        simp [j0, j1, jl, jk, fk1]
end
end LW

namespace LW
open PySem PD
open L2 (atI)
section
variable {s : Su} {pl ar : List Int} {kv : Kv} {m : List Cell}
abbrev F1 (m : List Cell) (u : Int) (found : List Int) (s3 s4 s5 : PD.Slot) (M : List Cell) : PD.St := ⟨[.v (.c m.length), .v (.d (.int u)), .own (.lst (found.map .int)), s3, s4, s5], M⟩
def FsI (s : Su) (pl ar : List Int) (m : List Cell) (u0 : Int) (j : Nat) (st : PD.St) : Prop := ∃ (kv : Kv) (u : Int) (found : List Int) (s3 s4 s5 : PD.Slot), Kn s pl ar kv ∧ (0 ≤ u ∧ u ≤ 2000 + 500 * j) ∧ found.length ≤ j ∧ found ++ gr s ar (pl.drop j) j u = gr s ar pl 0 u0 ∧ st = F1 m u found s3 s4 s5 (OM s pl ar m kv)
def FwI (s : Su) (pl ar : List Int) (m : List Cell) (u : Int) (found : List Int) (j : Nat) (F fkk : Int) (n : Nat) (st : PD.St) : Prop := ∃ (kv : Kv) (k : Int), Kn s pl ar kv ∧ 0 ≤ k ∧ (n : Int) + k = fkk ∧ st = F1 m u found (.v (.d (.int j))) (.v (.d (.int F))) (.v (.d (.int k))) (OM s pl ar m kv)
theorem first_ok (h : Pl s pl ar) (K : Nat) {u0 : Int} (ua : 0 ≤ u0) (ub : u0 ≤ 2000) (kn : Kn s pl ar kv) : ∃ kv', Kn s pl ar kv' ∧
    (FF (K + 63)).Orders_first [.c m.length, .d (.int u0)] (OM s pl ar m kv) = .ok (.d (.list ((gr s ar pl 0 u0).map .int))) (OM s pl ar m kv') := by
  have hsz := sizeLine_eq
  have l30 := h.l30
  have so := h.so
  have la1 := so.la1
  have la2 := so.la2
  have lat : ∀ q, q ≤ 30 → LeastAt s pl ar m q (K + 62) := fun q hq => by
    have := least_ok (m := m) h q (K + 61 - 2 * q)
    rw [show K + 61 - 2 * q + 2 * q + 1 = K + 62 from by omega] at this
    exact this
  have bat : ∀ q, q ≤ 30 → LeastAt s pl ar m q (K + 61) := fun q hq => by
    have := least_ok (m := m) h q (K + 60 - 2 * q)
    rw [show K + 60 - 2 * q + 2 * q + 1 = K + 61 from by omega] at this
    exact this
  have main : wp (b_Orders_first (FF (K + 62)) ⟨[.v (.c m.length), .v (.d (.int u0)), .emp, .emp, .emp, .emp], OM s pl ar m kv⟩) (endQ fun v M' => v = .d (.list ((gr s ar pl 0 u0).map .int)) ∧ ∃ kv', Kn s pl ar kv' ∧ M' = OM s pl ar m kv') (fun _ _ => False) := by
    have i0 : FsI s pl ar m u0 0 (F1 m u0 [] .emp .emp .emp (OM s pl ar m kv)) := ⟨kv, u0, [], _, _, _, kn, ⟨ua, by omega⟩, by simp, by simp, rfl⟩
    have step : ∀ (j : Nat) (hj : j < pl.length) (st : PD.St) (QQ : Fl → PD.St → Prop) (Z : Str → PD.St → Prop), FsI s pl ar m u0 j st → oq (Bd.put (.nm 3) (.int (0 + (j : Int))) st) fun s1 => wp ((sSeq (sIf (tCmp .inn (eVar 3) (eFld "Orders" "arrivals" (eVar 0))) (sSeq (sSet 4 (eMeth "Orders" "least" (FF (K + 62)).Orders_least (eVar 0) (aCons (eVar 3) (aCons (eVar 1) aNil))))
   (sSeq (sSet 5 (eC (.int 0)))
   (sSeq (sWhile (tCmp .ne (eAdd (eMeth "Orders" "paid" (FF (K + 62)).Orders_paid (eVar 0) (aCons (eVar 5) aNil)) (eMeth "Orders" "behind" (FF (K + 62)).Orders_behind (eVar 0) (aCons (eVar 3) (aCons (eAdd (eVar 1) (eMul (eVar 5) (eFld "Orders" "lasts" (eVar 0)))) aNil)))) (eVar 4)) (sSet 5 (eAdd (eVar 5) (eC (.int 1)))))
   (sSeq (sExpr (eApp (eVar 2) (eVar 5)))
   (sSet 1 (eAdd (eVar 1) (eMul (eVar 5) (eFld "Orders" "lasts" (eVar 0))))))))) sNext)
  (sSet 1 (eSub (eVar 1) (eMin2 (eVar 1) (eIdx (eFld "Orders" "plays" (eVar 0)) (eVar 3)))))) s1) (fun f s1 => turnQ (FsI s pl ar m u0 (j + 1)) QQ f s1) Z := by
      rintro j hj st QQ Z ⟨kv, u, found, s3, s4, s5, kn, ⟨ua, ub⟩, fl, eg, rfl⟩
      have pj := h.p pl[j] (List.getElem_mem hj)
      have edr : pl.drop j = pl[j] :: pl.drop (j + 1) := (List.getElem_cons_drop hj).symm
      have gd : pl.getD j 0 = pl[j] := by rw [List.getD_eq_getElem?_getD, List.getElem?_eq_getElem hj]; rfl
      have ga : atI (pl.map PyData.int) (j : Int) = some (.int pl[j]) := atI_of (n := j) rfl (by rw [List.getElem?_map, List.getElem?_eq_getElem hj]; rfl)
      have ofar := of_ar (s := s) (pl := pl) (ar := ar) (n := m.length + 1)
      have ofpl := of_pl (s := s) (pl := pl) (ar := ar) (n := m.length + 1)
      have ofla := of_la (s := s) (pl := pl) (ar := ar) (n := m.length + 1)
      have om1 := of_m1 (s := s) (pl := pl) (ar := ar) (n := m.length + 1)
      have om2 := of_m2 (s := s) (pl := pl) (ar := ar) (n := m.length + 1)
      have om3 := of_m3 (s := s) (pl := pl) (ar := ar) (n := m.length + 1)
      have edi : dI ar = .list (ar.map .int) := rfl
      have edp : dI pl = .list (pl.map .int) := rfl
      have din := dIn_i (xs := ar) (x := (j : Int))
      rw [edi] at ofar
      rw [edp] at ofpl
      by_cases cd : (j : Int) ∈ ar
      · obtain ⟨⟨f0, f1⟩, f2, f3⟩ := fk_ok (s := s) (p := pl[j]) (ds := pl.drop (j + 1)) (u := u) cd
        rw [← edr] at f2 f3
        generalize hfk : fk s ar pl[j] (pl.drop (j + 1)) j u = fkk at *
        obtain ⟨kv1, kn1, hle⟩ := lat (pl.length - j) (by omega) j u kv (by omega) ua (by omega) kn
        have wI : FwI s pl ar m u found j (Fm s ar (pl.drop j) j u) fkk fkk.toNat (F1 m u found (.v (.d (.int j))) (.v (.d (.int (Fm s ar (pl.drop j) j u)))) (.v (.d (.int 0))) (OM s pl ar m kv1)) := ⟨kv1, 0, kn1, by omega, by omega, rfl⟩
        have g0 := om_0 (s := s) (pl := pl) (ar := ar) (m := m) (kv := kv)
        have hm : 0 ≤ fkk * s.la ∧ fkk * s.la ≤ 450 := by
          have h1 := Int.mul_nonneg f0 (show (0 : Int) ≤ s.la by omega)
          have h2 : fkk * s.la ≤ 9 * 50 := Int.mul_le_mul (by omega) la2 (by omega) (by omega)
          omega
        have fin : ∀ kv2, Kn s pl ar kv2 → FsI s pl ar m u0 (j + 1) (F1 m (u + fkk * s.la - min (u + fkk * s.la) pl[j]) (found ++ [fkk]) (.v (.d (.int j))) (.v (.d (.int (Fm s ar (pl.drop j) j u)))) (.v (.d (.int fkk))) (OM s pl ar m kv2)) := fun kv2 kn2 => by
          refine ⟨kv2, _, found ++ [fkk], _, _, _, kn2, ⟨by omega, by omega⟩, by simp; omega, ?_, rfl⟩
          rw [← eg, edr]
          show _ = found ++ (if (j : Int) ∈ ar then _ else _)
          rw [if_pos cd, hfk]
          simp
        unfold F1 at fin wI ⊢
        generalize hMM : OM s pl ar m kv = M at *
        generalize hof : oF s pl ar (m.length + 1) = of at *
        generalize ar.map PyData.int = ard at *
        simp [g0, ofar, din, cd, om1, hle]
        refine wp_while (fun n st => FwI s pl ar m u found j (Fm s ar (pl.drop j) j u) fkk n st) (n := fkk.toNat) (by unfold whFuel; omega) wI ?_
        rintro n st ⟨kv2, k, kn2, k0, hnk, rfl⟩
        obtain ⟨kv3, kn3, hb⟩ := behind_ok h (bat (pl.length - j - 1) (by omega)) (kv := kv2) (day := j) (w := u + k * s.la) (by omega) (by
          have := Int.mul_nonneg k0 (show (0 : Int) ≤ s.la by omega)
          omega) (by
          have h2 : k * s.la ≤ 9 * 50 := Int.mul_le_mul (by omega) la2 (by omega) (by omega)
          omega) kn2
        have pk := paid_ok (s := s) (pl := pl) (ar := ar) (m := m) (kv := kv2) (K + 61) (x := k) k0 (by omega)
        have q0 := om_0 (s := s) (pl := pl) (ar := ar) (m := m) (kv := kv2)
        have q3 := om_0 (s := s) (pl := pl) (ar := ar) (m := m) (kv := kv3)
        rw [gd] at hb
        have hb : (FF (K + 62)).Orders_behind [.c m.length, .d (.int j), .d (.int (u + k * s.la))] (OM s pl ar m kv2) = .ok (.d (.int (stp s (Fm s ar (pl.drop (j + 1)) (j + 1)) pl[j] (u + k * s.la)))) (OM s pl ar m kv3) := hb
        have pk : (FF (K + 62)).Orders_paid [.c m.length, .d (.int k)] (OM s pl ar m kv2) = .ok (.d (.int (s.pd k))) (OM s pl ar m kv2) := pk
        have nxw : n ≠ 0 → FwI s pl ar m u found j (Fm s ar (pl.drop j) j u) fkk (n - 1) (F1 m u found (.v (.d (.int j))) (.v (.d (.int (Fm s ar (pl.drop j) j u)))) (.v (.d (.int (k + 1)))) (OM s pl ar m kv3)) := fun hn => ⟨kv3, k + 1, kn3, by omega, by omega, rfl⟩
        have fin3 := fin kv3 kn3
        have hcd : s.pd k + stp s (Fm s ar (pl.drop (j + 1)) (j + 1)) pl[j] (u + k * s.la) = Fm s ar (pl.drop j) j u ↔ n = 0 := by
          constructor
          · intro e
            by_cases z : k < fkk
            · exact absurd e (f3 k k0 z)
            · omega
          · intro e
            have : k = fkk := by omega
            rw [this]
            exact f2
        unfold F1 at nxw ⊢
        generalize stp s (Fm s ar (pl.drop (j + 1)) (j + 1)) pl[j] (u + k * s.la) = bv at *
        generalize s.pd k = pv at *
        generalize Fm s ar (pl.drop j) j u = F at *
        generalize OM s pl ar m kv2 = M2 at *
        generalize OM s pl ar m kv3 = M3 at *
        rw [hof] at q0 q3
        generalize pl[j] = p at *
        generalize pl.map PyData.int = pld at *
        simp [q0, om2, om3, ofla, pk]
        refine ⟨by omega, ?_⟩
        rw [hb]
        by_cases hn : n = 0
        · have e := hcd.mpr hn
          have hkf : k = fkk := by omega
          have em2 : (if p < u + fkk * s.la then p else u + fkk * s.la) = min (u + fkk * s.la) p := by
            split <;> omega
          subst hkf
          simp [e, q3, ofla, ofpl, ga]
          rw [em2]
          rw [List.map_append] at fin3
          exact ⟨by omega, by omega, fin3⟩
        · have e : ¬ pv + bv = F := fun z => hn (hcd.mp z)
          simp [e]
          exact ⟨n - 1, by omega, nxw hn⟩
      · have g0 := om_0 (s := s) (pl := pl) (ar := ar) (m := m) (kv := kv)
        have fin : FsI s pl ar m u0 (j + 1) (F1 m (u - min u pl[j]) found (.v (.d (.int j))) s4 s5 (OM s pl ar m kv)) := by
          refine ⟨kv, _, found, _, _, _, kn, ⟨by omega, by omega⟩, by omega, ?_, rfl⟩
          rw [← eg, edr]
          show _ = found ++ (if (j : Int) ∈ ar then _ else _)
          rw [if_neg cd]
        have em2 : (if pl[j] < u then pl[j] else u) = min u pl[j] := by
          split <;> omega
        unfold F1 at fin ⊢
        generalize hMM : OM s pl ar m kv = M at *
        generalize hof : oF s pl ar (m.length + 1) = of at *
        generalize ar.map PyData.int = ard at *
        generalize pl[j] = p at *
        generalize pl.map PyData.int = pld at *
        simp [g0, ofar, ofpl, din, cd, ga]
        rw [em2]
        exact fin
    have fin : ∀ st, FsI s pl ar m u0 pl.length st → wp (b_Orders_first_2 (FF (K + 62)) st) (endQ fun v M' => v = .d (.list ((gr s ar pl 0 u0).map .int)) ∧ ∃ kv', Kn s pl ar kv' ∧ M' = OM s pl ar m kv') (fun _ _ => False) := by
      rintro st ⟨kv, u, found, s3, s4, s5, kn, _, _, eg, rfl⟩
      have e0 : pl.drop pl.length = [] := List.drop_length
      rw [e0] at eg
      have eg2 : found = gr s ar pl 0 u0 := by rw [← eg]; simp [gr]
      have q : ∃ kv', Kn s pl ar kv' ∧ OM s pl ar m kv = OM s pl ar m kv' := ⟨kv, kn, rfl⟩
      unfold F1
      rw [eg2]
      generalize (gr s ar pl 0 u0).map PyData.int = gd at *
      generalize hM : OM s pl ar m kv = M at q ⊢
      simp [b_Orders_first_2]
      exact q
    have g0 := om_0 (s := s) (pl := pl) (ar := ar) (m := m) (kv := kv)
    have ofpl := of_pl (s := s) (pl := pl) (ar := ar) (n := m.length + 1)
    have edp : dI pl = .list (pl.map .int) := rfl
    have pll : (pl.map PyData.int).length = pl.length := List.length_map _
    rw [edp] at ofpl
    unfold F1 at i0
    generalize hb2 : b_Orders_first_2 (FF (K + 62)) = b2 at *
    generalize hM : OM s pl ar m kv = M at g0 i0 ⊢
    generalize oF s pl ar (m.length + 1) = of at *
    generalize pl.map PyData.int = pld at *
    simp [b_Orders_first, b_Orders_first_1, g0, ofpl, pll, hb2]
    refine ⟨small_lit (by omega) (by omega), ?_⟩
    refine wp_loop_rng (n := pl.length) (fun j st => FsI s pl ar m u0 j st) i0 ?_ ?_
    · intro j st hj z
      exact step j hj st _ _ z
    · intro st z
      have := fin st z
      simpa using this
  have w : wp ((FF (K + 63)).Orders_first [.c m.length, .d (.int u0)] (OM s pl ar m kv)) (fun v M' => v = .d (.list ((gr s ar pl 0 u0).map .int)) ∧ ∃ kv', Kn s pl ar kv' ∧ M' = OM s pl ar m kv') (fun _ _ => False) := by
    rw [FF_Orders_first]
    exact wp_fn rfl main
  obtain ⟨v, M', e1, rfl, kv', kn', rfl⟩ := wp_ex w
  exact ⟨kv', kn', e1⟩
end
end LW

namespace LW
open PySem PD
open L2 (atI)
section
variable {s : Su} {pl ar : List Int} {m : List Cell} {st : Int}
def suD (s : Su) : D := .tuple [.int s.la, .int s.pr, .int s.fe, .int s.lo]
theorem check_ok (k : Nat) (h : Pl s pl ar) (h0 : 0 ≤ st) (h1 : st ≤ 20) (mem : List Cell) : (FF (k + 3)).check_supply [.d (suD s), .d (dI pl), .d (.int st), .d (dI ar)] mem = .ok (.d .none) mem := by
  rw [FF_check_supply]
  refine fn_eq rfl ?_
  have hsz := sizeLine_eq
  have so := h.so
  obtain ⟨a1, a2, a3, a4, a5, a6, a7, a8⟩ := so
  have q1 := plays_ok k pl h.p h.l1 h.l30 mem
  have q2 := number_ok k h0 h1 mem
  have q3 := rising_ok k (n := pl.length) h.ap h.ai (by have := h.al; omega) mem
  have al : ¬ (10 : Int) < (ar.length : Int) := by have := h.al; omega
  have all : (ar.map PyData.int).length = ar.length := List.length_map _
  have pll : (pl.map PyData.int).length = pl.length := List.length_map _
  have edi : dI ar = .list (ar.map .int) := rfl
  have edp : dI pl = .list (pl.map .int) := rfl
  have c1 : cutD [PyData.int s.la, .int s.pr, .int s.fe, .int s.lo] (some 1) none = [.int s.pr, .int s.fe, .int s.lo] := by
    have := cutD_from [PyData.int s.la, .int s.pr, .int s.fe, .int s.lo] 1
    exact this
  rw [edp] at q1
  rw [edi] at q3
  rw [edi, edp]
  unfold suD
  generalize ar.map PyData.int = ad at *
  generalize pl.map PyData.int = pd at *
  simp [b_check_supply, f_num, a1, a2, a3, a4, a5, a6, a7, a8, c1, wp_comp_cons, wp_comp_nil, q1, q2, q3, all, pll, al]
  try omega
theorem init_ok (k : Nat) : (FF (k + 1)).Orders_init [.c m.length, .d (suD s), .d (dI pl), .d (dI ar)] (m ++ [.obj "Orders" []]) = .ok (.d .none) (OM s pl ar m []) := by
  rw [FF_Orders_init]
  refine fn_eq rfl ?_
  have ek : kvD [] = [] := rfl
  unfold suD OM oF
  generalize dI pl = pd
  generalize dI ar = ad
  simp [b_Orders_init, ek]
theorem best_ok (k : Nat) (h : Pl s pl ar) (h0 : 0 ≤ st) (h1 : st ≤ 20) : ∃ l, (FF (k + 64)).best_order [.d (suD s), .d (dI pl), .d (.int st), .d (dI ar)] m = .ok (.d (.tuple [.int (Fm s ar pl 0 (st * s.la)), .list ((gr s ar pl 0 (st * s.la)).map .int)])) (m ++ l) := by
  have so := h.so
  have la1 := so.la1
  have la2 := so.la2
  have hm : 0 ≤ st * s.la ∧ st * s.la ≤ 1000 := by
    have h1 := Int.mul_nonneg h0 (show (0 : Int) ≤ s.la by omega)
    have h2 : st * s.la ≤ 20 * 50 := Int.mul_le_mul (by omega) la2 (by omega) (by omega)
    omega
  have kn0 : Kn s pl ar [] := ⟨List.Pairwise.nil, fun k hk => absurd hk (by simp), fun d u v e => absurd e (by simp [lkK])⟩
  have la := least_ok (m := m) h pl.length (k + 62 - 2 * pl.length)
  rw [show k + 62 - 2 * pl.length + 2 * pl.length + 1 = k + 63 from by have := h.l30; omega] at la
  obtain ⟨kv1, kn1, e1⟩ := la 0 (st * s.la) [] (by omega) hm.1 (by omega) kn0
  obtain ⟨kv2, kn2, e2⟩ := first_ok (m := m) h k (u0 := st * s.la) hm.1 (by omega) kn1
  refine ⟨[.obj "Orders" (oF s pl ar (m.length + 1)), .dct (kvD kv2)], ?_⟩
  rw [FF_best_order]
  refine fn_eq rfl ?_
  have q1 := check_ok (k + 60) h h0 h1 m
  have q2 := init_ok (s := s) (pl := pl) (ar := ar) (m := m) (k + 62)
  have eO : m ++ [.obj "Orders" (oF s pl ar (m.length + 1)), .dct (kvD kv2)] = OM s pl ar m kv2 := rfl
  rw [eO]
  have g0 := om_0 (s := s) (pl := pl) (ar := ar) (m := m) (kv := [])
  have g1 := om_0 (s := s) (pl := pl) (ar := ar) (m := m) (kv := kv1)
  have om1 := of_m1 (s := s) (pl := pl) (ar := ar) (n := m.length + 1)
  have om4 := of_m4 (s := s) (pl := pl) (ar := ar) (n := m.length + 1)
  rw [List.drop_zero] at e1
  have e1 : (FF (k + 63)).Orders_least [.c m.length, .d (.int 0), .d (.int (st * s.la))] (OM s pl ar m []) = .ok (.d (.int (Fm s ar pl 0 (st * s.la)))) (OM s pl ar m kv1) := e1
  unfold suD at q1 q2 ⊢
  generalize (gr s ar pl 0 (st * s.la)).map PyData.int = gd at *
  generalize Fm s ar pl 0 (st * s.la) = F at *
  generalize dI pl = pd at *
  generalize dI ar = ad at *
  generalize OM s pl ar m [] = M0 at *
  generalize OM s pl ar m kv1 = M1 at *
  generalize OM s pl ar m kv2 = M2 at *
  generalize oF s pl ar (m.length + 1) = of at *
  simp [b_best_order, q1, q2, g0, g1, om1, om4]
  refine ⟨by omega, ?_⟩
  rw [e1]
  simp [g1, om4]
  refine ⟨by omega, ?_⟩
  rw [e2]
  simp
end
end LW

namespace LW
open PySem PD
open L2 (atI)
section
variable {s : Su} {pl ar : List Int} {m : List Cell} {st : Int}
/-- plays lost from a day on -/
def lsF (s : Su) (ar : List Int) : List Int → Nat → Int → List Int → Int
  | [], _, _, _ => 0
  | p :: ds, d, u, o => if (d : Int) ∈ ar then (p - min (u + o.headD 0 * s.la) p) + lsF s ar ds (d + 1) (u + o.headD 0 * s.la - min (u + o.headD 0 * s.la) p) o.tail else (p - min u p) + lsF s ar ds (d + 1) (u - min u p) o
def pay (s : Su) (o : List Int) : Int := (o.map s.pd).sum
theorem cst_is (s : Su) (ar : List Int) : ∀ (ds : List Int) (d : Nat) (u : Int) (o : List Int), o.length = nA ar ds d → cst s ar ds d u o = pay s o + s.lo * lsF s ar ds d u o
  | [], d, u, o, h => by
    have : o = [] := List.eq_nil_of_length_eq_zero h
    subst this
    simp [cst, pay, lsF]
  | p :: ds, d, u, o, h => by
    by_cases c : (d : Int) ∈ ar
    · have en : nA ar (p :: ds) d = nA ar ds (d + 1) + 1 := by
        show (if (d : Int) ∈ ar then 1 else 0) + nA ar ds (d + 1) = _
        rw [if_pos c]
        omega
      rw [en] at h
      cases o with
      | nil => cases h
      | cons k o =>
        have ih := cst_is s ar ds (d + 1) (u + k * s.la - min (u + k * s.la) p) o (by simpa using h)
        show (if (d : Int) ∈ ar then _ else _) = _ + s.lo * (if (d : Int) ∈ ar then _ else _)
        rw [if_pos c, if_pos c]
        show s.pd k + (s.lo * (p - min (u + k * s.la) p) + cst s ar ds (d + 1) (u + k * s.la - min (u + k * s.la) p) o) = (s.pd k + pay s o) + s.lo * ((p - min (u + k * s.la) p) + lsF s ar ds (d + 1) (u + k * s.la - min (u + k * s.la) p) o)
        rw [ih, Int.mul_add]
        omega
    · have en : nA ar (p :: ds) d = nA ar ds (d + 1) := by
        show (if (d : Int) ∈ ar then 1 else 0) + nA ar ds (d + 1) = _
        rw [if_neg c]
        omega
      rw [en] at h
      have ih := cst_is s ar ds (d + 1) (u - min u p) o h
      show (if (d : Int) ∈ ar then _ else _) = _ + s.lo * (if (d : Int) ∈ ar then _ else _)
      rw [if_neg c, if_neg c]
      show s.lo * (p - min u p) + cst s ar ds (d + 1) (u - min u p) o = pay s o + s.lo * ((p - min u p) + lsF s ar ds (d + 1) (u - min u p) o)
      rw [ih, Int.mul_add]
      omega
theorem pay_is (s : Su) : ∀ o : List Int, pay s o = s.pr * o.sum + s.fe * ((o.filter fun x => decide (0 < x)).length : Int)
  | [] => by simp [pay]
  | k :: o => by
    have ih := pay_is s o
    show s.pd k + pay s o = _
    rw [ih, List.sum_cons, List.filter_cons]
    unfold Su.pd
    by_cases c : 0 < k
    · rw [if_pos c, if_pos (by simpa using c), List.length_cons, Int.mul_add]
      push_cast
      rw [Int.mul_add]
      omega
    · rw [if_neg c, if_neg (by simpa using c), Int.mul_add]
      omega
/-- the place of a day among the arrivals -/
def ixn (ar : List Int) (d : Nat) : Nat := (ar.filter fun x => decide (x < (d : Int))).length
theorem ixn_zero (h : ∀ x ∈ ar, 0 ≤ x) : ixn ar 0 = 0 := by
  unfold ixn
  rw [List.filter_eq_nil_iff.mpr]
  · rfl
  · intro x hx
    have := h x hx
    simp
    omega
theorem ixn_succ (d : Nat) : ∀ {ar : List Int}, ar.Pairwise (· < ·) → ixn ar (d + 1) = ixn ar d + if (d : Int) ∈ ar then 1 else 0
  | [], _ => by simp [ixn]
  | x :: ar, h => by
    obtain ⟨h1, h2⟩ := List.pairwise_cons.mp h
    have ih := ixn_succ d h2
    unfold ixn at ih ⊢
    rw [List.filter_cons, List.filter_cons]
    rcases Int.lt_trichotomy x (d : Int) with c | c | c
    · rw [if_pos (by simp; omega), if_pos (by simpa using c), List.length_cons, List.length_cons, ih]
      have : ((d : Int) ∈ x :: ar) ↔ (d : Int) ∈ ar := by
        rw [List.mem_cons]
        exact ⟨fun z => z.resolve_left (by omega), .inr⟩
      by_cases z : (d : Int) ∈ ar
      · rw [if_pos z, if_pos (this.mpr z)]
      · rw [if_neg z, if_neg fun w => z (this.mp w)]
    · have hno : (d : Int) ∉ ar := fun z => by have := h1 _ z; omega
      rw [if_pos (by simp; omega), if_neg (by simp; omega), List.length_cons, ih, if_neg hno, if_pos (by rw [← c]; simp)]
    · have hno : (d : Int) ∉ ar := fun z => by have := h1 _ z; omega
      rw [if_neg (by simp; omega), if_neg (by simp; omega), ih, if_neg hno, if_neg (by rw [List.mem_cons]; rintro (z | z); omega; exact hno z)]
theorem ixn_idx (d : Nat) : ∀ {ar : List Int}, ar.Pairwise (· < ·) → (d : Int) ∈ ar → ar.idxOf (d : Int) = ixn ar d
  | x :: ar, h, hm => by
    obtain ⟨h1, h2⟩ := List.pairwise_cons.mp h
    unfold ixn
    rw [List.idxOf_cons, List.filter_cons]
    by_cases c : x = (d : Int)
    · have e : (x == (d : Int)) = true := by simp [c]
      rw [e, if_neg (by simp; omega)]
      rw [List.filter_eq_nil_iff.mpr]
      · rfl
      · intro y hy
        have := h1 y hy
        simp
        omega
    · have hm2 : (d : Int) ∈ ar := (List.mem_cons.mp hm).resolve_left fun z => c z.symm
      have := h1 _ hm2
      have e : (x == (d : Int)) = false := by simp [c]
      rw [e, if_pos (by simpa using this), List.length_cons]
      show ar.idxOf (d : Int) + 1 = _
      rw [ixn_idx d h2 hm2]
      rfl
theorem nA_is {ar : List Int} (hp : ar.Pairwise (· < ·)) : ∀ (ds : List Int) (d : Nat), (∀ x ∈ ar, x < ((d + ds.length : Nat) : Int)) → nA ar ds d + ixn ar d = ar.length
  | [], d, h => by
    show 0 + ixn ar d = _
    unfold ixn
    rw [List.filter_eq_self.mpr]
    · omega
    · intro x hx
      have := h x hx
      simpa using this
  | p :: ds, d, h => by
    have ih := nA_is hp ds (d + 1) (fun x hx => by have := h x hx; simp at this ⊢; omega)
    rw [ixn_succ d hp] at ih
    show (if (d : Int) ∈ ar then 1 else 0) + nA ar ds (d + 1) + ixn ar d = _
    omega
end
end LW

namespace LW
open PySem PD
open L2 (atI)
theorem findD_i {x : Int} : ∀ {tw : List Int}, x ∈ tw → findD (.int x) (tw.map .int) = some (tw.idxOf x)
  | [], h => by simp at h
  | y :: ys, h => by
    unfold findD
    rw [List.map_cons, List.findIdx?_cons, List.idxOf_cons]
    by_cases e : y = x
    · subst e
      simp [PyData.eqv]
    · have h2 : x ∈ ys := by
        rcases List.mem_cons.mp h with z | z
        · exact absurd z.symm e
        · exact z
      have ih := findD_i h2
      unfold findD at ih
      have e3 : PyData.eqv (.int y) (.int x) = false := by simp [PyData.eqv, e]
      have e4 : (y == x) = false := by simp [e]
      rw [e3, ih, e4]
      simp
theorem ix_ok {x : Int} {tw : List Int} (h : x ∈ tw) (hl : tw.length ≤ 1000000) : ixD (dI tw) (.int x) = some (.int (tw.idxOf x)) := by
  show (if (SeqAt.shaped (dI tw) && SeqAt.shaped (.int x)) = true then (findD (.int x) (tw.map .int)).map fun (j : Nat) => PyData.int (j : Int) else none) = _
  rw [fit_shaped (k := 1) (fit_ints hl) (by decide), fit_shaped (k := 1) (d := .int x) (by simp) (by decide), findD_i h]
  rfl
section
variable {s : Su} {pl ar o : List Int} {m : List Cell} {st : Int}
abbrev C1 (s : Su) (pl ar o : List Int) (st u L : Int) (s11 s12 s13 : PD.Slot) (m : List Cell) : PD.St := ⟨[.v (.d (suD s)), .v (.d (dI pl)), .v (.d (.int st)), .v (.d (dI ar)), .v (.d (dI o)), .v (.d (.int s.la)), .v (.d (.int s.pr)), .v (.d (.int s.fe)), .v (.d (.int s.lo)), .v (.d (.int u)), .v (.d (.int L)), s11, s12, s13, .emp], m⟩
def CoI (s : Su) (pl ar o : List Int) (st : Int) (m : List Cell) (j : Nat) (z : PD.St) : Prop := ∃ (u L : Int) (s11 s12 : PD.Slot), (0 ≤ u ∧ u ≤ 2000 + 500 * j) ∧ (0 ≤ L ∧ L ≤ 20 * j) ∧ L + lsF s ar (pl.drop j) j u (o.drop (ixn ar j)) = lsF s ar pl 0 (st * s.la) o ∧ z = C1 s pl ar o st u L s11 s12 .emp m
theorem cost_ok (k : Nat) (h : Pl s pl ar) (h0 : 0 ≤ st) (h1 : st ≤ 20) (ho : okO ar.length o) : (FF (k + 1)).cost_of [.d (suD s), .d (dI pl), .d (.int st), .d (dI ar), .d (dI o)] m = .ok (.d (.tuple [.int (pay s o + s.lo * lsF s ar pl 0 (st * s.la) o), .int (lsF s ar pl 0 (st * s.la) o)])) m := by
  rw [FF_cost_of]
  refine fn_eq rfl ?_
  have hsz := sizeLine_eq
  have so := h.so
  have la1 := so.la1
  have la2 := so.la2
  have pr0 := so.pr0
  have pr1 := so.pr1
  have fe0 := so.fe0
  have fe1 := so.fe1
  have lo0 := so.lo0
  have lo1 := so.lo1
  have l30 := h.l30
  have al := h.al
  obtain ⟨o1, o2⟩ := ho
  have hm : 0 ≤ st * s.la ∧ st * s.la ≤ 1000 := by
    have h1 := Int.mul_nonneg h0 (show (0 : Int) ≤ s.la by omega)
    have h2 : st * s.la ≤ 20 * 50 := Int.mul_le_mul (by omega) la2 (by omega) (by omega)
    omega
  have z0 : ixn ar 0 = 0 := ixn_zero fun x hx => (h.ai x hx).1
  have i0 : CoI s pl ar o st m 0 (C1 s pl ar o st (st * s.la) 0 .emp .emp .emp m) := ⟨_, _, _, _, ⟨hm.1, by omega⟩, ⟨by omega, by omega⟩, by rw [z0]; simp, rfl⟩
  have step : ∀ (j : Nat) (hj : j < pl.length) (z : PD.St) (QQ : Fl → PD.St → Prop) (Z : Str → PD.St → Prop), CoI s pl ar o st m j z → oq (Bd.put (.nm 11) (.int (0 + (j : Int))) z) fun s1 => wp (b_cost_of_3L (FF k) s1) (fun f s1 => turnQ (CoI s pl ar o st m (j + 1)) QQ f s1) Z := by
    rintro j hj z QQ Z ⟨u, L, s11, s12, ⟨ua, ub⟩, ⟨L0, L1⟩, eq, rfl⟩
    have pj := h.p pl[j] (List.getElem_mem hj)
    have edr : pl.drop j = pl[j] :: pl.drop (j + 1) := (List.getElem_cons_drop hj).symm
    have ga : atI (pl.map PyData.int) (j : Int) = some (.int pl[j]) := atI_of (n := j) rfl (by rw [List.getElem?_map, List.getElem?_eq_getElem hj]; rfl)
    have din := dIn_i (xs := ar) (x := (j : Int))
    have isc := ixn_succ j h.ap
    by_cases cd : (j : Int) ∈ ar
    · have ix := ix_ok cd (by omega)
      rw [ixn_idx j h.ap cd] at ix
      have hix : ixn ar j < o.length := by
        rw [o1, ← ixn_idx j h.ap cd]
        exact List.idxOf_lt_length_of_mem cd
      have go : atI (o.map PyData.int) (ixn ar j : Int) = some (.int o[ixn ar j]) := atI_of (n := ixn ar j) rfl (by rw [List.getElem?_map, List.getElem?_eq_getElem hix]; rfl)
      have edo : o.drop (ixn ar j) = o[ixn ar j] :: o.drop (ixn ar j + 1) := (List.getElem_cons_drop hix).symm
      obtain ⟨k0, k9⟩ := o2 o[ixn ar j] (List.getElem_mem hix)
      generalize hk : o[ixn ar j] = kk at *
      have hmk : 0 ≤ kk * s.la ∧ kk * s.la ≤ 450 := by
        have h1 := Int.mul_nonneg k0 (show (0 : Int) ≤ s.la by omega)
        have h2 : kk * s.la ≤ 9 * 50 := Int.mul_le_mul (by omega) la2 (by omega) (by omega)
        omega
      rw [edr, edo] at eq
      have eq2 : L + ((pl[j] - min (u + kk * s.la) pl[j]) + lsF s ar (pl.drop (j + 1)) (j + 1) (u + kk * s.la - min (u + kk * s.la) pl[j]) (o.drop (ixn ar j + 1))) = lsF s ar pl 0 (st * s.la) o := by
        rw [← eq]
        show _ = L + (if (j : Int) ∈ ar then _ else _)
        rw [if_pos cd]
        rfl
      rw [if_pos cd] at isc
      have fin : CoI s pl ar o st m (j + 1) (C1 s pl ar o st (u + kk * s.la - min (u + kk * s.la) pl[j]) (L + pl[j] - min (u + kk * s.la) pl[j]) (.v (.d (.int j))) (.v (.d (.int (min (u + kk * s.la) pl[j])))) .emp m) := ⟨_, _, _, _, ⟨by omega, by omega⟩, ⟨by omega, by omega⟩, by rw [isc]; omega, rfl⟩
      have em2 : (if pl[j] < u + kk * s.la then pl[j] else u + kk * s.la) = min (u + kk * s.la) pl[j] := by
        split <;> omega
      have edi : dI ar = .list (ar.map .int) := rfl
      have edp : dI pl = .list (pl.map .int) := rfl
      have edo : dI o = .list (o.map .int) := rfl
      rw [edi] at ix
      unfold C1 at fin ⊢
      rw [edi, edp, edo] at fin ⊢
      generalize suD s = su at *
      generalize ar.map PyData.int = ad at *
      generalize pl.map PyData.int = pd at *
      generalize o.map PyData.int = od at *
      generalize pl[j] = p at *
      simp [b_cost_of_3L, b_cost_of_3L_1, b_cost_of_3L_2, b_cost_of_3L_3, din, cd, ix, go, ga]
      rw [em2]
      exact ⟨by omega, fin⟩
    · rw [edr] at eq
      have eq2 : L + ((pl[j] - min u pl[j]) + lsF s ar (pl.drop (j + 1)) (j + 1) (u - min u pl[j]) (o.drop (ixn ar j))) = lsF s ar pl 0 (st * s.la) o := by
        rw [← eq]
        show _ = L + (if (j : Int) ∈ ar then _ else _)
        rw [if_neg cd]
      rw [if_neg cd] at isc
      have fin : CoI s pl ar o st m (j + 1) (C1 s pl ar o st (u - min u pl[j]) (L + pl[j] - min u pl[j]) (.v (.d (.int j))) (.v (.d (.int (min u pl[j])))) .emp m) := ⟨_, _, _, _, ⟨by omega, by omega⟩, ⟨by omega, by omega⟩, by rw [isc]; simp; omega, rfl⟩
      have em2 : (if pl[j] < u then pl[j] else u) = min u pl[j] := by
        split <;> omega
      have edi : dI ar = .list (ar.map .int) := rfl
      have edp : dI pl = .list (pl.map .int) := rfl
      unfold C1 at fin ⊢
      rw [edi, edp] at fin ⊢
      generalize suD s = su at *
      generalize ar.map PyData.int = ad at *
      generalize pl.map PyData.int = pd at *
      generalize dI o = od at *
      generalize pl[j] = p at *
      simp [b_cost_of_3L, b_cost_of_3L_1, b_cost_of_3L_2, b_cost_of_3L_3, din, cd, ga]
      rw [em2]
      exact fin
  have fin : ∀ z, CoI s pl ar o st m pl.length z → wp (b_cost_of_4 (FF k) z) (endQ fun x s' => x = .d (.tuple [.int (pay s o + s.lo * lsF s ar pl 0 (st * s.la) o), .int (lsF s ar pl 0 (st * s.la) o)]) ∧ s' = m) (fun _ _ => False) := by
    rintro z ⟨u, L, s11, s12, _, ⟨L0, L1⟩, eq, rfl⟩
    have e0 : pl.drop pl.length = [] := List.drop_length
    rw [e0] at eq
    have eL : L = lsF s ar pl 0 (st * s.la) o := by rw [← eq]; simp [lsF]
    have ep := pay_is s o
    have esum : dSum (.list (o.map PyData.int)) = some (.int o.sum) := dSum_i
    have ec : comp [14] (.nm 14) (tCmp .gt (eVar 14) (eC (.int 0))) (eVar 14) (o.map PyData.int) (C1 s pl ar o st u L s11 s12 .emp m) = .ok ((o.filter fun x => decide (0 < x)).map PyData.int) (C1 s pl ar o st u L s11 s12 .emp m) := by
      refine comp_map (f := PyData.int) (xs := o) (t := fun x => decide (0 < x)) (a := PyData.int) fun x _ => ?_
      unfold C1
      generalize suD s = su at *
      generalize dI ar = ad at *
      generalize dI pl = pd at *
      generalize dI o = od at *
      by_cases c : 0 < x
      · simp [c]
      · simp [c]
    have cl : ((o.filter fun x => decide (0 < x)).map PyData.int).length = (o.filter fun x => decide (0 < x)).length := List.length_map _
    have fl := List.length_filter_le (fun x => decide (0 < x)) o
    have ol : (o.map PyData.int).length = o.length := List.length_map _
    rw [← eL, ep]
    have edo : dI o = .list (o.map .int) := rfl
    unfold C1 at ec ⊢
    rw [edo] at ec ⊢
    generalize suD s = su at *
    generalize dI ar = ad at *
    generalize dI pl = pd at *
    generalize (o.filter fun x => decide (0 < x)).map PyData.int = fd at *
    generalize o.map PyData.int = od at *
    simp [b_cost_of_4, esum]
    refine ⟨by omega, by omega, ?_⟩
    rw [ec]
    simp [cl, b_cost_of_5]
    omega
  have pll : (pl.map PyData.int).length = pl.length := List.length_map _
  have edp : dI pl = .list (pl.map .int) := rfl
  unfold C1 at i0
  generalize hb4 : b_cost_of_4 (FF k) = b4 at *
  generalize hbL : b_cost_of_3L (FF k) = bL at *
  have esu : suD s = .tuple [.int s.la, .int s.pr, .int s.fe, .int s.lo] := rfl
  rw [edp] at i0 ⊢
  rw [esu] at i0 ⊢
  generalize dI ar = ad at *
  generalize dI o = od at *
  generalize pl.map PyData.int = pd at *
  simp [b_cost_of, b_cost_of_1, b_cost_of_2, b_cost_of_3, hb4, hbL, pll]
  refine ⟨by omega, small_lit (by omega) (by omega), ?_⟩
  refine wp_loop_rng (n := pl.length) (fun j z => CoI s pl ar o st m j z) i0 ?_ ?_
  · intro j z hj hz
    exact step j hj z _ _ hz
  · intro z hz
    have := fin z hz
    simpa using this
theorem order_ok (k : Nat) (h : Pl s pl ar) (h0 : 0 ≤ st) (h1 : st ≤ 20) (ho : okO ar.length o) : (FF (k + 4)).order_cost [.d (suD s), .d (dI pl), .d (.int st), .d (dI ar), .d (dI o)] m = .ok (.d (.tuple [.int (pay s o + s.lo * lsF s ar pl 0 (st * s.la) o), .int (lsF s ar pl 0 (st * s.la) o)])) m := by
  rw [FF_order_cost]
  refine fn_eq rfl ?_
  have hsz := sizeLine_eq
  have q1 := check_ok k h h0 h1 m
  have q2 := cost_ok (m := m) (k + 2) h h0 h1 ho
  have al := h.al
  obtain ⟨o1, o2⟩ := ho
  have ol : (o.map PyData.int).length = ar.length := by rw [List.length_map, o1]
  have arl : (ar.map PyData.int).length = ar.length := List.length_map _
  have ec : comp [5] (.nm 5) (tNotS (tTruth (eCall (FF (k + 3)).is_number (aCons (eVar 5) (aCons (eC (.int 0)) (aCons (eC (.int 9)) aNil)))))) (eVar 5) (o.map PyData.int) ⟨[.v (.d (suD s)), .v (.d (dI pl)), .v (.d (.int st)), .v (.d (dI ar)), .v (.d (dI o)), .emp], m⟩ = .ok [] ⟨[.v (.d (suD s)), .v (.d (dI pl)), .v (.d (.int st)), .v (.d (dI ar)), .v (.d (dI o)), .emp], m⟩ := by
    have h1 := comp_map (own := [5]) (bd := .nm 5) (T := (tNotS (tTruth (eCall (FF (k + 3)).is_number (aCons (eVar 5) (aCons (eC (.int 0)) (aCons (eC (.int 9)) aNil))))))) (A := eVar 5) (f := PyData.int) (xs := o) (t := fun _ => false) (a := PyData.int) (s0 := ⟨[.v (.d (suD s)), .v (.d (dI pl)), .v (.d (.int st)), .v (.d (dI ar)), .v (.d (dI o)), .emp], m⟩) (fun x hx => by
      obtain ⟨x0, x1⟩ := o2 x hx
      have x9 : x ≤ 9 := by omega
      generalize suD s = su at *
      generalize dI ar = ad at *
      generalize dI pl = pd at *
      generalize dI o = od at *
      simp [f_num, x0, x9])
    have ef : (o.filter fun _ => false) = [] := by simp
    rw [ef] at h1
    exact h1
  have edo : dI o = .list (o.map .int) := rfl
  have eda : dI ar = .list (ar.map .int) := rfl
  rw [edo, eda] at ec q2 ⊢
  rw [eda] at q1
  generalize suD s = su at *
  generalize dI pl = pd at *
  generalize o.map PyData.int = od at *
  generalize ar.map PyData.int = ad at *
  simp [b_order_cost, q1, ol, arl]
  refine ⟨by omega, ?_⟩
  rw [ec]
  simp [q2]
end
end LW

namespace LW
open PySem PD
open L2 (atI)
section
variable {s : Su} {pl ar o : List Int} {m : List Cell} {st : Int}
abbrev L1 (s : Su) (pl ar o : List Int) (st nw lf P L : Int) (s13 s14 s15 : PD.Slot) (m : List Cell) : PD.St := ⟨[.v (.d (suD s)), .v (.d (dI pl)), .v (.d (.int st)), .v (.d (dI ar)), .v (.d (dI o)), .v (.d (.int s.la)), .v (.d (.int s.pr)), .v (.d (.int s.fe)), .v (.d (.int s.lo)), .v (.d (.int nw)), .v (.d (.int lf)), .v (.d (.int P)), .v (.d (.int L)), s13, s14, s15], m⟩
def InI (s : Su) (pl ar o : List Int) (st w P L : Int) (s13 s14 : PD.Slot) (m : List Cell) (i : Nat) (z : PD.St) : Prop := ∃ (nw lf : Int) (s15 : PD.Slot), 0 ≤ nw ∧ (0 ≤ lf ∧ lf < s.la) ∧ nw * s.la + lf = w - min w (i : Int) ∧ z = L1 s pl ar o st nw lf P (L + ((i : Int) - min w (i : Int))) s13 s14 s15 m
def LcD (s : Su) (pl ar o : List Int) (st : Int) (m : List Cell) (j : Nat) (z : PD.St) : Prop := ∃ (nw lf P L : Int) (s13 s14 s15 : PD.Slot), 0 ≤ nw ∧ (0 ≤ lf ∧ lf < s.la) ∧ P + pay s (o.drop (ixn ar j)) = pay s o ∧ L + lsF s ar (pl.drop j) j (nw * s.la + lf) (o.drop (ixn ar j)) = lsF s ar pl 0 (st * s.la) o ∧ z = L1 s pl ar o st nw lf P L s13 s14 s15 m
theorem inner_ok (h : Pl s pl ar) {w P L nw lf : Int} {p : Int} (p0 : 0 ≤ p) (p20 : p ≤ 20) (n0 : 0 ≤ nw) (l0 : 0 ≤ lf) (l1 : lf < s.la) (hw : nw * s.la + lf = w) {s13 s14 s15 : PD.Slot} {Q : Fl → PD.St → Prop} {X : Str → PD.St → Prop}
    (fin : ∀ nw lf s15, 0 ≤ nw → 0 ≤ lf → lf < s.la → nw * s.la + lf = w - min w p → Q .nx (L1 s pl ar o st nw lf P (L + (p - min w p)) s13 s14 s15 m)) :
    wp (loop (.nm 15) (sSeq (sIf (tAndS (tCmp .eq (eVar 10) (eC (.int 0))) (tCmp .gt (eVar 9) (eC (.int 0)))) (sSeq (sSet 9 (eSub (eVar 9) (eC (.int 1))))
    (sSet 10 (eVar 5))) sNext)
   (sIf (tCmp .gt (eVar 10) (eC (.int 0))) (sSet 10 (eSub (eVar 10) (eC (.int 1)))) (sSet 12 (eAdd (eVar 12) (eC (.int 1)))))) (rngD 0 p.toNat) (L1 s pl ar o st nw lf P L s13 s14 s15 m)) Q X := by
  have la1 := h.so.la1
  have hw0 : 0 ≤ w := by
    have := Int.mul_nonneg n0 (show (0 : Int) ≤ s.la by omega)
    omega
  refine wp_loop_rng (n := p.toNat) (fun i z => InI s pl ar o st w P L s13 s14 m i z) ⟨nw, lf, s15, n0, ⟨l0, l1⟩, by rw [hw]; show _ = w - min w 0; omega, by
    have : L + (((0 : Nat) : Int) - min w ((0 : Nat) : Int)) = L := by show L + (0 - min w 0) = L; omega
    rw [this]⟩ ?_ ?_
  · rintro i z hi ⟨nw, lf, s15, n0, ⟨l0, l1⟩, e, rfl⟩
    have hmul := Int.mul_nonneg n0 (show (0 : Int) ≤ s.la by omega)
    have fin2 : ∀ nw' lf' L', 0 ≤ nw' → 0 ≤ lf' → lf' < s.la → nw' * s.la + lf' = w - min w ((i + 1 : Nat) : Int) → L' = L + (((i + 1 : Nat) : Int) - min w ((i + 1 : Nat) : Int)) → InI s pl ar o st w P L s13 s14 m (i + 1) (L1 s pl ar o st nw' lf' P L' s13 s14 (.v (.d (.int i))) m) := fun nw' lf' L' a b c d e => ⟨nw', lf', .v (.d (.int i)), a, ⟨b, c⟩, d, by rw [e]⟩
    unfold L1 at fin2 ⊢
    generalize suD s = su at *
    generalize dI ar = ad at *
    generalize dI pl = pd at *
    generalize dI o = od at *
    by_cases c1 : lf = 0
    · subst c1
      by_cases c2 : 0 < nw
      · have e3 : (nw - 1) * s.la = nw * s.la - s.la := by rw [Int.sub_mul]; omega
        have hge : s.la ≤ nw * s.la := by
          have := Int.mul_nonneg (show (0 : Int) ≤ nw - 1 by omega) (show (0 : Int) ≤ s.la by omega)
          omega
        have f := fin2 (nw - 1) (s.la - 1) (L + ((i : Int) - min w (i : Int))) (by omega) (by omega) (by omega) (by rw [e3]; push_cast; omega) (by push_cast; omega)
        have la0 : 0 < s.la := by omega
        simp [c2, la0]
        exact f
      · have hn : nw = 0 := by omega
        subst hn
        have f := fin2 0 0 (L + ((i : Int) - min w (i : Int)) + 1) (by omega) (by omega) (by omega) (by push_cast; simp at e ⊢; omega) (by push_cast; simp at e; omega)
        simp
        exact f
    · have lp : 0 < lf := by omega
      have f := fin2 nw (lf - 1) (L + ((i : Int) - min w (i : Int))) n0 (by omega) (by omega) (by push_cast; omega) (by push_cast; omega)
      simp [c1, lp]
      exact f
  · rintro z ⟨nw, lf, s15, n0, ⟨l0, l1⟩, e, rfl⟩
    have ep : ((p.toNat : Nat) : Int) = p := by omega
    rw [ep] at e ⊢
    exact fin nw lf s15 n0 l0 l1 e
end
end LW

namespace LW
open PySem PD
open L2 (atI)
section
variable {s : Su} {pl ar o : List Int} {m : List Cell} {st : Int}
theorem law_cost_ok (k : Nat) (h : Pl s pl ar) (h0 : 0 ≤ st) (h1 : st ≤ 20) (ho : okO ar.length o) : (FF (k + 1)).law_cost [.d (suD s), .d (dI pl), .d (.int st), .d (dI ar), .d (dI o)] m = .ok (.d (.tuple [.int (pay s o + s.lo * lsF s ar pl 0 (st * s.la) o), .int (lsF s ar pl 0 (st * s.la) o)])) m := by
  rw [FF_law_cost]
  refine fn_eq rfl ?_
  have hsz := sizeLine_eq
  have so := h.so
  have la1 := so.la1
  have la2 := so.la2
  have pr0 := so.pr0
  have pr1 := so.pr1
  have fe0 := so.fe0
  have fe1 := so.fe1
  have lo0 := so.lo0
  have lo1 := so.lo1
  have l30 := h.l30
  have al := h.al
  obtain ⟨o1, o2⟩ := ho
  have z0 : ixn ar 0 = 0 := ixn_zero fun x hx => (h.ai x hx).1
  have i0 : LcD s pl ar o st m 0 (L1 s pl ar o st st 0 0 0 .emp .emp .emp m) := ⟨st, 0, 0, 0, _, _, _, h0, ⟨by omega, by omega⟩, by rw [z0]; simp, by rw [z0]; simp, rfl⟩
  have step : ∀ (j : Nat) (hj : j < pl.length) (z : PD.St) (QQ : Fl → PD.St → Prop) (Z : Str → PD.St → Prop), LcD s pl ar o st m j z → oq (Bd.put (.nm 13) (.int (0 + (j : Int))) z) fun s1 => wp ((sSeq (sIf (tCmp .inn (eVar 13) (eVar 3)) (sSeq (sSet 14 (eIdx (eVar 4) (eIndex (eVar 3) (eVar 13))))
   (sSeq (sSet 9 (eAdd (eVar 9) (eVar 14)))
   (sSet 11 (eAdd (eAdd (eVar 11) (eMul (eVar 6) (eVar 14))) (eIf (tCmp .gt (eVar 14) (eC (.int 0))) (eVar 7) (eC (.int 0))))))) sNext)
  (sFor (iRng1 (eIdx (eVar 1) (eVar 13))) (.nm 15) (sSeq (sIf (tAndS (tCmp .eq (eVar 10) (eC (.int 0))) (tCmp .gt (eVar 9) (eC (.int 0)))) (sSeq (sSet 9 (eSub (eVar 9) (eC (.int 1))))
    (sSet 10 (eVar 5))) sNext)
   (sIf (tCmp .gt (eVar 10) (eC (.int 0))) (sSet 10 (eSub (eVar 10) (eC (.int 1)))) (sSet 12 (eAdd (eVar 12) (eC (.int 1)))))))) s1) (fun f s1 => turnQ (LcD s pl ar o st m (j + 1)) QQ f s1) Z := by
    rintro j hj z QQ Z ⟨nw, lf, P, L, s13, s14, s15, n0, ⟨f0, f1⟩, ep, eq, rfl⟩
    have pj := h.p pl[j] (List.getElem_mem hj)
    have edr : pl.drop j = pl[j] :: pl.drop (j + 1) := (List.getElem_cons_drop hj).symm
    have ga : atI (pl.map PyData.int) (j : Int) = some (.int pl[j]) := atI_of (n := j) rfl (by rw [List.getElem?_map, List.getElem?_eq_getElem hj]; rfl)
    have din := dIn_i (xs := ar) (x := (j : Int))
    have isc := ixn_succ j h.ap
    by_cases cd : (j : Int) ∈ ar
    · have ix := ix_ok cd (by omega)
      rw [ixn_idx j h.ap cd] at ix
      have hix : ixn ar j < o.length := by
        rw [o1, ← ixn_idx j h.ap cd]
        exact List.idxOf_lt_length_of_mem cd
      have go : atI (o.map PyData.int) (ixn ar j : Int) = some (.int o[ixn ar j]) := atI_of (n := ixn ar j) rfl (by rw [List.getElem?_map, List.getElem?_eq_getElem hix]; rfl)
      have edo : o.drop (ixn ar j) = o[ixn ar j] :: o.drop (ixn ar j + 1) := (List.getElem_cons_drop hix).symm
      obtain ⟨k0, k9⟩ := o2 o[ixn ar j] (List.getElem_mem hix)
      generalize hk : o[ixn ar j] = kk at *
      rw [edr, edo] at eq
      rw [edo] at ep
      have emul : (nw + kk) * s.la = nw * s.la + kk * s.la := Int.add_mul ..
      have eq2 : L + ((pl[j] - min ((nw + kk) * s.la + lf) pl[j]) + lsF s ar (pl.drop (j + 1)) (j + 1) ((nw + kk) * s.la + lf - min ((nw + kk) * s.la + lf) pl[j]) (o.drop (ixn ar j + 1))) = lsF s ar pl 0 (st * s.la) o := by
        rw [← eq, emul, show nw * s.la + kk * s.la + lf = nw * s.la + lf + kk * s.la from by omega]
        show _ = L + (if (j : Int) ∈ ar then _ else _)
        rw [if_pos cd]
        rfl
      have ep2 : P + s.pd kk + pay s (o.drop (ixn ar j + 1)) = pay s o := by
        rw [← ep]
        show _ = P + (s.pd kk + pay s (o.drop (ixn ar j + 1)))
        omega
      rw [if_pos cd] at isc
      have inn := fun (Q : Fl → PD.St → Prop) (X : Str → PD.St → Prop) => inner_ok (st := st) (o := o) (m := m) h (w := (nw + kk) * s.la + lf) (P := P + s.pd kk) (L := L) (nw := nw + kk) (lf := lf) (p := pl[j]) pj.1 pj.2 (by omega) f0 f1 rfl (s13 := .v (.d (.int j))) (s14 := .v (.d (.int kk))) (s15 := s15) (Q := Q) (X := X)
      have fin : ∀ nw' lf' s15, 0 ≤ nw' → 0 ≤ lf' → lf' < s.la → nw' * s.la + lf' = (nw + kk) * s.la + lf - min ((nw + kk) * s.la + lf) pl[j] → LcD s pl ar o st m (j + 1) (L1 s pl ar o st nw' lf' (P + s.pd kk) (L + (pl[j] - min ((nw + kk) * s.la + lf) pl[j])) (.v (.d (.int j))) (.v (.d (.int kk))) s15 m) := fun nw' lf' s15 a b c d =>
        ⟨nw', lf', _, _, _, _, _, a, ⟨b, c⟩, by rw [isc]; exact ep2, by rw [isc, d]; omega, rfl⟩
      have epd : s.pd kk = s.pr * kk + if 0 < kk then s.fe else 0 := rfl
      have pn : small pl[j] = true := small_lit (by omega) (by omega)
      have edi : dI ar = .list (ar.map .int) := rfl
      have edp : dI pl = .list (pl.map .int) := rfl
      have edo : dI o = .list (o.map .int) := rfl
      rw [edi] at ix
      unfold L1 at fin inn ⊢
      rw [edi, edp, edo] at fin inn ⊢
      generalize suD s = su at *
      generalize ar.map PyData.int = ad at *
      generalize pl.map PyData.int = pd at *
      generalize o.map PyData.int = od at *
      generalize pl[j] = p at *
      by_cases cf : 0 < kk
      · rw [if_pos cf] at epd
        rw [epd] at inn fin
        simp [din, cd, ix, go, ga, cf]
        refine ⟨by omega, pn, ?_⟩
        rw [show P + s.pr * kk + s.fe = P + (s.pr * kk + s.fe) from by omega]
        refine inn _ _ fun nw' lf' s15 a b c d => ?_
        exact fin nw' lf' s15 a b c d
      · rw [if_neg cf] at epd
        rw [epd] at inn fin
        simp [din, cd, ix, go, ga, cf]
        refine ⟨by omega, pn, ?_⟩
        rw [show P + s.pr * kk = P + (s.pr * kk + 0) from by omega]
        refine inn _ _ fun nw' lf' s15 a b c d => ?_
        exact fin nw' lf' s15 a b c d
    · rw [edr] at eq
      have eq2 : L + ((pl[j] - min (nw * s.la + lf) pl[j]) + lsF s ar (pl.drop (j + 1)) (j + 1) (nw * s.la + lf - min (nw * s.la + lf) pl[j]) (o.drop (ixn ar j))) = lsF s ar pl 0 (st * s.la) o := by
        rw [← eq]
        show _ = L + (if (j : Int) ∈ ar then _ else _)
        rw [if_neg cd]
      rw [if_neg cd] at isc
      have isc : ixn ar (j + 1) = ixn ar j := isc
      have inn := fun (Q : Fl → PD.St → Prop) (X : Str → PD.St → Prop) => inner_ok (st := st) (o := o) (m := m) h (w := nw * s.la + lf) (P := P) (L := L) (nw := nw) (lf := lf) (p := pl[j]) pj.1 pj.2 n0 f0 f1 rfl (s13 := .v (.d (.int j))) (s14 := s14) (s15 := s15) (Q := Q) (X := X)
      have fin : ∀ nw' lf' s15, 0 ≤ nw' → 0 ≤ lf' → lf' < s.la → nw' * s.la + lf' = nw * s.la + lf - min (nw * s.la + lf) pl[j] → LcD s pl ar o st m (j + 1) (L1 s pl ar o st nw' lf' P (L + (pl[j] - min (nw * s.la + lf) pl[j])) (.v (.d (.int j))) s14 s15 m) := fun nw' lf' s15 a b c d =>
        ⟨nw', lf', _, _, _, _, _, a, ⟨b, c⟩, by rw [isc]; exact ep, by rw [isc, d]; omega, rfl⟩
      have pn : small pl[j] = true := small_lit (by omega) (by omega)
      have edi : dI ar = .list (ar.map .int) := rfl
      have edp : dI pl = .list (pl.map .int) := rfl
      unfold L1 at fin inn ⊢
      rw [edi, edp] at fin inn ⊢
      generalize suD s = su at *
      generalize ar.map PyData.int = ad at *
      generalize pl.map PyData.int = pd at *
      generalize dI o = od at *
      generalize pl[j] = p at *
      simp [din, cd, ga]
      refine ⟨pn, ?_⟩
      refine inn _ _ fun nw' lf' s15 a b c d => ?_
      exact fin nw' lf' s15 a b c d
  have fin : ∀ z, LcD s pl ar o st m pl.length z → wp (b_law_cost_6 (FF k) z) (endQ fun x s' => x = .d (.tuple [.int (pay s o + s.lo * lsF s ar pl 0 (st * s.la) o), .int (lsF s ar pl 0 (st * s.la) o)]) ∧ s' = m) (fun _ _ => False) := by
    rintro z ⟨nw, lf, P, L, s13, s14, s15, n0, _, ep, eq, rfl⟩
    have e0 : pl.drop pl.length = [] := List.drop_length
    rw [e0] at eq
    have eL : L = lsF s ar pl 0 (st * s.la) o := by rw [← eq]; simp [lsF]
    have en : o.drop (ixn ar pl.length) = [] := by
      refine List.drop_eq_nil_of_le ?_
      rw [o1]
      unfold ixn
      rw [List.filter_eq_self.mpr]
      · exact Nat.le_refl _
      · intro x hx
        simpa using (h.ai x hx).2
    rw [en] at ep
    have eP : P = pay s o := by rw [← ep]; simp [pay]
    subst eP
    subst eL
    unfold L1
    generalize suD s = su at *
    generalize dI ar = ad at *
    generalize dI pl = pd at *
    generalize dI o = od at *
    simp [b_law_cost_6]
    omega
  have pll : (pl.map PyData.int).length = pl.length := List.length_map _
  have edp : dI pl = .list (pl.map .int) := rfl
  unfold L1 at i0
  generalize hb6 : b_law_cost_6 (FF k) = b6 at *
  have esu : suD s = .tuple [.int s.la, .int s.pr, .int s.fe, .int s.lo] := rfl
  rw [edp] at i0 ⊢
  rw [esu] at i0 ⊢
  generalize dI ar = ad at *
  generalize dI o = od at *
  generalize pl.map PyData.int = pd at *
  simp [b_law_cost, b_law_cost_1, b_law_cost_2, b_law_cost_3, b_law_cost_4, b_law_cost_5, hb6, pll]
  refine ⟨small_lit (by omega) (by omega), ?_⟩
  refine wp_loop_rng (n := pl.length) (fun j z => LcD s pl ar o st m j z) i0 ?_ ?_
  · intro j z hj hz
    exact step j hj z _ _ hz
  · intro z hz
    have := fin z hz
    simpa using this
end
end LW

namespace LW
open PySem PD
open L2 (atI)
/-! the least of costs -/
def cdO : Nat → List (List Int)
  | 0 => [[]]
  | n + 1 => (cdO n).flatMap fun o => (List.range 10).map fun (i : Nat) => o ++ [(i : Int)]
theorem cdO_mem : ∀ (n : Nat) (o : List Int), o ∈ cdO n ↔ okO n o
  | 0, o => by
    unfold cdO okO
    rw [List.mem_singleton]
    constructor
    · rintro rfl
      exact ⟨rfl, by simp⟩
    · rintro ⟨h, _⟩
      exact List.eq_nil_of_length_eq_zero h
  | n + 1, o => by
    unfold cdO
    rw [List.mem_flatMap]
    constructor
    · rintro ⟨o', h1, h2⟩
      obtain ⟨i, hi, rfl⟩ := List.mem_map.mp h2
      obtain ⟨q1, q2⟩ := (cdO_mem n o').mp h1
      have hi := List.mem_range.mp hi
      refine ⟨by simp [q1], fun x hx => ?_⟩
      rcases List.mem_append.mp hx with hx | hx
      · exact q2 x hx
      · rw [List.mem_singleton.mp hx]
        omega
    · rintro ⟨h1, h2⟩
      rcases List.eq_nil_or_concat o with e | ⟨ys, z, e⟩
      · rw [e] at h1; cases h1
      · rw [List.concat_eq_append] at e
        subst e
        obtain ⟨z0, z1⟩ := h2 z (by simp)
        refine ⟨ys, (cdO_mem n ys).mpr ⟨by simpa using h1, fun x hx => h2 x (by simp [hx])⟩, List.mem_map.mpr ⟨z.toNat, List.mem_range.mpr (by omega), ?_⟩⟩
        have : ((z.toNat : Nat) : Int) = z := by omega
        rw [this]
theorem cdO_len : ∀ n, (cdO n).length = 10 ^ n
  | 0 => rfl
  | n + 1 => by
    unfold cdO
    rw [List.length_flatMap]
    simp only [List.length_map, List.length_range]
    have : ∀ l : List (List Int), (l.map fun _ => 10).sum = l.length * 10 := by
      intro l
      induction l with
      | nil => rfl
      | cons a l ih => rw [List.map_cons, List.sum_cons, ih, List.length_cons]; omega
    rw [this, cdO_len n, Nat.pow_succ]
theorem min_is {q : Int × List Int} : ∀ (ps : List (Int × List Int)) (a : Int × List Int), q ∈ a :: ps → (∀ y ∈ a :: ps, y ≠ q → ltIl q y = true ∧ ltIl y q = false) → ltIl q q = false → minIl a ps = q
  | [], a, h, _, _ => by
    rw [List.mem_singleton.mp h]
    rfl
  | y :: ps, a, h, hu, hr => by
    show minIl (if ltIl y a = true then y else a) ps = q
    by_cases c : a = q
    · subst c
      have : ltIl y a = false := by
        by_cases e : y = a
        · rw [e]; exact hr
        · exact (hu y (by simp) e).2
      rw [this]
      exact min_is ps a (by simp) (fun z hz => hu z (by
        rcases List.mem_cons.mp hz with rfl | hz
        · simp
        · simp [hz])) hr
    · have h2 : q ∈ y :: ps := (List.mem_cons.mp h).resolve_left fun e => c e.symm
      by_cases e : y = q
      · subst e
        rw [(hu a (by simp) c).1]
        exact min_is ps y (by simp) (fun z hz => hu z (by simp [List.mem_cons.mp hz])) hr
      · have h3 : q ∈ ps := (List.mem_cons.mp h2).resolve_left fun z => e z.symm
        split
        · exact min_is ps y (by simp [h3]) (fun z hz => hu z (by
            rcases List.mem_cons.mp hz with rfl | hz
            · simp
            · simp [hz])) hr
        · exact min_is ps a (by simp [h3]) (fun z hz => hu z (by
            rcases List.mem_cons.mp hz with rfl | hz
            · simp
            · simp [hz])) hr
end LW

namespace LW
open PySem PD
open L2 (atI)
theorem pick2 {n : Int} (a b : Int) : ∃ x, (x = a ∨ x = b) ∧ atI [PyData.int a, .int b] (n % 2) = some (.int x) := by
  have : n % 2 = 0 ∨ n % 2 = 1 := by omega
  rcases this with h | h <;> rw [h]
  · exact ⟨a, .inl rfl, by simp⟩
  · exact ⟨b, .inr rfl, by simp⟩
def SupQ (v : Dv) (m : List Cell) : Prop := ∃ (s : Su) (pl ar : List Int) (st : Int), Pl s pl ar ∧ (0 ≤ st ∧ st ≤ 20) ∧ ar.length ≤ 10 ∧ v = .d (.tuple [suD s, dI pl, .int st, dI ar]) ∧ Dm m
def Sp4 (su : D) (j : Nat) (out : List D) (z : PD.St) : Prop := ∃ (xs : List Int) (m : List Cell), out = xs.map .int ∧ okp xs ∧ xs.length = j ∧ Dm m ∧ z = ⟨[.v (.c 0), .v (.d (.int 30)), .v (.d (.int 10)), .v (.d su), .emp, .emp, .emp, .emp], m⟩
def Sp5 (su : D) (pl : List Int) (j : Nat) (out : List D) (z : PD.St) : Prop := ∃ (xs : List Int) (m : List Cell), out = xs.map .int ∧ xs.Sublist ((List.range j).map fun (i : Nat) => (i : Int)) ∧ Dm m ∧ z = ⟨[.v (.c 0), .v (.d (.int 30)), .v (.d (.int 10)), .v (.d su), .v (.d (dI pl)), .emp, .emp, .emp], m⟩
theorem supply_ok (k : Nat) {mem : List Cell} (hm0 : Dm mem) : wp ((FF (k + 3)).law_supply [.c 0, .d (.int 30), .d (.int 10)] mem) SupQ (fun _ _ => False) := by
  rw [FF_law_supply]
  refine wp_fn rfl ?_
  have hsz := sizeLine_eq
  have hd : DrawF (FF (k + 2)).law_draw := f_draw k
  simp [b_law_supply]
  refine hd.go hm0 fun a m a0 a1 hm => ?_
  simp
  refine hd.go hm fun b m b0 b1 hm => ?_
  obtain ⟨x, hx, px⟩ := pick2 (n := b) 5 50
  have hx0 : (0 : Int) < x := by omega
  have hxn : ¬ x = 0 := by omega
  simp [px, hx0]
  refine hd.go hm fun c m c0 c1 hm => ?_
  simp
  refine hd.go hm fun d m d0 d1 hm => ?_
  simp
  refine hd.go hm fun e m e0 e1 hm => ?_
  simp
  refine hd.go hm fun f m f0 f1 hm => ?_
  have so : Su.ok ⟨1 + a % x, c % 12, d % 12, e % 6⟩ := by
    have q1 := Int.emod_nonneg a (show x ≠ 0 by omega)
    have q2 := Int.emod_lt_of_pos a hx0
    exact ⟨by show (1 : Int) ≤ 1 + a % x; omega, by show 1 + a % x ≤ (50 : Int); omega, by show (0 : Int) ≤ c % 12; omega, by show c % 12 ≤ (1000 : Int); omega, by show (0 : Int) ≤ d % 12; omega, by show d % 12 ≤ (1000 : Int); omega, by show (0 : Int) ≤ e % 6; omega, by show e % 6 ≤ (1000 : Int); omega⟩
  have esu : PyData.tuple [.int (1 + a % x), .int (c % 12), .int (d % 12), .int (e % 6)] = suD ⟨1 + a % x, c % 12, d % 12, e % 6⟩ := rfl
  have hn1 : 0 ≤ f % 30 := Int.emod_nonneg _ (by decide)
  have hn2 : f % 30 < 30 := Int.emod_lt_of_pos _ (by decide)
  simp
  rw [esu]
  generalize hsu : suD ⟨1 + a % x, c % 12, d % 12, e % 6⟩ = su
  refine ⟨small_lit (by omega) (by omega), by rw [rngD_len]; omega, ?_⟩
  refine wp_comp_rng (fun j out z => Sp4 su j out z) ⟨[], m, rfl, fun y hy => absurd hy (by simp), rfl, hm, rfl⟩ ?_ ?_
  · rintro j out z hj ⟨xs, m, rfl, hp, hl, hm, rfl⟩
    simp
    refine hd.go hm fun a m a0 a1 hm => ?_
    simp
    refine hd.go hm fun b m b0 b1 hm => ?_
    obtain ⟨y, hy, py⟩ := pick2 (n := b) 4 21
    have hy0 : (0 : Int) < y := by omega
    simp [py, hy0]
    refine ⟨xs ++ [a % y], m, by simp, fun w hw => ?_, by simp [hl], hm, rfl⟩
    rcases List.mem_append.mp hw with hw | hw
    · exact hp w hw
    · rw [List.mem_singleton.mp hw]
      have q1 := Int.emod_nonneg a (show y ≠ 0 by omega)
      have q2 := Int.emod_lt_of_pos a hy0
      omega
  · rintro out z ⟨pl, m, rfl, hp, hl, hm, rfl⟩
    have hpl : 1 ≤ pl.length ∧ pl.length ≤ 30 := by omega
    have edp : dI pl = .list (pl.map .int) := rfl
    simp
    refine ⟨small_lit (by omega) (by omega), by rw [rngD_len]; omega, ?_⟩
    refine wp_comp_rng (fun j out z => Sp5 su pl j out z) ⟨[], m, rfl, by simp, hm, rfl⟩ ?_ ?_
    · rintro j out z hj ⟨xs, m, rfl, hx, hm, rfl⟩
      simp
      refine hd.go hm fun a m a0 a1 hm => ?_
      have app : (xs ++ [(j : Int)]).Sublist ((List.range (j + 1)).map fun (i : Nat) => (i : Int)) := by
        rw [List.range_succ, List.map_append]
        exact List.Sublist.append hx (List.Sublist.refl _)
      have skip : xs.Sublist ((List.range (j + 1)).map fun (i : Nat) => (i : Int)) := by
        rw [List.range_succ, List.map_append]
        exact hx.trans (List.sublist_append_left _ _)
      by_cases ca : a % 3 = 0
      · simp [ca]
        exact ⟨xs ++ [(j : Int)], m, by simp, app, hm, rfl⟩
      · simp [ca]
        exact ⟨xs, m, rfl, skip, hm, rfl⟩
    · rintro out z ⟨xs, m, rfl, hx, hm, rfl⟩
      have c1 : cutD (xs.map PyData.int) none (some 10) = (xs.take 10).map PyData.int := by
        have := cutD_to (xs.map PyData.int) 10
        rw [← List.map_take] at this
        exact this
      have hsub := (List.take_sublist 10 xs).trans hx
      have hP : Pl ⟨1 + a % x, c % 12, d % 12, e % 6⟩ pl (xs.take 10) := by
        refine ⟨so, hp, hpl.1, by omega, by rw [List.length_take]; omega, ?_, fun w hw => ?_⟩
        · refine List.Pairwise.sublist hsub ?_
          rw [List.pairwise_map]
          exact List.Pairwise.imp (fun h => by omega) List.pairwise_lt_range
        · obtain ⟨i, hi, rfl⟩ := List.mem_map.mp (hsub.subset hw)
          have := List.mem_range.mp hi
          omega
      simp [c1]
      refine hd.go hm fun p m p0 p1 hm => ?_
      simp
      refine hd.go hm fun q m q0 q1 hm => ?_
      obtain ⟨y, hy, py⟩ := pick2 (n := q) 3 21
      have hy0 : (0 : Int) < y := by omega
      have r1 := Int.emod_nonneg p (show y ≠ 0 by omega)
      have r2 := Int.emod_lt_of_pos p hy0
      simp [py, hy0]
      refine ⟨_, pl, xs.take 10, p % y, hP, ⟨r1, by omega⟩, by rw [List.length_take]; omega, ?_, hm⟩
      rw [hsu]
      simp
end LW

namespace LW
open PySem PD
open L2 (atI)
/-! the law's table: for each number of uses left the least that was paid -/
abbrev Lt := List (Int × Int)
def lfF (s : Su) (p S u k : Int) : Int := min (u + k * s.la - min (u + k * s.la) p) S
def coF (s : Su) (p c u k : Int) : Int := c + s.pd k + s.lo * (p - min (u + k * s.la) p)
def up1 (s : Su) (p S : Int) (F : Lt) (u c k : Int) : Lt := ptK F (lfF s p S u k) (min (coF s p c u k) ((lkK F (lfF s p S u k)).getD (coF s p c u k)))
def Cov (s : Su) (p S : Int) (F : Lt) (u c k : Int) : Prop := ∃ w, lkK F (lfF s p S u k) = some w ∧ w ≤ coF s p c u k
structure Lv (s : Su) (ar ds : List Int) (d : Nat) (v : Int) (l : Lt) : Prop where
  nd : (l.map (·.1)).Nodup
  rg : ∀ x ∈ l, 0 ≤ x.1 ∧ x.1 ≤ 1000
  ge : ∀ x ∈ l, v ≤ x.2 + Fm s ar ds d x.1
structure Lvl (s : Su) (ar ds : List Int) (d : Nat) (v : Int) (l : Lt) : Prop extends Lv s ar ds d v l where
  ex : ∃ x ∈ l, x.2 + Fm s ar ds d x.1 = v
theorem pt_mem {l : Lt} {k w : Int} {x : Int × Int} (h : x ∈ ptK l k w) : x = (k, w) ∨ x ∈ l := by
  unfold ptK at h
  split at h
  · obtain ⟨y, hy, e⟩ := List.mem_map.mp h
    by_cases c : y.1 = k
    · rw [if_pos c, c] at e
      exact .inl e.symm
    · rw [if_neg c] at e
      rw [← e]
      exact .inr hy
  · rcases List.mem_append.mp h with h | h
    · exact .inr h
    · exact .inl (List.mem_singleton.mp h)
theorem pt_nd {l : Lt} {k w : Int} (h : (l.map (·.1)).Nodup) : ((ptK l k w).map (·.1)).Nodup := by
  unfold ptK
  split
  · rename_i hk
    rw [List.map_map]
    have : (l.map ((fun x => x.1) ∘ fun p => if p.1 = k then (p.1, w) else p)) = l.map (·.1) := List.map_congr_left fun p _ => by
      show (if p.1 = k then (p.1, w) else p).1 = p.1
      split <;> rfl
    rw [this]
    exact h
  · rename_i hk
    rw [List.map_append, List.nodup_append]
    exact ⟨h, by simp, fun a ha b hb e => hk (by simp at hb; rw [← hb, ← e]; exact ha)⟩
theorem lk_mem {l : Lt} {k w : Int} (h : lkK l k = some w) : (k, w) ∈ l := by
  unfold lkK at h
  cases e : l.find? (fun p => decide (p.1 = k)) with
  | none => rw [e] at h; cases h
  | some p =>
    rw [e] at h
    have h1 := List.mem_of_find?_eq_some e
    have h2 := List.find?_some e
    have h2 : p.1 = k := by simpa using h2
    cases h
    rw [← h2]
    exact h1
theorem lk_of {l : Lt} (nd : (l.map (·.1)).Nodup) {x : Int × Int} (h : x ∈ l) : lkK l x.1 = some x.2 := by
  induction l with
  | nil => cases h
  | cons y l ih =>
    rw [List.map_cons, List.nodup_cons] at nd
    unfold lkK
    rw [List.find?_cons]
    by_cases c : y.1 = x.1
    · rw [decide_eq_true c]
      rcases List.mem_cons.mp h with e | h
      · rw [e]; rfl
      · have hx : y.1 ∈ l.map (·.1) := by
          rw [c]
          exact List.mem_map.mpr ⟨x, h, rfl⟩
        exact absurd hx nd.1
    · rw [decide_eq_false c]
      have h : x ∈ l := (List.mem_cons.mp h).resolve_left fun e => c (by rw [e])
      exact ih nd.2 h
theorem Lv.len {s : Su} {ar ds : List Int} {d : Nat} {v : Int} {l : Lt} (h : Lv s ar ds d v l) : l.length ≤ 2000 := by
  have h1 := nodup_le (l := l.map (·.1)) (m := (List.range 1001).map fun (i : Nat) => (i : Int)) h.nd fun k hk => by
    obtain ⟨x, hx, rfl⟩ := List.mem_map.mp hk
    obtain ⟨a, b⟩ := h.rg x hx
    exact List.mem_map.mpr ⟨x.1.toNat, List.mem_range.mpr (by omega), by omega⟩
  rw [List.length_map, List.length_map, List.length_range] at h1
  omega
section
variable {s : Su} {ar ds : List Int} {d : Nat} {v p u c k u' c' k' S : Int} {F l : Lt}
theorem cov_new : Cov s p S (up1 s p S F u c k) u c k := ⟨_, by unfold up1; rw [lkK_put, if_pos rfl], by omega⟩
theorem cov_old (h : Cov s p S F u' c' k') : Cov s p S (up1 s p S F u c k) u' c' k' := by
  obtain ⟨w, h1, h2⟩ := h
  unfold Cov up1
  rw [lkK_put]
  by_cases e : lfF s p S u' k' = lfF s p S u k
  · rw [if_pos e]
    refine ⟨_, rfl, ?_⟩
    rw [e] at h1
    rw [h1]
    show min _ w ≤ _
    omega
  · rw [if_neg e]
    exact ⟨w, h1, h2⟩
theorem fm_le {b : Bool} (hb : b = decide ((d : Int) ∈ ar)) (hk : k ∈ ks b) : Fm s ar (p :: ds) d u ≤ s.pd k + stp s (Fm s ar ds (d + 1)) p (u + k * s.la) := by
  show mnL _ ≤ _
  subst hb
  exact mn_le (List.mem_map.mpr ⟨k, hk, rfl⟩)
theorem co_cap (hl : 0 ≤ s.la) (hd : okp ds) (hu : 0 ≤ u) (hp : 0 ≤ p) (hk : 0 ≤ k) : coF s p c u k + Fm s ar ds (d + 1) (lfF s p ds.sum u k) = c + (s.pd k + stp s (Fm s ar ds (d + 1)) p (u + k * s.la)) := by
  have hm := Int.mul_nonneg hk hl
  unfold lfF coF stp
  rw [← Fm_cap hl ds (d + 1) (u + k * s.la - min (u + k * s.la) p) (fun q hq => (hd q hq).1) (by omega)]
  omega
theorem lf_rg (hl : 0 ≤ s.la) (h0 : 0 ≤ S) (h1 : S ≤ 1000) (hu : 0 ≤ u) (hk : 0 ≤ k) : 0 ≤ lfF s p S u k ∧ lfF s p S u k ≤ 1000 := by
  have hm := Int.mul_nonneg hk hl
  unfold lfF
  omega
theorem Lv.up (h : Lv s ar ds (d + 1) v F) (hl : 0 ≤ s.la) (hd : okp ds) (hs : ds.sum ≤ 1000) (hu : 0 ≤ u) (hp : 0 ≤ p) {b : Bool} (hb : b = decide ((d : Int) ∈ ar)) (hk : k ∈ ks b) (hv : v ≤ c + Fm s ar (p :: ds) d u) : Lv s ar ds (d + 1) v (up1 s p ds.sum F u c k) := by
  obtain ⟨k0, k9⟩ := ks_mem hk
  have h0 := (sum_le hd).1
  obtain ⟨r1, r2⟩ := lf_rg (s := s) (p := p) hl h0 hs hu k0
  have e1 := fm_le (s := s) (p := p) (ds := ds) (u := u) hb hk
  have e2 := co_cap (s := s) (ar := ar) (d := d) (c := c) hl hd hu hp k0
  refine ⟨pt_nd h.nd, fun x hx => ?_, fun x hx => ?_⟩
  · rcases pt_mem hx with rfl | hx
    · exact ⟨r1, r2⟩
    · exact h.rg x hx
  · rcases pt_mem hx with rfl | hx
    · show v ≤ min (coF s p c u k) ((lkK F (lfF s p ds.sum u k)).getD (coF s p c u k)) + Fm s ar ds (d + 1) (lfF s p ds.sum u k)
      cases q : lkK F (lfF s p ds.sum u k) with
      | none =>
        show v ≤ min (coF s p c u k) (coF s p c u k) + _
        omega
      | some w =>
        have := h.ge _ (lk_mem q)
        have : v ≤ w + Fm s ar ds (d + 1) (lfF s p ds.sum u k) := this
        show v ≤ min (coF s p c u k) w + _
        omega
    · exact h.ge x hx
theorem Lv.all (h : Lv s ar ds (d + 1) v F) (hl : 0 ≤ s.la) (hd : okp ds) (hp : 0 ≤ p) {b : Bool} (hb : b = decide ((d : Int) ∈ ar)) (h0 : Lvl s ar (p :: ds) d v l) (hc : ∀ x ∈ l, ∀ k ∈ ks b, Cov s p ds.sum F x.1 x.2 k) : Lvl s ar ds (d + 1) v F := by
  refine ⟨h, ?_⟩
  obtain ⟨x, hx, ex⟩ := h0.ex
  obtain ⟨u0, _⟩ := h0.rg x hx
  have := mn_in (xs := (ks b).map fun k => s.pd k + stp s (Fm s ar ds (d + 1)) p (x.1 + k * s.la)) (fun z => ks_ne b (List.map_eq_nil_iff.mp z))
  obtain ⟨k, hk, e⟩ := List.mem_map.mp this
  have eF : Fm s ar (p :: ds) d x.1 = mnL ((ks b).map fun k => s.pd k + stp s (Fm s ar ds (d + 1)) p (x.1 + k * s.la)) := by
    subst hb
    rfl
  obtain ⟨k0, _⟩ := ks_mem hk
  have e2 := co_cap (s := s) (ar := ar) (d := d) (c := x.2) hl hd u0 hp k0
  obtain ⟨w, q1, q2⟩ := hc x hx k hk
  have q3 := lk_mem q1
  have q4 := h.ge _ q3
  have q4 : v ≤ w + Fm s ar ds (d + 1) (lfF s p ds.sum x.1 k) := q4
  exact ⟨_, q3, by show w + Fm s ar ds (d + 1) (lfF s p ds.sum x.1 k) = v; omega⟩
theorem Lvl.min (h : Lvl s ar [] d v l) : mnL (l.map (·.2)) = v := by
  obtain ⟨x, hx, ex⟩ := h.ex
  have ex : x.2 + 0 = v := ex
  have h1 := mn_le (xs := l.map (·.2)) (List.mem_map.mpr ⟨x, hx, rfl⟩)
  have h2 := mn_in (xs := l.map (·.2)) (fun z => by rw [List.map_eq_nil_iff.mp z] at hx; cases hx)
  obtain ⟨y, hy, ey⟩ := List.mem_map.mp h2
  have h3 : v ≤ y.2 + 0 := h.ge y hy
  omega
end
end LW

namespace LW
open PySem PD
open L2 (atI)
theorem emb_int : Emb (fun i : Int => PyData.int i) false := ⟨fun a b => by
  show PyData.eqv (.int a) (.int b) = decide (a = b)
  simp only [PyData.eqv]
  rw [Bool.beq_eq_decide_eq], fun _ => rfl⟩
def ltD (l : Lt) : List (D × D) := kvM (fun i : Int => PyData.int i) PyData.int l
theorem lt_put (l : Lt) (k w : Int) : putD (ltD l) (.int k) (.int w) = ltD (ptK l k w) := emb_int.put (val := PyData.int) l k w
theorem lt_look (l : Lt) (k : Int) : lookD (ltD l) (.int k) = (lkK l k).map .int := emb_int.look l k
theorem lt_kk (l : Lt) (k : Int) : kkOk (ltD l) (.int k) = true := emb_int.ok l k
theorem lt_len (l : Lt) : (ltD l).length = l.length := kvM_len l
theorem lt_keys (l : Lt) : (ltD l).map (·.1) = l.map fun x => PyData.int x.1 := by
  unfold ltD
  rw [kvM_keys, List.map_map]
  rfl
section
variable {s : Su} {pl ar : List Int} {m : List Cell} {st : Int}
abbrev Q1 (s : Su) (pl ar : List Int) (st : Int) (s8 s9 s10 s11 s12 s13 s14 s15 s16 : PD.Slot) (m : List Cell) : PD.St := ⟨[.v (.d (suD s)), .v (.d (dI pl)), .v (.d (.int st)), .v (.d (dI ar)), .v (.d (.int s.la)), .v (.d (.int s.pr)), .v (.d (.int s.fe)), .v (.d (.int s.lo)), s8, s9, s10, s11, s12, s13, s14, s15, s16], m⟩
abbrev bTurn : SSem := (sSeq (sSet 13 (eAdd (eVar 11) (eMul (eVar 12) (eVar 4))))
   (sSeq (sSet 14 (eMin2 (eVar 13) (eIdx (eVar 1) (eVar 9))))
   (sSeq (sSet 15 (eAdd (eAdd (eAdd (eIdx (eVar 8) (eVar 11)) (eMul (eVar 5) (eVar 12))) (eIf (tCmp .gt (eVar 12) (eC (.int 0))) (eVar 6) (eC (.int 0)))) (eMul (eVar 7) (eSub (eIdx (eVar 1) (eVar 9)) (eVar 14)))))
   (sSeq (sSet 16 (eMin2 (eSub (eVar 13) (eVar 14)) (eSum (eSlice (eVar 1) (pSome (eAdd (eVar 9) (eC (.int 1)))) pNone))))
   (sPut (eMin2 (eVar 15) (eGet2 (eVar 10) (eVar 16) (eVar 15))) (eVar 10) (eVar 16))))))
theorem turn_go (h : Pl s pl ar) {l F : Lt} {j : Nat} {u c k : Int} (hj : j < pl.length) (hc : lkK l u = some c) (hF : F.length ≤ 2000) (u0 : 0 ≤ u) (u1 : u ≤ 1000) (k0 : 0 ≤ k) (k9 : k < 10) {s13 s14 s15 s16 : PD.Slot} {Q : Fl → PD.St → Prop} {X : Str → PD.St → Prop}
    (fin : ∀ s13 s14 s15 s16, Q .nx (Q1 s pl ar st (.v (.d (.dict (ltD l)))) (.v (.d (.int j))) (.own (.dct (ltD (up1 s pl[j] (pl.drop (j + 1)).sum F u c k)))) (.v (.d (.int u))) (.v (.d (.int k))) s13 s14 s15 s16 m)) :
    wp (bTurn (Q1 s pl ar st (.v (.d (.dict (ltD l)))) (.v (.d (.int j))) (.own (.dct (ltD F))) (.v (.d (.int u))) (.v (.d (.int k))) s13 s14 s15 s16 m)) Q X := by
  have hsz := sizeLine_eq
  have so := h.so
  have la1 := so.la1
  have la2 := so.la2
  have pr0 := so.pr0
  have pr1 := so.pr1
  have fe0 := so.fe0
  have fe1 := so.fe1
  have lo0 := so.lo0
  have lo1 := so.lo1
  have l30 := h.l30
  have pj := h.p pl[j] (List.getElem_mem hj)
  have ga : atI (pl.map PyData.int) (j : Int) = some (.int pl[j]) := atI_of (n := j) rfl (by rw [List.getElem?_map, List.getElem?_eq_getElem hj]; rfl)
  have c1 : cutD (pl.map PyData.int) (some ((j : Int) + 1)) none = (pl.drop (j + 1)).map PyData.int := by
    have := cutD_from (pl.map PyData.int) (j + 1)
    rw [← List.map_drop] at this
    exact this
  have hsum := sum_le (xs := pl.drop (j + 1)) fun y hy => h.p y (List.mem_of_mem_drop hy)
  have hdlen : (pl.drop (j + 1)).length ≤ 30 := by rw [List.length_drop]; omega
  have esum : dSum (.list ((pl.drop (j + 1)).map PyData.int)) = some (.int (pl.drop (j + 1)).sum) := dSum_i
  have hm : 0 ≤ k * s.la ∧ k * s.la ≤ 500 := by
    have h1 := Int.mul_nonneg k0 (show (0 : Int) ≤ s.la by omega)
    have h2 : k * s.la ≤ 10 * 50 := Int.mul_le_mul (by omega) la2 (by omega) (by omega)
    omega
  have em2 : (if pl[j] < u + k * s.la then pl[j] else u + k * s.la) = min (u + k * s.la) pl[j] := by
    split <;> omega
  have em3 : (if (pl.drop (j + 1)).sum < u + k * s.la - min (u + k * s.la) pl[j] then (pl.drop (j + 1)).sum else u + k * s.la - min (u + k * s.la) pl[j]) = lfF s pl[j] (pl.drop (j + 1)).sum u k := by
    unfold lfF
    split <;> omega
  have elk := lt_look l u
  rw [hc] at elk
  have elk : lookD (ltD l) (.int u) = some (.int c) := elk
  have ekk := lt_kk l u
  have flk := lt_look F (lfF s pl[j] (pl.drop (j + 1)).sum u k)
  have fkk := lt_kk F (lfF s pl[j] (pl.drop (j + 1)).sum u k)
  have fpt := fun w => lt_put F (lfF s pl[j] (pl.drop (j + 1)).sum u k) w
  have fl := lt_len F
  have eco : c + s.pr * k + (if 0 < k then s.fe else 0) + s.lo * (pl[j] - min (u + k * s.la) pl[j]) = coF s pl[j] c u k := by
    unfold coF Su.pd
    omega
  have eup : up1 s pl[j] (pl.drop (j + 1)).sum F u c k = ptK F (lfF s pl[j] (pl.drop (j + 1)).sum u k) (min (coF s pl[j] c u k) ((lkK F (lfF s pl[j] (pl.drop (j + 1)).sum u k)).getD (coF s pl[j] c u k))) := rfl
  rw [eup] at fin
  rw [← fpt] at fin
  have edp : dI pl = .list (pl.map .int) := rfl
  unfold Q1 at fin ⊢
  rw [edp] at fin ⊢
  clear eup edp
  have pn : small pl[j] = true := small_lit (by omega) (by omega)
  generalize (pl.drop (j + 1)).map PyData.int = sl at *
  generalize pl.map PyData.int = pd at *
  generalize dI ar = ad at *
  generalize suD s = su at *
  generalize hlf : lfF s pl[j] (pl.drop (j + 1)).sum u k = lf at *
  generalize hco : coF s pl[j] c u k = co at *
  generalize (pl.drop (j + 1)).sum = S at *
  generalize pl[j] = p at *
  generalize ltD l = ld at *
  have key : ∀ dv : Int, ((lookD (ltD F) (.int lf)).getD (.int co)) = .int dv → dv = (lkK F lf).getD co := fun dv e => by
    rw [flk] at e
    cases q : lkK F lf with
    | none => rw [q] at e; cases e; rfl
    | some w => rw [q] at e; cases e; rfl
  obtain ⟨dv, hdv⟩ : ∃ dv : Int, ((lookD (ltD F) (.int lf)).getD (.int co)) = .int dv := by
    rw [flk]
    cases q : lkK F lf with
    | none => exact ⟨_, rfl⟩
    | some w => exact ⟨_, rfl⟩
  have edv := key dv hdv
  rw [← edv] at fin
  clear key edv flk
  have em4 : (if dv < co then dv else co) = min co dv := by
    split <;> omega
  generalize ltD F = fd at *
  by_cases cf : 0 < k
  · rw [if_pos cf] at eco
    simp [bTurn, ga, c1, esum, elk, ekk, cf]
    rw [em2, em3, eco, hdv]
    refine ⟨by omega, by omega, by omega, fkk, ?_⟩
    simp [fkk]
    rw [em4]
    refine ⟨by omega, ?_⟩
    exact fin _ _ _ _
  · rw [if_neg cf, Int.add_zero] at eco
    simp [bTurn, ga, c1, esum, elk, ekk, cf]
    rw [em2, em3, eco, hdv]
    refine ⟨by omega, by omega, by omega, fkk, ?_⟩
    simp [fkk]
    rw [em4]
    refine ⟨by omega, ?_⟩
    exact fin _ _ _ _
end
end LW

namespace LW
open PySem PD
open L2 (atI)
section
variable {s : Su} {pl ar : List Int} {m : List Cell} {st : Int}
abbrev lD (l : Lt) : PD.Slot := .v (.d (.dict (ltD l)))
def LQk (s : Su) (pl ar : List Int) (st v : Int) (l : Lt) (j : Nat) (p : Int) (b : Bool) (m : List Cell) (dn : Lt) (x : Int × Int) (i : Nat) (z : PD.St) : Prop := ∃ (F : Lt) (s12 s13 s14 s15 s16 : PD.Slot), Lv s ar (pl.drop (j + 1)) (j + 1) v F ∧ (∀ y ∈ dn, ∀ k ∈ ks b, Cov s p (pl.drop (j + 1)).sum F y.1 y.2 k) ∧ (∀ i' : Nat, i' < i → Cov s p (pl.drop (j + 1)).sum F x.1 x.2 (i' : Int)) ∧
  z = Q1 s pl ar st (lD l) (.v (.d (.int j))) (.own (.dct (ltD F))) (.v (.d (.int x.1))) s12 s13 s14 s15 s16 m
def LQu (s : Su) (pl ar : List Int) (st v : Int) (l : Lt) (j : Nat) (p : Int) (b : Bool) (m : List Cell) (dn : Lt) (z : PD.St) : Prop := ∃ (F : Lt) (s11 s12 s13 s14 s15 s16 : PD.Slot), noOwn (some s11) = true ∧ Lv s ar (pl.drop (j + 1)) (j + 1) v F ∧ (∀ y ∈ dn, ∀ k ∈ ks b, Cov s p (pl.drop (j + 1)).sum F y.1 y.2 k) ∧
  z = Q1 s pl ar st (lD l) (.v (.d (.int j))) (.own (.dct (ltD F))) s11 s12 s13 s14 s15 s16 m
def LQd (s : Su) (pl ar : List Int) (st v : Int) (m : List Cell) (j : Nat) (z : PD.St) : Prop := ∃ (l : Lt) (s8 s9 s10 s11 s12 s13 s14 s15 s16 : PD.Slot), (s8 = .own (.dct (ltD l)) ∨ s8 = lD l) ∧ noOwn (some s11) = true ∧ Lvl s ar (pl.drop j) j v l ∧ z = Q1 s pl ar st s8 s9 s10 s11 s12 s13 s14 s15 s16 m
theorem ks_n (b : Bool) : ∃ n : Nat, 1 ≤ n ∧ n ≤ 10 ∧ (if b = true then (10 : Int) else 1) = (n : Int) ∧ ks b = (List.range n).map fun (i : Nat) => (i : Int) := by
  cases b with
  | true => exact ⟨10, by decide, by decide, rfl, rfl⟩
  | false => exact ⟨1, by decide, by decide, rfl, rfl⟩
theorem uses_step (h : Pl s pl ar) {v : Int} {l : Lt} {j : Nat} (hj : j < pl.length) (hl : Lvl s ar (pl.drop j) j v l) {b : Bool} (hb : b = decide ((j : Int) ∈ ar)) {dn rest : Lt} {x : Int × Int} (e : l = dn ++ x :: rest) {z : PD.St} {Q : Fl → PD.St → Prop} {X : Str → PD.St → Prop}
    (hz : LQu s pl ar st v l j pl[j] b m dn z) (fin : ∀ z, LQu s pl ar st v l j pl[j] b m (dn ++ [x]) z → Q .nx z) :
    oq (Bd.put (.nm 11) (.int x.1) z) fun s1 => wp (sFor (iRng1 (eIf (tCmp .inn (eVar 9) (eVar 3)) (eC (.int 10)) (eC (.int 1)))) (.nm 12) bTurn s1) Q X := by
  have hsz := sizeLine_eq
  obtain ⟨F, s11, s12, s13, s14, s15, s16, n11, lv, cv, rfl⟩ := hz
  have hx : x ∈ l := by rw [e]; simp
  have edr : pl.drop j = pl[j] :: pl.drop (j + 1) := (List.getElem_cons_drop hj).symm
  obtain ⟨n, n1, n10, en, ekn⟩ := ks_n b
  have pj := h.p pl[j] (List.getElem_mem hj)
  have okd : okp (pl.drop (j + 1)) := fun y hy => h.p y (List.mem_of_mem_drop hy)
  have hsum := sum_le okd
  have hdlen : (pl.drop (j + 1)).length ≤ 30 := by rw [List.length_drop]; have := h.l30; omega
  have la1 := h.so.la1
  have hlk := lk_of hl.nd hx
  obtain ⟨u0, u1⟩ := hl.rg x hx
  have i0 : ∀ s12 s13 s14 s15 s16, LQk s pl ar st v l j pl[j] b m dn x 0 (Q1 s pl ar st (lD l) (.v (.d (.int j))) (.own (.dct (ltD F))) (.v (.d (.int x.1))) s12 s13 s14 s15 s16 m) := fun s12 s13 s14 s15 s16 => ⟨F, s12, s13, s14, s15, s16, lv, cv, fun i hi => absurd hi (by omega), rfl⟩
  have step : ∀ (i : Nat) (z : PD.St) (QQ : Fl → PD.St → Prop) (Z : Str → PD.St → Prop), i < n → LQk s pl ar st v l j pl[j] b m dn x i z → oq (Bd.put (.nm 12) (.int (0 + (i : Int))) z) fun s1 => wp (bTurn s1) (fun f s1 => turnQ (LQk s pl ar st v l j pl[j] b m dn x (i + 1)) QQ f s1) Z := by
    rintro i z QQ Z hi ⟨F, s12, s13, s14, s15, s16, lv, cv, ci, rfl⟩
    have hk : (i : Int) ∈ ks b := by
      rw [ekn]
      exact List.mem_map.mpr ⟨i, List.mem_range.mpr hi, rfl⟩
    have hv : v ≤ x.2 + Fm s ar (pl[j] :: pl.drop (j + 1)) j x.1 := by
      rw [← edr]
      exact hl.ge x hx
    have lv2 := lv.up (by omega) okd (by omega) u0 pj.1 hb hk hv
    have fin2 : ∀ s13 s14 s15 s16, LQk s pl ar st v l j pl[j] b m dn x (i + 1) (Q1 s pl ar st (lD l) (.v (.d (.int j))) (.own (.dct (ltD (up1 s pl[j] (pl.drop (j + 1)).sum F x.1 x.2 (i : Int))))) (.v (.d (.int x.1))) (.v (.d (.int i))) s13 s14 s15 s16 m) := fun s13 s14 s15 s16 => ⟨_, _, _, _, _, _, lv2, fun y hy k hk => cov_old (cv y hy k hk), fun i' hi' => by
      by_cases c : i' = i
      · subst c
        exact cov_new
      · exact cov_old (ci i' (by omega)), rfl⟩
    have g := turn_go (st := st) (m := m) h hj hlk lv.len u0 u1 (show (0 : Int) ≤ (i : Int) by omega) (show (i : Int) < 10 by omega) (s13 := s13) (s14 := s14) (s15 := s15) (s16 := s16) (Q := fun f s1 => turnQ (LQk s pl ar st v l j pl[j] b m dn x (i + 1)) QQ f s1) (X := Z) fun a b c d => fin2 a b c d
    simpa using g
  have fin2 : ∀ z, LQk s pl ar st v l j pl[j] b m dn x n z → Q .nx z := by
    rintro z ⟨F, s12, s13, s14, s15, s16, lv, cv, ci, rfl⟩
    refine fin _ ⟨F, _, _, _, _, _, _, rfl, lv, fun y hy k hk => ?_, rfl⟩
    rcases List.mem_append.mp hy with hy | hy
    · exact cv y hy k hk
    · rw [List.mem_singleton.mp hy]
      rw [ekn] at hk
      obtain ⟨i, hi, rfl⟩ := List.mem_map.mp hk
      exact ci i (List.mem_range.mp hi)
  have i0 := i0 s12 s13 s14 s15 s16
  have edi : dI ar = .list (ar.map .int) := rfl
  have din := dIn_i (xs := ar) (x := (j : Int))
  rw [← hb] at din
  unfold Q1 at i0 ⊢
  generalize hT : LQk s pl ar st v l j pl[j] b m dn x = T at *
  generalize hbT : bTurn = bt at *
  rw [edi] at i0 ⊢
  clear edi hb
  generalize suD s = su at *
  generalize dI pl = pd at *
  generalize ar.map PyData.int = ad at *
  generalize ltD l = ld at *
  generalize ltD F = fd at *
  cases b with
  | true =>
    have en : (10 : Int) = (n : Int) := by simpa using en
    have en : n = 10 := by omega
    subst en
    simp [din]
    refine ⟨small_lit (by decide) (by decide), ?_⟩
    refine wp_loop_rng (n := 10) (fun i z => T i z) i0 ?_ ?_
    · intro i z hi hz
      exact step i z _ _ hi hz
    · intro z hz
      exact fin2 z hz
  | false =>
    have en : (1 : Int) = (n : Int) := by simpa using en
    have en : n = 1 := by omega
    subst en
    simp [din]
    refine ⟨small_lit (by decide) (by decide), ?_⟩
    refine wp_loop_rng (n := 1) (fun i z => T i z) i0 ?_ ?_
    · intro i z hi hz
      exact step i z _ _ hi hz
    · intro z hz
      exact fin2 z hz
end
end LW

namespace LW
open PySem PD
open L2 (atI)
section
variable {s : Su} {pl ar : List Int} {m : List Cell} {st : Int}
theorem day_step (k : Nat) (h : Pl s pl ar) {v : Int} {j : Nat} (hj : j < pl.length) {z : PD.St} {Q : Fl → PD.St → Prop} {X : Str → PD.St → Prop}
    (hz : LQd s pl ar st v m j z) (fin : ∀ z, LQd s pl ar st v m (j + 1) z → Q .nx z) :
    oq (Bd.put (.nm 9) (.int (0 + (j : Int))) z) fun s1 => wp (b_law_least_2L (FF k) s1) Q X := by
  obtain ⟨l, s8, s9, s10, s11, s12, s13, s14, s15, s16, h8, n11, hl, rfl⟩ := hz
  have edr : pl.drop j = pl[j] :: pl.drop (j + 1) := (List.getElem_cons_drop hj).symm
  have pj := h.p pl[j] (List.getElem_mem hj)
  have okd : okp (pl.drop (j + 1)) := fun y hy => h.p y (List.mem_of_mem_drop hy)
  have la1 := h.so.la1
  have step : ∀ (dn : Lt) (x : Int × Int) (rest : Lt) (z : PD.St) (QQ : Fl → PD.St → Prop) (Z : Str → PD.St → Prop), l = dn ++ x :: rest → LQu s pl ar st v l j pl[j] (decide ((j : Int) ∈ ar)) m dn z → oq (Bd.put (.nm 11) (.int x.1) z) fun s1 => wp (sFor (iRng1 (eIf (tCmp .inn (eVar 9) (eVar 3)) (eC (.int 10)) (eC (.int 1)))) (.nm 12) bTurn s1) (fun f s1 => turnQ (LQu s pl ar st v l j pl[j] (decide ((j : Int) ∈ ar)) m (dn ++ [x])) QQ f s1) Z := fun dn x rest z QQ Z e hz =>
    uses_step (X := Z) (Q := fun f s1 => turnQ (LQu s pl ar st v l j pl[j] (decide ((j : Int) ∈ ar)) m (dn ++ [x])) QQ f s1) h hj hl rfl e hz fun z hz => hz
  have i0 : LQu s pl ar st v l j pl[j] (decide ((j : Int) ∈ ar)) m [] (Q1 s pl ar st (lD l) (.v (.d (.int j))) (.own (.dct [])) s11 s12 s13 s14 s15 s16 m) := ⟨[], _, _, _, _, _, _, n11, ⟨by simp, fun x hx => (by cases hx), fun x hx => (by cases hx)⟩, fun y hy => (by cases hy), rfl⟩
  have last : ∀ z, LQu s pl ar st v l j pl[j] (decide ((j : Int) ∈ ar)) m l z → wp (b_law_least_2L_2 (FF k) z) Q X := by
    rintro z ⟨F, s11, s12, s13, s14, s15, s16, n11, lv, cv, rfl⟩
    have hl2 : Lvl s ar (pl[j] :: pl.drop (j + 1)) j v l := by rw [← edr]; exact hl
    have r := lv.all (by omega) okd pj.1 rfl hl2 cv
    have fin := fin (Q1 s pl ar st (lD F) (.v (.d (.int j))) (lD F) s11 s12 s13 s14 s15 s16 m) ⟨F, _, _, _, _, _, _, _, _, _, .inr rfl, n11, r, rfl⟩
    unfold Q1 lD at fin ⊢
    generalize suD s = su at *
    generalize dI pl = pd at *
    generalize dI ar = ad at *
    generalize ltD F = fd at *
    generalize ltD l = ld at *
    simp [b_law_least_2L_2]
    exact fin
  have ek := lt_keys l
  have el := lt_len l
  have lle := hl.len
  have ell : (l.map fun x => PyData.int x.1).length = l.length := List.length_map _
  unfold Q1 at i0 ⊢
  unfold lD at i0 h8
  generalize hT : LQu s pl ar st v l j pl[j] (decide ((j : Int) ∈ ar)) m = T at *
  generalize hbT : bTurn = bt at *
  generalize hb2 : b_law_least_2L_2 (FF k) = b2 at *
  generalize hbF : sFor (iRng1 (eIf (tCmp .inn (eVar 9) (eVar 3)) (eC (.int 10)) (eC (.int 1)))) (.nm 12) bt = bf at *
  have e2 : b_law_least_2L (FF k) = (sSeq (sSetM 10 mNil) (sSeq (sFor (iSeq (eFz (eVar 8))) (.nm 11) bf) b2)) := by
    rw [← hbF, ← hb2, ← hbT]
    rfl
  rw [e2]
  generalize suD s = su at *
  generalize dI pl = pd at *
  generalize dI ar = ad at *
  generalize ltD l = ld at *
  have main : ∀ QQ : Fl → PD.St → Prop, (∀ z, T l z → QQ .nx z) → wp (loop (.nm 11) bf (l.map fun x => PyData.int x.1) ⟨[.v (.d su), .v (.d pd), .v (.d (.int st)), .v (.d ad), .v (.d (.int s.la)), .v (.d (.int s.pr)), .v (.d (.int s.fe)), .v (.d (.int s.lo)), .v (.d (.dict ld)), .v (.d (.int j)), .own (.dct []), s11, s12, s13, s14, s15, s16], m⟩) QQ X := by
    intro QQ hQ
    refine wp_loop_map (f := fun x : Int × Int => PyData.int x.1) (xs := l) (fun dn z => T dn z) i0 ?_ ?_
    · intro dn x rest z e hz
      exact step dn x rest z _ _ e hz
    · intro z hz
      exact hQ z hz
  rcases h8 with rfl | rfl
  · simp
    rw [ek]
    refine main _ fun z hz => ?_
    exact last z hz
  · simp
    rw [ek]
    refine main _ fun z hz => ?_
    exact last z hz
end
end LW

namespace LW
open PySem PD
open L2 (atI)
section
variable {s : Su} {pl ar : List Int} {m : List Cell} {st : Int}
theorem least_end (k : Nat) {v : Int} (hd : pl.drop pl.length = []) {z : PD.St} (hz : LQd s pl ar st v m pl.length z) : wp (b_law_least_3 (FF k) z) (endQ fun x s' => x = .d (.int v) ∧ s' = m) (fun _ _ => False) := by
  obtain ⟨l, s8, s9, s10, s11, s12, s13, s14, s15, s16, h8, n11, hl, rfl⟩ := hz
  have hsz := sizeLine_eq
  rw [hd] at hl
  have em := hl.min
  have ek := lt_keys l
  have lle := hl.len
  have ell : (l.map fun x => PyData.int x.1).length = l.length := List.length_map _
  have ec : comp [11] (.nm 11) tYesS (eIdx (eVar 8) (eVar 11)) (l.map fun x => PyData.int x.1) (Q1 s pl ar st (lD l) s9 s10 .emp s12 s13 s14 s15 s16 m) = .ok ((l.map (·.2)).map PyData.int) (Q1 s pl ar st (lD l) s9 s10 .emp s12 s13 s14 s15 s16 m) := by
    have h2 := comp_map (own := [11]) (bd := .nm 11) (T := tYesS) (A := eIdx (eVar 8) (eVar 11)) (f := fun x : Int × Int => PyData.int x.1) (xs := l) (t := fun _ => true) (a := fun x => PyData.int x.2) (s0 := Q1 s pl ar st (lD l) s9 s10 .emp s12 s13 s14 s15 s16 m) (fun x hx => by
      have q1 := lt_look l x.1
      rw [lk_of hl.nd hx] at q1
      have q1 : lookD (ltD l) (.int x.1) = some (.int x.2) := q1
      have q2 := lt_kk l x.1
      unfold Q1 lD
      generalize suD s = su at *
      generalize dI pl = pd at *
      generalize dI ar = ad at *
      generalize ltD l = ld at *
      simp [q1, q2])
    have ef : (l.filter fun _ => true) = l := by simp
    rw [ef] at h2
    rw [h2, List.map_map]
    rfl
  obtain ⟨x, xs, ex⟩ : ∃ x xs, l.map (·.2) = x :: xs := List.exists_cons_of_ne_nil fun z => by
    obtain ⟨y, hy, _⟩ := hl.ex
    rw [List.map_eq_nil_iff.mp z] at hy
    cases hy
  rw [ex] at em ec
  have emin : PySem.W.minD (.int x) (xs.map .int) = .int v := by
    rw [PySem.W.minD_ints, ← em]
    rfl
  have ook : okOrd (PyData.int x :: xs.map .int) = true := okOrd_ints (x :: xs)
  rw [List.map_cons] at ec
  unfold Q1 at ec ⊢
  unfold lD at h8 ec
  generalize suD s = su at *
  generalize dI pl = pd at *
  generalize dI ar = ad at *
  generalize ltD l = ld at *
  generalize xs.map PyData.int = xd at *
  generalize hld : (l.map fun x => PyData.int x.1) = kd at *
  rcases h8 with rfl | rfl
  · simp [b_law_least_3, ek]
    refine ⟨n11, by omega, ?_⟩
    rw [ec]
    simp [ook, emin]
  · simp [b_law_least_3, ek]
    refine ⟨n11, by omega, ?_⟩
    rw [ec]
    simp [ook, emin]
theorem least_law (k : Nat) (h : Pl s pl ar) (h0 : 0 ≤ st) (h1 : st ≤ 20) : (FF (k + 1)).law_least [.d (suD s), .d (dI pl), .d (.int st), .d (dI ar)] m = .ok (.d (.int (Fm s ar pl 0 (st * s.la)))) m := by
  rw [FF_law_least]
  refine fn_eq rfl ?_
  have hsz := sizeLine_eq
  have l30 := h.l30
  have so := h.so
  have la1 := so.la1
  have la2 := so.la2
  have hm : 0 ≤ st * s.la ∧ st * s.la ≤ 1000 := by
    have h1 := Int.mul_nonneg h0 (show (0 : Int) ≤ s.la by omega)
    have h2 : st * s.la ≤ 20 * 50 := Int.mul_le_mul (by omega) la2 (by omega) (by omega)
    omega
  have i0 : LQd s pl ar st (Fm s ar pl 0 (st * s.la)) m 0 (Q1 s pl ar st (.own (.dct (ltD [(st * s.la, 0)]))) .emp .emp .emp .emp .emp .emp .emp .emp m) := ⟨[(st * s.la, 0)], _, _, _, _, _, _, _, _, _, .inl rfl, rfl, ⟨⟨by simp, fun x hx => by rw [List.mem_singleton.mp hx]; exact hm, fun x hx => by rw [List.mem_singleton.mp hx]; show _ ≤ 0 + Fm s ar pl 0 (st * s.la); omega⟩, _, List.mem_singleton.mpr rfl, by show 0 + Fm s ar pl 0 (st * s.la) = _; omega⟩, rfl⟩
  have e0 : ltD [(st * s.la, 0)] = [(.int (st * s.la), .int 0)] := rfl
  rw [e0] at i0
  have step : ∀ (j : Nat) (z : PD.St) (QQ : Fl → PD.St → Prop) (Z : Str → PD.St → Prop), j < pl.length → LQd s pl ar st (Fm s ar pl 0 (st * s.la)) m j z → oq (Bd.put (.nm 9) (.int (0 + (j : Int))) z) fun s1 => wp (b_law_least_2L (FF k) s1) (fun f s1 => turnQ (LQd s pl ar st (Fm s ar pl 0 (st * s.la)) m (j + 1)) QQ f s1) Z := fun j z QQ Z hj hz =>
    day_step (X := Z) (Q := fun f s1 => turnQ (LQd s pl ar st (Fm s ar pl 0 (st * s.la)) m (j + 1)) QQ f s1) k h hj hz fun z hz => hz
  have last := fun z hz => least_end (s := s) (ar := ar) (m := m) (st := st) (v := Fm s ar pl 0 (st * s.la)) k List.drop_length (pl := pl) (z := z) hz
  have pll : (pl.map PyData.int).length = pl.length := List.length_map _
  have edp : dI pl = .list (pl.map .int) := rfl
  have esu : suD s = .tuple [.int s.la, .int s.pr, .int s.fe, .int s.lo] := rfl
  unfold Q1 at i0
  generalize hT : LQd s pl ar st (Fm s ar pl 0 (st * s.la)) m = T at *
  generalize hb3 : b_law_least_3 (FF k) = b3 at *
  generalize hbL : b_law_least_2L (FF k) = bL at *
  generalize Fm s ar pl 0 (st * s.la) = F at *
  rw [edp, esu] at i0 ⊢
  generalize dI ar = ad at *
  generalize pl.map PyData.int = pd at *
  simp [b_law_least, b_law_least_1, b_law_least_2, hb3, hbL, pll]
  refine ⟨by omega, small_lit (by omega) (by omega), ?_⟩
  refine wp_loop_rng (n := pl.length) (fun j z => T j z) i0 ?_ ?_
  · intro j z hj hz
    exact step j z _ _ hj hz
  · intro z hz
    exact last z hz
end
end LW

namespace LW
open PySem PD
open L2 (atI)
theorem dm_below {m : List Cell} (hm : Dm m) : m.all (Cell.below m.length) = true := by
  obtain ⟨xs, a, _, _, rfl⟩ := hm
  rfl
theorem ltd_int (a b : Int) : dLtD (.int a) (.int b) = some (.bool (decide (a < b))) := by
  unfold dLtD
  rw [show PySem.W.alike (.int a) (.int b) = true from rfl, show PySem.W.alike (.int a) (.int a) = true from rfl, show PySem.W.alike (.int b) (.int b) = true from rfl, PySem.W.dataLt_int]
  rfl
theorem ltd_ints (xs ys : List Int) : dLtD (dI xs) (dI ys) = some (.bool (decide (xs < ys))) := by
  have a0 : ∀ xs ys : List Int, PySem.W.alike (dI xs) (dI ys) = true := fun xs ys => PySem.W.alike_ints xs ys
  have hd : (dI xs).depth ≤ 60 := by
    have e : PyData.depthAll (xs.map PyData.int) = 0 := PySem.W.depth_ints xs
    simp only [PyData.depth, e]
    omega
  have el : PySem.W.dataLt (dI xs) (dI ys) = decide (xs < ys) := by
    show PySem.W.dataLt (.list (xs.map .int)) (.list (ys.map .int)) = _
    rw [PySem.W.dataLt_list]
    exact PySem.W.dataLt_ints xs ys
  unfold dLtD
  rw [a0, a0, a0, el, decide_eq_true hd]
  rfl
section
variable {s : Su} {pl ar o : List Int} {m : List Cell} {st : Int} {s0 s6 s7 s8 s9 s10 s11 s12 s13 s14 : PD.Slot}
def cF (s : Su) (pl ar : List Int) (st : Int) (o : List Int) : Int := pay s o + s.lo * lsF s ar pl 0 (st * s.la) o
theorem nA_all (h : Pl s pl ar) : nA ar pl 0 = ar.length := by
  have := nA_is h.ap pl 0 (fun x hx => by have := (h.ai x hx).2; simpa using this)
  rw [ixn_zero fun x hx => (h.ai x hx).1] at this
  exact this
theorem cF_is (h : Pl s pl ar) (ho : okO ar.length o) : cF s pl ar st o = cst s ar pl 0 (st * s.la) o := (cst_is s ar pl 0 (st * s.la) o (by rw [ho.1, nA_all h])).symm
theorem gr_ok (h : Pl s pl ar) : okO ar.length (gr s ar pl 0 (st * s.la)) := by
  have := (best_is (s := s) (ar := ar) pl 0 (st * s.la)).1.1
  rwa [nA_all h] at this
theorem gr_cost (h : Pl s pl ar) : cF s pl ar st (gr s ar pl 0 (st * s.la)) = Fm s ar pl 0 (st * s.la) := by
  rw [cF_is h (gr_ok h)]
  exact (best_is (s := s) (ar := ar) pl 0 (st * s.la)).1.2
theorem gr_best (h : Pl s pl ar) (ho : okO ar.length o) : ¬ cF s pl ar st o < Fm s ar pl 0 (st * s.la) ∧ (cF s pl ar st o = Fm s ar pl 0 (st * s.la) → ¬ o < gr s ar pl 0 (st * s.la)) := by
  rw [cF_is h ho]
  obtain ⟨h1, h2⟩ := (best_is (s := s) (ar := ar) pl 0 (st * s.la)).2 o (by rw [nA_all h]; exact ho)
  exact ⟨by omega, h2⟩
abbrev K2 (s0 : PD.Slot) (s : Su) (pl ar : List Int) (st : Int) (s6 s7 s8 s9 s10 s11 s12 s13 s14 : PD.Slot) (m : List Cell) : PD.St := ⟨[s0, .v (.c 0), .v (.d (suD s)), .v (.d (dI pl)), .v (.d (.int st)), .v (.d (dI ar)), s6, s7, s8, s9, s10, s11, s12, s13, s14], m⟩
def DrI (s0 : PD.Slot) (s : Su) (pl ar : List Int) (st : Int) (s6 s7 s8 s9 s10 s11 s12 s13 : PD.Slot) (j : Nat) (out : List D) (z : PD.St) : Prop := ∃ (o : List Int) (m : List Cell), out = o.map .int ∧ okO j o ∧ Dm m ∧ z = K2 s0 s pl ar st s6 s7 s8 s9 s10 s11 s12 s13 .emp m
theorem t9 (h : Pl s pl ar) (h0 : 0 ≤ st) (h1 : st ≤ 20) (ho : okO ar.length o) : wp (b_law_9 (FF 99) (K2 s0 s pl ar st s6 s7 s8 s9 s10 s11 s12 (.v (.d (dI o))) s14 m)) (endQ fun v _ => v = .d (.bool true)) (fun _ _ => False) := by
  have g := order_ok (m := m) 95 h h0 h1 ho
  have g2 := law_cost_ok (m := m) 98 h h0 h1 ho
  have g : (FF 99).order_cost [.d (suD s), .d (dI pl), .d (.int st), .d (dI ar), .d (dI o)] m = .ok (.d (.tuple [.int (cF s pl ar st o), .int (lsF s ar pl 0 (st * s.la) o)])) m := g
  have g2 : (FF 99).law_cost [.d (suD s), .d (dI pl), .d (.int st), .d (dI ar), .d (dI o)] m = .ok (.d (.tuple [.int (cF s pl ar st o), .int (lsF s ar pl 0 (st * s.la) o)])) m := g2
  have g3 : ∀ (a b : Int) (m : List Cell), (FF 99).law_equal [.d (.tuple [.int a, .int b]), .d (.tuple [.int a, .int b])] m = .ok (.d (.bool true)) m := fun a b m => f_equal 1 96 _ (fit_tuple (fun z hz => by
      simp only [List.mem_cons, List.not_mem_nil, or_false] at hz
      rcases hz with rfl | rfl <;> exact fit_int) (by simp)) m
  unfold K2
  generalize suD s = su at *
  generalize dI pl = pd at *
  generalize dI ar = ad at *
  generalize dI o = oo at *
  simp [b_law_9, g, g2, g3]
theorem t8 (h : Pl s pl ar) (h0 : 0 ≤ st) (h1 : st ≤ 20) (hm : Dm m) : wp (b_law_8 (FF 99) (K2 s0 s pl ar st s6 s7 s8 s9 s10 s11 s12 .emp .emp m)) (endQ fun v _ => v = .d (.bool true)) (fun _ _ => False) := by
  have hsz := sizeLine_eq
  have hd : DrawF (FF 99).law_draw := f_draw 97
  have al := h.al
  have i0 : DrI s0 s pl ar st s6 s7 s8 s9 s10 s11 s12 .emp 0 [] (K2 s0 s pl ar st s6 s7 s8 s9 s10 s11 s12 .emp .emp m) := ⟨[], m, rfl, ⟨rfl, fun x hx => by cases hx⟩, hm, rfl⟩
  have step : ∀ (j : Nat) (x : Int) (out : List D) (z : PD.St), DrI s0 s pl ar st s6 s7 s8 s9 s10 s11 s12 .emp j out z → oq ((Bd.nm 14).put (PyData.int x) z) fun s1 =>
          wp (tYesS s1) (fun b s2 => if b = true then wp (eMod (eCall (FF 99).law_draw (aCons (eVar 1) aNil)) (eC (PyData.int 10)) s2) (fun w s3 => wp (forceD w s3) (fun d s4 => DrI s0 s pl ar st s6 s7 s8 s9 s10 s11 s12 .emp (j + 1) (out ++ [d]) (s4.wipe [14])) nX) nX
              else DrI s0 s pl ar st s6 s7 s8 s9 s10 s11 s12 .emp (j + 1) out (s2.wipe [14])) nX := by
    rintro j x out z ⟨o, m, rfl, ho, hm, rfl⟩
    have fin : ∀ (a : Int) (m : List Cell), Dm m → DrI s0 s pl ar st s6 s7 s8 s9 s10 s11 s12 .emp (j + 1) (o.map .int ++ [.int (a % 10)]) (K2 s0 s pl ar st s6 s7 s8 s9 s10 s11 s12 .emp .emp m) := fun a m hm => ⟨o ++ [a % 10], m, by simp, ⟨by simp [ho.1], fun x hx => by
      rcases List.mem_append.mp hx with hx | hx
      · exact ho.2 x hx
      · rw [List.mem_singleton.mp hx]
        omega⟩, hm, rfl⟩
    unfold K2 at fin ⊢
    generalize hT : DrI s0 s pl ar st s6 s7 s8 s9 s10 s11 s12 .emp = T at *
    generalize suD s = su at *
    generalize dI pl = pd at *
    generalize dI ar = ad at *
    generalize o.map PyData.int = od at *
    simp
    refine hd.go hm fun a m a0 a1 hm => ?_
    simp
    exact fin a m hm
  have ll : (ar.map PyData.int).length = ar.length := List.length_map _
  have edi : dI ar = .list (ar.map .int) := rfl
  unfold K2 at i0 ⊢
  rw [edi] at i0 ⊢
  have fin : ∀ (o : List Int) (m : List Cell), okO ar.length o → wp (b_law_9 (FF 99) ⟨[s0, .v (.c 0), .v (.d (suD s)), .v (.d (dI pl)), .v (.d (.int st)), .v (.d (.list (ar.map .int))), s6, s7, s8, s9, s10, s11, s12, .v (.d (.list (o.map .int))), .emp], m⟩) (endQ fun v _ => v = .d (.bool true)) (fun _ _ => False) := fun o m ho => t9 h h0 h1 ho
  generalize hb9 : b_law_9 (FF 99) = b9 at *
  have last : ∀ (out : List D) (z : PD.St), DrI s0 s pl ar st s6 s7 s8 s9 s10 s11 s12 .emp ar.length out z → wp (b9 (({ env := restore [14] [s0, .v (.c 0), .v (.d (suD s)), .v (.d (dI pl)), .v (.d (.int st)), .v (.d (.list (ar.map .int))), s6, s7, s8, s9, s10, s11, s12, .emp, .emp] z.env, mem := z.mem } : PD.St).setS 13 (.v (.d (.list out))))) (endQ fun v _ => v = .d (.bool true)) (fun _ _ => False) := by
    rintro out z ⟨o, m, rfl, ho, hm, rfl⟩
    have f := fin o m ho
    unfold K2
    generalize suD s = su at *
    generalize dI pl = pd at *
    generalize o.map PyData.int = od at *
    simpa using f
  generalize hT : DrI s0 s pl ar st s6 s7 s8 s9 s10 s11 s12 .emp = T at *
  generalize suD s = su at *
  generalize dI pl = pd at *
  simp [b_law_8, hb9]
  refine ⟨by omega, ?_⟩
  refine wp_comp_map (f := PyData.int) (xs := ar) (fun dn out z => T dn.length out z) i0 ?_ ?_
  · intro dn x rest out z e hz
    rw [show (dn ++ [x]).length = dn.length + 1 from by simp]
    exact step dn.length x out z hz
  · intro out z hz
    simpa using last out z hz
end
end LW

namespace LW
open PySem PD
open L2 (atI)
section
variable {s : Su} {pl ar o : List Int} {m : List Cell} {st F : Int} {s0 s6 s7 s8 s9 s10 s11 s12 s13 s14 : PD.Slot}
abbrev bOne : SSem := (sSeq (sSet 11 (eOfF (fAdd (eOfF (fAdd (eSlice (eVar 8) pNone (pSome (eVar 9))) (eOfF (fLst (aCons (eVar 10) aNil))))) (eSlice (eVar 8) (pSome (eAdd (eVar 9) (eC (.int 1)))) pNone))))
   (sSeq (sSet 12 (eIdx (eCall (FF 99).law_cost (aCons (eVar 2) (aCons (eVar 3) (aCons (eVar 4) (aCons (eVar 5) (aCons (eVar 11) aNil)))))) (eC (.int 0))))
   (sIf (tOrS (tLtD (eVar 12) (eVar 7)) (tAndS (tCmp .eq (eVar 12) (eVar 7)) (tLtD (eVar 11) (eVar 8)))) (sRet (eC (.bool false))) sNext)))
theorem one_go (h : Pl s pl ar) (h0 : 0 ≤ st) (h1 : st ≤ 20) {i : Nat} {k : Int} (hi : i < ar.length) (k0 : 0 ≤ k) (k9 : k < 10) {Q : Fl → PD.St → Prop} {X : Str → PD.St → Prop}
    (fin : ∀ s11 s12, Q .nx (K2 s0 s pl ar st s6 (.v (.d (.int (Fm s ar pl 0 (st * s.la))))) (.v (.d (dI (gr s ar pl 0 (st * s.la))))) (.v (.d (.int i))) (.v (.d (.int k))) s11 s12 .emp .emp m)) :
    wp (bOne (K2 s0 s pl ar st s6 (.v (.d (.int (Fm s ar pl 0 (st * s.la))))) (.v (.d (dI (gr s ar pl 0 (st * s.la))))) (.v (.d (.int i))) (.v (.d (.int k))) s11 s12 .emp .emp m)) Q X := by
  have hsz := sizeLine_eq
  have al := h.al
  obtain ⟨go1, go2⟩ := gr_ok (st := st) h
  generalize ho : gr s ar pl 0 (st * s.la) = o at *
  have oko : okO ar.length (o.take i ++ [k] ++ o.drop (i + 1)) := ⟨by simp; omega, fun x hx => by
    rcases List.mem_append.mp hx with hx | hx
    · rcases List.mem_append.mp hx with hx | hx
      · exact go2 x (List.mem_of_mem_take hx)
      · rw [List.mem_singleton.mp hx]; omega
    · exact go2 x (List.mem_of_mem_drop hx)⟩
  obtain ⟨b1, b2⟩ := gr_best (st := st) h oko
  rw [ho] at b2
  have g2 := law_cost_ok (m := m) 98 h h0 h1 oko
  have g2 : (FF 99).law_cost [.d (suD s), .d (dI pl), .d (.int st), .d (dI ar), .d (dI (o.take i ++ [k] ++ o.drop (i + 1)))] m = .ok (.d (.tuple [.int (cF s pl ar st (o.take i ++ [k] ++ o.drop (i + 1))), .int (lsF s ar pl 0 (st * s.la) (o.take i ++ [k] ++ o.drop (i + 1)))])) m := g2
  have l1 := ltd_int (cF s pl ar st (o.take i ++ [k] ++ o.drop (i + 1))) (Fm s ar pl 0 (st * s.la))
  have l2 := ltd_ints (o.take i ++ [k] ++ o.drop (i + 1)) o
  have c1 : cutD (o.map PyData.int) none (some (i : Int)) = (o.take i).map PyData.int := by rw [cutD_to, ← List.map_take]
  have c2 : cutD (o.map PyData.int) (some ((i : Int) + 1)) none = (o.drop (i + 1)).map PyData.int := by
    have := cutD_from (o.map PyData.int) (i + 1)
    rw [← List.map_drop] at this
    exact this
  have e3 : (o.take i ++ [k] ++ o.drop (i + 1)).map PyData.int = (o.take i).map PyData.int ++ [.int k] ++ (o.drop (i + 1)).map PyData.int := by simp
  have t1 : ((o.take i).map PyData.int).length ≤ 10 := by simp; omega
  have t2 : ((o.drop (i + 1)).map PyData.int).length ≤ 10 := by simp; omega
  have edo : dI o = .list (o.map .int) := rfl
  have edn : dI (o.take i ++ [k] ++ o.drop (i + 1)) = .list ((o.take i).map PyData.int ++ [.int k] ++ (o.drop (i + 1)).map PyData.int) := by rw [← e3]
  rw [edn] at g2 l2
  rw [edo] at l2
  unfold K2 at fin ⊢
  rw [edo] at fin ⊢
  generalize hcF : cF s pl ar st (o.take i ++ [k] ++ o.drop (i + 1)) = cf at *
  generalize lsF s ar pl 0 (st * s.la) (o.take i ++ [k] ++ o.drop (i + 1)) = lf at *
  generalize Fm s ar pl 0 (st * s.la) = F at *
  have l2b : cf = F → (decide ((o.take i ++ [k] ++ o.drop (i + 1)) < o)) = false := fun e => decide_eq_false (b2 e)
  have b1 : decide (cf < F) = false := decide_eq_false b1
  rw [b1] at l1
  generalize decide ((o.take i ++ [k] ++ o.drop (i + 1)) < o) = bb at *
  clear e3 edo edn oko b2 hcF
  generalize suD s = su at *
  generalize dI pl = pd at *
  generalize dI ar = ad at *
  generalize (o.take i).map PyData.int = od1 at *
  generalize (o.drop (i + 1)).map PyData.int = od2 at *
  generalize o.map PyData.int = od at *
  by_cases ce : cf = F
  · have l2b := l2b ce
    subst l2b
    subst ce
    simp at l2 g2
    simp [bOne, c1, c2, g2, l1, l2]
    exact ⟨by omega, by omega, fin _ _⟩
  · simp at l2 g2
    simp [bOne, c1, c2, g2, l1, l2, ce]
    exact ⟨by omega, by omega, fin _ _⟩
end
end LW

namespace LW
open PySem PD
open L2 (atI)
section
variable {s : Su} {pl ar o : List Int} {m : List Cell} {st : Int} {s0 s6 s7 s8 s9 s10 s11 s12 s13 s14 : PD.Slot}
abbrev K3 (s0 : PD.Slot) (s : Su) (pl ar : List Int) (st : Int) (s6 s9 s10 s11 s12 : PD.Slot) (m : List Cell) : PD.St := K2 s0 s pl ar st s6 (.v (.d (.int (Fm s ar pl 0 (st * s.la))))) (.v (.d (dI (gr s ar pl 0 (st * s.la))))) s9 s10 s11 s12 .emp .emp m
def SvI (s0 : PD.Slot) (s : Su) (pl ar : List Int) (st : Int) (s6 : PD.Slot) (m : List Cell) (z : PD.St) : Prop := ∃ s9 s10 s11 s12 : PD.Slot, z = K3 s0 s pl ar st s6 s9 s10 s11 s12 m
def SvJ (s0 : PD.Slot) (s : Su) (pl ar : List Int) (st : Int) (s6 : PD.Slot) (i : Nat) (m : List Cell) (z : PD.St) : Prop := ∃ s10 s11 s12 : PD.Slot, z = K3 s0 s pl ar st s6 (.v (.d (.int i))) s10 s11 s12 m
theorem t7 (h : Pl s pl ar) (h0 : 0 ≤ st) (h1 : st ≤ 20) (hm : Dm m) : wp (b_law_7 (FF 99) (K3 s0 s pl ar st s6 s9 s10 s11 s12 m)) (endQ fun v _ => v = .d (.bool true)) (fun _ _ => False) := by
  have hsz := sizeLine_eq
  have al := h.al
  have go := gr_ok (st := st) h
  have i0 : SvI s0 s pl ar st s6 m (K3 s0 s pl ar st s6 s9 s10 s11 s12 m) := ⟨_, _, _, _, rfl⟩
  have last : ∀ z, SvI s0 s pl ar st s6 m z → wp (b_law_8 (FF 99) z) (endQ fun v _ => v = .d (.bool true)) (fun _ _ => False) := by
    rintro z ⟨s9, s10, s11, s12, rfl⟩
    exact t8 h h0 h1 hm
  have inner : ∀ (i : Nat) (k : Nat) (z : PD.St) (QQ : Fl → PD.St → Prop) (Z : Str → PD.St → Prop), i < ar.length → k < 10 → SvJ s0 s pl ar st s6 i m z → oq (Bd.put (.nm 10) (.int (0 + (k : Int))) z) fun s1 => wp (bOne s1) (fun f s1 => turnQ (SvJ s0 s pl ar st s6 i m) QQ f s1) Z := by
    rintro i k z QQ Z hi hk ⟨s10, s11, s12, rfl⟩
    have g := one_go (m := m) (s0 := s0) (s6 := s6) (s11 := s11) (s12 := s12) h h0 h1 hi (show (0 : Int) ≤ (k : Int) by omega) (show (k : Int) < 10 by omega) (Q := fun f s1 => turnQ (SvJ s0 s pl ar st s6 i m) QQ f s1) (X := Z) fun a b => ⟨_, a, b, rfl⟩
    simpa using g
  have outer : ∀ (i : Nat) (z : PD.St) (QQ : Fl → PD.St → Prop) (Z : Str → PD.St → Prop), i < ar.length → SvI s0 s pl ar st s6 m z → oq (Bd.put (.nm 9) (.int (0 + (i : Int))) z) fun s1 => wp (sFor (iRng1 (eC (.int 10))) (.nm 10) bOne s1) (fun f s1 => turnQ (SvI s0 s pl ar st s6 m) QQ f s1) Z := by
    rintro i z QQ Z hi ⟨s9, s10, s11, s12, rfl⟩
    have j0 : SvJ s0 s pl ar st s6 i m (K3 s0 s pl ar st s6 (.v (.d (.int i))) s10 s11 s12 m) := ⟨_, _, _, rfl⟩
    have inn := fun k z QQ Z hk hz => inner i k z QQ Z hi hk hz
    have lst : ∀ z, SvJ s0 s pl ar st s6 i m z → SvI s0 s pl ar st s6 m z := by
      rintro z ⟨a, b, c, rfl⟩
      exact ⟨_, a, b, c, rfl⟩
    unfold K3 K2 at j0 ⊢
    generalize SvI s0 s pl ar st s6 m = T at *
    generalize SvJ s0 s pl ar st s6 i m = T2 at *
    generalize hbo : bOne = bo at *
    generalize suD s = su at *
    generalize dI pl = pd at *
    generalize dI ar = ad at *
    generalize dI (gr s ar pl 0 (st * s.la)) = gd at *
    generalize Fm s ar pl 0 (st * s.la) = F at *
    simp
    refine ⟨small_lit (by decide) (by decide), ?_⟩
    refine wp_loop_rng (n := 10) (fun _ z => T2 z) j0 ?_ ?_
    · intro k z hk hz
      exact inn k z _ _ hk hz
    · intro z hz
      exact lst z hz
  have gl : ((gr s ar pl 0 (st * s.la)).map PyData.int).length = ar.length := by rw [List.length_map, go.1]
  have edg : dI (gr s ar pl 0 (st * s.la)) = .list ((gr s ar pl 0 (st * s.la)).map .int) := rfl
  have e7 : b_law_7 (FF 99) = (sSeq (sFor (iRng1 (eLen (eVar 8))) (.nm 9) (sFor (iRng1 (eC (.int 10))) (.nm 10) bOne)) (b_law_8 (FF 99))) := rfl
  rw [e7]
  unfold K3 K2 at i0 ⊢
  rw [edg] at i0 ⊢
  generalize SvI s0 s pl ar st s6 m = T at *
  generalize hbf : sFor (iRng1 (eC (.int 10))) (.nm 10) bOne = bf at *
  generalize hb8 : b_law_8 (FF 99) = b8 at *
  generalize suD s = su at *
  generalize dI pl = pd at *
  generalize dI ar = ad at *
  generalize (gr s ar pl 0 (st * s.la)).map PyData.int = gd at *
  generalize Fm s ar pl 0 (st * s.la) = F at *
  simp [gl]
  refine ⟨small_lit (by omega) (by omega), ?_⟩
  refine wp_loop_rng (n := ar.length) (fun _ z => T z) i0 ?_ ?_
  · intro i z hi hz
    exact outer i z _ _ hi hz
  · intro z hz
    simpa using last z hz
theorem t2 (h : Pl s pl ar) (h0 : 0 ≤ st) (h1 : st ≤ 20) (hm : Dm m) : wp (b_law_2 (FF 99) (K2 s0 s pl ar st .emp .emp .emp .emp .emp .emp .emp .emp .emp m)) (endQ fun v _ => v = .d (.bool true)) (fun _ _ => False) := by
  have al := h.al
  obtain ⟨l, hb⟩ := best_ok (s := s) (pl := pl) (ar := ar) (m := m) (st := st) 35 h h0 h1
  have gb : gFn (FF 99).best_order [.d (suD s), .d (dI pl), .d (.int st), .d (dI ar)] m = .ok (.d (.tuple [.int (Fm s ar pl 0 (st * s.la)), .list ((gr s ar pl 0 (st * s.la)).map .int)])) m := gFn_ok hb (dm_below hm)
  have gl1 := (gr_ok (st := st) h).1
  have gl : ((gr s ar pl 0 (st * s.la)).map PyData.int).length = ar.length := by rw [List.length_map, gl1]
  have all : (ar.map PyData.int).length = ar.length := List.length_map _
  have q1 := least_law (m := m) (st := st) 98 h h0 h1
  have q1 : (FF 99).law_least [.d (suD s), .d (dI pl), .d (.int st), .d (dI ar)] m = .ok (.d (.int (Fm s ar pl 0 (st * s.la)))) m := q1
  have q2 := law_cost_ok (m := m) 98 h h0 h1 (gr_ok (st := st) h)
  have e2 := gr_cost (st := st) h
  unfold cF at e2
  rw [e2] at q2
  have q2 : (FF 99).law_cost [.d (suD s), .d (dI pl), .d (.int st), .d (dI ar), .d (.list ((gr s ar pl 0 (st * s.la)).map .int))] m = .ok (.d (.tuple [.int (Fm s ar pl 0 (st * s.la)), .int (lsF s ar pl 0 (st * s.la) (gr s ar pl 0 (st * s.la)))])) m := q2
  have q3 : (FF 99).law_equal [.d (.int (Fm s ar pl 0 (st * s.la))), .d (.int (Fm s ar pl 0 (st * s.la)))] m = .ok (.d (.bool true)) m := f_equal 0 98 _ fit_int m
  have nx := fun s6 => t7 (s0 := s0) (s6 := s6) (s9 := .emp) (s10 := .emp) (s11 := .emp) (s12 := .emp) h h0 h1 hm
  have edg : dI (gr s ar pl 0 (st * s.la)) = .list ((gr s ar pl 0 (st * s.la)).map .int) := rfl
  have eda : dI ar = .list (ar.map .int) := rfl
  unfold K3 K2 at nx
  unfold K2
  rw [edg] at nx
  rw [eda] at nx q1 q2 gb ⊢
  clear e2 edg eda
  generalize hb7 : b_law_7 (FF 99) = b7 at *
  generalize suD s = su at *
  generalize dI pl = pd at *
  generalize lsF s ar pl 0 (st * s.la) (gr s ar pl 0 (st * s.la)) = ls at *
  generalize Fm s ar pl 0 (st * s.la) = F at *
  generalize ar.map PyData.int = ad at *
  generalize (gr s ar pl 0 (st * s.la)).map PyData.int = gd at *
  simp [b_law_2, gb, b_law_3, gl, all, b_law_4, b_law_5, q1, q3, b_law_6, q2, hb7]
  simpa using nx _
end
theorem law_true : ∀ ns : List Int, ns.length ≤ 63 → ∃ mem, (FF 100).law [.k (.list (ns.map .int))] [] = .ok (.d (.bool true)) mem := by
  intro ns hl
  refine law_by (FF_law 99) rfl ?_
  have hsz := sizeLine_eq
  obtain ⟨xs, hx1, hx2, hx3⟩ := numbers_ok (f_mixed 97) ns hl []
  have hx3 : (FF 99).law_numbers [.k (dI ns)] [] = .ok (.d (dI xs)) [] := hx3
  simp [b_law, hx3, b_law_1]
  have hm : Dm [.lst [dI xs, .int 0]] := ⟨xs, 0, hx1, by decide, rfl⟩
  refine wp.mono (supply_ok 96 hm) ?_ (fun _ _ z => z.elim)
  rintro _ m ⟨s, pl, ar, st, h, ⟨h0, h1⟩, ha, rfl, hm⟩
  have r := t2 (s0 := .v (.k (dI ns))) h h0 h1 hm
  unfold K2 at r
  generalize suD s = su at *
  generalize dI pl = pd at *
  generalize dI ar = ad at *
  simp
  simpa using r
end LW



open PySem PySem.W PySem.Calls PyProof.Rows in
theorem PySem.Challenge.cw_everywayout_k54_orders_of_many_days_holds : PySem.Challenge.rw_everywayout_k54_orders_of_many_days.Holds := by
  w_on; o_law
  refine HandSHeadRun.head_any (r := OpenLaw.row PySem.Challenge.rw_everywayout_k54_orders_of_many_days) (q := view (OpenLaw.row PySem.Challenge.rw_everywayout_k54_orders_of_many_days).prog [25]) (H := LW.hk) (ob := LW.ob) (M := 2000) (loose := LW.loose) (d := HandSHeadRun.topDef (OpenLaw.row PySem.Challenge.rw_everywayout_k54_orders_of_many_days).prog 25) (kwd := []) LW.ob_eq
    (by kernel_rfl) (fun s => by kernel_rfl) LW.run (by kernel_rfl) (by kernel_rfl) (by kernel_rfl) (by rfl) (by first | assumption | decide +kernel) (by decide +kernel) ⟨rfl, rfl, rfl, rfl, rfl, by decide +kernel⟩ ?hw ?hc
  case hw => w_witness2
  case hc =>
    refine PD.law_end (l := PySem.Challenge.rw_everywayout_k54_orders_of_many_days) (n := 63) (k := (2 * 100)) (f := (LW.FF 100).law) rfl (by decide) (by kernel_rfl) ⟨rfl, by decide, by decide⟩ ?F LW.law_true
    intro w mg fa h Y G hmg0
    obtain ⟨K, KX, c⟩ := Y
    have hmg : mg ("law" : PySem.Str) = some (.ref fa) := by
      have e : (HandSHeadRun.topDef (OpenLaw.row PySem.Challenge.rw_everywayout_k54_orders_of_many_days).prog 25).name = ("law" : PySem.Str) := by kernel_rfl
      rw [← e]
      exact hmg0
    obtain ⟨fd, hb, hF⟩ := LW.ends (P := (PySem.Challenge.rw_everywayout_k54_orders_of_many_days).prog) (w := w) KX G hmg c
    exact ⟨K, fd, KX, hb, hF⟩


