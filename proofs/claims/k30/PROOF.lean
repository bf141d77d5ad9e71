import PyProof.Rows.All
import KE.KeyNested
import HandS.Dict
import HandS.TupLen
import HandS.ForMost
import HandS.ForExc
import HandS.ExcIs
import HandS.IsInst
import HandS.Wide
import HandS.Flow
import HandS.SortInts
import HandS.More
import HandS.Style
import HandS.Comp
import HandS.Strs
import HandS.SetFor
import HandS.Defaults
import HandS.CallSlots
import HandS.Conv
import HandS.SortRule
import KE.KDictDisplayH
import HandS.Rev
import HandS.EndBits
import HandS.SetKeys
import HandS.ListItems
import KE.GoesMore
import HandS.ExcOwn
import HandS.ClsMeth
import HandS.Text
import HandS.Iter
import HandS.TupAny
import HandS.RaiseMore
import HandS.List
import PyProof.ListMulRoad
import PyProof.AutoListH
import PyProof.StrOps2
import HandS.NoneIn
import HandS.Head0
import HandS.Head1
import HandS.Head2
import HandS.HeadEnd
import HandS.HeadHook1
import HandS.HeadHook2
import Wide.All
import OpenK.AllK
import Wide.FinOn
import KE.KStateDown
import PySem.Challenge.RW_rankgarth_k30_betterings
set_option Elab.async false
set_option linter.all false
set_option maxRecDepth 100000
namespace DL
open PySem PySem.Spec L2 PyProof.Rows
abbrev NKey := NestedKey
mutual
def plainN : NKey → Bool
  | .none => true
  | .num _ => true
  | .text _ => false
  | .tup ks => plainNs ks
def plainNs : List NKey → Bool
  | [] => true
  | k :: ks => plainN k && plainNs ks
end
def okN (k : NKey) : Bool := plainN k && decide (k.depth ≤ 8)
mutual
def KAt (H : Hp) : NKey → V → Prop
  | .none, v => v = .non
  | .num i, v => v = .int i
  | .text x, v => v = .str x
  | .tup ks, v => ∃ b vs, v = .ref b ∧ H b = some (.tup vs) ∧ KAts H ks vs
def KAts (H : Hp) : List NKey → List V → Prop
  | [], vs => vs = []
  | k :: ks, vs => ∃ v r, vs = v :: r ∧ KAt H k v ∧ KAts H ks r
end
mutual
theorem KAt.mono {H H' : Hp} (h : ∀ b xs, H b = some (.tup xs) → H' b = some (.tup xs)) : ∀ {k : NKey} {v : V}, KAt H k v → KAt H' k v
  | .none, _, e => e
  | .num _, _, e => e
  | .text _, _, e => e
  | .tup ks, _, ⟨b, vs, e, s, r⟩ => ⟨b, vs, e, h _ _ s, KAts.mono h r⟩
theorem KAts.mono {H H' : Hp} (h : ∀ b xs, H b = some (.tup xs) → H' b = some (.tup xs)) : ∀ {ks : List NKey} {vs : List V}, KAts H ks vs → KAts H' ks vs
  | [], _, e => e
  | k :: ks, _, ⟨v, r, e, x, y⟩ => ⟨v, r, e, KAt.mono h x, KAts.mono h y⟩
end
theorem KAts.length {H : Hp} : ∀ {ks : List NKey} {vs : List V}, KAts H ks vs → ks.length = vs.length
  | [], _, e => by cases (show _ = [] from e); rfl
  | k :: ks, _, ⟨v, r, e, x, y⟩ => by rw [e, List.length_cons, List.length_cons, KAts.length y]
section
variable {P : Program} {w : World} {H : Hp} {h : Heap}
mutual
theorem kat_is (ok : HOk P w H h) : ∀ {k : NKey} {v : V} {u : Value}, KAt H k v → RelV v u → NestedIs h k u
  | .none, _, _, e, r => by
    cases (show _ = V.non from e)
    cases (show _ = Value.none from r)
    exact .none
  | .num i, _, _, e, r => by
    cases (show _ = V.int i from e)
    obtain ⟨t, rfl⟩ := (show ∃ t, _ = Value.int i t from r)
    exact .int i t
  | .text x, _, _, e, r => by
    cases (show _ = V.str x from e)
    obtain ⟨t, rfl⟩ := (show ∃ t, _ = Value.str x t from r)
    exact .text x t
  | .tup ks, _, _, ⟨b, vs, e, s, q⟩, r => by
    subst e
    cases (show _ = Value.ref b from r)
    obtain ⟨_, its, rv, o, h1, h2, n, h3⟩ := (show ObjOk P w H h b (.tup vs) from ok b _ s)
    exact .tup h1 h2 h3 (by simpa using kats_is ok q rv)
theorem kats_is (ok : HOk P w H h) : ∀ {ks : List NKey} {vs : List V} {us : List Value}, KAts H ks vs → Vals vs us → NestedAll h ks us
  | [], _, _, e, r => by
    cases (show _ = [] from e)
    cases r
    exact .nil
  | k :: ks, _, _, ⟨v, t, e, x, y⟩, r => by
    subst e
    cases r with
    | cons p q => exact .cons (kat_is ok x p) (kats_is ok y q)
end
end
abbrev NM := List (NKey × Addr × V)
def entN (w : World) (x : NKey × Addr × Value) : DictEntry := ⟨x.1.hash w, .ref x.2.1, x.2.2⟩
abbrev NRel : NM → List (NKey × Addr × Value) → Prop := Paired fun p q => p.1 = q.1 ∧ p.2.1 = q.2.1 ∧ RelV p.2.2 q.2.2
def NXp (a : Addr) (od : Obj) (ms : NM) (h : Heap) : Prop := (a == sysModules) = false ∧ ms.length ≤ sizeLine ∧ ∃ xs : List (NKey × Addr × Value), NRel ms xs ∧
  ∃ o es ep, h.get? a = some o ∧ o.ExactDict ∧ o.data = .dict es ep ∧ (∀ w : World, es.toList = xs.map (entN w)) ∧ (xs.map (·.1)).Nodup ∧ o = od
def NX (a : Addr) (od : Obj) (ms : NM) : HO := .ext (NXp a od ms)
def NAt (F H : Hp) (a : Addr) (kvs : List (NKey × V)) : Prop := ∃ (ms : NM) (od : Obj), H a = some (NX a od ms) ∧ ms.map (fun m => (m.1, m.2.2)) = kvs ∧ ∀ m ∈ ms, okN m.1 = true ∧ KAt F m.1 (.ref m.2.1)
theorem NAt.frame {F F' H H' : Hp} {a : Addr} {kvs : List (NKey × V)} (h : ∀ b xs, F b = some (.tup xs) → F' b = some (.tup xs)) (k : H' a = H a) (x : NAt F H a kvs) : NAt F' H' a kvs := by
  obtain ⟨ms, od, e, m, t⟩ := x
  exact ⟨ms, od, by rw [k]; exact e, m, fun y hy => ⟨(t y hy).1, (t y hy).2.mono h⟩⟩
theorem NAt.mono {F F' : Hp} {a : Addr} {kvs : List (NKey × V)} (x : NAt F F a kvs) (h : ∀ b o, F b = some o → F' b = some o) : NAt F' F' a kvs := by
  obtain ⟨ms, od, e, m, t⟩ := x
  exact ⟨ms, od, h _ _ e, m, fun y hy => ⟨(t y hy).1, (t y hy).2.mono fun b xs q => h b _ q⟩⟩
theorem NAt.ne {F H : Hp} {a : Addr} {kvs : List (NKey × V)} (x : NAt F H a kvs) : H a ≠ none := by
  obtain ⟨ms, od, e, _⟩ := x
  rw [e]
  exact fun h => nomatch h
theorem NRel.val : ∀ {ms : NM} {xs : List (NKey × Addr × Value)}, NRel ms xs → ∀ k : NKey, RelO (valV (ms.map fun m => (m.1, m.2.2)) k) ((atKey xs k).map (·.2)) := by
  intro ms xs r k
  induction r with
  | nil => exact True.intro
  | @cons p q ps qs h t ih =>
    obtain ⟨h1, _, h2⟩ := h
    by_cases e : p.1 = k
    · have e' : q.1 = k := h1.symm.trans e
      have b : atKey (q :: qs) k = some q.2 := by simp [atKey, List.find?_cons, e']
      rw [List.map_cons, valV_pos (p := (p.1, p.2.2)) e, b]; exact h2
    · have e' : ¬ q.1 = k := fun z => e (h1.trans z)
      have b : atKey (q :: qs) k = atKey qs k := by simp [atKey, List.find?_cons, e']
      rw [List.map_cons, valV_neg (p := (p.1, p.2.2)) e, b]; exact ih
theorem NRel.repl {ms : NM} {xs : List (NKey × Addr × Value)} (r : NRel ms xs) (k : NKey) {y : V} {u : Value} (ry : RelV y u) :
    NRel (ms.map fun m => if m.1 = k then (m.1, m.2.1, y) else m) (xs.map (putAt k u)) := by
  induction r with
  | nil => exact .nil
  | @cons p q ps qs h t ih =>
    rw [List.map_cons, List.map_cons]
    refine .cons ?_ ih
    obtain ⟨h1, h2, h3⟩ := h
    unfold putAt
    by_cases e : p.1 = k
    · rw [if_pos e, if_pos (h1.symm.trans e)]; exact ⟨h1, h2, ry⟩
    · rw [if_neg e, if_neg (fun z => e (h1.trans z))]; exact ⟨h1, h2, h3⟩
def putN (ms : NM) (k : NKey) (b : Addr) (y : V) : NM := if (valV (ms.map fun m => (m.1, m.2.2)) k).isSome then ms.map (fun m => if m.1 = k then (m.1, m.2.1, y) else m) else ms ++ [(k, b, y)]
theorem NRel.put {ms : NM} {xs : List (NKey × Addr × Value)} (r : NRel ms xs) (k : NKey) {b : Addr} {y : V} {u : Value} (ry : RelV y u) : NRel (putN ms k b y) (storedH xs k b u) := by
  have e := (r.val k).isSome_eq
  rw [Option.isSome_map] at e
  unfold putN storedH
  rw [e]
  by_cases q : (atKey xs k).isSome = true
  · rw [if_pos q, if_pos q]; exact r.repl k ry
  · rw [if_neg q, if_neg q]; exact Paired.snoc r ⟨rfl, rfl, ry⟩
section
variable {X : Cx} {pins : List (Addr × Obj)} {σ : L2.St} {F H : Hp} {s : Shared} {a b : Addr} {kvs : List (NKey × V)} {k : NKey} {v : V} {r : Value} {A : Around} {E : Value → Shared → Prop}
theorem n_of {P : Program} {w : World} {h : Heap} {od : Obj} {ms : NM} (ok : HOk P w H h) (hf : ∀ b xs, F b = some (.tup xs) → H b = some (.tup xs)) (e : H a = some (NX a od ms)) (t : ∀ m ∈ ms, okN m.1 = true ∧ KAt F m.1 (.ref m.2.1)) :
    (a == sysModules) = false ∧ ms.length ≤ sizeLine ∧ ∃ xs, NRel ms xs ∧ h.DictOfH (nestedKind P w) a xs := by
  obtain ⟨⟨h1, h2, xs, h3, o, es, ep, h4, h5, h6, h7, h8, _⟩, _⟩ := (show ObjOk P w H h a (NX a od ms) from ok a _ e)
  refine ⟨h1, h2, xs, h3, o, es, ep, h4, h5, h6, h7 w, fun x hx => ?_, h8⟩
  have all : ∀ {l : NM} {m : List (NKey × Addr × Value)}, NRel l m → (∀ m ∈ l, okN m.1 = true ∧ KAt F m.1 (.ref m.2.1)) → ∀ x ∈ m, (nestedKind P w).is h x.1 x.2.1 := by
    intro l m q
    induction q with
    | nil => intro _ x hx; exact nomatch hx
    | @cons p q ps qs hq t ih =>
      intro ht x hx
      rcases List.mem_cons.mp hx with e | hx
      · subst e
        obtain ⟨g1, g2⟩ := ht p List.mem_cons_self
        have g3 : (plainN p.1 && decide (p.1.depth ≤ 8)) = true := g1
        rw [Bool.and_eq_true] at g3
        rw [← hq.1, ← hq.2.1]
        exact ⟨kat_is ok (g2.mono hf) rfl, of_decide_eq_true g3.2⟩
      · exact ih (fun m hm => ht m (List.mem_cons_of_mem _ hm)) x hx
  exact all h3 t x hx
theorem n_room (hu : A.units + 64 < cLine) : (nestedKind X.prog X.w).room A.in1 := by
  show A.in1.units + 8 < cLine
  have : A.in1.units = A.units + 1 := Around.in1_units A
  omega
theorem okN_is {P : Program} {w : World} {h : Heap} (ok : HOk P w H h) (o : okN k = true) (x : KAt H k (.ref b)) : (nestedKind P w).is h k b := by
  have g3 : (plainN k && decide (k.depth ≤ 8)) = true := o
  rw [Bool.and_eq_true] at g3
  exact ⟨kat_is ok x rfl, of_decide_eq_true g3.2⟩
variable (hu : A.units + 64 < cLine) (I : Inv X pins σ H s) (hf : ∀ b xs, F b = some (.tup xs) → H b = some (.tup xs)) (g : NAt F H a kvs) (ok : okN k = true) (kb : KAt H k (.ref b))
include hu I hf g ok kb
theorem n_getItem {Q : Value → Shared → Prop} (l : valV kvs k = some v) (h : ∀ w' s', Inv X pins σ H s' → RelV v w' → Q w' s') : wpAny (model X.prog X.w) A (getItem (.ref a) (.ref b)) Q E s := by
  obtain ⟨ms, od, e, m, t⟩ := g
  obtain ⟨h1, h2, xs, h3, dd⟩ := n_of I.hok hf e t
  have q := h3.val k
  rw [m, l] at q
  obtain ⟨w', hw, rw'⟩ := RelO.some_of q
  obtain ⟨p, hp, hp2⟩ := Option.map_eq_some_iff.mp hw
  refine wpAny_getItem_heap (n_room (X := X) hu) (okN_is I.hok ok kb) dd hp ?_
  rw [hp2]
  exact h w' _ (I.tok _) rw'
theorem n_notIn {Q : Value → Shared → Prop} (h : ∀ s', Inv X pins σ H s' → Q (.bool (!(valV kvs k).isSome)) s') : wpAny (model X.prog X.w) A (compareOp .NotIn (.ref b) (.ref a)) Q E s := by
  obtain ⟨ms, od, e, m, t⟩ := g
  obtain ⟨h1, h2, xs, h3, dd⟩ := n_of I.hok hf e t
  refine wpAny_notIn_heap (n_room (X := X) hu) (okN_is I.hok ok kb) h1 dd ?_
  have q := (h3.val k).isSome_eq
  rw [Option.isSome_map, m] at q
  rw [← q]
  exact h _ (I.tok _)
end
section
variable {X : Cx} {pos : Pos}
theorem n_typeIs {pins : List (Addr × Obj)} {σ : L2.St} {F H : Hp} {s : Shared} {a : Addr} {kvs : List (NKey × V)} (I : Inv X pins σ H s) (g : NAt F H a kvs) : s.TypeIs (.ref a) "dict" := by
  obtain ⟨ms, od, e, _⟩ := g
  obtain ⟨⟨_, _, xs, _, o, es, ep, h4, h5, _⟩, _⟩ := (show ObjOk X.prog X.w H s.heap a (NX a od ms) from I.hok a _ e)
  exact ⟨o, h4, h5.1⟩
end
end DL
namespace DL
open PySem PySem.Spec L2
inductive D where
  | non | bl (b : Bool) | int (i : Int) | str (x : Str)
  | lst (xs : List D) | tup (xs : List D)
  | dK (ks : List Key) (vs : List D)
  | dT (ks : List NestedKey) (vs : List D)
  | exc (c : Str)
  | ins (c : Str) (ns : List Str) (vs : List D)
  | at (a : Addr)
  deriving Inhabited
def ExH (C a : Addr) : HO := .ext fun h => ∃ (oe : Obj) (vs : Array Value), h.get? a = some oe ∧ Zc (.ref C) none oe ∧ oe.data = .fields vs
inductive O where
  | fz (d : D) | lst (xs : List O) | tup (xs : List O)
  | dK (ks : List Key) (vs : List D)
  | dT (ks : List NestedKey) (vs : List D)
  | lk (ks : List Key) (vs : List D)
  | ins (c : Str) (ns : List Str) (vs : List O)
  | nm (a : Addr) (o : O)
  deriving Inhabited
mutual
@[simp] def O.toD : O → D
  | .fz d => d
  | .lst xs => .lst (O.toDs xs)
  | .tup xs => .tup (O.toDs xs)
  | .dK ks vs => .dK ks vs
  | .dT ks vs => .dT ks vs
  | .lk ks vs => .dK ks vs
  | .ins c ns os => .ins c ns (O.toDs os)
  | .nm _ o => O.toD o
@[simp] def O.toDs : List O → List D
  | [] => []
  | x :: xs => O.toD x :: O.toDs xs
end
theorem O.toDs_map : ∀ xs : List O, O.toDs xs = xs.map O.toD
  | [] => rfl
  | x :: xs => by rw [O.toDs, O.toDs_map xs]; rfl
variable {K : PySem.W.Frag} {F F' H H' H0 F0 : Hp}
theorem Rd.mono {a : Addr} {u : HO} (h : Same F F') (r : Rd F a u) : Rd F' a u := r.elim (fun r => .inl (h _ _ r)) fun ⟨o, r⟩ => .inr ⟨o, h _ _ r⟩
theorem sqL_mono {a : Addr} {xs : List V} (e : Same F F') (h : SqL K F a xs) : SqL K F' a xs := h.elim (fun r => .inl (Rd.mono e r)) .inr
mutual
def Rep (K : PySem.W.Frag) (F : Hp) : D → V → Prop
  | .non, v => v = .non
  | .bl b, v => v = .bl b
  | .int i, v => v = .int i
  | .str x, v => v = .str x
  | .lst ds, v => ∃ a vs, v = .ref a ∧ SqL K F a vs ∧ Reps K F ds vs
  | .tup ds, v => ∃ a vs, v = .ref a ∧ F a = some (.tup vs) ∧ Reps K F ds vs
  | .dK ks ds, v => ∃ a vs, v = .ref a ∧ Rd F a (.dK (ks.zip vs)) ∧ ks.length = vs.length ∧ Reps K F ds vs
  | .dT ks ds, v => ∃ a vs, v = .ref a ∧ NAt F F a (ks.zip vs) ∧ ks.length = vs.length ∧ Reps K F ds vs
  | .exc c, v => ∃ a C, v = .ref a ∧ F a = some (ExH C a) ∧ PySem.W.nsIn K mainGlobals c = some (some (.ref C))
  | .ins c ns ds, v => ∃ a C dx vs, v = .ref a ∧ F a = some (.ins C dx (ns.zip vs)) ∧ PySem.W.nsIn K mainGlobals c = some (some (.ref C)) ∧ ns.length = vs.length ∧ Reps K F ds vs
  | .at a, v => v = .ref a
def Reps (K : PySem.W.Frag) (F : Hp) : List D → List V → Prop
  | [], vs => vs = []
  | d :: ds, vs => ∃ v r, vs = v :: r ∧ Rep K F d v ∧ Reps K F ds r
end
mutual
theorem Rep.mono (h : Same F F') : ∀ {d v}, Rep K F d v → Rep K F' d v
  | .non, _, e => e
  | .bl _, _, e => e
  | .int _, _, e => e
  | .str _, _, e => e
  | .lst ds, _, ⟨a, vs, e, s, r⟩ => ⟨a, vs, e, sqL_mono h s, Reps.mono h r⟩
  | .tup ds, _, ⟨a, vs, e, s, r⟩ => ⟨a, vs, e, h _ _ s, Reps.mono h r⟩
  | .dK ks ds, _, ⟨a, vs, e, s, l, r⟩ => ⟨a, vs, e, Rd.mono h s, l, Reps.mono h r⟩
  | .dT ks ds, _, ⟨a, vs, e, s, l, r⟩ => ⟨a, vs, e, s.mono h, l, Reps.mono h r⟩
  | .exc c, _, ⟨a, C, e, s, r⟩ => ⟨a, C, e, h _ _ s, r⟩
  | .ins c ns ds, _, ⟨a, C, dx, vs, e, s, m, l, r⟩ => ⟨a, C, dx, vs, e, h _ _ s, m, l, Reps.mono h r⟩
  | .at a, _, e => e
theorem Reps.mono (h : Same F F') : ∀ {ds vs}, Reps K F ds vs → Reps K F' ds vs
  | [], _, e => e
  | d :: ds, _, ⟨v, r, e, x, y⟩ => ⟨v, r, e, Rep.mono h x, Reps.mono h y⟩
end
theorem Reps.len : ∀ {ds vs}, Reps K F ds vs → ds.length = vs.length
  | [], _, e => by cases e; rfl
  | d :: ds, _, ⟨v, r, e, x, y⟩ => by subst e; simp [Reps.len y]
theorem Reps.get : ∀ {ds : List D} {vs : List V}, Reps K F ds vs → ∀ {i : Nat} {d : D}, ds[i]? = some d → ∃ v, vs[i]? = some v ∧ Rep K F d v
  | [], _, _, i, d, h => by simp at h
  | d :: ds, _, ⟨v, r, e, x, y⟩, 0, d', h => by
    subst e
    have h' : d = d' := by simpa using h
    subst h'
    exact ⟨v, rfl, x⟩
  | d :: ds, _, ⟨v, r, e, x, y⟩, i + 1, d', h => by
    subst e
    obtain ⟨w, h1, h2⟩ := Reps.get y (i := i) (d := d') (by simpa using h)
    exact ⟨w, by simpa using h1, h2⟩
theorem Reps.append : ∀ {ds vs es us}, Reps K F ds vs → Reps K F es us → Reps K F (ds ++ es) (vs ++ us)
  | [], _, _, _, e, h => by cases e; exact h
  | d :: ds, _, _, _, ⟨v, r, e, x, y⟩, h => by subst e; exact ⟨v, r ++ _, rfl, x, Reps.append y h⟩
theorem Reps.take : ∀ {ds vs} (n : Nat), Reps K F ds vs → Reps K F (ds.take n) (vs.take n)
  | [], _, n, e => by cases e; simp [Reps]
  | d :: ds, _, 0, _ => by simp [Reps]
  | d :: ds, _, n + 1, ⟨v, r, e, x, y⟩ => by subst e; exact ⟨v, _, rfl, x, Reps.take n y⟩
theorem Reps.drop : ∀ {ds vs} (n : Nat), Reps K F ds vs → Reps K F (ds.drop n) (vs.drop n)
  | [], _, n, e => by cases e; simp [Reps]
  | d :: ds, _, 0, h => h
  | d :: ds, _, n + 1, ⟨v, r, e, x, y⟩ => by subst e; exact Reps.drop n y
theorem Reps.set : ∀ {ds vs} {d v} (n : Nat), Reps K F ds vs → Rep K F d v → Reps K F (ds.set n d) (vs.set n v)
  | [], _, _, _, n, e, _ => by cases e; simp [Reps]
  | d :: ds, _, d', v', 0, ⟨v, r, e, x, y⟩, h => by subst e; exact ⟨v', r, rfl, h, y⟩
  | d :: ds, _, d', v', n + 1, ⟨v, r, e, x, y⟩, h => by subst e; exact ⟨v, _, rfl, x, Reps.set n y h⟩
theorem Reps.reverse : ∀ {ds vs}, Reps K F ds vs → Reps K F ds.reverse vs.reverse
  | [], _, e => by cases e; rfl
  | d :: ds, _, ⟨v, r, e, x, y⟩ => by
    subst e
    rw [List.reverse_cons, List.reverse_cons]
    exact (Reps.reverse y).append ⟨v, [], rfl, x, rfl⟩
theorem Reps.ints : ∀ {ns : List Int} {vs : List V}, Reps K F (ns.map D.int) vs ↔ vs = ns.map V.int
  | [], vs => Iff.rfl
  | n :: ns, vs => by
    constructor
    · rintro ⟨v, r, rfl, e, h⟩
      have e' : v = V.int n := e
      rw [e', (Reps.ints (ns := ns)).mp h]; rfl
    · intro e
      exact ⟨V.int n, ns.map V.int, e, rfl, (Reps.ints (ns := ns)).mpr rfl⟩
mutual
def ORep (K : PySem.W.Frag) (F H : Hp) : O → V → List Addr → Prop
  | .fz d, v, cs => cs = [] ∧ Rep K F d v
  | .lst xs, v, cs => ∃ a vs c, v = .ref a ∧ cs = a :: c ∧ H a = some (.lst vs) ∧ OReps K F H xs vs c
  | .tup xs, v, cs => ∃ a vs c, v = .ref a ∧ cs = a :: c ∧ H a = some (.tup vs) ∧ OReps K F H xs vs c
  | .dK ks ds, v, cs => ∃ a vs, v = .ref a ∧ cs = [a] ∧ H a = some (.dK (ks.zip vs)) ∧ ks.length = vs.length ∧ Reps K F ds vs
  | .dT ks ds, v, cs => ∃ a vs, v = .ref a ∧ cs = [a] ∧ NAt F H a (ks.zip vs) ∧ ks.length = vs.length ∧ Reps K F ds vs
  | .lk ks ds, v, cs => cs = [] ∧ ∃ a vs od, v = .ref a ∧ F a = some (.frz od (.dK (ks.zip vs))) ∧ ks.length = vs.length ∧ Reps K F ds vs
  | .ins c ns os, v, cs => ∃ a C dx vs c', v = .ref a ∧ cs = a :: c' ∧ H a = some (.ins C dx (ns.zip vs)) ∧ PySem.W.nsIn K mainGlobals c = some (some (.ref C)) ∧ ns.length = vs.length ∧ OReps K F H os vs c'
  | .nm a o, v, cs => v = .ref a ∧ ORep K F H o v cs
def OReps (K : PySem.W.Frag) (F H : Hp) : List O → List V → List Addr → Prop
  | [], vs, cs => vs = [] ∧ cs = []
  | o :: os, vs, cs => ∃ v r c1 c2, vs = v :: r ∧ cs = c1 ++ c2 ∧ ORep K F H o v c1 ∧ OReps K F H os r c2
end
mutual
theorem ORep.frame (h : Same F F') : ∀ {o v cs}, (∀ c ∈ cs, H' c = H c) → ORep K F H o v cs → ORep K F' H' o v cs
  | .fz d, v, cs, _, ⟨e, r⟩ => ⟨e, r.mono h⟩
  | .lst xs, v, cs, k, ⟨a, vs, c, e1, e2, e3, r⟩ => ⟨a, vs, c, e1, e2, by rw [k a (by rw [e2]; exact List.mem_cons_self)]; exact e3, OReps.frame h (fun b hb => k b (by rw [e2]; exact List.mem_cons_of_mem _ hb)) r⟩
  | .tup xs, v, cs, k, ⟨a, vs, c, e1, e2, e3, r⟩ => ⟨a, vs, c, e1, e2, by rw [k a (by rw [e2]; exact List.mem_cons_self)]; exact e3, OReps.frame h (fun b hb => k b (by rw [e2]; exact List.mem_cons_of_mem _ hb)) r⟩
  | .dK ks ds, v, cs, k, ⟨a, vs, e1, e2, e3, l, r⟩ => ⟨a, vs, e1, e2, by rw [k a (by rw [e2]; exact List.mem_cons_self)]; exact e3, l, r.mono h⟩
  | .dT ks ds, v, cs, k, ⟨a, vs, e1, e2, e3, l, r⟩ => ⟨a, vs, e1, e2, e3.frame (fun b xs q => h b _ q) (k a (by rw [e2]; exact List.mem_cons_self)), l, r.mono h⟩
  | .lk ks ds, v, cs, k, ⟨e0, a, vs, od, e1, e3, l, r⟩ => ⟨e0, a, vs, od, e1, h _ _ e3, l, r.mono h⟩
  | .ins c ns os, v, cs, k, ⟨a, C, dx, vs, c', e1, e2, e3, m, l, r⟩ => ⟨a, C, dx, vs, c', e1, e2, by rw [k a (by rw [e2]; exact List.mem_cons_self)]; exact e3, m, l, OReps.frame h (fun b hb => k b (by rw [e2]; exact List.mem_cons_of_mem _ hb)) r⟩
  | .nm a o, v, cs, k, ⟨e, r⟩ => ⟨e, ORep.frame h k r⟩
theorem OReps.frame (h : Same F F') : ∀ {os vs cs}, (∀ c ∈ cs, H' c = H c) → OReps K F H os vs cs → OReps K F' H' os vs cs
  | [], _, _, _, e => e
  | o :: os, vs, cs, k, ⟨v, r, c1, c2, e1, e2, x, y⟩ => ⟨v, r, c1, c2, e1, e2, ORep.frame h (fun c hc => k c (by rw [e2]; exact List.mem_append_left _ hc)) x, OReps.frame h (fun c hc => k c (by rw [e2]; exact List.mem_append_right _ hc)) y⟩
end
mutual
theorem ORep.view (h : Same F H) : ∀ {o v cs}, ORep K F H o v cs → Rep K H o.toD v
  | .fz d, v, cs, ⟨e, r⟩ => r.mono h
  | .lst xs, v, cs, ⟨a, vs, c, e1, e2, e3, r⟩ => ⟨a, vs, e1, SqL.of e3, OReps.view h r⟩
  | .tup xs, v, cs, ⟨a, vs, c, e1, e2, e3, r⟩ => ⟨a, vs, e1, e3, OReps.view h r⟩
  | .dK ks ds, v, cs, ⟨a, vs, e1, e2, e3, l, r⟩ => ⟨a, vs, e1, .inl e3, l, r.mono h⟩
  | .dT ks ds, v, cs, ⟨a, vs, e1, e2, e3, l, r⟩ => ⟨a, vs, e1, e3.frame (fun b xs q => h b _ q) rfl, l, r.mono h⟩
  | .lk ks ds, v, cs, ⟨e0, a, vs, od, e1, e3, l, r⟩ => ⟨a, vs, e1, .inr ⟨od, h _ _ e3⟩, l, r.mono h⟩
  | .ins c ns os, v, cs, ⟨a, C, dx, vs, c', e1, e2, e3, m, l, r⟩ => ⟨a, C, dx, vs, e1, e3, m, l, OReps.view h r⟩
  | .nm a o, v, cs, ⟨e, r⟩ => ORep.view h (o := o) r
theorem OReps.view (h : Same F H) : ∀ {os vs cs}, OReps K F H os vs cs → Reps K H (O.toDs os) vs
  | [], _, _, ⟨e, _⟩ => e
  | o :: os, vs, cs, ⟨v, r, c1, c2, e1, e2, x, y⟩ => ⟨v, r, e1, ORep.view h x, OReps.view h y⟩
end
mutual
theorem ORep.close (h : Same F F') : ∀ {o v cs}, (∀ c ∈ cs, F' c = H c) → ORep K F H o v cs → Rep K F' o.toD v
  | .fz d, v, cs, _, ⟨e, r⟩ => r.mono h
  | .lst xs, v, cs, k, ⟨a, vs, c, e1, e2, e3, r⟩ => ⟨a, vs, e1, SqL.of (by rw [k a (by rw [e2]; exact List.mem_cons_self)]; exact e3), OReps.close h (fun b hb => k b (by rw [e2]; exact List.mem_cons_of_mem _ hb)) r⟩
  | .tup xs, v, cs, k, ⟨a, vs, c, e1, e2, e3, r⟩ => ⟨a, vs, e1, (by rw [k a (by rw [e2]; exact List.mem_cons_self)]; exact e3), OReps.close h (fun b hb => k b (by rw [e2]; exact List.mem_cons_of_mem _ hb)) r⟩
  | .dK ks ds, v, cs, k, ⟨a, vs, e1, e2, e3, l, r⟩ => ⟨a, vs, e1, .inl (by rw [k a (by rw [e2]; exact List.mem_cons_self)]; exact e3), l, r.mono h⟩
  | .dT ks ds, v, cs, k, ⟨a, vs, e1, e2, e3, l, r⟩ => ⟨a, vs, e1, e3.frame (fun b xs q => h b _ q) (k a (by rw [e2]; exact List.mem_cons_self)), l, r.mono h⟩
  | .lk ks ds, v, cs, _, ⟨e0, a, vs, od, e1, e3, l, r⟩ => ⟨a, vs, e1, .inr ⟨od, h _ _ e3⟩, l, r.mono h⟩
  | .ins c ns os, v, cs, k, ⟨a, C, dx, vs, c', e1, e2, e3, m, l, r⟩ => ⟨a, C, dx, vs, e1, (by rw [k a (by rw [e2]; exact List.mem_cons_self)]; exact e3), m, l, OReps.close h (fun b hb => k b (by rw [e2]; exact List.mem_cons_of_mem _ hb)) r⟩
  | .nm a o, v, cs, k, ⟨e, r⟩ => ORep.close h (o := o) k r
theorem OReps.close (h : Same F F') : ∀ {os vs cs}, (∀ c ∈ cs, F' c = H c) → OReps K F H os vs cs → Reps K F' (O.toDs os) vs
  | [], _, _, _, ⟨e, _⟩ => e
  | o :: os, vs, cs, k, ⟨v, r, c1, c2, e1, e2, x, y⟩ => ⟨v, r, e1, ORep.close h (fun c hc => k c (by rw [e2]; exact List.mem_append_left _ hc)) x, OReps.close h (fun c hc => k c (by rw [e2]; exact List.mem_append_right _ hc)) y⟩
end
mutual
theorem ORep.there : ∀ {o v cs}, ORep K F H o v cs → ∀ c ∈ cs, H c ≠ none
  | .fz d, v, cs, ⟨e, r⟩, c, hc => by rw [e] at hc; cases hc
  | .lst xs, v, cs, ⟨a, vs, c, e1, e2, e3, r⟩, b, hb => by
    rw [e2] at hb
    rcases List.mem_cons.mp hb with rfl | hb
    · rw [e3]; exact fun h => nomatch h
    · exact OReps.there r b hb
  | .tup xs, v, cs, ⟨a, vs, c, e1, e2, e3, r⟩, b, hb => by
    rw [e2] at hb
    rcases List.mem_cons.mp hb with rfl | hb
    · rw [e3]; exact fun h => nomatch h
    · exact OReps.there r b hb
  | .dK ks ds, v, cs, ⟨a, vs, e1, e2, e3, l, r⟩, b, hb => by
    rw [e2] at hb
    rcases List.mem_cons.mp hb with rfl | hb
    · rw [e3]; exact fun h => nomatch h
    · cases hb
  | .dT ks ds, v, cs, ⟨a, vs, e1, e2, e3, l, r⟩, b, hb => by
    rw [e2] at hb
    rcases List.mem_cons.mp hb with rfl | hb
    · exact e3.ne
    · cases hb
  | .lk ks ds, v, cs, ⟨e0, _⟩, b, hb => by rw [e0] at hb; cases hb
  | .ins c ns os, v, cs, ⟨a, C, dx, vs, c', e1, e2, e3, m, l, r⟩, b, hb => by
    rw [e2] at hb
    rcases List.mem_cons.mp hb with rfl | hb
    · rw [e3]; exact fun h => nomatch h
    · exact OReps.there r b hb
  | .nm a o, v, cs, ⟨e, r⟩, b, hb => ORep.there (o := o) r b hb
theorem OReps.there : ∀ {os vs cs}, OReps K F H os vs cs → ∀ c ∈ cs, H c ≠ none
  | [], _, _, ⟨_, e⟩, c, hc => by rw [e] at hc; cases hc
  | o :: os, vs, cs, ⟨v, r, c1, c2, e1, e2, x, y⟩, c, hc => by
    rw [e2] at hc
    rcases List.mem_append.mp hc with h | h
    · exact ORep.there x c h
    · exact OReps.there y c h
end
theorem OReps.fz : ∀ {ds : List D} {vs : List V}, Reps K F ds vs → OReps K F H (ds.map O.fz) vs []
  | [], _, e => ⟨e, rfl⟩
  | d :: ds, _, ⟨v, r, e, x, y⟩ => ⟨v, r, [], [], e, rfl, ⟨rfl, x⟩, OReps.fz y⟩
theorem OReps.of_fz : ∀ {ds : List D} {vs : List V} {cs}, OReps K F H (ds.map O.fz) vs cs → cs = [] ∧ Reps K F ds vs
  | [], _, _, ⟨e, e2⟩ => ⟨e2, e⟩
  | d :: ds, _, _, ⟨v, r, c1, c2, e1, e2, ⟨e3, x⟩, y⟩ => by
    obtain ⟨e4, z⟩ := OReps.of_fz y
    subst e2 e3 e4
    exact ⟨rfl, v, r, e1, x, z⟩
theorem toDs_fz : ∀ ds : List D, O.toDs (ds.map O.fz) = ds
  | [] => rfl
  | d :: ds => by rw [List.map_cons, O.toDs, toDs_fz ds]; rfl
theorem OReps.append : ∀ {xs ys : List O} {vs us : List V} {c1 c2}, OReps K F H xs vs c1 → OReps K F H ys us c2 → OReps K F H (xs ++ ys) (vs ++ us) (c1 ++ c2)
  | [], _, _, _, _, _, ⟨e, e2⟩, h => by subst e e2; exact h
  | x :: xs, _, _, _, _, _, ⟨v, r, c1, c2, e1, e2, p, y⟩, h => by subst e1 e2; exact ⟨v, _, c1, c2 ++ _, rfl, by rw [List.append_assoc], p, OReps.append y h⟩
theorem OReps.one {o : O} {v : V} {cs} (h : ORep K F H o v cs) : OReps K F H [o] [v] cs := ⟨v, [], cs, [], rfl, by rw [List.append_nil], h, rfl, rfl⟩
theorem OReps.len : ∀ {xs : List O} {vs : List V} {cs}, OReps K F H xs vs cs → xs.length = vs.length
  | [], _, _, ⟨e, _⟩ => by subst e; rfl
  | x :: xs, _, _, ⟨v, r, c1, c2, e1, e2, p, y⟩ => by subst e1; simp [OReps.len y]
end DL
namespace DL
open PySem PySem.Spec L2
abbrev Rho := List (Option O)
inductive Ar where
  | ow (o : O) | vw (o : O)
  deriving Inhabited
@[simp] def Ar.o : Ar → O | .ow o => o | .vw o => o
@[simp] def Ar.d (a : Ar) : D := a.o.toD
inductive Rs where
  | ok (a : Ar) | ex (c : Str) | bad
  deriving Inhabited
inductive Rm where
  | ok (as : List Ar) | ex (c : Str) | bad
  deriving Inhabited
inductive Rb where
  | ok (b : Bool) | ex (c : Str) | bad
  deriving Inhabited
inductive SR where
  | nx (ρ : Rho) | rt (o : O) | rw (o : O) (ps : List O) | bk (ρ : Rho) | ct (ρ : Rho) | ex (c : Str) (ρ : Rho) | bad
  deriving Inhabited
abbrev DE := Rho → Rs
abbrev DA := Rho → Rm
abbrev DT := Rho → Rb
abbrev DS := Rho → SR
variable {K : PySem.W.Frag} {F F' H H' H0 F0 F1 H1 : Hp} {cs cs' : List Addr} {σ : St} {ρ : Rho}
structure Ext (F H F' H' : Hp) : Prop where
  hh : Same H H'
  ff : Same F F'
  fh : Same F' H'
  nw : ∀ a, H a ≠ none → F' a = F a
theorem Ext.refl (h : Same F H) : Ext F H F H := ⟨Same.refl _, Same.refl _, h, fun _ _ => rfl⟩
theorem Ext.trans (a : Ext F H F1 H1) (b : Ext F1 H1 F' H') : Ext F H F' H' := ⟨a.hh.trans b.hh, a.ff.trans b.ff, b.fh, fun x h => by
  have h1 : H1 x ≠ none := by
    cases e : H x with
    | none => exact absurd e h
    | some o => rw [a.hh x o e]; exact fun h => nomatch h
  rw [b.nw x h1, a.nw x h]⟩
theorem Ext.there (e : Ext F H F' H') {a : Addr} (h : H a ≠ none) : H' a = H a := by
  cases q : H a with
  | none => exact absurd q h
  | some o => exact e.hh a o q
theorem Ext.nf (e : Ext F H F' H') {a : Addr} (h : H a ≠ none) (f : F a = none) : F' a = none := (e.nw a h).trans f
structure New (H F' : Hp) (cs : List Addr) : Prop where
  nd : cs.Nodup
  nw : ∀ c ∈ cs, H c = none ∧ F' c = none
theorem New.nil : New H F' [] := ⟨List.nodup_nil, fun _ h => nomatch h⟩
def ARep (K : PySem.W.Frag) (F H : Hp) : Ar → V → List Addr → Prop
  | .ow o, v, cs => ORep K F H o v cs
  | .vw o, v, cs => cs = [] ∧ ∃ c, ORep K F H o v c
def AReps (K : PySem.W.Frag) (F H : Hp) : List Ar → List V → List Addr → Prop
  | [], vs, cs => vs = [] ∧ cs = []
  | a :: as, vs, cs => ∃ v r c1 c2, vs = v :: r ∧ cs = c1 ++ c2 ∧ ARep K F H a v c1 ∧ AReps K F H as r c2
theorem ORep.ext {o v} (e : Ext F H F' H') (h : ORep K F H o v cs) : ORep K F' H' o v cs := h.frame e.ff fun c hc => e.there (h.there c hc)
theorem ARep.ext {a v} (e : Ext F H F' H') (h : ARep K F H a v cs) : ARep K F' H' a v cs := by
  cases a with
  | ow o => exact ORep.ext (o := o) e h
  | vw o => obtain ⟨h1, c, h2⟩ := h; exact ⟨h1, c, ORep.ext e h2⟩
theorem ARep.view {a v} (h : Same F H) (r : ARep K F H a v cs) : Rep K H a.d v := by
  cases a with
  | ow o => exact ORep.view (o := o) h r
  | vw o => obtain ⟨_, c, h2⟩ := r; exact ORep.view h h2
theorem ARep.there {a v} (h : ARep K F H a v cs) : ∀ c ∈ cs, H c ≠ none := by
  cases a with
  | ow o => exact ORep.there (o := o) h
  | vw o => intro c hc; rw [h.1] at hc; cases hc
theorem ARep.some {a v} (h : ARep K F H a v cs) : ∃ c, ORep K F H a.o v c := by
  cases a with
  | ow o => exact ⟨cs, h⟩
  | vw o => exact h.2
def Slo (K : PySem.W.Frag) (F H : Hp) : Option O → Option V → List Addr → Prop
  | none, _, cs => cs = []
  | some o, some v, cs => ORep K F H o v cs
  | some _, none, _ => False
def Slots (K : PySem.W.Frag) (F H : Hp) : Rho → St → List Addr → Prop
  | [], σ, cs => σ = [] ∧ cs = []
  | o :: ρ, σ, cs => ∃ x r c1 c2, σ = x :: r ∧ cs = c1 ++ c2 ∧ Slo K F H o x c1 ∧ Slots K F H ρ r c2
theorem Slo.frame {o x} (h : Same F F') (k : ∀ c ∈ cs, H' c = H c) (s : Slo K F H o x cs) : Slo K F' H' o x cs := by
  cases o with
  | none => exact s
  | some o =>
    cases x with
    | none => exact s.elim
    | some v => exact ORep.frame (o := o) h k s
theorem Slots.frame (h : Same F F') : ∀ {ρ σ cs}, (∀ c ∈ cs, H' c = H c) → Slots K F H ρ σ cs → Slots K F' H' ρ σ cs
  | [], _, _, _, e => e
  | o :: ρ, _, _, k, ⟨x, r, c1, c2, e1, e2, p, q⟩ => ⟨x, r, c1, c2, e1, e2, p.frame h (fun c hc => k c (by rw [e2]; exact List.mem_append_left _ hc)), Slots.frame h (fun c hc => k c (by rw [e2]; exact List.mem_append_right _ hc)) q⟩
theorem Slo.there {o x} (s : Slo K F H o x cs) : ∀ c ∈ cs, H c ≠ none := by
  cases o with
  | none => intro c hc; rw [show cs = [] from s] at hc; cases hc
  | some o =>
    cases x with
    | none => exact s.elim
    | some v => exact ORep.there (o := o) s
theorem Slots.there : ∀ {ρ σ cs}, Slots K F H ρ σ cs → ∀ c ∈ cs, H c ≠ none
  | [], _, _, ⟨_, e⟩, c, hc => by rw [e] at hc; cases hc
  | o :: ρ, _, _, ⟨x, r, c1, c2, e1, e2, p, q⟩, c, hc => by
    rw [e2] at hc
    rcases List.mem_append.mp hc with h | h
    · exact p.there c h
    · exact Slots.there q c h
theorem Slots.len : ∀ {ρ σ cs}, Slots K F H ρ σ cs → σ.length = ρ.length
  | [], _, _, ⟨e, _⟩ => by rw [e]; rfl
  | o :: ρ, _, _, ⟨x, r, c1, c2, e1, e2, p, q⟩ => by rw [e1]; simp [Slots.len q]
theorem Slots.split : ∀ {ρ σ cs} (i : Nat), i < ρ.length → Slots K F H ρ σ cs → ∃ c1 c2 c3 o x, cs = c1 ++ (c2 ++ c3) ∧ ρ[i]? = some o ∧ σ[i]? = some x ∧ Slo K F H o x c2 ∧
    ∀ F' H' o' x' c2', Same F F' → (∀ c ∈ c1, H' c = H c) → (∀ c ∈ c3, H' c = H c) → Slo K F' H' o' x' c2' → Slots K F' H' (ρ.set i o') (σ.set i x') (c1 ++ (c2' ++ c3))
  | [], _, _, i, h, _ => absurd h (Nat.not_lt_zero _)
  | o :: ρ, _, _, 0, _, ⟨x, r, c1, c2, e1, e2, p, q⟩ => by
    subst e1 e2
    exact ⟨[], c1, c2, o, x, rfl, rfl, rfl, p, fun F' H' o' x' c2' hF _ k s => ⟨x', r, c2', c2, rfl, rfl, s, q.frame hF k⟩⟩
  | o :: ρ, _, _, i + 1, h, ⟨x, r, c1, c2, e1, e2, p, q⟩ => by
    subst e1 e2
    obtain ⟨d1, d2, d3, o', x', e3, e4, e5, s, k⟩ := Slots.split i (by simpa using h) q
    subst e3
    refine ⟨c1 ++ d1, d2, d3, o', x', by simp [List.append_assoc], by simpa using e4, by simpa using e5, s, fun F' H' o2 x2 c2' hF k1 k3 s2 => ?_⟩
    refine ⟨x, r.set i x2, c1, d1 ++ (c2' ++ d3), rfl, by simp [List.append_assoc], p.frame hF (fun c hc => k1 c (List.mem_append_left _ hc)), ?_⟩
    exact k F' H' o2 x2 c2' hF (fun c hc => k1 c (List.mem_append_right _ hc)) k3 s2
structure RS (K : PySem.W.Frag) (F0 H0 : Hp) (ρ : Rho) (F : Hp) (σ : St) (H : Hp) (cs : List Addr) : Prop where
  fh : Same F H
  f0 : Same F0 F
  nw : ∀ a, H0 a ≠ none → F a = F0 a
  h0 : Same H0 H
  sl : Slots K F H ρ σ cs
  nd : cs.Nodup
  cf : ∀ c ∈ cs, F c = none ∧ H0 c = none
theorem RS.ext (R : RS K F0 H0 ρ F σ H cs) (e : Ext F H F' H') : RS K F0 H0 ρ F' σ H' cs where
  fh := e.fh
  f0 := R.f0.trans e.ff
  nw := fun a h => by
    have h1 : H a ≠ none := by
      cases q : H0 a with
      | none => exact absurd q h
      | some o => rw [R.h0 a o q]; exact fun h => nomatch h
    rw [e.nw a h1, R.nw a h]
  h0 := R.h0.trans e.hh
  sl := R.sl.frame e.ff fun c hc => e.there (R.sl.there c hc)
  nd := R.nd
  cf := fun c hc => ⟨e.nf (R.sl.there c hc) (R.cf c hc).1, (R.cf c hc).2⟩
theorem RS.toExt (R : RS K F0 H0 ρ F σ H cs) : Ext F0 H0 F H := ⟨R.h0, R.f0, R.fh, R.nw⟩
theorem RS.set {i : Nat} {o : O} {v : V} (R : RS K F0 H0 ρ F σ H cs) (e : Ext F H F' H') (h : ORep K F' H' o v cs') (n : New H F' cs') (hi : i < ρ.length) : ∃ cs2, RS K F0 H0 (ρ.set i (some o)) F' (σ.set i (some v)) H' cs2 := by
  have R' := R.ext e
  obtain ⟨c1, c2, c3, ob, x, e1, _, _, s, k⟩ := R'.sl.split i hi
  subst e1
  have dj : ∀ c ∈ c1 ++ (c2 ++ c3), c ∉ cs' := fun c hc hc' => (R.sl.there c hc) (n.nw c hc').1
  have nd := R'.nd
  rw [List.nodup_append] at nd
  obtain ⟨n1, n23, d123⟩ := nd
  rw [List.nodup_append] at n23
  obtain ⟨n2, n3, d23⟩ := n23
  refine ⟨c1 ++ (cs' ++ c3), R'.fh, R'.f0, R'.nw, R'.h0, k F' H' _ _ cs' (Same.refl _) (fun _ _ => rfl) (fun _ _ => rfl) h, ?_, fun c hc => ?_⟩
  · rw [List.nodup_append]
    refine ⟨n1, ?_, fun a ha b hb => ?_⟩
    · rw [List.nodup_append]
      refine ⟨n.nd, n3, fun a ha b hb e => ?_⟩
      subst e
      exact dj a (List.mem_append_right _ (List.mem_append_right _ hb)) ha
    · intro e
      subst e
      rcases List.mem_append.mp hb with h | h
      · exact dj a (List.mem_append_left _ ha) h
      · exact d123 a ha a (List.mem_append_right _ h) rfl
  · rcases List.mem_append.mp hc with h | h
    · exact R'.cf c (List.mem_append_left _ h)
    · rcases List.mem_append.mp h with h | h
      · refine ⟨(n.nw c h).2, ?_⟩
        have := (n.nw c h).1
        cases q : H0 c with
        | none => rfl
        | some o => rw [R.h0 c o q] at this; cases this
      · exact R'.cf c (List.mem_append_right _ (List.mem_append_right _ h))
theorem RS.drop {i : Nat} (R : RS K F0 H0 ρ F σ H cs) (hi : i < ρ.length) : ∃ cs2, RS K F0 H0 (ρ.set i none) F σ H cs2 := by
  obtain ⟨c1, c2, c3, ob, x, e1, _, e5, s, k⟩ := R.sl.split i hi
  subst e1
  have nd := R.nd
  rw [List.nodup_append] at nd
  obtain ⟨n1, n23, d123⟩ := nd
  rw [List.nodup_append] at n23
  obtain ⟨n2, n3, d23⟩ := n23
  have hx : σ.set i x = σ := by
    have hi2 : i < σ.length := by rw [R.sl.len]; exact hi
    have : σ[i] = x := by
      have := List.getElem?_eq_getElem hi2
      rw [e5] at this
      exact (Option.some.inj this).symm
    rw [← this]; simp
  have z := k F H none x [] (Same.refl _) (fun _ _ => rfl) (fun _ _ => rfl) rfl
  rw [hx] at z
  refine ⟨c1 ++ ([] ++ c3), R.fh, R.f0, R.nw, R.h0, z, ?_, fun c hc => ?_⟩
  · rw [List.nil_append, List.nodup_append]
    exact ⟨n1, n3, fun a ha b hb => d123 a ha b (List.mem_append_right _ hb)⟩
  · rcases List.mem_append.mp hc with h | h
    · exact R.cf c (List.mem_append_left _ h)
    · exact R.cf c (List.mem_append_right _ (List.mem_append_right _ (by simpa using h)))
@[simp] def forget : List Nat → Rho → Rho
  | [], ρ => ρ
  | i :: is, ρ => forget is (ρ.set i none)
theorem RS.forget : ∀ (is : List Nat) {ρ cs}, RS K F0 H0 ρ F σ H cs → ∃ cs2, RS K F0 H0 (DL.forget is ρ) F σ H cs2
  | [], _, cs, R => ⟨cs, R⟩
  | i :: is, ρ, cs, R => by
    by_cases hi : i < ρ.length
    · obtain ⟨c, R'⟩ := R.drop hi
      exact RS.forget is R'
    · have e : ρ.set i none = ρ := List.set_eq_of_length_le (Nat.le_of_not_lt hi)
      show ∃ cs2, RS K F0 H0 (DL.forget is (ρ.set i none)) F σ H cs2
      rw [e]
      exact RS.forget is R
def shut (F H : Hp) (cs : List Addr) : Hp := fun a => if a ∈ cs then H a else F a
theorem shut_in {c : Addr} (h : c ∈ cs) : shut F H cs c = H c := by unfold shut; rw [if_pos h]
theorem shut_out {c : Addr} (h : c ∉ cs) : shut F H cs c = F c := by unfold shut; rw [if_neg h]
theorem same_shut (cf : ∀ c ∈ cs, F c = none) : Same F (shut F H cs) := fun a o e => by
  by_cases h : a ∈ cs
  · rw [cf a h] at e; cases e
  · rw [shut_out h]; exact e
theorem shut_same (h : Same F H) : Same (shut F H cs) H := fun a o e => by
  by_cases q : a ∈ cs
  · rw [shut_in q] at e; exact e
  · rw [shut_out q] at e; exact h a o e
theorem RS.shut {i : Nat} {o : O} (R : RS K F0 H0 ρ F σ H cs) (hi : ρ[i]? = some (some o)) : ∃ F' cs2, Same F F' ∧ RS K F0 H0 (ρ.set i (some (.fz o.toD))) F' σ H cs2 := by
  have hil : i < ρ.length := (List.getElem?_eq_some_iff.mp hi).1
  obtain ⟨c1, c2, c3, ob, x, e1, e4, e5, s, k⟩ := R.sl.split i hil
  rw [hi] at e4
  cases e4
  subst e1
  cases x with
  | none => exact s.elim
  | some v =>
  have nd := R.nd
  rw [List.nodup_append] at nd
  obtain ⟨n1, n23, d123⟩ := nd
  rw [List.nodup_append] at n23
  obtain ⟨n2, n3, d23⟩ := n23
  have cf2 : ∀ c ∈ c2, F c = none := fun c hc => (R.cf c (List.mem_append_right _ (List.mem_append_left _ hc))).1
  have hx : σ.set i (some v) = σ := by
    have hi2 : i < σ.length := by rw [R.sl.len]; exact hil
    have : σ[i] = some v := by
      have := List.getElem?_eq_getElem hi2
      rw [e5] at this
      exact (Option.some.inj this).symm
    rw [← this]; simp
  have z := k (DL.shut F H c2) H (some (.fz o.toD)) (some v) [] (same_shut cf2) (fun _ _ => rfl) (fun _ _ => rfl) ⟨rfl, ORep.close (H := H) (same_shut cf2) (fun c hc => shut_in hc) s⟩
  rw [hx] at z
  have c0 : ∀ c ∈ c2, H0 c = none := fun c hc => (R.cf c (List.mem_append_right _ (List.mem_append_left _ hc))).2
  refine ⟨DL.shut F H c2, c1 ++ ([] ++ c3), same_shut cf2, shut_same R.fh, R.f0.trans (same_shut cf2), fun a h => ?_, R.h0, z, ?_, fun c hc => ?_⟩
  · rw [shut_out fun hc => h (c0 a hc)]
    exact R.nw a h
  · rw [List.nil_append, List.nodup_append]
    exact ⟨n1, n3, fun a ha b hb => d123 a ha b (List.mem_append_right _ hb)⟩
  · rcases List.mem_append.mp hc with h | h
    · have nc : c ∉ c2 := fun q => d123 c h c (List.mem_append_left _ q) rfl
      rw [shut_out nc]
      exact R.cf c (List.mem_append_left _ h)
    · have h' : c ∈ c3 := by simpa using h
      have nc : c ∉ c2 := fun q => d23 c q c h' rfl
      rw [shut_out nc]
      exact R.cf c (List.mem_append_right _ (List.mem_append_right _ h'))
section
variable (X : Cx) (W : WX)
def post (r : Rs) (σ : St) (F H : Hp) (Q : VK) : Prop := match r with
  | .ok a => ∀ F' H' v cs', Ext F H F' H' → ARep X.K F' H' a v cs' → New H F' cs' → Q v H'
  | .ex c => ∀ F' H' C, Ext F H F' H' → X.mg c = some (.ref C) → W (.ref C) none σ H'
  | .bad => False
def postA (r : Rm) (σ : St) (F H : Hp) (Q : List V → Hp → Prop) : Prop := match r with
  | .ok a => ∀ F' H' vs cs', Ext F H F' H' → AReps X.K F' H' a vs cs' → New H F' cs' → Q vs H'
  | .ex c => ∀ F' H' C, Ext F H F' H' → X.mg c = some (.ref C) → W (.ref C) none σ H'
  | .bad => False
def postT (r : Rb) (σ : St) (F H : Hp) (Q : Bool → Hp → Prop) : Prop := match r with
  | .ok b => ∀ F' H', Ext F H F' H' → Q b H'
  | .ex c => ∀ F' H' C, Ext F H F' H' → X.mg c = some (.ref C) → W (.ref C) none σ H'
  | .bad => False
def postS (r : SR) (F0 H0 F : Hp) (D : Ends) : Prop := match r with
  | .nx ρ => ∀ F' H' σ' cs', Same F F' → RS X.K F0 H0 ρ F' σ' H' cs' → D.nx σ' H'
  | .bk ρ => ∀ F' H' σ' cs', Same F F' → RS X.K F0 H0 ρ F' σ' H' cs' → D.bk σ' H'
  | .ct ρ => ∀ F' H' σ' cs', Same F F' → RS X.K F0 H0 ρ F' σ' H' cs' → D.ct σ' H'
  | .rt o => ∀ F' H' v cs', Ext F0 H0 F' H' → ORep X.K F' H' o v cs' → New H0 F' cs' → D.rt v H'
  | .rw o ps => ∀ F' H' v vs cs', Ext F0 H0 F' H' → OReps X.K F' H' (o :: ps) (v :: vs) cs' → New H0 F' cs' → D.rt v H'
  | .ex c ρ => ∀ F' H' σ' cs' C, Same F F' → RS X.K F0 H0 ρ F' σ' H' cs' → X.mg c = some (.ref C) → W (.ref C) none σ' H'
  | .bad => False
def tE (f : DE) : TE := fun σ H Q => ∃ F0 H0 ρ F cs, RS X.K F0 H0 ρ F σ H cs ∧ post X W (f ρ) σ F H Q
def tA (f : DA) : TA := fun σ H Q => ∃ F0 H0 ρ F cs, RS X.K F0 H0 ρ F σ H cs ∧ postA X W (f ρ) σ F H Q
def tT (f : DT) : TT := fun σ H Q => ∃ F0 H0 ρ F cs, RS X.K F0 H0 ρ F σ H cs ∧ postT X W (f ρ) σ F H Q
def tS (f : DS) : TS := fun D σ H => ∃ F0 H0 ρ F cs, RS X.K F0 H0 ρ F σ H cs ∧ postS X W (f ρ) F0 H0 F D
def GE (e : Expr) (f : DE) : Prop := PE X e (tE X W f)
def GA (es : List Expr) (f : DA) : Prop := PA X es (tA X W f)
def GT (e : Expr) (f : DT) : Prop := PT X e (tT X W f)
def GW (e : Expr) (f : DT) : Prop := PW X e (tT X W f)
def GS (st : Stmt) (f : DS) : Prop := PS X st (tS X W f)
def GSs (sts : List Stmt) (f : DS) : Prop := PSs X sts (tS X W f)
end
theorem PE.imp {X : Cx} {e : Expr} {t t' : TE} (h : PE X e t) (i : ∀ σ H Q, t' σ H Q → t σ H Q) : PE X e t' := ⟨fun p s σ H Q I q => h.run p s σ H Q I (i σ H Q q)⟩
theorem PA.imp {X : Cx} {e : List Expr} {t t' : TA} (h : PA X e t) (i : ∀ σ H Q, t' σ H Q → t σ H Q) : PA X e t' := ⟨fun pos p s σ H Q I q => h.run pos p s σ H Q I (i σ H Q q)⟩
theorem PT.imp {X : Cx} {e : Expr} {t t' : TT} (h : PT X e t) (i : ∀ σ H Q, t' σ H Q → t σ H Q) : PT X e t' := ⟨fun p s σ H Q I q => h.run p s σ H Q I (i σ H Q q)⟩
theorem PW.imp {X : Cx} {e : Expr} {t t' : TT} (h : PW X e t) (i : ∀ σ H Q, t' σ H Q → t σ H Q) : PW X e t' := ⟨fun w p s σ H Q I q => h.run w p s σ H Q I (i σ H Q q)⟩
theorem PS.imp {X : Cx} {e : Stmt} {t t' : TS} (h : PS X e t) (i : ∀ D σ H, t' D σ H → t D σ H) : PS X e t' := ⟨fun p s σ H D I q => h.run p s σ H D I (i D σ H q)⟩
theorem PSs.imp {X : Cx} {e : List Stmt} {t t' : TS} (h : PSs X e t) (i : ∀ D σ H, t' D σ H → t D σ H) : PSs X e t' := ⟨fun p s σ H D I q => h.run p s σ H D I (i D σ H q)⟩
section
variable {X : Cx} {W : WX} {pos : Pos} {a b : Expr} {fa fb : DE}
def Rs.bind (r : Rs) (k : Ar → Rs) : Rs := match r with
  | .ok a => k a
  | .ex c => .ex c
  | .bad => .bad
@[simp] def varE (i : Nat) : DE := fun ρ => match ρ[i]? with
  | some (some (.fz d)) => .ok (.ow (.fz d))
  | some (some o) => .ok (.vw o)
  | _ => .bad
theorem ge_var (i : Nat) {x : Str} (hN : X.N[i]? = some x := by rfl) (hv : Vis X.env.scope x := by first | exact Or.inl rfl | exact Or.inr (Or.inl rfl) | exact Or.inr (Or.inr rfl)) (hd : (x == ("__debug__" : Str)) = false := by decide)
    (hcd : (x == ("__classdict__" : Str)) = false := by decide) : GE X W (.Name x pos) (varE i) := by
  refine PE.imp (pe_var hN hv hd hcd) fun σ H Q ⟨F0, H0, ρ, F, cs, R, p⟩ => ?_
  unfold varE at p
  split at p
  · rename_i d e
    obtain ⟨c1, c2, c3, o, x, e1, e2, e3, s, _⟩ := R.sl.split i (List.getElem?_eq_some_iff.mp e).1
    rw [e] at e2; cases e2
    cases x with
    | none => exact s.elim
    | some v => exact ⟨v, e3, p F H v [] (Ext.refl R.fh) ⟨rfl, s.2⟩ New.nil⟩
  · rename_i o _ e
    obtain ⟨c1, c2, c3, o, x, e1, e2, e3, s, _⟩ := R.sl.split i (List.getElem?_eq_some_iff.mp e).1
    rw [e] at e2; cases e2
    cases x with
    | none => exact s.elim
    | some v => exact ⟨v, e3, p F H v [] (Ext.refl R.fh) ⟨rfl, _, s⟩ New.nil⟩
  · exact p.elim
@[simp] def cE (d : D) : DE := fun _ => .ok (.ow (.fz d))
theorem ge_cst {e : Expr} {v : V} {d : D} (h : PE X e (tC v)) (r : ∀ F, Rep X.K F d v) : GE X W e (cE d) :=
  PE.imp h fun σ H Q ⟨F0, H0, ρ, F, cs, R, p⟩ => p F H v [] (Ext.refl R.fh) ⟨rfl, r F⟩ New.nil
theorem ge_int {i j} : GE X W (.Constant (.int i) j pos) (cE (.int i)) := ge_cst pe_int fun _ => rfl
theorem ge_bl {b j} : GE X W (.Constant (.bool b) j pos) (cE (.bl b)) := ge_cst pe_bl fun _ => rfl
theorem ge_non {j} : GE X W (.Constant .none j pos) (cE .non) := ge_cst pe_non fun _ => rfl
def bin (g : Ar → Ar → Rs) (fa fb : DE) : DE := fun ρ => (fa ρ).bind fun x => (fb ρ).bind fun y => g x y
theorem post_bind {r : Rs} {k : Ar → Rs} {σ : St} {Q : VK} (fh : Same F H) (h : post X W (r.bind k) σ F H Q) : post X W r σ F H fun v H' => ∃ F' cs' a, Ext F H F' H' ∧ ARep X.K F' H' a v cs' ∧ New H F' cs' ∧ r = .ok a ∧ post X W (k a) σ F H Q := by
  cases r with
  | ok a => exact fun F' H' v cs' e r n => ⟨F', cs', a, e, r, n, rfl, h⟩
  | ex c => exact h
  | bad => exact h.elim
theorem post_ext {r : Rs} {σ : St} {Q : VK} (e : Ext F H F' H') (h : post X W r σ F H Q) : post X W r σ F' H' Q := by
  cases r with
  | ok a => exact fun F2 H2 v cs e2 r n => h F2 H2 v cs (e.trans e2) r ⟨n.nd, fun c hc => ⟨e.hh.free (n.nw c hc).1, (n.nw c hc).2⟩⟩
  | ex c => exact fun F2 H2 C e2 m => h F2 H2 C (e.trans e2) m
  | bad => exact h.elim
def OpOk (X : Cx) (W : WX) (r : R2) (g : Ar → Ar → Rs) : Prop := ∀ (σ : St) (F H : Hp) (x y : V) (a b : Ar) (ca cb : List Addr) (Q : VK), Same F H → ARep X.K F H a x ca → ARep X.K F H b y cb → post X W (g a b) σ F H Q → r x y H Q
theorem tOp_of {r : R2} {g : Ar → Ar → Rs} (hr : OpOk X W r g) : ∀ σ H Q, tE X W (bin g fa fb) σ H Q → tOp r (tE X W fa) (tE X W fb) σ H Q := fun σ H Q ⟨F0, H0, ρ, F, cs, R, p⟩ => by
  have p1 := post_bind R.fh p
  refine ⟨F0, H0, ρ, F, cs, R, ?_⟩
  cases q : fa ρ with
  | bad => rw [q] at p1; exact p1.elim
  | ex c => rw [q] at p1; exact p1
  | ok a =>
    intro F1 H1 v c1 e1 r1 n1
    refine ⟨F0, H0, ρ, F1, cs, R.ext e1, ?_⟩
    have p2 : post X W ((fb ρ).bind fun y => g a y) σ F1 H1 Q := post_ext e1 (by have := p; unfold bin at this; rw [q] at this; exact this)
    cases q2 : fb ρ with
    | bad => rw [q2] at p2; exact p2.elim
    | ex c => rw [q2] at p2; exact p2
    | ok b =>
      intro F2 H2 u c2 e2 r2 n2
      rw [q2] at p2
      exact hr σ F2 H2 v u a b c1 c2 Q e2.fh (r1.ext e2) r2 (post_ext e2 p2)
theorem ge_op {op : Operator} {r : R2} {g : Ar → Ar → Rs} (ho : OpR X (binaryOp op) r) (hr : OpOk X W r g) (ha : GE X W a fa) (hb : GE X W b fb) : GE X W (.BinOp a op b pos) (bin g fa fb) :=
  PE.imp (pe_op ho ha hb) (tOp_of hr)
theorem ge_cmp {op : CmpOp} {r : R2} {g : Ar → Ar → Rs} (ho : OpR X (compareOp op) r) (hr : OpOk X W r g) (ha : GE X W a fa) (hb : GE X W b fb) (hm : behindInMarks op b = false) : GE X W (.Compare a [op] [b] pos) (bin g fa fb) :=
  PE.imp (pe_cmpR ho ha hb hm) (tOp_of hr)
@[simp] def Rs.test (r : Rs) : Rb := match r with
  | .ok (.ow (.fz (.bl b))) => .ok b
  | .ok _ => .bad
  | .ex c => .ex c
  | .bad => .bad
def testE (f : DE) : DT := fun ρ => (f ρ).test
theorem tTest_of {f : DE} : ∀ σ H Q, tT X W (testE f) σ H Q → tTest (tE X W f) σ H Q := fun σ H Q ⟨F0, H0, ρ, F, cs, R, p⟩ => by
  refine ⟨F0, H0, ρ, F, cs, R, ?_⟩
  unfold testE at p
  cases q : f ρ with
  | bad => rw [q] at p; exact p.elim
  | ex c => rw [q] at p; exact p
  | ok a =>
    rw [q] at p
    intro F1 H1 v c1 e1 r1 n1
    cases a with
    | vw o => exact p.elim
    | ow o =>
      cases o with
      | fz d =>
        cases d with
        | bl b =>
          obtain ⟨_, r1⟩ := r1
          exact ⟨b, r1, p F1 H1 e1⟩
        | _ => exact p.elim
      | _ => exact p.elim
theorem gt_cmp {op : CmpOp} {r : R2} {g : Ar → Ar → Rs} (ho : OpR X (compareOp op) r) (hr : OpOk X W r g) (ha : GE X W a fa) (hb : GE X W b fb) (hm : behindInMarks op b = false) : GT X W (.Compare a [op] [b] pos) (testE (bin g fa fb)) :=
  PT.imp (pt_cmpR ho ha hb hm) fun σ H Q h => by
    obtain ⟨F0, H0, ρ, F, cs, R, p⟩ := tTest_of σ H Q h
    exact tOp_of hr σ H _ ⟨F0, H0, ρ, F, cs, R, p⟩
theorem gt_val {e : Expr} {f : DE} (h : GE X W e f) (he : ∀ whole, isTrue e X.env whole = (do let v ← whole; standAt e.pos; holding [v] (truthy v)) := by intro _; rfl) : GT X W e (testE f) :=
  PT.imp (pt_val h he) fun σ H Q q => tTest_of σ H Q q
def opII (C : Int → Int → Bool) (g : Int → Int → D) : Ar → Ar → Rs := fun x y => match x.d, y.d with
  | .int i, .int j => if C i j then .ok (.ow (.fz (g i j))) else .bad
  | _, _ => .bad
def vOf : D → V
  | .non => .non | .bl b => .bl b | .int i => .int i | .str x => .str x | _ => .non
def flatD : D → Bool
  | .non => true | .bl _ => true | .int _ => true | .str _ => true | _ => false
theorem rep_vOf {d : D} (h : flatD d = true) : Rep K F d (vOf d) := by
  cases d <;> first | rfl | cases h
theorem post_flat {d : D} {σ : St} {Q : VK} (fh : Same F H) (h : flatD d = true) (p : post X W (.ok (.ow (.fz d))) σ F H Q) : Q (vOf d) H := p F H _ [] (Ext.refl fh) ⟨rfl, rep_vOf h⟩ New.nil
theorem opII_ok {C : Int → Int → Bool} {P : Int → Int → Prop} {g : Int → Int → D} (hc : ∀ i j, C i j = true → P i j) (hg : ∀ i j, flatD (g i j) = true) : OpOk X W (rI P fun i j => vOf (g i j)) (opII C g) := by
  intro σ F H x y a b ca cb Q fh ra rb p
  have r1 := ra.view fh
  have r2 := rb.view fh
  unfold opII at p
  split at p
  · rename_i i j e1 e2
    rw [e1] at r1
    rw [e2] at r2
    split at p
    · rename_i hC
      exact ⟨i, j, r1, r2, hc i j hC, post_flat fh (hg i j) p⟩
    · exact p.elim
  · exact p.elim
end
end DL
namespace DL
open PySem PySem.Spec L2
variable {K : PySem.W.Frag} {F F' H H' H0 F0 F1 H1 : Hp} {cs cs' : List Addr} {σ : St} {ρ : Rho}
def lim : Nat := 16777216
theorem lim_eq : lim = sizeLine := sizeLine_eq.symm
def okLen (n : Nat) : Bool := decide (n ≤ lim)
theorem okLen_le {n : Nat} (h : okLen n = true) : n ≤ sizeLine := by rw [← lim_eq]; exact of_decide_eq_true h
section
variable {X : Cx} {W : WX} {pos : Pos} {a b : Expr} {fa fb : DE}
abbrev okI (i : Int) : Rs := .ok (.ow (.fz (.int i)))
abbrev okB (b : Bool) : Rs := .ok (.ow (.fz (.bl b)))
theorem PE.or {e : Expr} {t u : TE} (h : PE X e t) (g : PE X e u) : PE X e (fun σ H Q => t σ H Q ∨ u σ H Q) :=
  ⟨fun p s σ H Q I q => q.elim (fun q => h.run p s σ H Q I q) fun q => g.run p s σ H Q I q⟩
theorem PT.or {e : Expr} {t u : TT} (h : PT X e t) (g : PT X e u) : PT X e (fun σ H Q => t σ H Q ∨ u σ H Q) :=
  ⟨fun p s σ H Q I q => q.elim (fun q => h.run p s σ H Q I q) fun q => g.run p s σ H Q I q⟩
@[simp] def O.seq0 : O → Option (Bool × List O)
  | .fz (.lst ds) => some (true, ds.map .fz)
  | .fz (.tup ds) => some (false, ds.map .fz)
  | .lst os => some (true, os)
  | .tup os => some (false, os)
  | _ => none
@[simp] def O.seq : O → Option (Bool × List O)
  | .nm _ o => o.seq0
  | o => o.seq0
theorem seq0_rep {o : O} {v : V} {c} {l : Bool} {os : List O} (fh : Same F H) (h : ORep K F H o v c) (e : o.seq0 = some (l, os)) : ∃ p vs c', v = .ref p ∧ (if l then SqL K H p vs else SqT K H p vs) ∧ OReps K F H os vs c' := by
  unfold O.seq0 at e
  split at e <;> first | cases e | skip
  · obtain ⟨_, a, vs, e1, s, r⟩ := h
    exact ⟨a, vs, [], e1, sqL_mono fh s, OReps.fz r⟩
  · obtain ⟨_, a, vs, e1, s, r⟩ := h
    exact ⟨a, vs, [], e1, SqT.of (fh _ _ s), OReps.fz r⟩
  · obtain ⟨a, vs, c', e1, e2, e3, r⟩ := h
    exact ⟨a, vs, c', e1, SqL.of e3, r⟩
  · obtain ⟨a, vs, c', e1, e2, e3, r⟩ := h
    exact ⟨a, vs, c', e1, SqT.of e3, r⟩
theorem seq_rep {o : O} {v : V} {c} {l : Bool} {os : List O} (fh : Same F H) (h : ORep K F H o v c) (e : o.seq = some (l, os)) : ∃ p vs c', v = .ref p ∧ (if l then SqL K H p vs else SqT K H p vs) ∧ OReps K F H os vs c' := by
  unfold O.seq at e
  split at e
  · exact seq0_rep fh h.2 e
  · exact seq0_rep fh h e
theorem OReps.get : ∀ {os : List O} {vs : List V} {c}, OReps K F H os vs c → ∀ {i : Nat} {o : O}, os[i]? = some o → ∃ v c', vs[i]? = some v ∧ ORep K F H o v c'
  | [], _, _, _, i, o, h => by simp at h
  | x :: os, _, _, ⟨v, r, c1, c2, e1, e2, p, q⟩, 0, o, h => by
    subst e1
    have h' : x = o := by simpa using h
    subst h'
    exact ⟨v, c1, rfl, p⟩
  | x :: os, _, _, ⟨v, r, c1, c2, e1, e2, p, q⟩, i + 1, o, h => by
    subst e1
    obtain ⟨u, c', h1, h2⟩ := OReps.get q (i := i) (o := o) (by simpa using h)
    exact ⟨u, c', by simpa using h1, h2⟩
theorem OReps.atI {os : List O} {vs : List V} {c} (r : OReps K F H os vs c) {i : Int} {o : O} (h : L2.atI os i = some o) : ∃ v c', L2.atI vs i = some v ∧ ORep K F H o v c' := by
  unfold L2.atI at h ⊢
  rw [r.len] at h
  cases q : ixN vs.length i with
  | none => rw [q] at h; cases h
  | some j =>
    rw [q] at h
    exact r.get h
@[simp] def itemAr : O → Ar
  | .fz d => .ow (.fz d)
  | o => .vw o
theorem itemAr_rep {o : O} {v : V} {c} (h : ORep K F H o v c) : ARep K F H (itemAr o) v [] := by
  cases o <;> first | exact ⟨rfl, h.2⟩ | exact ⟨rfl, c, h⟩
def smallI (i : Int) : Bool := decide (i.natAbs < 18446744073709551616)
def okMul (i j : Int) : Bool := smallI i || smallI j || decide (i.natAbs.log2 + j.natAbs.log2 < 100000000)
theorem smallI_bits {i : Int} (h : smallI i = true) : -(2 ^ 64) < i ∧ i < 2 ^ 64 := by
  have := of_decide_eq_true h
  omega
theorem okMul_ok {i j : Int} (h : okMul i j = true) : IntMulOk i j := by
  unfold okMul at h
  rw [Bool.or_eq_true, Bool.or_eq_true] at h
  rcases h with (h | h) | h
  · have := smallI_bits h
    exact CMul.ok (.inl this)
  · have := smallI_bits h
    exact CMul.ok (.inr this)
  · have h3 := of_decide_eq_true h
    have b : ∀ x : Int, Builtin.Int.intBits x ≤ x.natAbs.log2 + 1 := fun x => by
      unfold Builtin.Int.intBits
      split <;> omega
    have h1 := b i
    have h2 := b j
    have e : bitsLine = 134217728 := by decide
    unfold IntMulOk
    intro z
    rw [Bool.and_eq_true] at z
    have z2 := z.2
    unfold Builtin.Int.intTooBig at z2
    have z3 := of_decide_eq_true z2
    rw [e] at z3
    omega
theorem op_mulX : OpR X (binaryOp .Mult) (rI (fun i j => okMul i j = true) fun i j => .int (i * j)) := opI fun _ _ _ _ _ _ _ hc q => PyProof.Rows.mul_int q (okMul_ok hc)
def okDiv (j : Int) : Bool := decide (0 < j) && decide (j.natAbs.log2 < 9000)
def okPow (i j : Int) : Bool := decide (0 ≤ j) && decide (j ≤ 1000000) && smallI i
theorem okPow_ok {i j : Int} (h : okPow i j = true) : CPow i j := by
  unfold okPow at h
  rw [Bool.and_eq_true, Bool.and_eq_true] at h
  obtain ⟨⟨h1, h2⟩, h3⟩ := h
  refine ⟨of_decide_eq_true h1, of_decide_eq_true h2, ?_⟩
  have := of_decide_eq_true h3
  exact Nat.lt_of_lt_of_le this (by decide)
def gSub : Ar → Ar → Rs := opII (fun _ _ => true) fun i j => .int (i - j)
def gFdiv : Ar → Ar → Rs := opII (fun _ j => okDiv j) fun i j => .int (i / j)
def gMod : Ar → Ar → Rs := opII (fun _ j => decide (0 < j)) fun i j => .int (i % j)
def gPow : Ar → Ar → Rs := opII okPow fun i j => .int (i ^ j.toNat)
theorem OpOk.mono {r r' : R2} {g} (h : OpOk X W r g) (i : ∀ x y H Q, r x y H Q → r' x y H Q) : OpOk X W r' g := fun σ F H x y a b ca cb Q fh ra rb p => i _ _ _ _ (h σ F H x y a b ca cb Q fh ra rb p)
theorem ok_sub : OpOk X W (rI0 fun i j => .int (i - j)) gSub := OpOk.mono (opII_ok (P := fun _ _ => True) (fun _ _ _ => trivial) (fun _ _ => rfl)) fun x y H Q ⟨i, j, e1, e2, _, q⟩ => ⟨i, j, e1, e2, q⟩
theorem ge_sub (ha : GE X W a fa) (hb : GE X W b fb) : GE X W (.BinOp a .Sub b pos) (bin gSub fa fb) := ge_op op_sub ok_sub ha hb
theorem ge_fdiv (ha : GE X W a fa) (hb : GE X W b fb) : GE X W (.BinOp a .FloorDiv b pos) (bin gFdiv fa fb) := ge_op op_fdivW (opII_ok (fun i j h => by
  unfold okDiv at h
  rw [Bool.and_eq_true] at h
  exact ⟨of_decide_eq_true h.1, of_decide_eq_true h.2⟩) fun _ _ => rfl) ha hb
theorem ge_mod (ha : GE X W a fa) (hb : GE X W b fb) : GE X W (.BinOp a .Mod b pos) (bin gMod fa fb) := ge_op op_mod (opII_ok (fun i j h => of_decide_eq_true h) fun _ _ => rfl) ha hb
theorem ge_pow (ha : GE X W a fa) (hb : GE X W b fb) : GE X W (.BinOp a .Pow b pos) (bin gPow fa fb) := ge_op op_pow (opII_ok (fun i j h => okPow_ok h) fun _ _ => rfl) ha hb
theorem ext_new {p : Addr} {o : HO} (fh : Same F H) (np : H p = none) : Ext F H F (upd H p o) where
  hh := fun b u q => by rw [upd_ne (ne_of_none q np)]; exact q
  ff := Same.refl _
  fh := fun b u q => by
    have := fh b u q
    rw [upd_ne (ne_of_none this np)]; exact this
  nw := fun _ _ => rfl
@[simp] def allFz : List O → Option (List D)
  | [] => some []
  | .fz d :: os => match allFz os with
    | some ds => some (d :: ds)
    | none => none
  | _ :: _ => none
theorem allFz_map : ∀ ds : List D, allFz (ds.map .fz) = some ds
  | [] => rfl
  | d :: ds => by rw [List.map_cons, allFz, allFz_map ds]
theorem allFz_eq : ∀ {os : List O} {ds}, allFz os = some ds → os = ds.map .fz
  | [], ds, h => by cases h; rfl
  | .fz d :: os, ds, h => by
    unfold allFz at h
    cases q : allFz os with
    | none => rw [q] at h; cases h
    | some es => rw [q] at h; cases h; rw [List.map_cons, ← allFz_eq q]
  | .lst _ :: os, ds, h => by cases h
  | .tup _ :: os, ds, h => by cases h
  | .dK _ _ :: os, ds, h => by cases h
  | .dT _ _ :: os, ds, h => by cases h
theorem post_lst {ds : List D} {vs : List V} {p : Addr} {σ : St} {Q : VK} (fh : Same F H) (np : H p = none) (r : Reps K F ds vs) (p0 : X.K = K) (h : post X W (.ok (.ow (.lst (ds.map .fz)))) σ F H Q) : Q (.ref p) (upd H p (.lst vs)) := by
  subst p0
  exact h F _ (.ref p) [p] (ext_new fh np) ⟨p, vs, [], rfl, rfl, upd_same, OReps.fz r⟩ ⟨by simp, fun c hc => by
    have : c = p := by simpa using hc
    subst this
    exact ⟨np, fh.free np⟩⟩
def rCatX (K : PySem.W.Frag) : R2 := fun x y H Q => ∃ l b xs zs, x = .ref l ∧ y = .ref b ∧ SqL K H l xs ∧ SqL K H b zs ∧ xs.length + zs.length ≤ sizeLine ∧ ∀ p, H p = none → Q (.ref p) (upd H p (.lst (xs ++ zs)))
theorem op_catX : OpR X (binaryOp .Add) (rCatX X.K) := by
  intro pins s σ H x y v u Q I rx ry h
  obtain ⟨l, b, xs, zs, rfl, rfl, hH, hB, hz, q⟩ := h
  cases rx
  cases ry
  obtain ⟨its, r, ⟨⟨cl, dd, dt, sl⟩, n, e, ec, ed, ey⟩, z⟩ := I.list hH
  obtain ⟨its2, r2, ⟨⟨cl2, dd2, dt2, sl2⟩, n2, e2, ec2, ed2, ey2⟩, z2⟩ := I.list hB
  dsimp only at ec ed ey ec2 ed2 ey2
  subst ec ed ey ec2 ed2 ey2
  have l1 := r.length
  have l2 := r2.length
  have ea : its.toArray ++ its2.toArray = (its ++ its2).toArray := by simp
  refine concat_meets ⟨_, e, rfl⟩ ⟨_, e2, rfl⟩ noFill_list_add seq_list_add PySem.F.slot_list_add PySem.F.entry_list_add (PySem.F.args_list_add_2 _ _) (PyProof.Rows.list_addW l b its.toArray its2.toArray n n2 none none sl sl2 (by simp only [List.size_toArray]; omega)) ⟨e, e2, ?_⟩
  rw [ea]
  exact ⟨.ref _, _, I.lnew (t' := s.toks) (r.append r2) (by rw [List.length_append]; omega), rfl, q _ I.fresh⟩
end
end DL
namespace DL
open PySem PySem.Spec L2
variable {K : PySem.W.Frag} {F F' H H' H0 F0 F1 H1 : Hp} {cs cs' : List Addr} {σ : St} {ρ : Rho}
section
variable {X : Cx} {W : WX} {pos : Pos} {a b c : Expr} {fa fb fc : DE}
def gAdd : Ar → Ar → Rs := fun x y => match x.d, y.d with
  | .int i, .int j => okI (i + j)
  | .str s, .str t => if okLen (s.length + t.length) then .ok (.ow (.fz (.str (s ++ t)))) else .bad
  | _, _ => match x.o.seq, y.o.seq with
    | some (true, os), some (true, us) => match allFz os, allFz us with
      | some ds, some es => if okLen (ds.length + es.length) then .ok (.ow (.lst ((ds ++ es).map .fz))) else .bad
      | _, _ => .bad
    | _, _ => .bad
abbrev rAddX (K : PySem.W.Frag) : R2 := fun x y H Q => (∃ i j, x = .int i ∧ y = .int j ∧ Q (.int (i + j)) H) ∨ ((∃ i j, x = .str i ∧ y = .str j ∧ i.length + j.length ≤ sizeLine ∧ Q (.str (i ++ j)) H) ∨ rCatX K x y H Q)
theorem ARep.orep {a v} (r : ARep K F H a v cs) : ∃ c, ORep K F H a.o v c := r.some
theorem ok_add : OpOk X W (rAddX X.K) gAdd := by
  intro σ F H x y a b ca cb Q fh ra rb p
  have r1 := ra.view fh
  have r2 := rb.view fh
  unfold gAdd at p
  split at p
  · rename_i i j e1 e2
    rw [e1] at r1; rw [e2] at r2
    exact .inl ⟨i, j, r1, r2, post_flat (d := .int (i + j)) fh rfl p⟩
  · rename_i i j e1 e2
    rw [e1] at r1; rw [e2] at r2
    split at p
    · rename_i h
      exact .inr (.inl ⟨i, j, r1, r2, okLen_le h, post_flat (d := .str (i ++ j)) fh rfl p⟩)
    · exact p.elim
  · split at p
    · rename_i os us e1 e2
      obtain ⟨c1, q1⟩ := ra.orep
      obtain ⟨c2, q2⟩ := rb.orep
      obtain ⟨l, vs, c3, rfl, s1, t1⟩ := seq_rep fh q1 e1
      obtain ⟨l2, ws, c4, rfl, s2, t2⟩ := seq_rep fh q2 e2
      split at p
      · rename_i ds es e3 e4
        rw [allFz_eq e3] at t1
        rw [allFz_eq e4] at t2
        obtain ⟨_, u1⟩ := OReps.of_fz t1
        obtain ⟨_, u2⟩ := OReps.of_fz t2
        split at p
        · rename_i h
          have h' := okLen_le h
          rw [u1.len, u2.len] at h'
          exact .inr (.inr ⟨l, l2, vs, ws, rfl, rfl, s1, s2, h', fun q np => post_lst fh np (u1.append u2) rfl p⟩)
        · exact p.elim
      · exact p.elim
    · exact p.elim
theorem ge_add (ha : GE X W a fa) (hb : GE X W b fb) : GE X W (.BinOp a .Add b pos) (bin gAdd fa fb) := ge_op (op_add.or (op_add_str.or op_catX)) ok_add ha hb
def gMul : Ar → Ar → Rs := fun x y => match x.d, y.d with
  | .int i, .int j => if okMul i j then okI (i * j) else .bad
  | _, .int k => match x with
    | .ow (.lst os) => match allFz os with
      | some ds => if decide (-(2 ^ 63) ≤ k) && decide (k < 2 ^ 63) && okLen (ds.length * k.toNat) then .ok (.ow (.lst ((List.replicate k.toNat ds).flatten.map .fz))) else .bad
      | none => .bad
    | _ => .bad
  | _, _ => .bad
theorem Reps.rep {ds vs} (r : Reps K F ds vs) : ∀ k : Nat, Reps K F (List.replicate k ds).flatten (List.replicate k vs).flatten
  | 0 => rfl
  | k + 1 => by
    rw [List.replicate_succ, List.replicate_succ, List.flatten_cons, List.flatten_cons]
    exact r.append (Reps.rep r k)
theorem ok_mul : OpOk X W (fun x y H Q => rI (fun i j => okMul i j = true) (fun i j => .int (i * j)) x y H Q ∨ rRep x y H Q) gMul := by
  intro σ F H x y a b ca cb Q fh ra rb p
  have r1 := ra.view fh
  have r2 := rb.view fh
  unfold gMul at p
  split at p
  · rename_i i j e1 e2
    rw [e1] at r1; rw [e2] at r2
    split at p
    · rename_i h
      exact .inl ⟨i, j, r1, r2, h, post_flat (d := .int (i * j)) fh rfl p⟩
    · exact p.elim
  · rename_i k e2 _
    rw [e2] at r2
    split at p
    · rename_i os
      split at p
      · rename_i ds e3
        obtain ⟨l, vs, c3, rfl, _, s1, t1⟩ := ra
        rw [allFz_eq e3] at t1
        obtain ⟨_, u1⟩ := OReps.of_fz t1
        split at p
        · rename_i h
          rw [Bool.and_eq_true, Bool.and_eq_true] at h
          obtain ⟨⟨h1, h2⟩, h3⟩ := h
          have h4 := okLen_le h3
          rw [u1.len] at h4
          exact .inr ⟨l, k, vs, rfl, r2, s1, of_decide_eq_true h1, of_decide_eq_true h2, h4, fun q np => post_lst fh np (u1.rep k.toNat) rfl p⟩
        · exact p.elim
      · exact p.elim
    · exact p.elim
  · exact p.elim
theorem ge_mul (ha : GE X W a fa) (hb : GE X W b fb) : GE X W (.BinOp a .Mult b pos) (bin gMul fa fb) := ge_op (op_mulX.or op_rep) ok_mul ha hb
def un (g : Ar → Rs) (fa : DE) : DE := fun ρ => (fa ρ).bind g
def gNeg : Ar → Rs := fun x => match x.d with
  | .int i => okI (-i)
  | _ => .bad
theorem ge_neg (ha : GE X W a fa) : GE X W (.UnaryOp .USub a pos) (un gNeg fa) := by
  refine PE.imp (pe_un un_neg ha) fun σ H Q ⟨F0, H0, ρ, F, cs, R, p⟩ => ?_
  refine ⟨F0, H0, ρ, F, cs, R, ?_⟩
  unfold un at p
  cases q : fa ρ with
  | bad => rw [q] at p; exact p
  | ex c => rw [q] at p; exact p
  | ok a =>
    rw [q] at p
    intro F1 H1 v c1 e1 r1 n1
    have r2 := r1.view e1.fh
    have p : post X W (gNeg a) σ F H Q := p
    unfold gNeg at p
    split at p
    · rename_i i e
      rw [e] at r2
      exact ⟨i, r2, post_flat (d := .int (-i)) e1.fh rfl (post_ext e1 p)⟩
    · exact p.elim
def cmpI (g : Int → Int → Bool) : Ar → Ar → Rs := opII (fun _ _ => true) fun i j => .bl (g i j)
theorem ok_cmpI {g : Int → Int → Bool} : OpOk X W (rI0 fun i j => .bl (g i j)) (cmpI g) := OpOk.mono (opII_ok (P := fun _ _ => True) (fun _ _ _ => trivial) (fun _ _ => rfl)) fun x y H Q ⟨i, j, e1, e2, _, q⟩ => ⟨i, j, e1, e2, q⟩
abbrev gLt := cmpI fun i j => decide (i < j)
abbrev gGt := cmpI fun i j => decide (j < i)
abbrev gGe := cmpI fun i j => decide (j ≤ i)
mutual
def toPy : D → PyData
  | .non => .none | .bl b => .bool b | .int i => .int i | .str x => .str x
  | .lst xs => .list (toPys xs) | .tup xs => .tuple (toPys xs)
  | .dK _ _ => .dict [] | .dT _ _ => .dict [] | .exc _ => .dict [] | .ins _ _ _ => .dict [] | .at _ => .dict []
def toPys : List D → List PyData
  | [] => []
  | x :: xs => toPy x :: toPys xs
end
mutual
theorem rep_dp : ∀ {d : D} {v : V}, (toPy d).canLay0 = true → Rep K H d v → Dp K H v (toPy d)
  | .non, v, _, e => by cases (show v = .non from e); exact .non
  | .bl b, v, _, e => by cases (show v = .bl b from e); exact .bl b
  | .int b, v, _, e => by cases (show v = .int b from e); exact .int b
  | .str b, v, _, e => by cases (show v = .str b from e); exact .str b
  | .lst ds, v, h, ⟨a, vs, e, s, r⟩ => by subst e; exact .lst s (reps_dp (by simpa [toPy, PyData.canLay0] using h) r)
  | .tup ds, v, h, ⟨a, vs, e, s, r⟩ => by subst e; exact .tup (SqT.of s) (reps_dp (by simpa [toPy, PyData.canLay0] using h) r)
  | .dK ks ds, v, h, _ => by simp [toPy, PyData.canLay0] at h
  | .dT ks ds, v, h, _ => by simp [toPy, PyData.canLay0] at h
  | .exc c, v, h, _ => by simp [toPy, PyData.canLay0] at h
  | .ins c ns ds, v, h, _ => by simp [toPy, PyData.canLay0] at h
  | .at a, v, h, _ => by simp [toPy, PyData.canLay0] at h
theorem reps_dp : ∀ {ds : List D} {vs : List V}, PyData.canLayAll0 (toPys ds) = true → Reps K H ds vs → DpAll K H vs (toPys ds)
  | [], vs, _, e => by cases (show vs = [] from e); exact .nil
  | d :: ds, vs, h, ⟨v, r, e, x, y⟩ => by
    subst e
    have h' : (toPy d).canLay0 = true ∧ PyData.canLayAll0 (toPys ds) = true := by simpa [toPys, PyData.canLayAll0] using h
    exact .cons (rep_dp h'.1 x) (reps_dp h'.2 y)
end
def eqD (x y : D) : Bool := PyData.eqv (toPy x) (toPy y)
def shp (d : D) : Bool := SeqAt.shaped (toPy d)
def gEq : Ar → Ar → Rs := fun x y => if shp x.d && shp y.d then okB (eqD x.d y.d) else .bad
def gNe : Ar → Ar → Rs := fun x y => if shp x.d && shp y.d then okB (!eqD x.d y.d) else .bad
theorem ok_eq : OpOk X W (rEqD X.K) gEq := by
  intro σ F H x y a b ca cb Q fh ra rb p
  unfold gEq at p
  split at p
  · rename_i h
    rw [Bool.and_eq_true] at h
    exact ⟨_, _, rep_dp (SeqAt.canLay_of_shaped h.1) (ra.view fh), rep_dp (SeqAt.canLay_of_shaped h.2) (rb.view fh), h.1, h.2, post_flat (d := .bl (eqD a.d b.d)) fh rfl p⟩
  · exact p.elim
theorem ok_ne : OpOk X W (rNeD X.K) gNe := by
  intro σ F H x y a b ca cb Q fh ra rb p
  unfold gNe at p
  split at p
  · rename_i h
    rw [Bool.and_eq_true] at h
    exact ⟨_, _, rep_dp (SeqAt.canLay_of_shaped h.1) (ra.view fh), rep_dp (SeqAt.canLay_of_shaped h.2) (rb.view fh), h.1, h.2, post_flat (d := .bl (!eqD a.d b.d)) fh rfl p⟩
  · exact p.elim
@[simp] def isNon : D → Bool
  | .non => true
  | _ => false
theorem rep_non {d : D} {v : V} (r : Rep K H d v) : decide (v = .non) = isNon d := by
  cases d with
  | non => cases (show v = .non from r); rfl
  | bl b => cases (show v = .bl b from r); rfl
  | int b => cases (show v = .int b from r); rfl
  | str b => cases (show v = .str b from r); rfl
  | lst ds => obtain ⟨a, vs, rfl, _⟩ := r; rfl
  | tup ds => obtain ⟨a, vs, rfl, _⟩ := r; rfl
  | dK ks ds => obtain ⟨a, vs, rfl, _⟩ := r; rfl
  | dT ks ds => obtain ⟨a, vs, rfl, _⟩ := r; rfl
  | exc c => obtain ⟨a, C, rfl, _⟩ := r; rfl
  | ins c ns ds => obtain ⟨a, C, dx, vs, rfl, _⟩ := r; rfl
  | «at» a => cases (show v = .ref a from r); rfl
@[simp] def gIsN : Ar → Ar → Rs := fun x y => match y.d with
  | .non => okB (isNon x.d)
  | _ => .bad
@[simp] def gNotN : Ar → Ar → Rs := fun x y => match y.d with
  | .non => okB (!isNon x.d)
  | _ => .bad
theorem ok_isN : OpOk X W (fun x y H Q => y = .non ∧ Q (.bl (decide (x = .non))) H) gIsN := by
  intro σ F H x y a b ca cb Q fh ra rb p
  unfold gIsN at p
  split at p
  · rename_i e
    have r2 := rb.view fh
    rw [e] at r2
    refine ⟨r2, ?_⟩
    rw [rep_non (ra.view fh)]
    exact post_flat (d := .bl _) fh rfl p
  · exact p.elim
theorem ok_notN : OpOk X W (fun x y H Q => y = .non ∧ Q (.bl (!decide (x = .non))) H) gNotN := by
  intro σ F H x y a b ca cb Q fh ra rb p
  unfold gNotN at p
  split at p
  · rename_i e
    have r2 := rb.view fh
    rw [e] at r2
    refine ⟨r2, ?_⟩
    rw [rep_non (ra.view fh)]
    exact post_flat (d := .bl _) fh rfl p
  · exact p.elim
end
end DL
namespace DL
open PySem PySem.Spec L2
variable {K : PySem.W.Frag} {F F' H H' H0 F0 F1 H1 : Hp} {cs cs' : List Addr} {σ : St} {ρ : Rho}
section
variable {X : Cx} {W : WX} {pos : Pos} {a b c : Expr} {fa fb fc : DE}
def flats (ds : List D) : Bool := ds.all flatD
theorem reps_flat : ∀ {ds vs}, Reps K F ds vs → flats ds = true → vs = ds.map vOf
  | [], _, e, _ => e
  | d :: ds, _, ⟨v, r, e, x, y⟩, h => by
    have h' : flatD d = true ∧ flats ds = true := by simpa [flats] using h
    subst e
    rw [List.map_cons, ← reps_flat y h'.2]
    have : v = vOf d := by
      cases d <;> first | exact x | cases h'.1
    rw [this]
theorem flatV_vOf {d : D} (h : flatD d = true) : flatV (vOf d) = true := by cases d <;> first | rfl | cases h
theorem rep_flat {d v} (r : Rep K F d v) (h : flatD d = true) : v = vOf d := by cases d <;> first | exact r | cases h
theorem flatV_all {ds : List D} (h : flats ds = true) : (ds.map vOf).all flatV = true := by
  rw [List.all_map, List.all_eq_true]
  intro d hd
  exact flatV_vOf (List.all_eq_true.mp h d hd)
@[simp] def keyD : D → Option Key
  | .int i => some (.inl i)
  | .str x => some (.inr x)
  | _ => none
theorem keyD_v {d v k} (r : Rep K F d v) (h : keyD d = some k) : v = kV k := by
  cases d <;> first | (cases h; exact r) | cases h
mutual
def nkD : D → Option NestedKey
  | .non => some .none
  | .int i => some (.num i)
  | .tup ds => match nkDs ds with
    | some ks => some (.tup ks)
    | none => none
  | _ => none
def nkDs : List D → Option (List NestedKey)
  | [] => some []
  | d :: ds => match nkD d, nkDs ds with
    | some k, some ks => some (k :: ks)
    | _, _ => none
end
mutual
theorem nkD_v : ∀ {d v k}, Rep K F d v → nkD d = some k → KAt F k v
  | .non, _, _, r, h => by
    unfold nkD at h; cases h; exact r
  | .int i, _, _, r, h => by
    unfold nkD at h; cases h; exact r
  | .tup ds, _, k, ⟨a, vs, e, s, r⟩, h => by
    unfold nkD at h
    cases q : nkDs ds with
    | none => rw [q] at h; cases h
    | some ks =>
      rw [q] at h
      cases h
      exact ⟨a, vs, e, s, nkDs_v r q⟩
  | .bl _, _, _, _, h => by unfold nkD at h; cases h
  | .str _, _, _, _, h => by unfold nkD at h; cases h
  | .lst _, _, _, _, h => by unfold nkD at h; cases h
  | .dK _ _, _, _, _, h => by unfold nkD at h; cases h
  | .dT _ _, _, _, _, h => by unfold nkD at h; cases h
  | .exc _, _, _, _, h => by unfold nkD at h; cases h
  | .ins _ _ _, _, _, _, h => by unfold nkD at h; cases h
  | .at _, _, _, _, h => by unfold nkD at h; cases h
theorem nkDs_v : ∀ {ds vs ks}, Reps K F ds vs → nkDs ds = some ks → KAts F ks vs
  | [], _, _, e, h => by unfold nkDs at h; cases h; exact e
  | d :: ds, _, ks, ⟨v, r, e, x, y⟩, h => by
    unfold nkDs at h
    cases q1 : nkD d with
    | none => rw [q1] at h; cases h
    | some k =>
      cases q2 : nkDs ds with
      | none => rw [q1, q2] at h; cases h
      | some ks' =>
        rw [q1, q2] at h
        cases h
        exact ⟨v, r, e, nkD_v x q1, nkDs_v y q2⟩
end
def nkey : D → Option NestedKey
  | .tup zs => match nkD (.tup zs) with
    | some k => if okN k then some k else none
    | none => none
  | _ => none
theorem nkey_v {d v k} (r : Rep K F d v) (h : nkey d = some k) : okN k = true ∧ ∃ b, v = .ref b ∧ KAt F k (.ref b) := by
  unfold nkey at h
  split at h
  · split at h
    · rename_i k' e
      split at h
      · rename_i hk
        cases h
        refine ⟨hk, ?_⟩
        have q := nkD_v r e
        obtain ⟨b, vs, hv, _⟩ := r
        subst hv
        exact ⟨b, rfl, q⟩
      · cases h
    · cases h
  · cases h
def look {κ : Type} [DecidableEq κ] : List κ → List D → κ → Option D
  | k' :: ks, d :: ds, k => if k' = k then some d else look ks ds k
  | _, _, _ => none
theorem look_val {κ : Type} [DecidableEq κ] : ∀ {ks : List κ} {ds : List D} {vs : List V} {k : κ}, Reps K F ds vs → ks.length = vs.length →
    (look ks ds k = none ∧ valV (ks.zip vs) k = none) ∨ ∃ d v, look ks ds k = some d ∧ valV (ks.zip vs) k = some v ∧ Rep K F d v
  | [], _, _, _, _, _ => .inl ⟨by unfold look; rfl, rfl⟩
  | k' :: ks, [], vs, k, e, l => by cases (show vs = [] from e); cases l
  | k' :: ks, d :: ds, _, k, ⟨v, r, e, x, y⟩, l => by
    subst e
    by_cases h : k' = k
    · exact .inr ⟨d, v, by unfold look; rw [if_pos h], by rw [List.zip_cons_cons, valV_pos (p := (k', v)) h], x⟩
    · rw [List.zip_cons_cons, valV_neg (p := (k', v)) h]
      unfold look
      rw [if_neg h]
      exact look_val y (by simpa using l)
def O.dic0 : O → D
  | .fz d => d
  | .dK ks vs => .dK ks vs
  | .dT ks vs => .dT ks vs
  | .lk ks vs => .dK ks vs
  | _ => .non
def O.dic : O → D
  | .nm _ o => o.dic0
  | o => o.dic0
def dget (x y : Ar) : Option (Option D) := match x.o.dic with
  | .dK ks vs => match keyD y.d with
    | some k => some (look ks vs k)
    | none => none
  | .dT ks vs => match nkey y.d with
    | some k => some (look ks vs k)
    | none => none
  | _ => none
def DGetX (H : Hp) (a : Addr) (y : V) (r : Option V) : Prop := DGet H a y r ∨ ∃ F kvs k b, (∀ b xs, F b = some (.tup xs) → H b = some (.tup xs)) ∧ NAt F H a kvs ∧ okN k = true ∧ y = .ref b ∧ KAt H k (.ref b) ∧ r = valV kvs k
def relO (K : PySem.W.Frag) (F : Hp) : Option D → Option V → Prop
  | some d, some z => Rep K F d z
  | none, none => True
  | _, _ => False
theorem dic0_K {o : O} {u : V} {c ks vs} (fh : Same F H) (q : ORep K F H o u c) (e : o.dic0 = .dK ks vs) : ∃ p zs, u = .ref p ∧ Rd H p (.dK (ks.zip zs)) ∧ ks.length = zs.length ∧ Reps K F vs zs := by
  cases o with
  | fz d =>
    have e' : d = .dK ks vs := e
    subst e'
    obtain ⟨_, p, zs, h1, h2, h3, h4⟩ := q
    exact ⟨p, zs, h1, Rd.mono fh h2, h3, h4⟩
  | dK ks' vs' =>
    cases e
    obtain ⟨p, zs, h1, _, h2, h3, h4⟩ := q
    exact ⟨p, zs, h1, .inl h2, h3, h4⟩
  | lk ks' vs' =>
    cases e
    obtain ⟨_, p, zs, od, h1, h2, h3, h4⟩ := q
    exact ⟨p, zs, h1, Rd.mono fh (.inr ⟨od, h2⟩), h3, h4⟩
  | dT _ _ => cases e
  | lst _ => cases e
  | tup _ => cases e
  | ins _ _ _ => cases e
  | nm _ _ => cases e
theorem dic0_T {o : O} {u : V} {c ks vs} (fh : Same F H) (q : ORep K F H o u c) (e : o.dic0 = .dT ks vs) : ∃ p zs, u = .ref p ∧ NAt F H p (ks.zip zs) ∧ ks.length = zs.length ∧ Reps K F vs zs := by
  cases o with
  | fz d =>
    have e' : d = .dT ks vs := e
    subst e'
    obtain ⟨_, p, zs, h1, ⟨ms, od, h2, h5, h6⟩, h3, h4⟩ := q
    exact ⟨p, zs, h1, ⟨ms, od, fh _ _ h2, h5, h6⟩, h3, h4⟩
  | dT ks' vs' =>
    cases e
    obtain ⟨p, zs, h1, _, h2, h3, h4⟩ := q
    exact ⟨p, zs, h1, h2, h3, h4⟩
  | lk _ _ => cases e
  | dK _ _ => cases e
  | lst _ => cases e
  | tup _ => cases e
  | ins _ _ _ => cases e
  | nm _ _ => cases e
theorem dic_K {o : O} {u : V} {c ks vs} (fh : Same F H) (q : ORep K F H o u c) (e : o.dic = .dK ks vs) : ∃ p zs, u = .ref p ∧ Rd H p (.dK (ks.zip zs)) ∧ ks.length = zs.length ∧ Reps K F vs zs := by
  unfold O.dic at e
  split at e
  · exact dic0_K fh q.2 e
  · exact dic0_K fh q e
theorem dic_T {o : O} {u : V} {c ks vs} (fh : Same F H) (q : ORep K F H o u c) (e : o.dic = .dT ks vs) : ∃ p zs, u = .ref p ∧ NAt F H p (ks.zip zs) ∧ ks.length = zs.length ∧ Reps K F vs zs := by
  unfold O.dic at e
  split at e
  · exact dic0_T fh q.2 e
  · exact dic0_T fh q e
theorem dget_ok {x y : Ar} {u v : V} {c1 c2 : List Addr} {r} (fh : Same F H) (rx : ARep K F H x u c1) (ry : ARep K F H y v c2) (h : dget x y = some r) : ∃ p o, u = .ref p ∧ DGetX H p v o ∧ relO K F r o := by
  obtain ⟨c3, q⟩ := rx.some
  have r2 := ry.view fh
  unfold dget at h
  split at h
  · rename_i ks vs e
    split at h
    · rename_i k ek
      cases h
      have hv := keyD_v r2 ek
      obtain ⟨p, zs, e1, e2, e3, e4⟩ := dic_K fh q e
      rcases look_val (k := k) e4 e3 with ⟨l1, l2⟩ | ⟨d, z, l1, l2, l3⟩
      · exact ⟨p, none, e1, .inl (.inl ⟨_, k, e2, hv, l2.symm⟩), by rw [l1]; trivial⟩
      · exact ⟨p, some z, e1, .inl (.inl ⟨_, k, e2, hv, l2.symm⟩), by rw [l1]; exact l3⟩
    · cases h
  · rename_i ks vs e
    split at h
    · rename_i k ek
      cases h
      obtain ⟨hk, b, hv, kb⟩ := nkey_v r2 ek
      obtain ⟨p, zs, e1, e2, e3, e4⟩ := dic_T fh q e
      have ff : ∀ b xs, F b = some (.tup xs) → H b = some (.tup xs) := fun b xs q => fh b _ q
      rcases look_val (k := k) e4 e3 with ⟨l1, l2⟩ | ⟨d, z, l1, l2, l3⟩
      · exact ⟨p, none, e1, .inr ⟨F, _, k, b, ff, e2, hk, hv, kb, l2.symm⟩, by rw [l1]; trivial⟩
      · exact ⟨p, some z, e1, .inr ⟨F, _, k, b, ff, e2, hk, hv, kb, l2.symm⟩, by rw [l1]; exact l3⟩
    · cases h
  · cases h
section
variable {X : Cx} {pins : List (Addr × Obj)} {σ : St} {H : Hp} {s : Shared} {a : Addr} {y v : V} {u : Value} {o : Option V} {E : Value → Shared → Prop}
theorem dx_typeIs (I : Inv X pins σ H s) (g : DGetX H a y o) : s.TypeIs (.ref a) "dict" := g.elim (dict_typeIs I) fun ⟨_, _, _, _, _, g, _⟩ => n_typeIs I g
theorem dx_getItem {Q : Value → Shared → Prop} (hu : X.A.units + 64 < cLine) (I : Inv X pins σ H s) (g : DGetX H a y (some v)) (ry : RelV y u) (h : ∀ w' s', Inv X pins σ H s' → RelV v w' → Q w' s') :
    wpAny (model X.prog X.w) X.A (getItem (.ref a) u) Q E s := by
  rcases g with g | ⟨F, kvs, k, b, hf, g, ok, ey, kb, l⟩
  · exact d_getItem (by omega) I g ry h
  · subst ey
    cases (show u = Value.ref b from ry)
    exact n_getItem hu I hf g ok kb l.symm h
theorem dx_notIn {Q : Value → Shared → Prop} (hu : X.A.units + 64 < cLine) (I : Inv X pins σ H s) (g : DGetX H a y o) (ry : RelV y u) (h : ∀ s', Inv X pins σ H s' → Q (.bool (!o.isSome)) s') :
    wpAny (model X.prog X.w) X.A (compareOp .NotIn u (.ref a)) Q E s := by
  rcases g with g | ⟨F, kvs, k, b, hf, g, ok, ey, kb, l⟩
  · exact d_notIn (by omega) I g ry h
  · subst ey
    cases (show u = Value.ref b from ry)
    exact n_notIn hu I hf g ok kb fun s' I' => by rw [← l]; exact h s' I'
end
def gIn (neg : Bool) : Ar → Ar → Rs := fun x y => match y.o.seq with
  | some (_, os) => match allFz os with
    | some ds => if flatD x.d && flats ds then okB (xor neg (inV (vOf x.d) (ds.map vOf))) else .bad
    | none => .bad
  | none => match x.d, y.d with
    | .str s, .str t => okB (xor neg (!(Builtin.Str.occurrences t s 0 t.length 1).isEmpty))
    | _, _ => match dget y x with
      | some r => okB (xor neg r.isSome)
      | none => .bad
abbrev rInX (K : PySem.W.Frag) (neg : Bool) : R2 := fun x y H Q => rIn K neg x y H Q ∨ ((∃ i j, x = .str i ∧ y = .str j ∧ Q (.bl (xor neg (!(Builtin.Str.occurrences j i 0 j.length 1).isEmpty))) H) ∨ ∃ p o, y = .ref p ∧ DGetX H p x o ∧ Q (.bl (xor neg o.isSome)) H)
theorem ok_in {neg : Bool} : OpOk X W (rInX X.K neg) (gIn neg) := by
  intro σ F H x y a b ca cb Q fh ra rb p
  have r1 := ra.view fh
  have r2 := rb.view fh
  unfold gIn at p
  split at p
  · rename_i l os e1
    obtain ⟨c2, q2⟩ := rb.orep
    obtain ⟨l, vs, c3, rfl, s1, t1⟩ := seq_rep fh q2 e1
    split at p
    · rename_i ds e2
      rw [allFz_eq e2] at t1
      obtain ⟨_, u1⟩ := OReps.of_fz t1
      split at p
      · rename_i h
        rw [Bool.and_eq_true] at h
        have ex := rep_flat r1 h.1
        have ey := reps_flat u1 h.2
        subst ex ey
        refine .inl ⟨l, _, rfl, ?_, flatV_vOf h.1, flatV_all h.2, ?_⟩
        · revert s1
          split
          · exact .inl
          · exact .inr
        · have := post_flat (d := .bl _) fh rfl p
          cases neg
          · simpa [vOf] using this
          · simpa [vOf] using this
      · exact p.elim
    · exact p.elim
  · split at p
    · rename_i s t e1 e2
      rw [e1] at r1; rw [e2] at r2
      exact .inr (.inl ⟨s, t, r1, r2, post_flat (d := .bl _) fh rfl p⟩)
    · split at p
      · rename_i r e
        obtain ⟨q, o, e1, g, m⟩ := dget_ok fh rb ra e
        refine .inr (.inr ⟨q, o, e1, g, ?_⟩)
        have e2 : o.isSome = r.isSome := by
          cases r <;> cases o <;> first | rfl | exact m.elim | exact (m : False).elim
        rw [e2]
        exact post_flat (d := .bl _) fh rfl p
      · exact p.elim
theorem op_notInX (hu : X.A.units + 64 < cLine) : OpR X (compareOp .NotIn) (rInX X.K true) := by
  refine op_notIn_seq.or (OpR.or ?_ ?_)
  · intro pins s σ H x y v u Q I rx ry ⟨i, j, e1, e2, q⟩
    exact op_notIn_str pins s σ H x y v u Q I rx ry ⟨i, j, e1, e2, by simpa using q⟩
  · intro pins s σ H x y v u Q I rx ry ⟨p, o, e, g, q⟩
    subst e
    cases ry
    exact dx_notIn hu I g rx fun s' I' => ⟨.bl _, H, I', rfl, by simpa using q⟩
def gIx : Ar → Ar → Rs := fun x y => match x.o.seq, y.d with
  | some (_, os), .int i => match atI os i with
    | some o => .ok (itemAr o)
    | none => .bad
  | _, _ => match x.d, y.d with
    | .str s, .int i => if okLen s.length then match atI s.cps.toList i with
        | some c => .ok (.ow (.fz (.str ⟨#[c]⟩)))
        | none => .bad
      else .bad
    | _, _ => match dget x y with
      | some (some d) => .ok (.ow (.fz d))
      | _ => .bad
theorem post_item {o : O} {v : V} {c σ} {Q : VK} (fh : Same F H) (h : ORep X.K F H o v c) (p : post X W (.ok (itemAr o)) σ F H Q) : Q v H := p F H v [] (Ext.refl fh) (itemAr_rep h) New.nil
open PyProof.Rows in
theorem ix_dic (hu : X.A.units + 64 < cLine) : IxR X (fun x y H Q => ∃ a v, x = .ref a ∧ DGetX H a y (some v) ∧ Q v H) := by
  intro value slice pins s σ H x y v u Q I rx ry ⟨a, z, ex, g, q⟩ hs
  subst ex
  cases rx
  have hT := dx_typeIs I g
  unfold subscriptTail
  refine wpAny_bind ?_
  rw [getitemInPython_of_ne hT.not_modules]
  refine wpAny_bind (wpAny_specialOf hT PySem.F.slot_dict_getitem.lookup ?_)
  have fin : wpAny (model X.prog X.w) X.A (subscripted slice false (.ref a) u) (fun r s₃ => wpAny (model X.prog X.w) X.A (letTemporaryGo value (.ref a) r >>= fun _ => pure r) (EP X pins σ Q) X.xe s₃) X.xe s := by
    rw [hs]
    exact wpAny_operating (dx_getItem hu I g ry fun w' s3 I3 rw' => wpAny_bind (wpAny_letTemporaryGo (wpAny_pure ⟨z, H, I3, rw', q⟩)))
  first
    | exact wpAny_pure (wpAny_bind fin)
    | exact wpAny_bind (wpAny_pure (wpAny_bind fin))
    | exact wpAny_bind fin
theorem ok_ix : OpOk X W (fun x y H Q => rIx X.K x y H Q ∨ ∃ a v, x = .ref a ∧ DGetX H a y (some v) ∧ Q v H) gIx := by
  intro σ F H x y a b ca cb Q fh ra rb p
  have r1 := ra.view fh
  have r2 := rb.view fh
  unfold gIx at p
  split at p
  · rename_i l os i e1 e2
    obtain ⟨c2, q2⟩ := ra.orep
    obtain ⟨q, vs, c3, rfl, s1, t1⟩ := seq_rep fh q2 e1
    rw [e2] at r2
    split at p
    · rename_i o e3
      obtain ⟨v, c4, e4, t4⟩ := t1.atI e3
      have z := post_item fh t4 p
      revert s1
      split
      · exact fun s1 => .inl (.inl ⟨q, vs, i, v, rfl, r2, s1, e4, z⟩)
      · exact fun s1 => .inl (.inr (.inl ⟨q, vs, i, v, rfl, r2, s1, e4, z⟩))
    · exact p.elim
  · split at p
    · rename_i s i e1 e2
      rw [e1] at r1; rw [e2] at r2
      split at p
      · rename_i hl
        split at p
        · rename_i c e3
          exact .inl (.inr (.inr ⟨s, i, c, r1, r2, okLen_le hl, e3, post_flat (d := .str _) fh rfl p⟩))
        · exact p.elim
      · exact p.elim
    · split at p
      · rename_i d e
        obtain ⟨q, o, e1, g, m⟩ := dget_ok fh ra rb e
        cases o with
        | none => exact (m : False).elim
        | some z => exact .inr ⟨q, z, e1, g, post_item (o := .fz d) (c := []) fh ⟨rfl, m⟩ p⟩
      · exact p.elim
theorem ge_ix (hu : X.A.units + 64 < cLine) (ha : GE X W a fa) (hb : GE X W b fb) (hs : PlainIx b := by intro _ _; rfl) : GE X W (.Subscript a b pos) (bin gIx fa fb) :=
  PE.imp (pe_ix (ix_seq.or (ix_dic hu)) ha hb hs) (tOp_of ok_ix)
end
end DL
namespace DL
open PySem PySem.Spec L2
variable {K : PySem.W.Frag} {F F' H H' H0 F0 F1 H1 : Hp} {cs cs' : List Addr} {σ : St} {ρ : Rho}
theorem New.ext (e : Ext F H F' H') {G : Hp} (n : New H' G cs) : New H G cs := ⟨n.nd, fun c hc => ⟨e.hh.free (n.nw c hc).1, (n.nw c hc).2⟩⟩
theorem AReps.ext : ∀ {as vs cs}, Ext F H F' H' → AReps K F H as vs cs → AReps K F' H' as vs cs
  | [], _, _, _, h => h
  | a :: as, _, _, e, ⟨v, r, c1, c2, e1, e2, x, y⟩ => ⟨v, r, c1, c2, e1, e2, x.ext e, AReps.ext e y⟩
theorem AReps.there : ∀ {as vs cs}, AReps K F H as vs cs → ∀ c ∈ cs, H c ≠ none
  | [], _, _, ⟨_, e⟩, c, hc => by rw [e] at hc; cases hc
  | a :: as, _, _, ⟨v, r, c1, c2, e1, e2, x, y⟩, c, hc => by
    rw [e2] at hc
    rcases List.mem_append.mp hc with h | h
    · exact x.there c h
    · exact AReps.there y c h
theorem AReps.view (h : Same F H) : ∀ {as vs cs}, AReps K F H as vs cs → Reps K H (as.map Ar.d) vs
  | [], _, _, ⟨e, _⟩ => e
  | a :: as, _, _, ⟨v, r, c1, c2, e1, e2, x, y⟩ => ⟨v, r, e1, x.view h, AReps.view h y⟩
theorem AReps.len : ∀ {as vs cs}, AReps K F H as vs cs → as.length = vs.length
  | [], _, _, ⟨e, _⟩ => by rw [e]; rfl
  | a :: as, _, _, ⟨v, r, c1, c2, e1, e2, x, y⟩ => by rw [e1]; simp [AReps.len y]
section
variable {X : Cx} {W : WX} {pos : Pos} {a b c : Expr} {fa fb fc : DE}
def nilA : DA := fun _ => .ok []
def consA (f : DE) (g : DA) : DA := fun ρ => match f ρ with
  | .ok a => match g ρ with
    | .ok as => .ok (a :: as)
    | .ex c => .ex c
    | .bad => .bad
  | .ex c => .ex c
  | .bad => .bad
theorem ga_nil : GA X W [] nilA := PA.imp pa_nil fun σ H Q ⟨F0, H0, ρ, F, cs, R, p⟩ => p F H [] [] (Ext.refl R.fh) ⟨rfl, rfl⟩ New.nil
theorem ga_cons {e : Expr} {es : List Expr} {f : DE} {g : DA} (hf : GE X W e f) (hg : GA X W es g) (hs : starEach (e :: es) X.env = (false, eval e X.env) :: starEach es X.env := by rfl) : GA X W (e :: es) (consA f g) := by
  refine PA.imp (pa_cons hf hg hs) fun σ H Q ⟨F0, H0, ρ, F, cs, R, p⟩ => ?_
  refine ⟨F0, H0, ρ, F, cs, R, ?_⟩
  unfold consA at p
  cases q : f ρ with
  | bad => rw [q] at p; exact p
  | ex c => rw [q] at p; exact p
  | ok a =>
    rw [q] at p
    intro F1 H1 v c1 e1 r1 n1
    refine ⟨F0, H0, ρ, F1, cs, R.ext e1, ?_⟩
    cases q2 : g ρ with
    | bad => rw [q2] at p; exact p
    | ex c => rw [q2] at p; exact fun F2 H2 C e2 m => p F2 H2 C (e1.trans e2) m
    | ok as =>
      rw [q2] at p
      intro F2 H2 vs c2 e2 r2 n2
      refine p F2 H2 (v :: vs) (c1 ++ c2) (e1.trans e2) ⟨v, vs, c1, c2, rfl, rfl, r1.ext e2, r2⟩ ⟨?_, fun c hc => ?_⟩
      · rw [List.nodup_append]
        exact ⟨n1.nd, n2.nd, fun a ha b hb e => by subst e; exact r1.there a ha (n2.nw a hb).1⟩
      · rcases List.mem_append.mp hc with h | h
        · exact ⟨(n1.nw c h).1, e2.nf (r1.there c h) (n1.nw c h).2⟩
        · exact ⟨e1.hh.free (n2.nw c h).1, (n2.nw c h).2⟩
@[simp] def owAll : List Ar → Option (List O)
  | [] => some []
  | .ow o :: as => match owAll as with
    | some os => some (o :: os)
    | none => none
  | .vw _ :: _ => none
theorem owAll_rep : ∀ {as os vs cs}, AReps K F H as vs cs → owAll as = some os → OReps K F H os vs cs
  | [], _, _, _, e, h => by cases h; exact e
  | .ow o :: as, os, _, _, ⟨v, r, c1, c2, e1, e2, x, y⟩, h => by
    unfold owAll at h
    split at h
    · rename_i os' e
      cases h
      exact ⟨v, r, c1, c2, e1, e2, x, owAll_rep y e⟩
    · cases h
  | .vw _ :: as, _, _, _, _, h => by cases h
def lstE (f : DA) : DE := fun ρ => match f ρ with
  | .ok as => match owAll as with
    | some os => if okLen os.length then .ok (.ow (.lst os)) else .bad
    | none => .bad
  | .ex c => .ex c
  | .bad => .bad
def tupE (f : DA) : DE := fun ρ => match f ρ with
  | .ok as => match owAll as with
    | some os => if okLen os.length then (match allFz os with
      | some ds => .ok (.ow (.fz (.tup ds)))
      | none => .ok (.ow (.tup os))) else .bad
    | none => .bad
  | .ex c => .ex c
  | .bad => .bad
theorem new_cons {p : Addr} {G : Hp} (fh : Same G H) (np : H p = none) (n : New H0 G cs) (hs : Same H0 H) (th : ∀ c ∈ cs, H c ≠ none) : New H0 G (p :: cs) :=
  ⟨List.nodup_cons.mpr ⟨fun h => th p h np, n.nd⟩, fun c hc => by
    rcases List.mem_cons.mp hc with rfl | h
    · exact ⟨hs.free np, fh.free np⟩
    · exact n.nw c h⟩
theorem OReps.upd {os vs cs} {p : Addr} {o : HO} (np : H p = none) (r : OReps K F H os vs cs) : OReps K F (L2.upd H p o) os vs cs := r.frame (Same.refl _) fun c hc => upd_ne fun e => by subst e; exact r.there _ hc np
theorem ORep.upd {x v cs} {p : Addr} {o : HO} (np : H p = none) (r : ORep K F H x v cs) : ORep K F (L2.upd H p o) x v cs := r.frame (Same.refl _) fun c hc => upd_ne fun e => by subst e; exact r.there _ hc np
theorem same_upd' {p : Addr} {o : HO} (np : H p = none) : Same H (L2.upd H p o) := fun b u q => by rw [upd_ne (ne_of_none q np)]; exact q
theorem ge_lst {es : List Expr} {f : DA} (h : GA X W es f) : GE X W (.List es pos) (lstE f) := by
  refine PE.imp (pe_lst h) fun σ H Q ⟨F0, H0, ρ, F, cs, R, p⟩ => ?_
  refine ⟨F0, H0, ρ, F, cs, R, ?_⟩
  unfold lstE at p
  cases q : f ρ with
  | bad => rw [q] at p; exact p
  | ex c => rw [q] at p; exact p
  | ok as =>
    rw [q] at p
    intro F1 H1 vs c1 e1 r1 n1
    dsimp only at p
    split at p
    · rename_i os eo
      split at p
      · rename_i hl
        have r2 := owAll_rep r1 eo
        refine ⟨by rw [← r2.len]; exact okLen_le hl, fun l nl => ?_⟩
        exact p F1 _ (.ref l) (l :: c1) (e1.trans (ext_new e1.fh nl)) ⟨l, vs, c1, rfl, rfl, upd_same, r2.upd nl⟩ (new_cons e1.fh nl n1 e1.hh r2.there)
      · exact p.elim
    · exact p.elim
theorem ge_tup {es : List Expr} {k : Nat} {f : DA} (h : GA X W es f) : GE X W (.Tuple es k pos) (tupE f) := by
  refine PE.imp (pe_tup h) fun σ H Q ⟨F0, H0, ρ, F, cs, R, p⟩ => ?_
  refine ⟨F0, H0, ρ, F, cs, R, ?_⟩
  unfold tupE at p
  cases q : f ρ with
  | bad => rw [q] at p; exact p
  | ex c => rw [q] at p; exact p
  | ok as =>
    rw [q] at p
    intro F1 H1 vs c1 e1 r1 n1
    dsimp only at p
    split at p
    · rename_i os eo
      split at p
      · rename_i hl
        have r2 := owAll_rep r1 eo
        refine ⟨by rw [← r2.len]; exact okLen_le hl, fun l nl => ?_⟩
        split at p
        · rename_i ds ed
          rw [allFz_eq ed] at r2
          obtain ⟨_, r3⟩ := OReps.of_fz r2
          have nf : F1 l = none := e1.fh.free nl
          have f2 : Same F1 (L2.upd F1 l (.tup vs)) := same_upd' nf
          refine p (L2.upd F1 l (.tup vs)) _ (.ref l) [] ⟨e1.hh.trans (same_upd' nl), e1.ff.trans f2, fun b u q => ?_, fun b hb => ?_⟩ ⟨rfl, l, vs, rfl, upd_same, r3.mono f2⟩ New.nil
          · by_cases hbl : b = l
            · subst hbl; rw [upd_same] at q ⊢; exact q
            · rw [upd_ne hbl] at q ⊢; exact e1.fh b u q
          · have : b ≠ l := fun e => by subst e; exact hb (e1.hh.free nl)
            rw [upd_ne this]; exact e1.nw b hb
        · exact p F1 _ (.ref l) (l :: c1) (e1.trans (ext_new e1.fh nl)) ⟨l, vs, c1, rfl, rfl, upd_same, r2.upd nl⟩ (new_cons e1.fh nl n1 e1.hh r2.there)
      · exact p.elim
    · exact p.elim
def VCall (X : Cx) (W : WX) (r : List V → Hp → VK → Prop) (g : List Ar → Rs) : Prop := ∀ (σ : St) (F H : Hp) (vs : List V) (as : List Ar) (cs : List Addr) (Q : VK), Same F H → AReps X.K F H as vs cs → post X W (g as) σ F H Q → r vs H Q
def callB (g : List Ar → Rs) (f : DA) : DE := fun ρ => match f ρ with
  | .ok as => g as
  | .ex c => .ex c
  | .bad => .bad
theorem tCB_of {r : List V → Hp → VK → Prop} {g : List Ar → Rs} {f : DA} (vc : VCall X W r g) : ∀ σ H Q, tE X W (callB g f) σ H Q → tCB r (tA X W f) σ H Q := fun σ H Q ⟨F0, H0, ρ, F, cs, R, p⟩ => by
  refine ⟨F0, H0, ρ, F, cs, R, ?_⟩
  unfold callB at p
  cases q : f ρ with
  | bad => rw [q] at p; exact p
  | ex c => rw [q] at p; exact p
  | ok as =>
    rw [q] at p
    intro F1 H1 vs c1 e1 r1 n1
    exact vc σ F1 H1 vs as c1 Q e1.fh r1 (post_ext e1 p)
theorem ge_callB {x : Str} {id : String} {p : Pos} {e : Expr} {es : List Expr} {r : List V → Hp → VK → Prop} {g : List Ar → Rs} {f : DA} (hc : CallR X (.builtin id) r) (vc : VCall X W r g) (hm : X.mg x = none) (ha : GA X W (e :: es) f) (hg : Gl X x := by rfl) (hv : bootBuiltins x = some (.builtin id) := by decide +kernel)
    (hn : x ≠ "__name__" := by decide) (hdb : (x == ("__debug__" : Str)) = false := by decide)
    (he : starEach (e :: es) X.env = (false, eval e X.env) :: starEach es X.env := by rfl) (hpl : (backTo pos (starEach es X.env)).any (·.1) = false := by rfl) : GE X W (.Call (.Name x p) (e :: es) [] pos) (callB g f) :=
  PE.imp (pe_callB hc hg hm hv ha hn hdb he hpl) (tCB_of vc)
theorem ge_callTy {x : Str} {T : String} {p : Pos} {e : Expr} {es : List Expr} {r : List V → Hp → VK → Prop} {g : List Ar → Rs} {f : DA} (hc : CallR X (.type T) r) (vc : VCall X W r g) (hm : X.mg x = none) (ha : GA X W (e :: es) f) (hg : Gl X x := by rfl) (hv : bootBuiltins x = some (.type T) := by decide +kernel)
    (hn : x ≠ "__name__" := by decide) (hdb : (x == ("__debug__" : Str)) = false := by decide)
    (he : starEach (e :: es) X.env = (false, eval e X.env) :: starEach es X.env := by rfl) (hpl : (backTo pos (starEach es X.env)).any (·.1) = false := by rfl) : GE X W (.Call (.Name x p) (e :: es) [] pos) (callB g f) :=
  PE.imp (pe_callTy hc hg hm hv ha hn hdb he hpl) (tCB_of vc)
theorem areps1 {a vs cs} (r : AReps K F H [a] vs cs) : ∃ v, vs = [v] ∧ ARep K F H a v cs := by
  obtain ⟨v, r', c1, c2, e1, e2, x, e3, e4⟩ := r
  subst e1 e2 e3 e4
  exact ⟨v, rfl, by rw [List.append_nil]; exact x⟩
theorem areps2 {a b vs cs} (r : AReps K F H [a, b] vs cs) : ∃ v u c1 c2, vs = [v, u] ∧ ARep K F H a v c1 ∧ ARep K F H b u c2 := by
  obtain ⟨v, r', c1, c2, e1, e2, x, y⟩ := r
  obtain ⟨u, e3, z⟩ := areps1 y
  subst e1 e3
  exact ⟨v, u, c1, c2, rfl, x, z⟩
@[simp] def gLen : List Ar → Rs
  | [a] => match a.o.seq with
    | some (_, os) => okI os.length
    | none => match a.o.dic with
      | .str s => if okLen s.length then okI s.length else .bad
      | .dK ks _ => okI ks.length
      | _ => .bad
  | _ => .bad
theorem call_lenX : CallR X (.builtin "len") (fun xs H Q => (∃ x n, xs = [x] ∧ LenV X.K x H n ∧ Q (.int n) H) ∨ ∃ a kvs, xs = [.ref a] ∧ Rd H a (.dK kvs) ∧ Q (.int kvs.length) H) := by
  refine call_len.or ?_
  intro pins s σ H xs us Q I r ⟨a, kvs, e, g, q⟩
  subst e
  rw [Vals.ref1 r]
  exact d_len I g fun t s' I' => ⟨.int _, H, I', ⟨_, rfl⟩, q⟩
theorem dic_str {K : PySem.W.Frag} {o : O} {u : V} {c} {s : Str} (q : ORep K F H o u c) (e : o.dic = .str s) : u = .str s := by
  have main : ∀ {o : O}, ORep K F H o u c → o.dic0 = .str s → u = .str s := fun {o} q e => by
    have e' : o = .fz (.str s) := by
      cases o <;> first | exact congrArg O.fz (show _ = D.str s from e) | cases e
    subst e'
    exact q.2
  unfold O.dic at e
  split at e
  · exact main q.2 e
  · exact main q e
theorem vc_len : VCall X W (fun xs H Q => (∃ x n, xs = [x] ∧ LenV X.K x H n ∧ Q (.int n) H) ∨ ∃ a kvs, xs = [.ref a] ∧ Rd H a (.dK kvs) ∧ Q (.int kvs.length) H) gLen := by
  intro σ F H vs as cs Q fh r p
  unfold gLen at p
  split at p
  · rename_i a
    obtain ⟨v, rfl, ra⟩ := areps1 r
    obtain ⟨c, q⟩ := ra.some
    split at p
    · rename_i l os e
      obtain ⟨u, vs, c2, rfl, s, t⟩ := seq_rep fh q e
      have z := post_flat (d := .int _) fh rfl p
      rw [t.len] at z
      refine .inl ⟨_, vs.length, rfl, ?_, z⟩
      revert s
      split
      · exact fun s => .inl ⟨vs, s, rfl⟩
      · exact fun s => .inr ⟨vs, s, rfl⟩
    · split at p
      · rename_i s e
        split at p
        · rename_i hl
          have : v = .str s := dic_str q e
          exact .inl ⟨v, s.length, rfl, by rw [this]; exact ⟨okLen_le hl, rfl⟩, post_flat (d := .int _) fh rfl p⟩
        · exact p.elim
      · rename_i ks ds e
        obtain ⟨p', zs, e1, e2, e3, e4⟩ := dic_K fh q e
        subst e1
        have z := post_flat (d := .int _) fh rfl p
        exact .inr ⟨p', _, rfl, e2, by
          have : (ks.zip zs).length = ks.length := by rw [List.length_zip, ← e3, Nat.min_self]
          rw [this]; exact z⟩
      · exact p.elim
  · exact p.elim
end
end DL
namespace DL
open PySem PySem.Spec L2
variable {K : PySem.W.Frag} {F F' H H' H0 F0 F1 H1 : Hp} {cs cs' : List Addr} {σ : St} {ρ : Rho}
section
variable {X : Cx} {W : WX} {pos : Pos} {a b c : Expr} {fa fb fc : DE}
@[simp] def g1I (g : Int → Int) : List Ar → Rs
  | [a] => match a.d with
    | .int i => okI (g i)
    | _ => .bad
  | _ => .bad
@[simp] def g2I (g : Int → Int → Int) : List Ar → Rs
  | [a, b] => match a.d, b.d with
    | .int i, .int j => okI (g i j)
    | _, _ => .bad
  | _ => .bad
theorem vc_2I {g : Int → Int → Int} : VCall X W (fun xs H Q => ∃ i j, xs = [.int i, .int j] ∧ Q (.int (g i j)) H) (g2I g) := by
  intro σ F H vs as cs Q fh r p
  unfold g2I at p
  split at p
  · rename_i a b
    obtain ⟨v, u, c1, c2, rfl, ra, rb⟩ := areps2 r
    have r1 := ra.view fh
    have r2 := rb.view fh
    split at p
    · rename_i i j e1 e2
      rw [e1] at r1; rw [e2] at r2
      exact ⟨i, j, by rw [show v = .int i from r1, show u = .int j from r2], post_flat (d := .int _) fh rfl p⟩
    · exact p.elim
  · exact p.elim
@[simp] def gList : List Ar → Rs
  | [a] => match a.o.seq with
    | some (_, os) => match allFz os with
      | some ds => .ok (.ow (.lst (ds.map .fz)))
      | none => .bad
    | none => .bad
  | _ => .bad
theorem vc_list : VCall X W (fun xs H Q => ∃ p ys, xs = [.ref p] ∧ (SqL X.K H p ys ∨ SqT X.K H p ys) ∧ ∀ l, H l = none → Q (.ref l) (upd H l (.lst ys))) gList := by
  intro σ F H vs as cs Q fh r p
  unfold gList at p
  split at p
  · rename_i a
    obtain ⟨v, rfl, ra⟩ := areps1 r
    obtain ⟨c, q⟩ := ra.some
    split at p
    · rename_i l os e
      obtain ⟨u, vs, c2, rfl, s, t⟩ := seq_rep fh q e
      split at p
      · rename_i ds ed
        rw [allFz_eq ed] at t
        obtain ⟨_, t2⟩ := OReps.of_fz t
        refine ⟨u, vs, rfl, ?_, fun l nl => post_lst fh nl t2 rfl p⟩
        revert s
        split
        · exact .inl
        · exact .inr
      · exact p.elim
    · exact p.elim
  · exact p.elim
@[simp] def intsD : List D → Option (List Int)
  | [] => some []
  | .int i :: ds => match intsD ds with
    | some is => some (i :: is)
    | none => none
  | _ :: _ => none
theorem intsD_map : ∀ ns : List Int, intsD (ns.map .int) = some ns
  | [] => rfl
  | n :: ns => by rw [List.map_cons, intsD, intsD_map ns]
theorem intsD_eq : ∀ {ds ns}, intsD ds = some ns → ds = ns.map .int
  | [], _, h => by cases h; rfl
  | .int i :: ds, ns, h => by
    unfold intsD at h
    cases q : intsD ds with
    | none => rw [q] at h; cases h
    | some is => rw [q] at h; cases h; rw [List.map_cons, ← intsD_eq q]
  | .non :: _, _, h => by cases h
  | .bl _ :: _, _, h => by cases h
  | .str _ :: _, _, h => by cases h
  | .lst _ :: _, _, h => by cases h
  | .tup _ :: _, _, h => by cases h
  | .dK _ _ :: _, _, h => by cases h
  | .dT _ _ :: _, _, h => by cases h
@[simp] def intsA (a : Ar) : Option (List Int) := match a.o.seq with
  | some (true, os) => match allFz os with
    | some ds => intsD ds
    | none => none
  | _ => none
theorem intsA_rep {a : Ar} {v : V} {ns : List Int} (fh : Same F H) (r : ARep K F H a v cs) (h : intsA a = some ns) : ∃ p, v = .ref p ∧ SqL K H p (ns.map V.int) := by
  obtain ⟨c, q⟩ := r.some
  unfold intsA at h
  split at h
  · rename_i os e
    obtain ⟨u, vs, c2, rfl, s, t⟩ := seq_rep fh q e
    split at h
    · rename_i ds ed
      rw [allFz_eq ed] at t
      obtain ⟨_, t2⟩ := OReps.of_fz t
      rw [intsD_eq h] at t2
      rw [Reps.ints.mp t2] at s
      exact ⟨u, rfl, s⟩
    · cases h
  · cases h
def insI (x : Int) : List Int → List Int
  | [] => [x]
  | y :: r => if x ≤ y then x :: y :: r else y :: insI x r
def sortI : List Int → List Int
  | [] => []
  | x :: r => insI x (sortI r)
theorem insI_perm (x : Int) : ∀ l : List Int, (insI x l).Perm (x :: l)
  | [] => List.Perm.refl _
  | y :: r => by
    unfold insI
    split
    · exact List.Perm.refl _
    · exact (List.Perm.cons y (insI_perm x r)).trans (List.Perm.swap x y r)
theorem insI_sorted (x : Int) : ∀ l : List Int, l.Pairwise (· ≤ ·) → (insI x l).Pairwise (· ≤ ·)
  | [], _ => by simp [insI]
  | y :: r, h => by
    unfold insI
    rw [List.pairwise_cons] at h
    split
    · rename_i hxy
      rw [List.pairwise_cons]
      refine ⟨fun z hz => ?_, List.pairwise_cons.mpr h⟩
      rcases List.mem_cons.mp hz with rfl | hz
      · exact hxy
      · exact Int.le_trans hxy (h.1 z hz)
    · rename_i hxy
      rw [List.pairwise_cons]
      refine ⟨fun z hz => ?_, insI_sorted x r h.2⟩
      rcases List.mem_cons.mp ((insI_perm x r).mem_iff.mp hz) with rfl | hz
      · omega
      · exact h.1 z hz
theorem sortI_perm : ∀ l : List Int, (sortI l).Perm l
  | [] => List.Perm.refl _
  | x :: r => (insI_perm x _).trans (List.Perm.cons x (sortI_perm r))
theorem sortI_sorted : ∀ l : List Int, (sortI l).Pairwise (· ≤ ·)
  | [] => List.Pairwise.nil
  | x :: r => insI_sorted x _ (sortI_sorted r)
@[simp] def gSorted : List Ar → Rs
  | [a] => match intsA a with
    | some ns => .ok (.ow (.lst (((sortI ns).map D.int).map .fz)))
    | none => .bad
  | _ => .bad
def minI : List Int → Int
  | [] => 0
  | [x] => x
  | x :: r => min x (minI r)
theorem minI_spec : ∀ {l : List Int}, l ≠ [] → minI l ∈ l ∧ ∀ y ∈ l, minI l ≤ y
  | [], h => absurd rfl h
  | [x], _ => by simp [minI]
  | x :: y :: r, _ => by
    obtain ⟨h1, h2⟩ := minI_spec (l := y :: r) (by simp)
    show min x (minI (y :: r)) ∈ _ ∧ ∀ z ∈ _, min x (minI (y :: r)) ≤ z
    refine ⟨?_, fun z hz => ?_⟩
    · by_cases h : x ≤ minI (y :: r)
      · rw [Int.min_eq_left h]; exact List.mem_cons_self
      · rw [Int.min_eq_right (by omega)]; exact List.mem_cons_of_mem _ h1
    · rcases List.mem_cons.mp hz with rfl | hz
      · omega
      · have := h2 z hz; omega
@[simp] def gL1 (g : List Int → Int) : List Ar → Rs
  | [a] => match intsA a with
    | some (n :: ns) => okI (g (n :: ns))
    | _ => .bad
  | _ => .bad
theorem vc_min1 : VCall X W (rMin X.K) (gL1 minI) := by
  intro σ F H vs as cs Q fh r p
  unfold gL1 at p
  split at p
  · rename_i a
    obtain ⟨v, rfl, ra⟩ := areps1 r
    split at p
    · rename_i n ns e
      obtain ⟨u, rfl, s⟩ := intsA_rep fh ra e
      refine ⟨u, _, rfl, s, by simp, fun m hm hle => ?_⟩
      have sp := minI_spec (l := n :: ns) (by simp)
      have : m = minI (n :: ns) := Int.le_antisymm (hle _ sp.1) (sp.2 m hm)
      rw [this]
      exact post_flat (d := .int _) fh rfl p
    · exact p.elim
  · exact p.elim
def tyD : D → String
  | .non => "NoneType" | .bl _ => "bool" | .int _ => "int" | .str _ => "str" | .lst _ => "list" | .tup _ => "tuple" | .dK _ _ => "dict" | .dT _ _ => "dict" | .exc _ => "exc" | .ins _ _ _ => "exc" | .at _ => "exc"
theorem rep_ty {d : D} {v : V} (r : Rep K H d v) (hd : ∀ ks vs, d ≠ .dK ks vs ∧ ∀ ks vs, d ≠ .dT ks vs) (hx : (∀ c, d ≠ .exc c) ∧ (∀ c n z, d ≠ .ins c n z) ∧ ∀ a, d ≠ .at a) : TyX K H v (.type (tyD d)) := by
  cases d with
  | non => cases (show v = .non from r); exact .base .non
  | bl b => cases (show v = .bl b from r); exact .base (.bl b)
  | int b => cases (show v = .int b from r); exact .base (.int b)
  | str b => cases (show v = .str b from r); exact .base (.str b)
  | lst ds =>
    obtain ⟨a, vs, rfl, s, _⟩ := r
    rcases s with (s | ⟨o, s⟩) | ⟨o, its, n, s, c, _⟩
    · exact .base (.lst s)
    · exact .base (.frz s)
    · exact .kList s c
  | tup ds =>
    obtain ⟨a, vs, rfl, s, _⟩ := r
    exact .base (.tup s)
  | dK ks vs => exact absurd rfl (hd ks vs).1
  | dT ks vs => exact absurd rfl ((hd [] []).2 ks vs)
  | exc c => exact absurd rfl (hx.1 c)
  | ins c n z => exact absurd rfl (hx.2.1 c n z)
  | «at» a => exact absurd rfl (hx.2.2 a)
def isiD (T : String) (d : D) : Rs := match d with
  | .dK _ _ => .bad
  | .dT _ _ => .bad
  | .exc _ => .bad
  | .ins _ _ _ => .bad
  | .at _ => .bad
  | d => match kitB (tyD d) T with
    | some b => okB b
    | none => .bad
def isiE (T : String) (f : DE) : DE := fun ρ => (f ρ).bind fun a => isiD T a.d
theorem ge_isi {p p2 : Pos} {T : String} {x : Str} (hm : X.mg "isinstance" = none) (hmT : X.mg x = none) (ha : GE X W a fa) (hg : Gl X "isinstance" := by rfl) (hgT : Gl X x := by rfl) (hv : bootBuiltins x = some (.type T) := by decide +kernel) (hn : x ≠ "__name__" := by decide) (hd : (x == ("__debug__" : Str)) = false := by decide)
    (he : starEach (a :: [.Name x p2]) X.env = (false, eval a X.env) :: starEach [.Name x p2] X.env := by rfl) (hpl : (backTo pos (starEach [.Name x p2] X.env)).any (·.1) = false := by rfl)
    (hs2 : starEach (.Name x p2 :: []) X.env = (false, eval (.Name x p2) X.env) :: starEach [] X.env := by rfl) :
    GE X W (.Call (.Name "isinstance" p) [a, .Name x p2] [] pos) (isiE T fa) := by
  refine PE.imp (pe_callB call_isi hg hm (by decide +kernel) (pa_cons ha (pa_cons (pe_bltn (v := .ty T) hgT hmT hv rfl hn hd) pa_nil hs2) he) (by decide) (by decide) he hpl) fun σ H Q ⟨F0, H0, ρ, F, cs, R, p⟩ => ?_
  refine ⟨F0, H0, ρ, F, cs, R, ?_⟩
  unfold isiE at p
  cases q : fa ρ with
  | bad => rw [q] at p; exact p
  | ex c => rw [q] at p; exact p
  | ok a =>
    rw [q] at p
    intro F1 H1 v c1 e1 r1 n1
    have p : post X W (isiD T a.d) σ F H Q := p
    have r2 := r1.view e1.fh
    have key : ∀ b, (∀ ks vs, a.d ≠ .dK ks vs ∧ ∀ ks vs, a.d ≠ .dT ks vs) → ((∀ c, a.d ≠ .exc c) ∧ (∀ c n z, a.d ≠ .ins c n z) ∧ ∀ b, a.d ≠ .at b) → kitB (tyD a.d) T = some b → Q (.bl b) H1 → rIsi X.K [v, .ty T] H1 Q := fun b hd hx hk hq =>
      ⟨v, .ty T, _, _, b, rfl, .ty T, rep_ty r2 hd hx, kit_ty hk, hq⟩
    unfold isiD at p
    split at p
    · exact p.elim
    · exact p.elim
    · exact p.elim
    · exact p.elim
    · exact p.elim
    · rename_i h1 h2 h3 h4 h5
      split at p
      · rename_i b e
        exact key b (fun ks vs => ⟨fun e => h1 _ _ e, fun ks vs e => h2 _ _ e⟩) ⟨fun c e => h3 _ e, fun c n z e => h4 _ _ _ e, fun b e => h5 _ e⟩ e (post_flat (d := .bl b) e1.fh rfl (post_ext e1 p))
      · exact p.elim
end
end DL
namespace DL
open PySem PySem.Spec L2
variable {K : PySem.W.Frag} {F F' H H' H0 F0 F1 H1 : Hp} {cs cs' : List Addr} {σ : St} {ρ : Rho}
section
variable {X : Cx} {W : WX} {pos : Pos} {a b c : Expr} {fa fb fc : DE}
def andT (f g : DT) : DT := fun ρ => match f ρ with
  | .ok true => g ρ
  | r => r
def orT (f g : DT) : DT := fun ρ => match f ρ with
  | .ok false => g ρ
  | r => r
def notT (f : DT) : DT := fun ρ => match f ρ with
  | .ok b => .ok (!b)
  | r => r
variable {f g : DT} {rest : List Expr}
theorem postT_ext {r : Rb} {σ : St} {Q : Bool → Hp → Prop} (e : Ext F H F' H') (h : postT X W r σ F H Q) : postT X W r σ F' H' Q := by
  cases r with
  | ok a => exact fun F2 H2 e2 => h F2 H2 (e.trans e2)
  | ex c => exact fun F2 H2 C e2 m => h F2 H2 C (e.trans e2) m
  | bad => exact h.elim
theorem gw_and1 (h : GT X W a f) : GW X W (.BoolOp .And [a] pos) f := pw_and1 h
theorem gw_or1 (h : GT X W a f) : GW X W (.BoolOp .Or [a] pos) f := pw_or1 h
theorem gw_and (h : GT X W a f) (h2 : GW X W (.BoolOp .And (b :: rest) pos) g) : GW X W (.BoolOp .And (a :: b :: rest) pos) (andT f g) := by
  refine PW.imp (pw_and h h2) fun σ H Q ⟨F0, H0, ρ, F, cs, R, p⟩ => ?_
  refine ⟨F0, H0, ρ, F, cs, R, ?_⟩
  unfold andT at p
  cases q : f ρ with
  | bad => rw [q] at p; exact p
  | ex c => rw [q] at p; exact p
  | ok k =>
    rw [q] at p
    intro F1 H1 e1
    have p := postT_ext e1 p
    cases k with
    | true => exact iteT ⟨F0, H0, ρ, F1, cs, R.ext e1, p⟩
    | false => exact iteF (p F1 H1 (Ext.refl e1.fh))
theorem gw_or (h : GT X W a f) (h2 : GW X W (.BoolOp .Or (b :: rest) pos) g) : GW X W (.BoolOp .Or (a :: b :: rest) pos) (orT f g) := by
  refine PW.imp (pw_or h h2) fun σ H Q ⟨F0, H0, ρ, F, cs, R, p⟩ => ?_
  refine ⟨F0, H0, ρ, F, cs, R, ?_⟩
  unfold orT at p
  cases q : f ρ with
  | bad => rw [q] at p; exact p
  | ex c => rw [q] at p; exact p
  | ok k =>
    rw [q] at p
    intro F1 H1 e1
    have p := postT_ext e1 p
    cases k with
    | false => exact iteF ⟨F0, H0, ρ, F1, cs, R.ext e1, p⟩
    | true => exact iteT (p F1 H1 (Ext.refl e1.fh))
theorem GW.pt (h : GW X W a f) : GT X W a f := PW.pt h
theorem gt_not (h : GT X W a f) : GT X W (.UnaryOp .Not a pos) (notT f) := by
  refine PT.imp (pt_not h) fun σ H Q ⟨F0, H0, ρ, F, cs, R, p⟩ => ?_
  refine ⟨F0, H0, ρ, F, cs, R, ?_⟩
  unfold notT at p
  cases q : f ρ with
  | bad => rw [q] at p; exact p
  | ex c => rw [q] at p; exact p
  | ok k => rw [q] at p; exact p
def andV (fa fb : DE) : DE := fun ρ => (fa ρ).bind fun z => match z with
  | .ow (.fz (.bl true)) => fb ρ
  | .ow (.fz (.bl false)) => okB false
  | _ => .bad
def orV (fa fb : DE) : DE := fun ρ => (fa ρ).bind fun z => match z with
  | .ow (.fz (.bl false)) => fb ρ
  | .ow (.fz (.bl true)) => okB true
  | _ => .bad
def notV (fa : DE) : DE := fun ρ => (fa ρ).bind fun z => match z with
  | .ow (.fz (.bl k)) => okB (!k)
  | _ => .bad
theorem ge_one {op} (h : GE X W a fa) : GE X W (.BoolOp op [a] pos) fa := pe_one h
theorem ge_and (ha : GE X W a fa) (hb : GE X W (.BoolOp .And (b :: rest) pos) fb) : GE X W (.BoolOp .And (a :: b :: rest) pos) (andV fa fb) := by
  refine PE.imp (pe_and ha hb) fun σ H Q ⟨F0, H0, ρ, F, cs, R, p⟩ => ?_
  refine ⟨F0, H0, ρ, F, cs, R, ?_⟩
  unfold andV at p
  cases q : fa ρ with
  | bad => rw [q] at p; exact p
  | ex c => rw [q] at p; exact p
  | ok z =>
    simp only [q, Rs.bind] at p
    intro F1 H1 v c1 e1 r1 n1
    have p := post_ext (X := X) (W := W) e1 p
    split at p
    · obtain ⟨_, r1⟩ := r1
      exact ⟨true, r1, iteT ⟨F0, H0, ρ, F1, cs, R.ext e1, p⟩⟩
    · obtain ⟨_, r1⟩ := r1
      exact ⟨false, r1, iteF (p F1 H1 (.bl false) [] (Ext.refl e1.fh) ⟨rfl, rfl⟩ New.nil)⟩
    · exact p.elim
theorem ge_or (ha : GE X W a fa) (hb : GE X W (.BoolOp .Or (b :: rest) pos) fb) : GE X W (.BoolOp .Or (a :: b :: rest) pos) (orV fa fb) := by
  refine PE.imp (pe_or ha hb) fun σ H Q ⟨F0, H0, ρ, F, cs, R, p⟩ => ?_
  refine ⟨F0, H0, ρ, F, cs, R, ?_⟩
  unfold orV at p
  cases q : fa ρ with
  | bad => rw [q] at p; exact p
  | ex c => rw [q] at p; exact p
  | ok z =>
    simp only [q, Rs.bind] at p
    intro F1 H1 v c1 e1 r1 n1
    have p := post_ext (X := X) (W := W) e1 p
    split at p
    · obtain ⟨_, r1⟩ := r1
      exact ⟨false, r1, iteF ⟨F0, H0, ρ, F1, cs, R.ext e1, p⟩⟩
    · obtain ⟨_, r1⟩ := r1
      exact ⟨true, r1, iteT (p F1 H1 (.bl true) [] (Ext.refl e1.fh) ⟨rfl, rfl⟩ New.nil)⟩
    · exact p.elim
theorem ge_not (ha : GE X W a fa) : GE X W (.UnaryOp .Not a pos) (notV fa) := by
  refine PE.imp (pe_not ha) fun σ H Q ⟨F0, H0, ρ, F, cs, R, p⟩ => ?_
  refine ⟨F0, H0, ρ, F, cs, R, ?_⟩
  unfold notV at p
  cases q : fa ρ with
  | bad => rw [q] at p; exact p
  | ex c => rw [q] at p; exact p
  | ok z =>
    simp only [q, Rs.bind] at p
    intro F1 H1 v c1 e1 r1 n1
    have p := post_ext (X := X) (W := W) e1 p
    split at p
    · rename_i k _
      obtain ⟨_, r1⟩ := r1
      exact ⟨k, r1, p F1 H1 (.bl (!k)) [] (Ext.refl e1.fh) ⟨rfl, rfl⟩ New.nil⟩
    · exact p.elim
abbrev DO := Rho → Option (Option Int)
theorem PO.imp {X : Cx} {e : Option Expr} {t t' : TO} (h : PO X e t) (i : ∀ σ H Q, t' σ H Q → t σ H Q) : PO X e t' := ⟨fun p s σ H Q I q => h.run p s σ H Q I (i σ H Q q)⟩
@[simp] def noO : DO := fun _ => some none
@[simp] def someO (f : DE) : DO := fun ρ => match f ρ with
  | .ok a => match a.d with
    | .int i => some (some i)
    | _ => none
  | _ => none
def cutD {α : Type} (xs : List α) (lo hi : Option Int) : List α := (xs.drop (HT.sIx xs.length 0 lo)).take (HT.sIx xs.length xs.length hi - HT.sIx xs.length 0 lo)
@[simp] def gCut (x : Ar) (lo hi : Option Int) : Rs := match x.o.seq with
  | some (true, os) => match allFz os with
    | some ds => .ok (.ow (.lst ((cutD ds lo hi).map .fz)))
    | none => .bad
  | some (false, _) => .bad
  | none => match x.d with
    | .str s => if okLen s.length then .ok (.ow (.fz (.str (cutS s lo hi)))) else .bad
    | _ => .bad
inductive Rf where
  | ok (o : O) | ex (c : Str) | bad
  deriving Inhabited
abbrev DF := List D → Rf
mutual
def leafFlat : O → Bool
  | .fz d => flatD d
  | .lst xs => leafsFlat xs
  | .tup xs => leafsFlat xs
  | .dK _ vs => flats vs
  | .dT _ _ => false
  | .lk _ _ => false
  | .ins _ _ _ => false
  | .nm _ _ => false
def leafsFlat : List O → Bool
  | [] => true
  | x :: xs => leafFlat x && leafsFlat xs
end
theorem reps_anyF {ds vs} (h : flats ds = true) (r : Reps K F ds vs) : Reps K F' ds vs := by
  rw [reps_flat r h]
  clear r
  induction ds with
  | nil => rfl
  | cons d ds ih =>
    have h' : flatD d = true ∧ flats ds = true := by simpa [flats] using h
    exact ⟨vOf d, _, rfl, rep_vOf h'.1, ih h'.2⟩
mutual
theorem ORep.anyF : ∀ {o v cs}, leafFlat o = true → ORep K F H o v cs → ORep K F' H o v cs
  | .fz d, v, cs, h, ⟨e, r⟩ => ⟨e, by rw [rep_flat r h]; exact rep_vOf h⟩
  | .lst xs, v, cs, h, ⟨a, vs, c, e1, e2, e3, r⟩ => ⟨a, vs, c, e1, e2, e3, OReps.anyF h r⟩
  | .tup xs, v, cs, h, ⟨a, vs, c, e1, e2, e3, r⟩ => ⟨a, vs, c, e1, e2, e3, OReps.anyF h r⟩
  | .dK ks ds, v, cs, h, ⟨a, vs, e1, e2, e3, l, r⟩ => ⟨a, vs, e1, e2, e3, l, reps_anyF h r⟩
  | .dT ks ds, v, cs, h, _ => by unfold leafFlat at h; cases h
  | .lk ks ds, v, cs, h, _ => by unfold leafFlat at h; cases h
  | .ins c ns os, v, cs, h, _ => by unfold leafFlat at h; cases h
  | .nm a o, v, cs, h, _ => by unfold leafFlat at h; cases h
theorem OReps.anyF : ∀ {os vs cs}, leafsFlat os = true → OReps K F H os vs cs → OReps K F' H os vs cs
  | [], _, _, _, e => e
  | o :: os, _, _, h, ⟨v, r, c1, c2, e1, e2, x, y⟩ => by
    have h' : leafFlat o = true ∧ leafsFlat os = true := by simpa [leafsFlat] using h
    exact ⟨v, r, c1, c2, e1, e2, ORep.anyF h'.1 x, OReps.anyF h'.2 y⟩
end
def postF (K : PySem.W.Frag) (mg : Str → Option Value) (r : Rf) (F H : Hp) (Q : VK) (E : XK) : Prop := match r with
  | .ok o => ∀ F' H' v cs', Ext F H F' H' → ORep K F' H' o v cs' → New H F' cs' → Q v H'
  | .ex c => ∀ F' H' C, Ext F H F' H' → mg c = some (.ref C) → E (.ref C) none H'
  | .bad => False
def spD (K : PySem.W.Frag) (mg : Str → Option Value) (sem : DF) (n : Nat) : Sp := fun vs H Q E => ∃ F ds, vs.length = n ∧ Same F H ∧ Reps K F ds vs ∧ postF K mg (sem ds) F H Q E
structure DOk (P : Program) (w : World) (K : PySem.W.Frag) (mg : Str → Option Value) (base : Heap) (k : Nat) (x : Str) (sem : DF) (n : Nat) : Prop where
  ex : ∃ (f : Addr) (fd : FuncData) (ps : List Str), FnOk P w K mg base (L2.CX P w) k f fd ps (spD K mg sem n) ∧ mg x = some (.ref f) ∧ PySem.W.keepIn K (.ref f) = true ∧ Binds K fd ps []
theorem DOk.mono {P : Program} {w : World} {mg : Str → Option Value} {base : Heap} {k j : Nat} {x : Str} {sem : DF} {n : Nat} (h : DOk P w K mg base k x sem n) (l : k ≤ j) : DOk P w K mg base j x sem n := by
  obtain ⟨f, fd, ps, F, r⟩ := h.ex
  exact ⟨f, fd, ps, F.mono l, r⟩
@[simp] def noVw : List Ar → Bool
  | [] => true
  | .ow _ :: as => noVw as
  | .vw _ :: _ => false
@[simp] def toRs (as : List Ar) : Rf → Rs
  | .ok o => if noVw as || leafFlat o then .ok (.ow o) else .bad
  | .ex c => .ex c
  | .bad => .bad
def callF (sem : DF) (n : Nat) (f : DA) : DE := fun ρ => match f ρ with
  | .ok as => if as.length = n then toRs as (sem (as.map Ar.d)) else .bad
  | .ex c => .ex c
  | .bad => .bad
theorem areps_shut : ∀ {as vs cs}, noVw as = true → Same F F' → (∀ c ∈ cs, F' c = H c) → AReps K F H as vs cs → Reps K F' (as.map Ar.d) vs
  | [], _, _, _, _, _, ⟨e, _⟩ => e
  | .ow o :: as, _, _, h, hf, k, ⟨v, r, c1, c2, e1, e2, x, y⟩ => ⟨v, r, e1, ORep.close (o := o) hf (fun c hc => k c (by rw [e2]; exact List.mem_append_left _ hc)) x, areps_shut (as := as) h hf (fun c hc => k c (by rw [e2]; exact List.mem_append_right _ hc)) y⟩
  | .vw o :: as, _, _, h, _, _, _ => by cases h
structure Cc (X : Cx) (W : WX) (k : Nat) : Prop where
  calm : X.calm = true
  room : Room k X.A
  nd : X.N.Nodup
  pass : ∀ σ, PassesAt (L2.CX X.prog X.w) X σ (WE W σ)
theorem Cc.hu {k : Nat} (C : Cc X W k) : X.A.units + 64 < cLine := C.room.units
def backF (F H F' : Hp) : Hp := fun a => match H a with
  | some _ => F a
  | none => F' a
theorem backF_ext {G : Hp} (fh : Same F H) (e : Ext H H G H') : Ext F H (backF F H G) H' where
  hh := e.hh
  ff := fun a o q => by unfold backF; rw [fh a o q]; exact q
  fh := fun a o q => by
    unfold backF at q
    cases h : H a with
    | none => rw [h] at q; exact e.fh a o q
    | some u => rw [h] at q; exact e.hh a o (fh a o q)
  nw := fun a h => by
    unfold backF
    cases q : H a with
    | none => exact absurd q h
    | some u => rfl
theorem ge_call {k j n : Nat} {x : Str} {p : Pos} {sem : DF} {e : Expr} {es : List Expr} {f : DA} (C : Cc X W j) (D : DOk X.prog X.w X.K X.mg X.base k x sem n) (hk : k ≤ j) (ha : GA X W (e :: es) f) (hg : Gl X x := by rfl)
    (hdb : (x == ("__debug__" : Str)) = false := by decide) (he : starEach (e :: es) X.env = (false, eval e X.env) :: starEach es X.env := by rfl) (hpl : (backTo pos (starEach es X.env)).any (·.1) = false := by rfl) :
    GE X W (.Call (.Name x p) (e :: es) [] pos) (callF sem n f) := by
  obtain ⟨fa, fd, ps, Fo, hm, kp, hb⟩ := D.ex
  refine PE.imp (pe_callS (E := WE W) Fo (C.room.mono hk) hg hm kp hb C.pass ha hdb he hpl) fun σ H Q ⟨F0, H0, ρ, F, cs, R, p⟩ => ?_
  refine ⟨F0, H0, ρ, F, cs, R, ?_⟩
  unfold callF at p
  cases q : f ρ with
  | bad => rw [q] at p; exact p
  | ex c => rw [q] at p; exact p
  | ok as =>
    simp only [q] at p
    split at p
    · rename_i hn
      intro F1 H1 vs c1 e1 r1 n1
      have hvn : vs.length = n := by rw [← r1.len]; exact hn
      cases hv : noVw as with
      | true =>
        have sm : Same F1 (DL.shut F1 H1 c1) := same_shut fun c hc => (n1.nw c hc).2
        refine ⟨DL.shut F1 H1 c1, as.map Ar.d, hvn, shut_same e1.fh, areps_shut hv sm (fun c hc => shut_in hc) r1, ?_⟩
        have ex : Ext F H (DL.shut F1 H1 c1) H1 := ⟨e1.hh, e1.ff.trans sm, shut_same e1.fh, fun a h => by
          rw [shut_out fun hc => h (n1.nw a hc).1]
          exact e1.nw a h⟩
        cases qs : sem (as.map Ar.d) with
        | bad => rw [qs] at p; exact p
        | ex c =>
          rw [qs] at p
          exact fun F2 H2 C2 e2 m => p F2 H2 C2 (ex.trans e2) m
        | ok o =>
          rw [qs] at p
          simp only [toRs, hv, Bool.true_or, if_true] at p
          exact fun F2 H2 v c2 e2 r2 n2 => p F2 H2 v c2 (ex.trans e2) r2 (n2.ext ex)
      | false =>
        refine ⟨H1, as.map Ar.d, hvn, Same.refl _, r1.view e1.fh, ?_⟩
        cases qs : sem (as.map Ar.d) with
        | bad => rw [qs] at p; exact p
        | ex c =>
          rw [qs] at p
          exact fun F2 H2 C2 e2 m => p (backF F1 H1 F2) H2 C2 (e1.trans (backF_ext e1.fh e2)) m
        | ok o =>
          rw [qs] at p
          simp only [toRs, hv, Bool.false_or] at p
          split at p
          · rename_i hl
            refine fun F2 H2 v c2 e2 r2 n2 => p (backF F1 H1 F2) H2 v c2 (e1.trans (backF_ext e1.fh e2)) (ORep.anyF (o := o) hl r2) ?_
            refine ⟨n2.nd, fun c hc => ⟨e1.hh.free (n2.nw c hc).1, ?_⟩⟩
            unfold backF
            rw [(n2.nw c hc).1]
            exact (n2.nw c hc).2
          · exact p.elim
    · exact p.elim
end
end DL
namespace DL
open PySem PySem.Spec L2
variable {K : PySem.W.Frag} {F F' H H' H0 F0 F1 H1 : Hp} {cs cs' : List Addr} {σ σ' : L2.St} {ρ ρ' : Rho}
theorem RS.put {i : Nat} {o : O} (R : RS K F0 H0 ρ F σ H cs) (hi : ρ[i]? = some (some o)) : ∃ v c1 c2 c3, cs = c1 ++ (c2 ++ c3) ∧ σ[i]? = some (some v) ∧ ORep K F H o v c2 ∧
    ∀ H2 o2 c2', (∀ b, b ∉ c2 → H b ≠ none → H2 b = H b) → ORep K F H2 o2 v c2' → c2'.Nodup → (∀ c ∈ c2', F c = none ∧ H0 c = none ∧ c ∉ c1 ∧ c ∉ c3) → RS K F0 H0 (ρ.set i (some o2)) F σ H2 (c1 ++ (c2' ++ c3)) := by
  have hil : i < ρ.length := (List.getElem?_eq_some_iff.mp hi).1
  obtain ⟨c1, c2, c3, ob, x, e1, e4, e5, s, k⟩ := R.sl.split i hil
  rw [hi] at e4
  cases e4
  subst e1
  cases x with
  | none => exact s.elim
  | some v =>
  have nd := R.nd
  rw [List.nodup_append] at nd
  obtain ⟨n1, n23, d123⟩ := nd
  rw [List.nodup_append] at n23
  obtain ⟨n2, n3, d23⟩ := n23
  refine ⟨v, c1, c2, c3, rfl, e5, s, fun H2 o2 c2' kb ro nd2 fr => ?_⟩
  have hx : σ.set i (some v) = σ := by
    have hi2 : i < σ.length := by rw [R.sl.len]; exact hil
    have : σ[i] = some v := by
      have := List.getElem?_eq_getElem hi2
      rw [e5] at this
      exact (Option.some.inj this).symm
    rw [← this]; simp
  have z := k F H2 (some o2) (some v) c2' (Same.refl _) (fun c hc => kb c (fun h => d123 c hc c (List.mem_append_left _ h) rfl) (R.sl.there c (List.mem_append_left _ hc)))
    (fun c hc => kb c (fun h => d23 c h c hc rfl) (R.sl.there c (List.mem_append_right _ (List.mem_append_right _ hc)))) ro
  rw [hx] at z
  have c2F : ∀ c ∈ c2, F c = none ∧ H0 c = none := fun c hc => R.cf c (List.mem_append_right _ (List.mem_append_left _ hc))
  refine ⟨fun b u q => ?_, R.f0, R.nw, fun b u q => ?_, z, ?_, fun c hc => ?_⟩
  · have hb : b ∉ c2 := fun h => by rw [(c2F b h).1] at q; cases q
    have := R.fh b u q
    rw [kb b hb (by rw [this]; exact fun h => nomatch h)]
    exact this
  · have hb : b ∉ c2 := fun h => by rw [(c2F b h).2] at q; cases q
    have := R.h0 b u q
    rw [kb b hb (by rw [this]; exact fun h => nomatch h)]
    exact this
  · rw [List.nodup_append]
    refine ⟨n1, ?_, fun a ha b hb e => ?_⟩
    · rw [List.nodup_append]
      exact ⟨nd2, n3, fun a ha b hb e => by subst e; exact (fr a ha).2.2.2 hb⟩
    · subst e
      rcases List.mem_append.mp hb with h | h
      · exact (fr a h).2.2.1 ha
      · exact d123 a ha a (List.mem_append_right _ h) rfl
  · rcases List.mem_append.mp hc with h | h
    · exact R.cf c (List.mem_append_left _ h)
    · rcases List.mem_append.mp h with h | h
      · exact ⟨(fr c h).1, (fr c h).2.1⟩
      · exact R.cf c (List.mem_append_right _ (List.mem_append_right _ h))
section
variable {X : Cx} {W : WX} {pos : Pos} {a b c e : Expr} {fa fb fc fe : DE} {st : Stmt} {sts rest : List Stmt} {f g : DS}
theorem postS_same {r : SR} {D : Ends} (s : Same F F') (h : postS X W r F0 H0 F D) : postS X W r F0 H0 F' D := by
  cases r with
  | nx ρ => exact fun F2 H2 σ2 cs2 e R => h F2 H2 σ2 cs2 (s.trans e) R
  | bk ρ => exact fun F2 H2 σ2 cs2 e R => h F2 H2 σ2 cs2 (s.trans e) R
  | ct ρ => exact fun F2 H2 σ2 cs2 e R => h F2 H2 σ2 cs2 (s.trans e) R
  | rt o => exact h
  | rw o ps => exact h
  | ex c ρ => exact fun F2 H2 σ2 cs2 C e R => h F2 H2 σ2 cs2 C (s.trans e) R
  | bad => exact h.elim
def nilS : DS := fun ρ => .nx ρ
def seqS (f g : DS) : DS := fun ρ => match f ρ with
  | .nx ρ' => g ρ'
  | r => r
theorem gss_nil : GSs X W [] nilS := PSs.imp pss_nil fun D σ H ⟨F0, H0, ρ, F, cs, R, p⟩ => p F H σ cs (Same.refl _) R
theorem gss_cons (h : GS X W st f) (h2 : GSs X W rest g) : GSs X W (st :: rest) (seqS f g) := by
  refine PSs.imp (pss_cons h h2) fun D σ H ⟨F0, H0, ρ, F, cs, R, p⟩ => ?_
  refine ⟨F0, H0, ρ, F, cs, R, ?_⟩
  unfold seqS at p
  cases q : f ρ with
  | nx ρ' =>
    rw [q] at p
    exact fun F2 H2 σ2 cs2 e R2 => ⟨F0, H0, ρ', F2, cs2, R2, postS_same e p⟩
  | bk ρ' => rw [q] at p; exact p
  | ct ρ' => rw [q] at p; exact p
  | rt o => rw [q] at p; exact p
  | rw o ps => rw [q] at p; exact p
  | ex c ρ' => rw [q] at p; exact p
  | bad => rw [q] at p; exact p
theorem gss_one (h : GS X W st f) : GSs X W [st] f := pss_one h
@[simp] def frz (i : Nat) (ρ : Rho) : Rho := match ρ[i]? with
  | some (some o) => ρ.set i (some (.fz o.toD))
  | _ => ρ
def frzS (i : Nat) (f : DS) : DS := fun ρ => f (frz i ρ)
theorem gss_frz (i : Nat) (h : GSs X W sts f) : GSs X W sts (frzS i f) := by
  refine PSs.imp h fun D σ H ⟨F0, H0, ρ, F, cs, R, p⟩ => ?_
  unfold frzS frz at p
  split at p
  · rename_i o q
    obtain ⟨F', cs2, s, R'⟩ := R.shut q
    exact ⟨F0, H0, _, F', cs2, R', postS_same s p⟩
  · exact ⟨F0, H0, ρ, F, cs, R, p⟩
def fgtS (is : List Nat) (f : DS) : DS := fun ρ => f (forget is ρ)
theorem gss_fgt (is : List Nat) (h : GSs X W sts f) : GSs X W sts (fgtS is f) := by
  refine PSs.imp h fun D σ H ⟨F0, H0, ρ, F, cs, R, p⟩ => ?_
  obtain ⟨cs2, R'⟩ := R.forget is
  exact ⟨F0, H0, _, F, cs2, R', p⟩
@[simp] def passS : DS := fun ρ => .nx ρ
@[simp] def breakS : DS := fun ρ => .bk ρ
@[simp] def contS : DS := fun ρ => .ct ρ
def setS (i : Nat) (fe : DE) : DS := fun ρ => match fe ρ with
  | .ok (.ow o) => if i < ρ.length then .nx (ρ.set i (some o)) else .bad
  | .ok (.vw _) => .bad
  | .ex c => .ex c ρ
  | .bad => .bad
theorem tAsg_of {i : Nat} : ∀ D σ H, tS X W (setS i fe) D σ H → tAsg (tE X W fe) (gName i) D σ H := fun D σ H ⟨F0, H0, ρ, F, cs, R, p⟩ => by
  refine ⟨F0, H0, ρ, F, cs, R, ?_⟩
  unfold setS at p
  cases q : fe ρ with
  | bad => rw [q] at p; exact p
  | ex c => rw [q] at p; exact fun F2 H2 C e m => p F2 H2 σ cs C e.ff (R.ext e) m
  | ok a =>
    rw [q] at p
    cases a with
    | vw o => exact p.elim
    | ow o =>
      intro F2 H2 v c2 e2 r2 n2
      dsimp only at p
      split at p
      · rename_i hi
        obtain ⟨cs2, R2⟩ := R.set e2 r2 n2 hi
        exact p F2 H2 _ cs2 e2.ff R2
      · exact p.elim
theorem gs_set {i : Nat} {x : Str} {pos' : Pos} {k : Nat} (C : Cc X W k) (he : GE X W e fe) (hi : X.N[i]? = some x := by rfl) (hx : Loc X.env.scope x := by first | exact Or.inl rfl | exact Or.inr rfl) (hs : swapsWith e (some (.Name x pos')) pos.line X.env = pure false := by rfl)
    (hf : X.fn x = true ∨ X.env.scope.names.lookup x = some .local := by first | exact .inl rfl | exact .inr rfl) : GS X W (.Assign [.Name x pos'] e pos) (setS i fe) :=
  PS.imp (ps_set C.nd hi hx he hs hf) tAsg_of
def ifS (c : DT) (f g : DS) : DS := fun ρ => match c ρ with
  | .ok true => f ρ
  | .ok false => g ρ
  | .ex k => .ex k ρ
  | .bad => .bad
theorem gs_if {ct : DT} {A B : List Stmt} (hc : GT X W c ct) (hA : GSs X W A f) (hB : GSs X W B g) : GS X W (.If c A B pos) (ifS ct f g) := by
  refine PS.imp (ps_if hc hA hB) fun D σ H ⟨F0, H0, ρ, F, cs, R, p⟩ => ?_
  refine ⟨F0, H0, ρ, F, cs, R, ?_⟩
  unfold ifS at p
  cases q : ct ρ with
  | bad => rw [q] at p; exact p
  | ex k => rw [q] at p; exact fun F2 H2 C e m => p F2 H2 σ cs C e.ff (R.ext e) m
  | ok k =>
    rw [q] at p
    intro F1 H1 e1
    cases k with
    | true => exact iteT ⟨F0, H0, ρ, F1, cs, R.ext e1, postS_same e1.ff p⟩
    | false => exact iteF ⟨F0, H0, ρ, F1, cs, R.ext e1, postS_same e1.ff p⟩
inductive Rv where
  | ok (o : O) (ρ : Rho) | ex (c : Str) | bad
  deriving Inhabited
inductive Rvs where
  | ok (os : List O) (ρ : Rho) | ex (c : Str) | bad
  deriving Inhabited
abbrev DV := Rho → Rv
abbrev DVs := Rho → Rvs
structure Tk (H0 F : Hp) (cs' cs : List Addr) : Prop where
  nd : cs'.Nodup
  fr : ∀ c ∈ cs', F c = none ∧ H0 c = none ∧ c ∉ cs
def postV (X : Cx) (W : WX) (r : Rv) (F0 H0 : Hp) (σ : L2.St) (F H : Hp) (Q : VK) : Prop := match r with
  | .ok o ρ' => ∀ F' H' v cs' cs, Ext F H F' H' → RS X.K F0 H0 ρ' F' σ H' cs → ORep X.K F' H' o v cs' → Tk H0 F' cs' cs → Q v H'
  | .ex c => ∀ F' H' C, Ext F H F' H' → X.mg c = some (.ref C) → W (.ref C) none σ H'
  | .bad => False
def postVs (X : Cx) (W : WX) (r : Rvs) (F0 H0 : Hp) (σ : L2.St) (F H : Hp) (Q : List V → Hp → Prop) : Prop := match r with
  | .ok os ρ' => ∀ F' H' vs cs' cs, Ext F H F' H' → RS X.K F0 H0 ρ' F' σ H' cs → OReps X.K F' H' os vs cs' → Tk H0 F' cs' cs → Q vs H'
  | .ex c => ∀ F' H' C, Ext F H F' H' → X.mg c = some (.ref C) → W (.ref C) none σ H'
  | .bad => False
def GV (X : Cx) (W : WX) (e : Expr) (f : DV) : Prop := PE X e (fun σ H Q => ∃ F0 H0 ρ F cs, RS X.K F0 H0 ρ F σ H cs ∧ postV X W (f ρ) F0 H0 σ F H Q)
def GVs (X : Cx) (W : WX) (es : List Expr) (f : DVs) : Prop := PA X es (fun σ H Q => ∃ F0 H0 ρ F cs, RS X.K F0 H0 ρ F σ H cs ∧ postVs X W (f ρ) F0 H0 σ F H Q)
def owV (f : DE) : DV := fun ρ => match f ρ with
  | .ok (.ow o) => .ok o ρ
  | .ok (.vw _) => .bad
  | .ex c => .ex c
  | .bad => .bad
theorem Tk.of_new (R : RS K F0 H0 ρ F σ H cs) (n : New H F' cs') : Tk H0 F' cs' cs :=
  ⟨n.nd, fun c hc => ⟨(n.nw c hc).2, R.h0.free (n.nw c hc).1, fun h => R.sl.there c h (n.nw c hc).1⟩⟩
theorem gv_ge (he : GE X W e fe) : GV X W e (owV fe) := by
  refine PE.imp he fun σ H Q ⟨F0, H0, ρ, F, cs, R, p⟩ => ?_
  refine ⟨F0, H0, ρ, F, cs, R, ?_⟩
  unfold owV at p
  cases q : fe ρ with
  | bad => rw [q] at p; exact p
  | ex c => rw [q] at p; exact p
  | ok a =>
    rw [q] at p
    cases a with
    | vw o => exact p.elim
    | ow o => exact fun F2 H2 v c2 e2 r2 n2 => p F2 H2 v c2 cs e2 (R.ext e2) r2 (Tk.of_new R n2)
def mvV (i : Nat) : DV := fun ρ => match ρ[i]? with
  | some (some (.fz d)) => .ok (.fz d) ρ
  | some (some o) => .ok o (ρ.set i none)
  | _ => .bad
theorem RS.take {i : Nat} {o : O} (R : RS K F0 H0 ρ F σ H cs) (hi : ρ[i]? = some (some o)) : ∃ v c2 cs2, σ[i]? = some (some v) ∧ ORep K F H o v c2 ∧ RS K F0 H0 (ρ.set i none) F σ H cs2 ∧ Tk H0 F c2 cs2 ∧ ∀ c ∈ cs2, c ∈ cs := by
  have hil : i < ρ.length := (List.getElem?_eq_some_iff.mp hi).1
  obtain ⟨c1, c2, c3, ob, x, e1, e4, e5, s, k⟩ := R.sl.split i hil
  rw [hi] at e4
  cases e4
  subst e1
  cases x with
  | none => exact s.elim
  | some v =>
  have nd := R.nd
  rw [List.nodup_append] at nd
  obtain ⟨n1, n23, d123⟩ := nd
  rw [List.nodup_append] at n23
  obtain ⟨n2, n3, d23⟩ := n23
  have hx : σ.set i (some v) = σ := by
    have hi2 : i < σ.length := by rw [R.sl.len]; exact hil
    have : σ[i] = some v := by
      have := List.getElem?_eq_getElem hi2
      rw [e5] at this
      exact (Option.some.inj this).symm
    rw [← this]; simp
  have z := k F H none (some v) [] (Same.refl _) (fun _ _ => rfl) (fun _ _ => rfl) rfl
  rw [hx] at z
  refine ⟨v, c2, c1 ++ ([] ++ c3), e5, s, ⟨R.fh, R.f0, R.nw, R.h0, z, ?_, fun c hc => ?_⟩, ⟨n2, fun c hc => ⟨(R.cf c (List.mem_append_right _ (List.mem_append_left _ hc))).1, (R.cf c (List.mem_append_right _ (List.mem_append_left _ hc))).2, fun h => ?_⟩⟩, fun c hc => ?_⟩
  · rw [List.nil_append, List.nodup_append]
    exact ⟨n1, n3, fun a ha b hb => d123 a ha b (List.mem_append_right _ hb)⟩
  · rcases List.mem_append.mp hc with h | h
    · exact R.cf c (List.mem_append_left _ h)
    · exact R.cf c (List.mem_append_right _ (List.mem_append_right _ (by simpa using h)))
  · rcases List.mem_append.mp h with h | h
    · exact d123 c h c (List.mem_append_left _ hc) rfl
    · exact d23 c hc c (by simpa using h) rfl
  · rcases List.mem_append.mp hc with h | h
    · exact List.mem_append_left _ h
    · exact List.mem_append_right _ (List.mem_append_right _ (by simpa using h))
theorem gv_var (i : Nat) {x : Str} (hN : X.N[i]? = some x := by rfl) (hv : Vis X.env.scope x := by first | exact Or.inl rfl | exact Or.inr (Or.inl rfl) | exact Or.inr (Or.inr rfl)) (hd : (x == ("__debug__" : Str)) = false := by decide)
    (hcd : (x == ("__classdict__" : Str)) = false := by decide) : GV X W (.Name x pos) (mvV i) := by
  refine PE.imp (pe_var hN hv hd hcd) fun σ H Q ⟨F0, H0, ρ, F, cs, R, p⟩ => ?_
  unfold mvV at p
  split at p
  · rename_i d q
    obtain ⟨v, c1, c2, c3, e1, e2, r, _⟩ := R.put q
    exact ⟨v, e2, p F H v [] cs (Ext.refl R.fh) R ⟨rfl, r.2⟩ ⟨List.nodup_nil, fun _ h => nomatch h⟩⟩
  · rename_i o _ q
    obtain ⟨v, c2, cs2, e2, r, R2, t, _⟩ := R.take q
    exact ⟨v, e2, p F H v c2 cs2 (Ext.refl R.fh) R2 r t⟩
  · exact p.elim
def nilV : DVs := fun ρ => .ok [] ρ
def consV (f : DV) (g : DVs) : DVs := fun ρ => match f ρ with
  | .ok o ρ' => match g ρ' with
    | .ok os ρ2 => .ok (o :: os) ρ2
    | .ex c => .ex c
    | .bad => .bad
  | .ex c => .ex c
  | .bad => .bad
theorem gvs_nil : GVs X W [] nilV := PA.imp pa_nil fun σ H Q ⟨F0, H0, ρ, F, cs, R, p⟩ => p F H [] [] cs (Ext.refl R.fh) R ⟨rfl, rfl⟩ ⟨List.nodup_nil, fun _ h => nomatch h⟩
theorem gvs_cons {es : List Expr} {f : DV} {g : DVs} (hf : GV X W e f) (hg : GVs X W es g) (hs : starEach (e :: es) X.env = (false, eval e X.env) :: starEach es X.env := by rfl) : GVs X W (e :: es) (consV f g) := by
  refine PA.imp (pa_cons hf hg hs) fun σ H Q ⟨F0, H0, ρ, F, cs, R, p⟩ => ?_
  refine ⟨F0, H0, ρ, F, cs, R, ?_⟩
  unfold consV at p
  cases q : f ρ with
  | bad => rw [q] at p; exact p
  | ex c => rw [q] at p; exact p
  | ok o ρ1 =>
    rw [q] at p
    intro F1 H1 v c1 cs1 e1 R1 r1 t1
    let Hb : Hp := fun a => if a ∈ c1 then H1 a else H0 a
    have hb0 : Same H0 Hb := fun a u q => by
      show (if a ∈ c1 then H1 a else H0 a) = some u
      split
      · rename_i h; rw [(t1.fr a h).2.1] at q; cases q
      · exact q
    have Rb : RS X.K F1 Hb ρ1 F1 σ H1 cs1 := ⟨R1.fh, Same.refl _, fun _ _ => rfl, fun a u q => by
      have q' : (if a ∈ c1 then H1 a else H0 a) = some u := q
      split at q'
      · exact q'
      · exact R1.h0 a u q', R1.sl, R1.nd, fun c hc => ⟨(R1.cf c hc).1, by
      show (if c ∈ c1 then H1 c else H0 c) = none
      rw [if_neg fun h => (t1.fr c h).2.2 hc]
      exact (R1.cf c hc).2⟩⟩
    refine ⟨F1, Hb, ρ1, F1, cs1, Rb, ?_⟩
    cases q2 : g ρ1 with
    | bad => simp only [q2] at p; exact p
    | ex c => simp only [q2] at p; exact fun F2 H2 C e2 m => p F2 H2 C (e1.trans e2) m
    | ok os ρ2 =>
      simp only [q2] at p
      intro F2 H2 vs c2 cs2 e2 R2 r2 t2
      have dj : ∀ c ∈ c1, c ∉ c2 ∧ c ∉ cs2 := fun c hc => by
        have nb : Hb c ≠ none := by
          show (if c ∈ c1 then H1 c else H0 c) ≠ none
          rw [if_pos hc]
          exact r1.there c hc
        exact ⟨fun h => nb (t2.fr c h).2.1, fun h => nb (R2.cf c h).2⟩
      refine p F2 H2 (v :: vs) (c1 ++ c2) cs2 (e1.trans e2) ⟨R2.fh, R1.f0.trans e2.ff, fun a h => ?_, fun a u q => R2.h0 a u (hb0 a u q), R2.sl, R2.nd, fun c hc => ⟨(R2.cf c hc).1, hb0.free (R2.cf c hc).2⟩⟩ ⟨v, vs, c1, c2, rfl, rfl, ORep.ext e2 r1, r2⟩ ⟨?_, fun c hc => ?_⟩
      · have h1 : H1 a ≠ none := by
          cases q : H0 a with
          | none => exact absurd q h
          | some u => rw [R1.h0 a u q]; exact fun h => nomatch h
        rw [e2.nw a h1]
        exact R1.nw a h
      · rw [List.nodup_append]
        exact ⟨t1.nd, t2.nd, fun a ha b hb e => by subst e; exact (dj a ha).1 hb⟩
      · rcases List.mem_append.mp hc with h | h
        · exact ⟨e2.nf (r1.there c h) (t1.fr c h).1, (t1.fr c h).2.1, (dj c h).2⟩
        · exact ⟨(t2.fr c h).1, hb0.free (t2.fr c h).2.1, (t2.fr c h).2.2⟩
def retS (f : DV) : DS := fun ρ => match f ρ with
  | .ok o _ => .rt o
  | .ex c => .ex c ρ
  | .bad => .bad
theorem gs_ret {f : DV} (he : GV X W e f) : GS X W (.Return (some e) pos) (retS f) := by
  refine PS.imp (ps_ret he) fun D σ H ⟨F0, H0, ρ, F, cs, R, p⟩ => ?_
  refine ⟨F0, H0, ρ, F, cs, R, ?_⟩
  unfold retS at p
  cases q : f ρ with
  | bad => rw [q] at p; exact p
  | ex c => rw [q] at p; exact fun F2 H2 C e m => p F2 H2 σ cs C e.ff (R.ext e) m
  | ok o ρ1 =>
    rw [q] at p
    exact fun F2 H2 v c2 cs2 e2 R2 r2 t2 => p F2 H2 v c2 R2.toExt r2 ⟨t2.nd, fun c hc => ⟨(t2.fr c hc).2.1, (t2.fr c hc).1⟩⟩
@[simp] def retN : DS := fun _ => .rt (.fz .non)
end
end DL
namespace DL
open PySem PySem.Spec L2
variable {K : PySem.W.Frag} {F F' H H' H0 F0 F1 H1 : Hp} {cs cs' : List Addr} {σ σ' : L2.St} {ρ ρ' : Rho}
@[simp] def O.kidsQ : O → Option (List O)
  | .lst os => some os
  | .tup os => some os
  | _ => none
@[simp] def O.kids : O → Option (List O)
  | .lst os => some os
  | .tup os => some os
  | .ins _ _ os => some os
  | _ => none
@[simp] def O.withKids : O → List O → O
  | .lst _, os => .lst os
  | .tup _, os => .tup os
  | .ins c ns _, os => .ins c ns os
  | o, _ => o
@[simp] def O.at0 : List Nat → O → Option O
  | [], o => some o
  | n :: p, o => match o.kids with
    | some os => match os[n]? with
      | some x => O.at0 p x
      | none => none
    | none => none
@[simp] def O.put0 : List Nat → O → O → O
  | [], s, _ => s
  | n :: p, s, o => match o.kids with
    | some os => match os[n]? with
      | some x => o.withKids (os.set n (O.put0 p s x))
      | none => o
    | none => o
@[simp] def O.core : O → O
  | .nm _ o => o
  | o => o
@[simp] def O.recore : O → O → O
  | .nm a _, o => .nm a o
  | _, o => o
@[simp] def O.at (p : List Nat) (o : O) : Option O := O.at0 p o.core
@[simp] def O.put (p : List Nat) (s o : O) : O := o.recore (O.put0 p s o.core)
theorem O.core_rep {o v cs} (h : ORep K F H o v cs) : ORep K F H o.core v cs := by
  cases o <;> first | exact h | exact h.2
theorem O.recore_rep {o s v cs cs' } (h : ORep K F H o v cs) (r : ORep K F' H' s v cs') : ORep K F' H' (o.recore s) v cs' := by
  cases o <;> first | exact r | exact ⟨h.1, r⟩
def Kd (H : Hp) (a : Addr) (vs : List V) : Prop := (H a = some (.lst vs) ∨ H a = some (.tup vs)) ∨ ∃ (C dx : Addr) (ns : List Str), H a = some (.ins C dx (ns.zip vs)) ∧ ns.length = vs.length
theorem Kd.same {a vs} (h : Same H H') (r : Kd H a vs) : Kd H' a vs := by
  rcases r with (r | r) | ⟨C, dx, ns, r, l⟩
  · exact .inl (.inl (h _ _ r))
  · exact .inl (.inr (h _ _ r))
  · exact .inr ⟨C, dx, ns, h _ _ r, l⟩
theorem zip_inj {α β : Type} : ∀ {a a' : List α} {b b' : List β}, a.zip b = a'.zip b' → a.length = b.length → a'.length = b'.length → b = b'
  | [], [], [], [], _, _, _ => rfl
  | _ :: _, _ :: _, _ :: _, _ :: _, h, l1, l2 => by
    rw [List.zip_cons_cons, List.zip_cons_cons] at h
    injection h with h1 h2
    injection h1 with h3 h4
    rw [h4, zip_inj h2 (by simpa using l1) (by simpa using l2)]
  | [], [], [], _ :: _, _, _, l => by cases l
  | [], [], _ :: _, _, _, l, _ => by cases l
  | [], _ :: _, [], [], _, _, l => by cases l
  | [], _ :: _, [], _ :: _, h, _, _ => by cases h
  | [], _ :: _, _ :: _, _, _, l, _ => by cases l
  | _ :: _, [], [], _, _, l, _ => by cases l
  | _ :: _, [], _ :: _, [], h, _, _ => by cases h
  | _ :: _, [], _ :: _, _ :: _, _, _, l => by cases l
  | _ :: _, _ :: _, [], _, _, l, _ => by cases l
  | _ :: _, _ :: _, _ :: _, [], _, _, l => by cases l
theorem Kd.fun_ {a vs us} (r : Kd H a vs) (q : Kd H a us) : vs = us := by
  rcases r with (r | r) | ⟨C, dx, ns, r, l⟩ <;> rcases q with (q | q) | ⟨C', dx', ns', q, l'⟩ <;> rw [r] at q
  · cases q; rfl
  · cases q
  · cases q
  · cases q
  · cases q; rfl
  · cases q
  · cases q
  · cases q
  · have q : HO.ins C dx (ns.zip vs) = HO.ins C' dx' (ns'.zip us) := Option.some.inj q
    injection q with h1 h2 h3
    exact zip_inj h3 l l'
def VAt (K : PySem.W.Frag) (H : Hp) : List Nat → V → V → Prop
  | [], v, u => v = u
  | n :: p, v, u => ∃ a vs w, v = .ref a ∧ Kd H a vs ∧ vs[n]? = some w ∧ VAt K H p w u
theorem VAt.same {p v u} (h : Same H H') (r : VAt K H p v u) : VAt K H' p v u := by
  induction p generalizing v with
  | nil => exact r
  | cons n p ih =>
    obtain ⟨a, vs, w, e, s, g, q⟩ := r
    exact ⟨a, vs, w, e, s.same h, g, ih q⟩
theorem OReps.focus : ∀ {os : List O} {vs : List V} {c} (n : Nat) {x : O}, OReps K F H os vs c → os[n]? = some x → ∃ v c1 c2 c3, vs[n]? = some v ∧ c = c1 ++ (c2 ++ c3) ∧ ORep K F H x v c2 ∧
    ∀ F' H' x' c2', Same F F' → (∀ b ∈ c1, H' b = H b) → (∀ b ∈ c3, H' b = H b) → ORep K F' H' x' v c2' → OReps K F' H' (os.set n x') vs (c1 ++ (c2' ++ c3))
  | [], _, _, n, x, _, h => by simp at h
  | o :: os, _, _, 0, x, ⟨v, r, c1, c2, e1, e2, p, q⟩, h => by
    have h' : o = x := by simpa using h
    subst e1 e2 h'
    exact ⟨v, [], c1, c2, rfl, rfl, p, fun F' H' x' c2' hF _ k s => ⟨v, r, c2', c2, rfl, rfl, s, q.frame hF k⟩⟩
  | o :: os, _, _, n + 1, x, ⟨v, r, c1, c2, e1, e2, p, q⟩, h => by
    subst e1 e2
    obtain ⟨u, d1, d2, d3, e3, e4, s, k⟩ := OReps.focus n q (by simpa using h)
    subst e4
    exact ⟨u, c1 ++ d1, d2, d3, by simpa using e3, by simp [List.append_assoc], s, fun F' H' x' c2' hF k1 k3 s2 => ⟨v, r, c1, d1 ++ (c2' ++ d3), rfl, by simp [List.append_assoc], p.frame hF (fun b hb => k1 b (List.mem_append_left _ hb)),
      k F' H' x' c2' hF (fun b hb => k1 b (List.mem_append_right _ hb)) k3 s2⟩⟩
theorem ORep.focus0 : ∀ {p : List Nat} {o s : O} {v : V} {c}, ORep K F H o v c → O.at0 p o = some s → ∃ u c1 c2 c3, VAt K H p v u ∧ c = c1 ++ (c2 ++ c3) ∧ ORep K F H s u c2 ∧
    ∀ F' H' s' c2', Same F F' → (∀ b ∈ c1, H' b = H b) → (∀ b ∈ c3, H' b = H b) → ORep K F' H' s' u c2' → ORep K F' H' (O.put0 p s' o) v (c1 ++ (c2' ++ c3))
  | [], o, s, v, c, r, h => by
    cases h
    exact ⟨v, [], c, [], rfl, by simp, r, fun F' H' s' c2' _ _ _ q => by simpa [O.put0] using q⟩
  | n :: p, o, s, v, c, r, h => by
    unfold O.at0 at h
    split at h
    · rename_i os ek
      split at h
      · rename_i x ex
        cases o with
        | lst ys =>
          cases ek
          obtain ⟨a, vs, c', e1, e2, e3, q⟩ := r
          obtain ⟨w, d1, d2, d3, g1, g2, g3, k⟩ := q.focus n ex
          obtain ⟨u, f1, f2, f3, h1, h2, h3, k2⟩ := ORep.focus0 g3 h
          subst g2 h2 e2
          refine ⟨u, a :: (d1 ++ f1), f2, f3 ++ d3, ⟨a, vs, w, e1, .inl (.inl e3), g1, h1⟩, by simp [List.append_assoc], h3, fun F' H' s' c2' hF k1 k3 q2 => ?_⟩
          have z := k F' H' (O.put0 p s' x) (f1 ++ (c2' ++ f3)) hF (fun b hb => k1 b (List.mem_cons_of_mem _ (List.mem_append_left _ hb))) (fun b hb => k3 b (List.mem_append_right _ hb))
            (k2 F' H' s' c2' hF (fun b hb => k1 b (List.mem_cons_of_mem _ (List.mem_append_right _ hb))) (fun b hb => k3 b (List.mem_append_left _ hb)) q2)
          have e : O.put0 (n :: p) s' (.lst os) = .lst (os.set n (O.put0 p s' x)) := by
            simp only [O.put0, O.kids, ex, O.withKids]
          rw [e]
          exact ⟨a, vs, d1 ++ ((f1 ++ (c2' ++ f3)) ++ d3), e1, by simp [List.append_assoc], by rw [k1 a List.mem_cons_self]; exact e3, z⟩
        | tup ys =>
          cases ek
          obtain ⟨a, vs, c', e1, e2, e3, q⟩ := r
          obtain ⟨w, d1, d2, d3, g1, g2, g3, k⟩ := q.focus n ex
          obtain ⟨u, f1, f2, f3, h1, h2, h3, k2⟩ := ORep.focus0 g3 h
          subst g2 h2 e2
          refine ⟨u, a :: (d1 ++ f1), f2, f3 ++ d3, ⟨a, vs, w, e1, .inl (.inr e3), g1, h1⟩, by simp [List.append_assoc], h3, fun F' H' s' c2' hF k1 k3 q2 => ?_⟩
          have z := k F' H' (O.put0 p s' x) (f1 ++ (c2' ++ f3)) hF (fun b hb => k1 b (List.mem_cons_of_mem _ (List.mem_append_left _ hb))) (fun b hb => k3 b (List.mem_append_right _ hb))
            (k2 F' H' s' c2' hF (fun b hb => k1 b (List.mem_cons_of_mem _ (List.mem_append_right _ hb))) (fun b hb => k3 b (List.mem_append_left _ hb)) q2)
          have e : O.put0 (n :: p) s' (.tup os) = .tup (os.set n (O.put0 p s' x)) := by
            simp only [O.put0, O.kids, ex, O.withKids]
          rw [e]
          exact ⟨a, vs, d1 ++ ((f1 ++ (c2' ++ f3)) ++ d3), e1, by simp [List.append_assoc], by rw [k1 a List.mem_cons_self]; exact e3, z⟩
        | ins cl ns ys =>
          cases ek
          obtain ⟨a, C, dx, vs, c', e1, e2, e3, m, l, q⟩ := r
          obtain ⟨w, d1, d2, d3, g1, g2, g3, k⟩ := q.focus n ex
          obtain ⟨u, f1, f2, f3, h1, h2, h3, k2⟩ := ORep.focus0 g3 h
          subst g2 h2 e2
          refine ⟨u, a :: (d1 ++ f1), f2, f3 ++ d3, ⟨a, vs, w, e1, .inr ⟨C, dx, ns, e3, l⟩, g1, h1⟩, by simp [List.append_assoc], h3, fun F' H' s' c2' hF k1 k3 q2 => ?_⟩
          have z := k F' H' (O.put0 p s' x) (f1 ++ (c2' ++ f3)) hF (fun b hb => k1 b (List.mem_cons_of_mem _ (List.mem_append_left _ hb))) (fun b hb => k3 b (List.mem_append_right _ hb))
            (k2 F' H' s' c2' hF (fun b hb => k1 b (List.mem_cons_of_mem _ (List.mem_append_right _ hb))) (fun b hb => k3 b (List.mem_append_left _ hb)) q2)
          have e : O.put0 (n :: p) s' (.ins cl ns os) = .ins cl ns (os.set n (O.put0 p s' x)) := by
            simp only [O.put0, O.kids, ex, O.withKids]
          rw [e]
          exact ⟨a, C, dx, vs, d1 ++ ((f1 ++ (c2' ++ f3)) ++ d3), e1, by simp [List.append_assoc], by rw [k1 a List.mem_cons_self]; exact e3, m, l, z⟩
        | nm _ _ => cases ek
        | fz d => cases ek
        | dK _ _ => cases ek
        | dT _ _ => cases ek
        | lk _ _ => cases ek
      · cases h
    · cases h
theorem ORep.focus {p : List Nat} {o s : O} {v : V} {c} (r : ORep K F H o v c) (h : O.at p o = some s) : ∃ u c1 c2 c3, VAt K H p v u ∧ c = c1 ++ (c2 ++ c3) ∧ ORep K F H s u c2 ∧
    ∀ F' H' s' c2', Same F F' → (∀ b ∈ c1, H' b = H b) → (∀ b ∈ c3, H' b = H b) → ORep K F' H' s' u c2' → ORep K F' H' (O.put p s' o) v (c1 ++ (c2' ++ c3)) := by
  obtain ⟨u, c1, c2, c3, h1, h2, h3, k⟩ := ORep.focus0 (O.core_rep r) h
  exact ⟨u, c1, c2, c3, h1, h2, h3, fun F' H' s' c2' hF k1 k3 q => O.recore_rep r (k F' H' s' c2' hF k1 k3 q)⟩
theorem RS.putAt {i : Nat} {p : List Nat} {o s : O} (R : RS K F0 H0 ρ F σ H cs) (hi : ρ[i]? = some (some o)) (hp : O.at p o = some s) : ∃ v u c1 c2 c3, cs = c1 ++ (c2 ++ c3) ∧ σ[i]? = some (some v) ∧ VAt K H p v u ∧ ORep K F H s u c2 ∧
    ∀ H2 s2 c2', (∀ b, b ∉ c2 → H b ≠ none → H2 b = H b) → ORep K F H2 s2 u c2' → c2'.Nodup → (∀ c ∈ c2', F c = none ∧ H0 c = none ∧ c ∉ c1 ∧ c ∉ c3) → RS K F0 H0 (ρ.set i (some (O.put p s2 o))) F σ H2 (c1 ++ (c2' ++ c3)) := by
  obtain ⟨v, d1, d2, d3, e1, e2, r, k⟩ := R.put hi
  obtain ⟨u, f1, f2, f3, h1, h2, h3, k2⟩ := r.focus hp
  subst e1 h2
  have nd := R.nd
  refine ⟨v, u, d1 ++ f1, f2, f3 ++ d3, by simp [List.append_assoc], e2, h1, h3, fun H2 s2 c2' kb ro nd2 fr => ?_⟩
  have ndA : (d1 ++ ((f1 ++ (f2 ++ f3)) ++ d3)).Nodup := nd
  rw [List.nodup_append] at nd
  obtain ⟨n1, n23, d123⟩ := nd
  rw [List.nodup_append] at n23
  obtain ⟨n2, n3, d23⟩ := n23
  rw [List.nodup_append] at n2
  obtain ⟨m1, m2, m3⟩ := n2
  rw [List.nodup_append] at m2
  obtain ⟨q1, q2, q3⟩ := m2
  have thF : ∀ b, b ∈ f1 ++ (f2 ++ f3) → H b ≠ none := fun b hb => r.there b hb
  have hf1 : ∀ b ∈ f1, H2 b = H b := fun b hb => kb b (fun h => m3 b hb b (List.mem_append_left _ h) rfl) (thF b (List.mem_append_left _ hb))
  have hf3 : ∀ b ∈ f3, H2 b = H b := fun b hb => kb b (fun h => q3 b h b hb rfl) (thF b (List.mem_append_right _ (List.mem_append_right _ hb)))
  have z := k2 F H2 s2 c2' (Same.refl _) hf1 hf3 ro
  have w := k H2 (O.put p s2 o) (f1 ++ (c2' ++ f3)) (fun b hb hn => kb b (fun h => hb (List.mem_append_right _ (List.mem_append_left _ h))) hn) z ?_ ?_
  · have : d1 ++ f1 ++ (c2' ++ (f3 ++ d3)) = d1 ++ ((f1 ++ (c2' ++ f3)) ++ d3) := by simp [List.append_assoc]
    rw [this]; exact w
  · rw [List.nodup_append]
    refine ⟨m1, ?_, fun a ha b hb e => ?_⟩
    · rw [List.nodup_append]
      exact ⟨nd2, q2, fun a ha b hb e => by subst e; exact (fr a ha).2.2.2 (List.mem_append_left _ hb)⟩
    · subst e
      rcases List.mem_append.mp hb with h | h
      · exact (fr a h).2.2.1 (List.mem_append_right _ ha)
      · exact m3 a ha a (List.mem_append_right _ h) rfl
  · intro c hc
    rcases List.mem_append.mp hc with h | h
    · have := R.cf c (by simp [h])
      exact ⟨this.1, this.2, fun h1 => d123 c h1 c (by simp [h]) rfl, fun h1 => d23 c (by simp [h]) c h1 rfl⟩
    · rcases List.mem_append.mp h with h | h
      · exact ⟨(fr c h).1, (fr c h).2.1, fun h1 => (fr c h).2.2.1 (List.mem_append_left _ h1), fun h1 => (fr c h).2.2.2 (List.mem_append_right _ h1)⟩
      · have := R.cf c (by simp [h])
        exact ⟨this.1, this.2, fun h1 => d123 c h1 c (by simp [h]) rfl, fun h1 => d23 c (by simp [h]) c h1 rfl⟩
section
variable {X : Cx} {W : WX} {pos : Pos} {a b c e : Expr} {fa fb fc fe : DE}
inductive Rp where
  | ok (i : Nat) (p : List Nat) | ex (c : Str) | bad
  deriving Inhabited
abbrev DP := Rho → Rp
def postP (X : Cx) (W : WX) (r : Rp) (σ : L2.St) (F H : Hp) (Q : VK) : Prop := match r with
  | .ok i p => ∀ F' H' v u, Ext F H F' H' → σ[i]? = some (some v) → VAt X.K H' p v u → Q u H'
  | .ex c => ∀ F' H' C, Ext F H F' H' → X.mg c = some (.ref C) → W (.ref C) none σ H'
  | .bad => False
def GP (X : Cx) (W : WX) (e : Expr) (f : DP) : Prop := PE X e (fun σ H Q => ∃ F0 H0 ρ F cs, RS X.K F0 H0 ρ F σ H cs ∧ postP X W (f ρ) σ F H Q)
def varP (i : Nat) : DP := fun ρ => match ρ[i]? with
  | some (some _) => .ok i []
  | _ => .bad
theorem gp_var (i : Nat) {x : Str} (hN : X.N[i]? = some x := by rfl) (hv : Vis X.env.scope x := by first | exact Or.inl rfl | exact Or.inr (Or.inl rfl) | exact Or.inr (Or.inr rfl)) (hd : (x == ("__debug__" : Str)) = false := by decide)
    (hcd : (x == ("__classdict__" : Str)) = false := by decide) : GP X W (.Name x pos) (varP i) := by
  refine PE.imp (pe_var hN hv hd hcd) fun σ H Q ⟨F0, H0, ρ, F, cs, R, p⟩ => ?_
  unfold varP at p
  split at p
  · rename_i o q
    obtain ⟨v, c1, c2, c3, e1, e2, r, _⟩ := R.put q
    exact ⟨v, e2, p F H v v (Ext.refl R.fh) e2 rfl⟩
  · exact p.elim
theorem VAt.snoc {p : List Nat} {n : Nat} {v u w : V} {a vs} (h : VAt K H p v u) (e : u = .ref a) (s : Kd H a vs) (g : vs[n]? = some w) : VAt K H (p ++ [n]) v w := by
  induction p generalizing v with
  | nil =>
    have h' : v = u := h
    subst h'
    exact ⟨a, vs, w, e, s, g, rfl⟩
  | cons m p ih =>
    obtain ⟨b, us, x, e1, s1, g1, q⟩ := h
    exact ⟨b, us, x, e1, s1, g1, ih q⟩
theorem VAt.fun_ {p : List Nat} {v u w : V} (h : VAt K H p v u) (h' : VAt K H p v w) : u = w := by
  induction p generalizing v with
  | nil => exact (show v = u from h).symm.trans h'
  | cons m p ih =>
    obtain ⟨a, us, x, e1, s1, g1, q⟩ := h
    obtain ⟨b, vs, y, e2, s2, g2, q2⟩ := h'
    have : a = b := by rw [e1] at e2; exact V.ref.inj e2
    subst this
    have : us = vs := s1.fun_ s2
    subst this
    rw [g1] at g2
    have : x = y := Option.some.inj g2
    subst this
    exact ih q q2
abbrev GMt := O → List O → Option O
@[simp] def tyO : O → String
  | .lst _ => "list" | .tup _ => "" | .dK _ _ => "dict" | .dT _ _ => "" | .fz _ => "" | .lk _ _ => "" | .ins _ _ _ => "" | .nm _ _ => ""
@[simp] def kindAt (ρ : Rho) (i : Nat) (p : List Nat) : String := match ρ[i]? with
  | some (some o) => match O.at p o with
    | some s => tyO s
    | none => ""
  | _ => ""
def methS (T : String) (fp : DP) (fa : DVs) (g : GMt) : DS := fun ρ => match fp ρ with
  | .ok i p => if kindAt ρ i p = T then (match fa ρ with
    | .ok as ρ' => match ρ'[i]? with
      | some (some o) => match O.at p o with
        | some s => match g s as with
          | some s' => .nx (ρ'.set i (some (O.put p s' o)))
          | none => .bad
        | none => .bad
      | _ => .bad
    | .ex c => .ex c ρ
    | .bad => .bad) else .bad
  | .ex c => .ex c ρ
  | .bad => .bad
def MtT (X : Cx) (r : V → List V → Hp → VK → Prop) (g : GMt) : Prop := ∀ (F H : Hp) (s s' : O) (as : List O) (u : V) (vs : List V) (c c' : List Addr) (Q : VK), Same F H → ORep X.K F H s u c → OReps X.K F H as vs c' → (c ++ c').Nodup → (∀ b ∈ c ++ c', F b = none) → g s as = some s' →
  (∀ H2 w c2, (∀ b, b ∉ c → H b ≠ none → H2 b = H b) → ORep X.K F H2 s' u c2 → c2.Nodup → (∀ b ∈ c2, b ∈ c ++ c') → Q w H2) → r u vs H Q
theorem tyV_tyO {T : String} {s : O} {u : V} {c} (hT : T ≠ "") (h : ORep K F H s u c) (e : tyO s = T) : tyV K T u H := by
  subst e
  cases s with
  | fz d => exact absurd rfl hT
  | lst os => obtain ⟨a, vs, c', e1, e2, e3, q⟩ := h; subst e1; exact .inl ⟨rfl, vs, SqL.of e3⟩
  | tup os => exact absurd rfl hT
  | dK ks ds => obtain ⟨a, vs, e1, e2, e3, q⟩ := h; subst e1; exact .inr (.inr (.inl ⟨rfl, .inl ⟨_, e3⟩⟩))
  | dT ks ds => exact absurd rfl hT
  | lk ks ds => exact absurd rfl hT
  | ins c ns os => exact absurd rfl hT
  | nm a o => exact absurd rfl hT
theorem kindAt_ty {T : String} {i p v u} (hT : T ≠ "") (R : RS K F0 H0 ρ F σ H cs) (e : kindAt ρ i p = T) (hv : σ[i]? = some (some v)) (hat : VAt K H p v u) : tyV K T u H := by
  unfold kindAt at e
  split at e
  · rename_i o eo
    split at e
    · rename_i s es
      obtain ⟨v', u', c1, c2, c3, _, g2, g3, g4, _⟩ := R.putAt eo es
      rw [hv] at g2
      cases g2
      have : u' = u := g3.fun_ hat
      subst this
      exact tyV_tyO hT g4 e
    · exact absurd e.symm hT
  · exact absurd e.symm hT
theorem gs_meth {T : String} {id : String} {name : Str} {es : List Expr} {apos cpos : Pos} {r : V → List V → Hp → VK → Prop} {g : GMt} {o : Expr} {fp : DP} {fv : DVs} (pa : PlainAttrs T) (slot : Slot T name id) (hty : typeOf (.builtin id) = pure (.type "method_descriptor")) (hm : MtR X id r) (mt : MtT X r g) (hT : T ≠ "") (ho : GP X W o fp) (ha : GVs X W (e :: es) fv)
    (hbase : attributeBase o name X.env (eval o X.env) = eval o X.env := by rfl)
    (hfew : ((backTo cpos (starEach (e :: es) X.env)).all (fun x => !x.1) && (backToKw cpos (keywordEach [] X.env)).all (fun x => x.1.isSome)
      && decide ((e :: es).length + ([] : List Keyword).length + (if ([] : List Keyword).isEmpty then 0 else 1) < 30)) = true := by rfl)
    (hline : (apos.endLine == cpos.line) = true := by rfl) (hs : starEach (e :: es) X.env = (false, eval e X.env) :: starEach es X.env := by rfl) (hplain : (backTo cpos (starEach es X.env)).any (·.1) = false := by rfl)
    (hsw : swapsWith (.Call (.Attribute o name apos) (e :: es) [] cpos) none pos.line X.env = pure false := by rfl) :
    GS X W (.Expr (.Call (.Attribute o name apos) (e :: es) [] cpos) pos) (methS T fp fv g) := by
  refine PS.imp (ps_expr (pe_bm pa slot hty hm ho ha hbase hfew hline hs hplain) hsw) fun D σ H ⟨F0, H0, ρ, F, cs, R, p⟩ => ?_
  refine ⟨F0, H0, ρ, F, cs, R, ?_⟩
  unfold methS at p
  cases q1 : fp ρ with
  | bad => simp only [q1] at p; exact p
  | ex c => simp only [q1] at p; exact fun F2 H2 C e m => p F2 H2 σ cs C e.ff (R.ext e) m
  | ok i pl =>
    simp only [q1] at p
    intro F1 H1 v u e1 hv hat
    split at p
    · rename_i hk
      refine ⟨kindAt_ty hT (R.ext e1) hk hv hat, F0, H0, ρ, F1, cs, R.ext e1, ?_⟩
      cases q2 : fv ρ with
      | bad => simp only [q2] at p; exact p
      | ex c => simp only [q2] at p; exact fun F2 H2 C e m => p F2 H2 σ cs C (e1.ff.trans e.ff) ((R.ext e1).ext e) m
      | ok as ρ' =>
        simp only [q2] at p
        intro F2 H2 vs c1 cs1 e2 R2 r2 t2
        split at p
        · rename_i o eo
          split at p
          · rename_i s es
            split at p
            · rename_i s' eg
              obtain ⟨v', u', d1, d2, d3, g1, g2, g3, g4, k⟩ := R2.putAt eo es
              rw [hv] at g2
              cases g2
              have : u' = u := g3.fun_ (hat.same e2.hh)
              subst this
              subst g1
              have nd := R2.nd
              rw [List.nodup_append] at nd
              obtain ⟨n1, n23, d123⟩ := nd
              rw [List.nodup_append] at n23
              obtain ⟨n2, n3, d23⟩ := n23
              refine mt F2 H2 s s' as u' vs d2 c1 _ e2.fh g4 r2 ?_ ?_ eg fun H3 w c3 k3 r3 n4 s3 => ?_
              · rw [List.nodup_append]
                exact ⟨n2, t2.nd, fun a ha b hb e => by subst e; exact (t2.fr a hb).2.2 (List.mem_append_right _ (List.mem_append_left _ ha))⟩
              · intro b hb
                rcases List.mem_append.mp hb with h | h
                · exact (R2.cf b (List.mem_append_right _ (List.mem_append_left _ h))).1
                · exact (t2.fr b h).1
              · have := k H3 s' c3 k3 r3 n4 fun c hc => by
                  rcases List.mem_append.mp (s3 c hc) with h | h
                  · have q := R2.cf c (List.mem_append_right _ (List.mem_append_left _ h))
                    exact ⟨q.1, q.2, fun h1 => d123 c h1 c (List.mem_append_left _ h) rfl, fun h1 => d23 c h c h1 rfl⟩
                  · have q := t2.fr c h
                    exact ⟨q.1, q.2.1, fun h1 => q.2.2 (List.mem_append_left _ h1), fun h1 => q.2.2 (List.mem_append_right _ (List.mem_append_right _ h1))⟩
                exact p F2 H3 σ _ (e1.ff.trans e2.ff) this
            · exact p.elim
          · exact p.elim
        · exact p.elim
    · exact p.elim
@[simp] def gAppend : GMt
  | .lst os, [o] => if os.length < lim then some (.lst (os ++ [o])) else none
  | _, _ => none
theorem mtt_append : MtT X rAppend gAppend := by
  intro F H s s' as u vs c c' Q fh rs ra nd cf eg k
  unfold gAppend at eg
  split at eg
  · rename_i os o
    split at eg
    · rename_i hl
      cases eg
      obtain ⟨a, ys, c2, e1, e2, e3, q⟩ := rs
      obtain ⟨y, r', d1, d2, f1, f2, f3, f4, f5⟩ := ra
      subst e1 e2 f1 f2 f4 f5
      refine ⟨a, ys, y, rfl, rfl, e3, ?_, ?_⟩
      · rw [← q.len, ← lim_eq]; exact hl
      · rw [List.append_nil] at nd cf k
        have nd' := nd
        rw [List.cons_append, List.nodup_cons] at nd'
        have na : ∀ b ∈ c2 ++ d1, upd H a (.lst (ys ++ [y])) b = H b := fun b hb => upd_ne fun e => by subst e; exact nd'.1 hb
        refine k _ _ (a :: (c2 ++ d1)) (fun b hb hn => upd_ne fun e => hb (by rw [e]; exact List.mem_cons_self)) ⟨a, ys ++ [y], c2 ++ d1, rfl, rfl, upd_same, ?_⟩ nd (fun b hb => hb)
        exact OReps.append (q.frame (Same.refl _) fun b hb => na b (List.mem_append_left _ hb)) (OReps.one (f3.frame (Same.refl _) fun b hb => na b (List.mem_append_right _ hb)))
    · cases eg
  · cases eg
theorem gs_append {o : Expr} {apos cpos : Pos} {fp : DP} {fv : DVs} (ho : GP X W o fp) (ha : GVs X W [e] fv)
    (hbase : attributeBase o "append" X.env (eval o X.env) = eval o X.env := by rfl)
    (hfew : ((backTo cpos (starEach [e] X.env)).all (fun x => !x.1) && (backToKw cpos (keywordEach [] X.env)).all (fun x => x.1.isSome)
      && decide ([e].length + ([] : List Keyword).length + (if ([] : List Keyword).isEmpty then 0 else 1) < 30)) = true := by rfl)
    (hline : (apos.endLine == cpos.line) = true := by rfl) (hs : starEach [e] X.env = (false, eval e X.env) :: starEach [] X.env := by rfl) (hplain : (backTo cpos (starEach [] X.env)).any (·.1) = false := by rfl)
    (hsw : swapsWith (.Call (.Attribute o "append" apos) [e] [] cpos) none pos.line X.env = pure false := by rfl) :
    GS X W (.Expr (.Call (.Attribute o "append" apos) [e] [] cpos) pos) (methS "list" fp fv gAppend) :=
  gs_meth PySem.F.plainAttrs_list PySem.F.slot_list_append PySem.F.type_list_append mt_append mtt_append (by decide) ho ha hbase hfew hline hs hplain hsw
end
end DL
namespace DL
open PySem PySem.Spec L2
variable {K : PySem.W.Frag} {F F' H H' H0 F0 F1 H1 : Hp} {cs cs' : List Addr} {σ σ' : L2.St} {ρ ρ' : Rho}
section
variable {X : Cx} {W : WX} {pos : Pos} {a b c e : Expr} {fa fb fc fe : DE} {f g : DS}
abbrev DB := D → Rho → Option Rho
def GG (X : Cx) (tg : Expr) (b : DB) : Prop := PG X tg (fun v σ H Q => ∃ F0 H0 ρ F cs d ρ', RS X.K F0 H0 ρ F σ H cs ∧ Rep X.K F d v ∧ b d ρ = some ρ' ∧ ∀ F' σ' cs', Same F F' → RS X.K F0 H0 ρ' F' σ' H cs' → Q σ' H)
theorem PG.imp {X : Cx} {e : Expr} {t t' : TG} (h : PG X e t) (i : ∀ v σ H Q, t' v σ H Q → t v σ H Q) : PG X e t' := ⟨fun p s σ H v u Q I r q => h.run p s σ H v u Q I r (i v σ H Q q)⟩
@[simp] def nameB (i : Nat) : DB := fun d ρ => if i < ρ.length then some (ρ.set i (some (.fz d))) else none
theorem gg_name {i : Nat} {x : Str} (nd : X.N.Nodup) (hi : X.N[i]? = some x := by rfl) (hx : Loc X.env.scope x := by first | exact Or.inl rfl | exact Or.inr rfl) (hf : X.fn x = true ∨ X.env.scope.names.lookup x = some .local := by first | exact .inl rfl | exact .inr rfl) : GG X (.Name x pos) (nameB i) := by
  refine PG.imp (pg_name nd hi hx hf) fun v σ H Q ⟨F0, H0, ρ, F, cs, d, ρ', R, r, e, k⟩ => ?_
  unfold nameB at e
  split at e
  · rename_i hl
    cases e
    obtain ⟨cs2, R2⟩ := R.set (o := .fz d) (cs' := []) (Ext.refl R.fh) ⟨rfl, r⟩ New.nil hl
    exact k F _ cs2 (Same.refl _) R2
  · cases e
abbrev DBs := List D → Rho → Option Rho
def GGs (X : Cx) (ts : List Expr) (b : DBs) : Prop := PGs X ts (fun vs σ H Q => ∃ F0 H0 ρ F cs ds ρ', RS X.K F0 H0 ρ F σ H cs ∧ Reps X.K F ds vs ∧ b ds ρ = some ρ' ∧ ∀ F' σ' cs', Same F F' → RS X.K F0 H0 ρ' F' σ' H cs' → Q σ' H)
theorem PGs.imp {X : Cx} {e : List Expr} {t t' : TGs} (h : PGs X e t) (i : ∀ v σ H Q, t' v σ H Q → t v σ H Q) : PGs X e t' := ⟨fun p s σ H v u Q I r q => h.run p s σ H v u Q I r (i v σ H Q q)⟩
@[simp] def nilB : DBs := fun ds ρ => match ds with
  | [] => some ρ
  | _ => none
@[simp] def consB (b : DB) (bs : DBs) : DBs := fun ds ρ => match ds with
  | d :: ds => match b d ρ with
    | some ρ' => bs ds ρ'
    | none => none
  | [] => none
theorem ggs_nil : GGs X [] nilB := by
  refine PGs.imp pgs_nil fun vs σ H Q ⟨F0, H0, ρ, F, cs, ds, ρ', R, r, e, k⟩ => ?_
  unfold nilB at e
  split at e
  · cases e
    exact ⟨r, k F σ cs (Same.refl _) R⟩
  · cases e
theorem ggs_cons {tg : Expr} {ts : List Expr} {b : DB} {bs : DBs} (h1 : GG X tg b) (h2 : GGs X ts bs)
    (hs : (assignEach (tg :: ts) X.env).map (·.2) = assign tg X.env :: (assignEach ts X.env).map (·.2) := by rfl) : GGs X (tg :: ts) (consB b bs) := by
  refine PGs.imp (pgs_cons h1 h2 hs) fun vs σ H Q ⟨F0, H0, ρ, F, cs, ds, ρ', R, r, e, k⟩ => ?_
  unfold consB at e
  split at e
  · rename_i d ds
    split at e
    · rename_i ρ1 e1
      obtain ⟨v, r', ev, x, y⟩ := r
      exact ⟨v, r', ev, F0, H0, ρ, F, cs, d, ρ1, R, x, e1, fun F1 σ1 cs1 s1 R1 => ⟨F0, H0, ρ1, F1, cs1, ds, ρ', R1, y.mono s1, e, fun F2 σ2 cs2 s2 R2 => k F2 σ2 cs2 (s1.trans s2) R2⟩⟩
    · cases e
  · cases e
@[simp] def tupB (n : Nat) (bs : DBs) : DB := fun d ρ => match d with
  | .tup ds => if ds.length = n then bs ds ρ else none
  | _ => none
theorem gg_tup {es : List Expr} {k : Nat} {bs : DBs} {n : Nat} (hc : X.calm = true) (h : GGs X es bs)
    (hn : (assignEach es X.env).length = n := by rfl) (hst : (assignEach es X.env).findIdx? (·.1) = none := by rfl) : GG X (.Tuple es k pos) (tupB n bs) := by
  refine PG.imp (pg_tup hc h hn hst) fun v σ H Q ⟨F0, H0, ρ, F, cs, d, ρ', R, r, e, k⟩ => ?_
  unfold tupB at e
  split at e
  · rename_i ds
    split at e
    · rename_i hl
      obtain ⟨p, vs, ev, s, t⟩ := r
      exact ⟨p, vs, ev, SqT.of (R.fh _ _ s), by rw [← t.len]; exact hl, F0, H0, ρ, F, cs, ds, ρ', R, t, e, k⟩
    · cases e
  · cases e
def unpS (fe : DE) (b : DB) : DS := fun ρ => match fe ρ with
  | .ok (.ow o) => match b o.toD ρ with
    | some ρ' => .nx ρ'
    | none => .bad
  | .ok (.vw _) => .bad
  | .ex c => .ex c ρ
  | .bad => .bad
theorem gs_unp {tg : Expr} {b : DB} (he : GE X W e fe) (hg : GG X tg b) (hs : swapsWithSole [tg] e pos.line X.env = pure false := by rfl) (hw : swappedStores [tg] e X.env = pure none := by rfl)
    (h1 : (assignEach [tg] X.env).map (·.2) = [assign tg X.env] := by rfl) : GS X W (.Assign [tg] e pos) (unpS fe b) := by
  refine PS.imp (ps_asg he hg hs hw h1) fun D σ H ⟨F0, H0, ρ, F, cs, R, p⟩ => ?_
  refine ⟨F0, H0, ρ, F, cs, R, ?_⟩
  unfold unpS at p
  cases q : fe ρ with
  | bad => rw [q] at p; exact p
  | ex c => rw [q] at p; exact fun F2 H2 C e m => p F2 H2 σ cs C e.ff (R.ext e) m
  | ok x =>
    cases x with
    | vw o => rw [q] at p; exact p.elim
    | ow o =>
      simp only [q] at p
      intro F1 H1 v c1 e1 r1 n1
      split at p
      · rename_i ρ' eb
        have R1 := R.ext e1
        have sm : Same F1 (DL.shut F1 H1 c1) := same_shut fun c hc => (n1.nw c hc).2
        have R2 : RS X.K F0 H0 ρ (DL.shut F1 H1 c1) σ H1 cs := by
          refine ⟨shut_same e1.fh, R1.f0.trans sm, fun a h => ?_, R1.h0, R1.sl.frame sm fun _ _ => rfl, R1.nd, fun c hc => ⟨?_, (R1.cf c hc).2⟩⟩
          · rw [shut_out fun hc => by
              have := R.h0.free (n1.nw a hc).1
              exact h this]
            exact R1.nw a h
          · rw [shut_out fun h => R.sl.there c hc (n1.nw c h).1]
            exact (R1.cf c hc).1
        exact ⟨F0, H0, ρ, DL.shut F1 H1 c1, cs, o.toD, ρ', R2, ORep.close (o := o) (H := H1) sm (fun c hc => shut_in hc) r1, eb, fun F2 σ2 cs2 s2 R3 => p F2 H1 σ2 cs2 ((e1.ff.trans sm).trans s2) R3⟩
      · exact p.elim
structure Wk (K : PySem.W.Frag) (J : It) (F1 : Hp) (ds : List D) : Prop where
  go : ∀ i H, Same F1 H → i < ds.length → J.go i H
  yl : ∀ i F H x H' d, Same F1 F → Same F H → ds[i]? = some d → J.yld i H x H' → ∃ F', Ext F H F' H' ∧ Rep K F' d x
  st : ∀ H, Same F1 H → J.stop ds.length H
inductive Ri where
  | ok (ds : List D) | ex (c : Str) | bad
  deriving Inhabited
abbrev DI := Rho → Ri
def postI (X : Cx) (W : WX) (r : Ri) (F0 H0 : Hp) (ρ : Rho) (σ : L2.St) (F H : Hp) (R : It → Hp → Prop) : Prop := match r with
  | .ok ds => ∀ F' H' J cs, Ext F H F' H' → RS X.K F0 H0 ρ F' σ H' cs → Wk X.K J F' ds → R J H'
  | .ex c => ∀ F' H' C, Ext F H F' H' → X.mg c = some (.ref C) → W (.ref C) none σ H'
  | .bad => False
def GI (X : Cx) (W : WX) (tg e : Expr) (f : DI) : Prop := PI X tg e (fun σ H R => ∃ F0 H0 ρ F cs, RS X.K F0 H0 ρ F σ H cs ∧ postI X W (f ρ) F0 H0 ρ σ F H R)
theorem PI.imp {X : Cx} {tg e : Expr} {t t' : TI} (h : PI X tg e t) (i : ∀ σ H R, t' σ H R → t σ H R) : PI X tg e t' := ⟨fun p s σ H R I q => h.run p s σ H R I (i σ H R q)⟩
theorem RS.shutNew {c1 : List Addr} (R : RS K F0 H0 ρ F σ H cs) (e1 : Ext F H F1 H1) (n1 : New H F1 c1) : RS K F0 H0 ρ (DL.shut F1 H1 c1) σ H1 cs ∧ Same F1 (DL.shut F1 H1 c1) ∧ Ext F H (DL.shut F1 H1 c1) H1 := by
  have R1 := R.ext e1
  have sm : Same F1 (DL.shut F1 H1 c1) := same_shut fun c hc => (n1.nw c hc).2
  refine ⟨⟨shut_same e1.fh, R1.f0.trans sm, fun a h => ?_, R1.h0, R1.sl.frame sm fun _ _ => rfl, R1.nd, fun c hc => ⟨?_, (R1.cf c hc).2⟩⟩, sm, ⟨e1.hh, e1.ff.trans sm, shut_same e1.fh, fun a h => by
    rw [shut_out fun hc => h (n1.nw a hc).1]
    exact e1.nw a h⟩⟩
  · rw [shut_out fun hc => h (R.h0.free (n1.nw a hc).1)]
    exact R1.nw a h
  · rw [shut_out fun h => R.sl.there c hc (n1.nw c h).1]
    exact (R1.cf c hc).1
def listI (f : DE) : DI := fun ρ => match f ρ with
  | .ok (.ow o) => match o.toD with
    | .lst ds => .ok ds
    | _ => .bad
  | .ok (.vw _) => .bad
  | .ex c => .ex c
  | .bad => .bad
theorem wk_list {p : Addr} {vs : List V} {ds : List D} (s : SqL K F p vs) (r : Reps K F ds vs) : Wk K (Itl K p) F ds where
  go := fun i H h hi => by
    have : i < vs.length := by rw [← r.len]; exact hi
    exact ⟨vs, vs[i], sqL_mono h s, List.getElem?_eq_getElem this⟩
  yl := fun i F' H x H' d h1 h2 hd y => by
    obtain ⟨e, y⟩ := y
    subst e
    refine ⟨F', Ext.refl h2, ?_⟩
    obtain ⟨v, hv, rv⟩ := r.get hd
    have := y vs (sqL_mono (h1.trans h2) s)
    rw [hv] at this
    cases this
    exact rv.mono h1
  st := fun H h => ⟨vs, sqL_mono h s, by rw [r.len]; exact Nat.le_refl _⟩
theorem gi_list {tg : Expr} (he : GE X W e fe) : GI X W tg e (listI fe) := by
  refine PI.imp (pi_list he) fun σ H R ⟨F0, H0, ρ, F, cs, RR, p⟩ => ?_
  refine ⟨F0, H0, ρ, F, cs, RR, ?_⟩
  unfold listI at p
  cases q : fe ρ with
  | bad => rw [q] at p; exact p
  | ex c => rw [q] at p; exact p
  | ok x =>
    cases x with
    | vw o => rw [q] at p; exact p.elim
    | ow o =>
      simp only [q] at p
      intro F1 H1 v c1 e1 r1 n1
      obtain ⟨R2, sm, ex2⟩ := RR.shutNew e1 n1
      have rc := ORep.close (o := o) (H := H1) sm (fun c hc => shut_in hc) r1
      split at p
      · rename_i ds eo
        rw [eo] at rc
        obtain ⟨a, vs, rfl, s, t⟩ := rc
        exact ⟨a, rfl, ⟨vs, sqL_mono (shut_same e1.fh) s⟩, p (DL.shut F1 H1 c1) H1 _ cs ex2 R2 (wk_list s t)⟩
      · exact p.elim
def rangeL (lo hi : Int) : List D := (List.range (hi - lo).toNat).map fun i => .int (lo + (i : Nat))
theorem wk_range (lo : Int) (n : Nat) : Wk K (Itr lo n) F ((List.range n).map fun i => D.int (lo + (i : Nat))) where
  go := fun i H h hi => by
    show i < n
    simpa using hi
  yl := fun i F' H x H' d h1 h2 hd y => by
    obtain ⟨e, y⟩ := y
    subst e
    refine ⟨F', Ext.refl h2, ?_⟩
    rw [List.getElem?_map] at hd
    cases q : (List.range n)[i]? with
    | none => rw [q] at hd; cases hd
    | some j =>
      rw [q] at hd
      have : j = i := by
        rw [List.getElem?_range (by simpa using (List.getElem?_eq_some_iff.mp q).1)] at q
        exact (Option.some.inj q).symm
      subst this
      have : d = .int (lo + (j : Nat)) := (Option.some.inj hd).symm
      subst this
      exact y
  st := fun H h => by
    show n ≤ ((List.range n).map fun i => D.int (lo + (i : Nat))).length
    simp
def okR (i : Int) : Bool := decide (-4611686018427387904 ≤ i) && decide (i < 4611686018427387904)
theorem okR_ok {i : Int} (h : okR i = true) : -(2 ^ 62) ≤ i ∧ i < 2 ^ 62 := by
  unfold okR at h
  rw [Bool.and_eq_true] at h
  have h1 := of_decide_eq_true h.1
  have h2 := of_decide_eq_true h.2
  omega
def argsI (g : List D → Ri) (fa : DA) : DI := fun ρ => match fa ρ with
  | .ok as => if noVw as then g (as.map Ar.d) else .bad
  | .ex c => .ex c
  | .bad => .bad
@[simp] def gRange1 : List D → Ri
  | [.int n] => if okR n then .ok (rangeL 0 n) else .bad
  | _ => .bad
@[simp] def gRange2 : List D → Ri
  | [.int i, .int j] => if okR i && okR j then .ok (rangeL i j) else .bad
  | _ => .bad
@[simp] def lstD : D → Option (List D)
  | .lst ds => some ds
  | _ => none
@[simp] def gZip : List D → Ri
  | [a, b] => match lstD a, lstD b with
    | some xs, some ys => .ok ((xs.zip ys).map fun p => .tup [p.1, p.2])
    | _, _ => .bad
  | _ => .bad
@[simp] def gEnum : List D → Ri
  | [a] => match lstD a with
    | some xs => .ok (xs.zipIdx.map fun p => .tup [.int (p.2 : Nat), p.1])
    | _ => .bad
  | _ => .bad
@[simp] def gRev : List D → Ri
  | [a] => match lstD a with
    | some xs => .ok xs.reverse
    | _ => .bad
  | _ => .bad
theorem argsI_of {g : List D → Ri} {fa : DA} {r : List V → Hp → (It → Hp → Prop) → Prop} (hr : ∀ F H vs ds es R, Same F H → Reps X.K F ds vs → g ds = .ok es → (∀ J, Wk X.K J F es → R J H) → r vs H R) (hx : ∀ ds c, g ds ≠ .ex c) :
    ∀ σ H R, (∃ F0 H0 ρ F cs, RS X.K F0 H0 ρ F σ H cs ∧ postI X W (argsI g fa ρ) F0 H0 ρ σ F H R) → tA X W fa σ H fun vs H1 => r vs H1 R := fun σ H R ⟨F0, H0, ρ, F, cs, RR, p⟩ => by
  refine ⟨F0, H0, ρ, F, cs, RR, ?_⟩
  unfold argsI at p
  cases q : fa ρ with
  | bad => rw [q] at p; exact p
  | ex c => rw [q] at p; exact p
  | ok as =>
    simp only [q] at p
    intro F1 H1 vs c1 e1 r1 n1
    split at p
    · rename_i hv
      obtain ⟨R2, sm, ex2⟩ := RR.shutNew e1 n1
      have rc := areps_shut hv sm (fun c hc => shut_in hc) r1
      cases eg : g (as.map Ar.d) with
      | bad => rw [eg] at p; exact p.elim
      | ex c => exact absurd eg (hx _ _)
      | ok es =>
        rw [eg] at p
        exact hr (DL.shut F1 H1 c1) H1 vs _ es R (shut_same e1.fh) rc eg fun J w => p (DL.shut F1 H1 c1) H1 J cs ex2 R2 w
    · exact p.elim
theorem gi_range1 {tg : Expr} {f : DA} {p : Pos} (hm : X.mg "range" = none) (ha : GA X W [a] f) (hg : Gl X "range" := by rfl) (hs : starEach [a] X.env = [(false, eval a X.env)] := by rfl) : GI X W tg (.Call (.Name "range" p) [a] [] pos) (argsI gRange1 f) := by
  refine PI.imp (pi_range1 hg hm ha hs) fun σ H R h => argsI_of (r := fun vs H1 R => ∃ j : Int, vs = [.int j] ∧ -(2 ^ 62) ≤ j ∧ j < 2 ^ 62 ∧ R (Itr 0 j.toNat) H1) (fun F H vs ds es R fh rs eg k => ?_) (fun ds c h => by unfold gRange1 at h; split at h <;> first | (split at h <;> cases h) | cases h) σ H R h
  unfold gRange1 at eg
  split at eg
  · rename_i n
    split at eg
    · rename_i hn
      cases eg
      obtain ⟨v, r, e1, e2, e3⟩ := rs
      have e2' : v = .int n := e2
      have e3' : r = [] := e3
      subst e1 e2' e3'
      have := okR_ok hn
      refine ⟨n, rfl, this.1, this.2, k _ ?_⟩
      have := wk_range (K := X.K) (F := F) 0 n.toNat
      unfold rangeL
      rw [Int.sub_zero]
      exact this
    · cases eg
  · cases eg
theorem ext_pair {T : Addr} {vs : List V} {ds : List D} (fh : Same F H) (nT : H T = none) (r : Reps K F ds vs) : ∃ F', Ext F H F' (upd H T (.tup vs)) ∧ Rep K F' (.tup ds) (.ref T) := by
  have nf := fh.free nT
  have f2 : Same F (upd F T (.tup vs)) := same_upd' nf
  refine ⟨upd F T (.tup vs), ⟨same_upd' nT, f2, fun b u q => ?_, fun b hb => ?_⟩, T, vs, rfl, upd_same, r.mono f2⟩
  · by_cases h : b = T
    · subst h; rw [upd_same] at q ⊢; exact q
    · rw [upd_ne h] at q ⊢; exact fh b u q
  · have : b ≠ T := fun e => by subst e; exact hb nT
    rw [upd_ne this]
theorem wk_zip {p q : Addr} {vs us : List V} {ds es : List D} (s : SqL K F p vs) (r : Reps K F ds vs) (s2 : SqL K F q us) (r2 : Reps K F es us) : Wk K (Itz K p q) F ((ds.zip es).map fun p => .tup [p.1, p.2]) where
  go := fun i H h hi => by
    have hi' : i < ds.length ∧ i < es.length := by
      have : i < min ds.length es.length := by simpa using hi
      omega
    have h1 : i < vs.length := by rw [← r.len]; exact hi'.1
    have h2 : i < us.length := by rw [← r2.len]; exact hi'.2
    exact ⟨vs, us, vs[i], us[i], sqL_mono h s, sqL_mono h s2, List.getElem?_eq_getElem h1, List.getElem?_eq_getElem h2⟩
  yl := fun i F' H x H' d h1 h2 hd y => by
    obtain ⟨T, x1, x2, rfl, nT, rfl, y1, y2⟩ := y
    rw [List.getElem?_map] at hd
    have hi : i < (ds.zip es).length := by
      cases q : (ds.zip es)[i]? with
      | none => rw [q] at hd; cases hd
      | some z => exact (List.getElem?_eq_some_iff.mp q).1
    have hi' : i < ds.length ∧ i < es.length := by
      have : i < min ds.length es.length := by simpa using hi
      omega
    have gz : (ds.zip es)[i]? = some (ds[i], es[i]) := by
      rw [List.getElem?_eq_getElem hi]
      simp
    rw [gz] at hd
    have hd' : d = .tup [ds[i], es[i]] := (Option.some.inj hd).symm
    subst hd'
    obtain ⟨v1, g1, t1⟩ := r.get (List.getElem?_eq_getElem hi'.1)
    obtain ⟨v2, g2, t2⟩ := r2.get (List.getElem?_eq_getElem hi'.2)
    have z1 := y1 vs (sqL_mono (h1.trans h2) s)
    have z2 := y2 us (sqL_mono (h1.trans h2) s2)
    rw [g1] at z1
    rw [g2] at z2
    cases z1
    cases z2
    exact ext_pair h2 nT ⟨_, _, rfl, t1.mono h1, _, _, rfl, t2.mono h1, rfl⟩
  st := fun H h => by
    refine ⟨vs, us, sqL_mono h s, sqL_mono h s2, ?_⟩
    have : ((ds.zip es).map fun p => D.tup [p.1, p.2]).length = min vs.length us.length := by simp [r.len, r2.len]
    rw [this]
    omega
theorem wk_enum {p : Addr} {vs : List V} {ds : List D} (s : SqL K F p vs) (r : Reps K F ds vs) : Wk K (Ite K p) F (ds.zipIdx.map fun p => .tup [.int (p.2 : Nat), p.1]) where
  go := fun i H h hi => by
    have h1 : i < vs.length := by rw [← r.len]; simpa using hi
    exact ⟨vs, vs[i], sqL_mono h s, List.getElem?_eq_getElem h1⟩
  yl := fun i F' H x H' d h1 h2 hd y => by
    obtain ⟨T, x1, rfl, nT, rfl, y1⟩ := y
    rw [List.getElem?_map, List.getElem?_zipIdx] at hd
    cases q : ds[i]? with
    | none => rw [q] at hd; cases hd
    | some z =>
      rw [q] at hd
      have hd' : d = .tup [.int (i : Nat), z] := by simpa using (Option.some.inj hd).symm
      subst hd'
      obtain ⟨v1, g1, t1⟩ := r.get q
      have z1 := y1 vs (sqL_mono (h1.trans h2) s)
      rw [g1] at z1
      cases z1
      exact ext_pair h2 nT ⟨_, _, rfl, rfl, _, _, rfl, t1.mono h1, rfl⟩
  st := fun H h => ⟨vs, sqL_mono h s, by simp [r.len]⟩
theorem lstD_rep {d : D} {ds v} (h : lstD d = some ds) (r : Rep K F d v) : ∃ a vs, v = .ref a ∧ SqL K F a vs ∧ Reps K F ds vs := by
  cases d <;> first | (cases h; exact r) | cases h
theorem gi_zip {elts : List Expr} {kk : Nat} {tpos p : Pos} {f : DA} (hm : X.mg "zip" = none) (ha : GA X W [a, b] f) (hg : Gl X "zip" := by rfl)
    (hs : starEach [a, b] X.env = (false, eval a X.env) :: starEach [b] X.env := by rfl) (hpl : (backTo pos (starEach [b] X.env)).any (·.1) = false := by rfl) : GI X W (.Tuple elts kk tpos) (.Call (.Name "zip" p) [a, b] [] pos) (argsI gZip f) := by
  refine PI.imp (pi_zip hg hm ha hs hpl) fun σ H R h => argsI_of (r := fun vs H1 R => ∃ a b xs ys, vs = [.ref a, .ref b] ∧ SqL X.K H1 a xs ∧ SqL X.K H1 b ys ∧ R (Itz X.K a b) H1) (fun F H vs ds es R fh rs eg k => ?_) (fun ds c h => by unfold gZip at h; split at h <;> first | (split at h <;> cases h) | cases h) σ H R h
  unfold gZip at eg
  split at eg
  · rename_i x y
    split at eg
    · rename_i xs ys ex ey
      cases eg
      obtain ⟨v, r, e1, e2, u, r', e3, e4, e5⟩ := rs
      have e5' : r' = [] := e5
      obtain ⟨p1, v1, rfl, s1, t1⟩ := lstD_rep ex e2
      obtain ⟨p2, v2, rfl, s2, t2⟩ := lstD_rep ey e4
      subst e1 e3 e5'
      exact ⟨p1, p2, v1, v2, rfl, sqL_mono fh s1, sqL_mono fh s2, k _ (wk_zip s1 t1 s2 t2)⟩
    · cases eg
  · cases eg
theorem gi_enum {elts : List Expr} {kk : Nat} {tpos p : Pos} {f : DA} (hm : X.mg "enumerate" = none) (ha : GA X W [a] f) (hg : Gl X "enumerate" := by rfl) (hs : starEach [a] X.env = [(false, eval a X.env)] := by rfl) : GI X W (.Tuple elts kk tpos) (.Call (.Name "enumerate" p) [a] [] pos) (argsI gEnum f) := by
  refine PI.imp (pi_enum hg hm ha hs) fun σ H R h => argsI_of (r := fun vs H1 R => ∃ a xs, vs = [.ref a] ∧ SqL X.K H1 a xs ∧ R (Ite X.K a) H1) (fun F H vs ds es R fh rs eg k => ?_) (fun ds c h => by unfold gEnum at h; split at h <;> first | (split at h <;> cases h) | cases h) σ H R h
  unfold gEnum at eg
  split at eg
  · rename_i x
    split at eg
    · rename_i xs ex
      cases eg
      obtain ⟨v, r, e1, e2, e5⟩ := rs
      have e5' : r = [] := e5
      obtain ⟨p1, v1, rfl, s1, t1⟩ := lstD_rep ex e2
      subst e1 e5'
      exact ⟨p1, v1, rfl, sqL_mono fh s1, k _ (wk_enum s1 t1)⟩
    · cases eg
  · cases eg
def turnS (b : DB) (f : DS) (is : List Nat) (d : D) : DS := fun ρ => match b d ρ with
  | some ρ' => match f ρ' with
    | .nx ρ2 => .nx (forget is ρ2)
    | .ct ρ2 => .nx (forget is ρ2)
    | r => r
  | none => .bad
def loopS (t : D → DS) : List D → DS
  | [], ρ => .nx ρ
  | d :: ds, ρ => match t d ρ with
    | .nx ρ' => loopS t ds ρ'
    | .bk ρ' => .nx ρ'
    | .ct _ => .bad
    | r => r
def forS (fi : DI) (b : DB) (f : DS) (is : List Nat) : DS := fun ρ => match fi ρ with
  | .ok ds => loopS (turnS b f is) ds ρ
  | .ex c => .ex c ρ
  | .bad => .bad
theorem gs_for {tg it : Expr} {body : List Stmt} {fi : DI} {b : DB} {k : Nat} (is : List Nat) (hp : PassesOwn (model X.prog X.w) X.A X.env X.xe) (C : Cc X W k) (hi : GI X W tg it fi) (hg : GG X tg b) (hb : GSs X W body f)
    (hs : ∀ x, foldedSetIterable it X.env x = pure x := by intro _; rfl) : GS X W (.For tg it body [] pos) (forS fi b f is) := by
  refine PS.imp (ps_for hp C.calm hi hg hb hs) fun D σ H ⟨F0, H0, ρ, F, cs, R, p⟩ => ?_
  refine ⟨F0, H0, ρ, F, cs, R, ?_⟩
  unfold forS at p
  cases q : fi ρ with
  | bad => rw [q] at p; exact p
  | ex c => rw [q] at p; exact fun F2 H2 C e m => p F2 H2 σ cs C e.ff (R.ext e) m
  | ok ds =>
    simp only [q] at p
    intro F1 H1 J cs1 x1 R1 wk
    have s1 := x1.ff
    refine ⟨fun i m σ H => m = ds.length - i ∧ i ≤ ds.length ∧ ∃ ρ F cs, Same F1 F ∧ RS X.K F0 H0 ρ F σ H cs ∧ postS X W (loopS (turnS b f is) (ds.drop i) ρ) F0 H0 F D, ⟨ds.length, by simp, Nat.zero_le _, ρ, F1, cs1, Same.refl _, R1, by rw [List.drop_zero]; exact postS_same s1 p⟩, ?_⟩
    rintro i m σ2 H2 ⟨rfl, hi, ρ2, F2, cs2, s2, R2, p2⟩
    by_cases hlt : i < ds.length
    · refine .inr ⟨wk.go i H2 (s2.trans R2.fh) hlt, fun σ3 H3 => ∃ ρ F cs, Same F1 F ∧ RS X.K F0 H0 ρ F σ3 H3 cs ∧ postS X W (loopS (turnS b f is) (ds.drop (i + 1)) ρ) F0 H0 F D, fun σ' H' ⟨ρ, F, cs, a, b, c⟩ => ⟨ds.length - (i + 1), by omega, rfl, hlt, ρ, F, cs, a, b, c⟩, fun x H' y => ?_⟩
      have hd : ds[i]? = some ds[i] := List.getElem?_eq_getElem hlt
      obtain ⟨F3, e3, r3⟩ := wk.yl i F2 H2 x H' ds[i] s2 R2.fh hd y
      have R3 := R2.ext e3
      have p3 := postS_same e3.ff p2
      rw [List.drop_eq_getElem_cons hlt] at p3
      unfold loopS turnS at p3
      cases eb : b ds[i] ρ2 with
      | none => simp only [eb] at p3; exact p3.elim
      | some ρ3 =>
        simp only [eb] at p3
        refine ⟨F0, H0, ρ2, F3, cs2, ds[i], ρ3, R3, r3, eb, fun F4 σ4 cs4 s4 R4 => ⟨F0, H0, ρ3, F4, cs4, R4, ?_⟩⟩
        have sA : Same F1 F4 := (s2.trans e3.ff).trans s4
        cases ef : f ρ3 with
        | bad => simp only [ef] at p3; exact p3.elim
        | ex c ρ4 => simp only [ef] at p3; exact fun F5 H5 σ5 cs5 C5 s5 R5 m => p3 F5 H5 σ5 cs5 C5 (s4.trans s5) R5 m
        | rt o => simp only [ef] at p3; exact p3
        | rw o ps => simp only [ef] at p3; exact p3
        | bk ρ4 => simp only [ef] at p3; exact fun F5 H5 σ5 cs5 s5 R5 => p3 F5 H5 σ5 cs5 (s4.trans s5) R5
        | nx ρ4 =>
          simp only [ef] at p3
          intro F5 H5 σ5 cs5 s5 R5
          obtain ⟨cs6, R6⟩ := R5.forget is
          exact ⟨_, F5, cs6, sA.trans s5, R6, postS_same (s4.trans s5) p3⟩
        | ct ρ4 =>
          simp only [ef] at p3
          intro F5 H5 σ5 cs5 s5 R5
          obtain ⟨cs6, R6⟩ := R5.forget is
          exact ⟨_, F5, cs6, sA.trans s5, R6, postS_same (s4.trans s5) p3⟩
    · have e : i = ds.length := by omega
      subst e
      rw [List.drop_length] at p2
      exact .inl ⟨wk.st H2 (s2.trans R2.fh), p2 F2 H2 σ2 cs2 (Same.refl _) R2⟩
end
end DL
namespace DL
open PySem PySem.Spec L2
variable {K : PySem.W.Frag} {F F' H H' H0 F0 F1 H1 : Hp} {cs cs' : List Addr} {σ σ' : L2.St} {ρ ρ' : Rho}
abbrev W0 : WX := fun _ _ _ _ => False
theorem wipe_set_in : ∀ {vs : List Nat} {i : Nat} {x : Option V} {σ : L2.St}, i ∈ vs → wipe (σ.set i x) vs = wipe σ vs
  | [], i, x, σ, h => by cases h
  | v :: vs, i, x, σ, h => by
    unfold wipe
    by_cases hv : i ∈ vs
    · rw [wipe_set_in hv]
    · have e : i = v := by
        rcases List.mem_cons.mp h with e | h
        · exact e
        · exact absurd h hv
      subst e
      have : ∀ (vs : List Nat) (σ : L2.St), i ∉ vs → wipe (σ.set i x) vs = (wipe σ vs).set i x := by
        intro vs
        induction vs with
        | nil => intro σ _; rfl
        | cons w ws ih =>
          intro σ hn
          have h1 : i ≠ w := fun e => hn (by rw [e]; exact List.mem_cons_self)
          have h2 : i ∉ ws := fun h => hn (List.mem_cons_of_mem _ h)
          unfold wipe
          rw [ih σ h2, List.set_comm _ _ h1]
      rw [this vs σ hv, List.set_set]
theorem wipe_wipe (σ : L2.St) (vs : List Nat) : L2.wipe (L2.wipe σ vs) vs = L2.wipe σ vs := by
  have idem : ∀ (ws : List Nat) (τ : L2.St), (∀ i ∈ ws, ∀ x, τ[i]? = some x → x = none) → L2.wipe τ ws = τ := by
    intro ws
    induction ws with
    | nil => intro τ _; rfl
    | cons w ws ih =>
      intro τ h
      unfold L2.wipe
      rw [ih τ fun i hi => h i (List.mem_cons_of_mem _ hi)]
      by_cases hw : w < τ.length
      · have : τ[w] = none := h w List.mem_cons_self _ (List.getElem?_eq_getElem hw)
        rw [← this]; simp
      · exact List.set_eq_of_length_le (Nat.le_of_not_lt hw)
  refine idem vs _ fun j hj x hx => ?_
  cases x with
  | none => rfl
  | some v => exact absurd hj (wipe_some hx).2
theorem Slots.setNone : ∀ {ρ : Rho} {σ : L2.St} {cs} {i : Nat} {x : Option V}, Slots K F H ρ σ cs → ρ[i]? = some none → Slots K F H ρ (σ.set i x) cs
  | [], _, _, i, x, ⟨e, e2⟩, h => by simp at h
  | o :: ρ, _, _, 0, x, ⟨y, r, c1, c2, e1, e2, p, q⟩, h => by
    have : o = none := by simpa using h
    subst this e1
    exact ⟨x, r, c1, c2, rfl, e2, p, q⟩
  | o :: ρ, _, _, i + 1, x, ⟨y, r, c1, c2, e1, e2, p, q⟩, h => by
    subst e1
    exact ⟨y, r.set i x, c1, c2, rfl, e2, p, Slots.setNone q (by simpa using h)⟩
theorem Slots.setOut {ρ : Rho} {σ : L2.St} {cs} {i : Nat} {x : Option V} (h : Slots K F H ρ σ cs) (hi : ρ.length ≤ i) : Slots K F H ρ (σ.set i x) cs := by
  have : σ.set i x = σ := List.set_eq_of_length_le (by rw [h.len]; exact hi)
  rw [this]; exact h
theorem forget_len : ∀ (is : List Nat) (ρ : Rho), (forget is ρ).length = ρ.length
  | [], ρ => rfl
  | i :: is, ρ => by unfold forget; rw [forget_len is]; simp
theorem forget_keep : ∀ (is : List Nat) {ρ : Rho} {i : Nat}, ρ[i]? = some none → (forget is ρ)[i]? = some none
  | [], _, _, h => h
  | j :: is, ρ, i, h => by
    unfold forget
    refine forget_keep is ?_
    by_cases e : j = i
    · subst e
      rw [List.getElem?_set_self (List.getElem?_eq_some_iff.mp h).1]
    · rw [List.getElem?_set_ne e]; exact h
theorem forget_at : ∀ {is : List Nat} {ρ : Rho} {i : Nat}, i ∈ is → i < ρ.length → (forget is ρ)[i]? = some none
  | j :: is, ρ, i, h, hl => by
    unfold forget
    by_cases e : j = i
    · subst e
      exact forget_keep is (List.getElem?_set_self hl)
    · rcases List.mem_cons.mp h with h | h
      · exact absurd h.symm e
      · exact forget_at h (by simpa using hl)
theorem RS.wipe : ∀ (vs : List Nat), RS K F0 H0 ρ F σ H cs → (∀ i ∈ vs, i < ρ.length → ρ[i]? = some none) → RS K F0 H0 ρ F (L2.wipe σ vs) H cs
  | [], R, _ => R
  | v :: vs, R, h => by
    have R1 := RS.wipe vs R fun i hi => h i (List.mem_cons_of_mem _ hi)
    unfold L2.wipe
    by_cases hv : v < ρ.length
    · exact ⟨R1.fh, R1.f0, R1.nw, R1.h0, R1.sl.setNone (h v List.mem_cons_self hv), R1.nd, R1.cf⟩
    · exact ⟨R1.fh, R1.f0, R1.nw, R1.h0, R1.sl.setOut (Nat.le_of_not_lt hv), R1.nd, R1.cf⟩
theorem RS.outCell {D : Addr} {u : HO} (R : RS K F0 H0 ρ F σ H cs) (h1 : D ∉ cs) (h2 : F D = none) (h3 : H0 D = none) : RS K F0 H0 ρ F σ (upd H D u) cs :=
  ⟨fun b o q => by rw [upd_ne (ne_of_none q h2)]; exact R.fh b o q, R.f0, R.nw, fun b o q => by rw [upd_ne (ne_of_none q h3)]; exact R.h0 b o q,
    R.sl.frame (Same.refl _) fun c hc => upd_ne fun e => h1 (e ▸ hc), R.nd, R.cf⟩
section
variable {X : Cx} {W : WX} {pos : Pos} {a b c e : Expr} {fa fb fc fe : DE} {f g : DS}
def GC (X : Cx) (tg : Expr) (vs : List Nat) (b : DB) : Prop := PG X tg (fun v σ H Q => ∃ F0 H0 ρ F cs d ρ', RS X.K F0 H0 ρ F σ H cs ∧ Rep X.K F d v ∧ b d ρ = some ρ' ∧ ∀ σ' cs', wipe σ' vs = wipe σ vs → RS X.K F0 H0 ρ' F σ' H cs' → Q σ' H)
theorem gc_name {i : Nat} {x : Str} {vs : List Nat} (nd : X.N.Nodup) (hm : i ∈ vs := by decide) (hi : X.N[i]? = some x := by rfl) (hx : Loc X.env.scope x := by first | exact Or.inl rfl | exact Or.inr rfl) (hf : X.fn x = true ∨ X.env.scope.names.lookup x = some .local := by first | exact .inl rfl | exact .inr rfl) : GC X (.Name x pos) vs (nameB i) := by
  refine PG.imp (pg_name nd hi hx hf) fun v σ H Q ⟨F0, H0, ρ, F, cs, d, ρ', R, r, e, k⟩ => ?_
  unfold nameB at e
  split at e
  · rename_i hl
    cases e
    obtain ⟨cs2, R2⟩ := R.set (o := .fz d) (cs' := []) (Ext.refl R.fh) ⟨rfl, r⟩ New.nil hl
    exact k _ cs2 (wipe_set_in hm) R2
  · cases e
def GCs (X : Cx) (ts : List Expr) (ws : List Nat) (b : DBs) : Prop := PGs X ts (fun vs σ H Q => ∃ F0 H0 ρ F cs ds ρ', RS X.K F0 H0 ρ F σ H cs ∧ Reps X.K F ds vs ∧ b ds ρ = some ρ' ∧ ∀ σ' cs', wipe σ' ws = wipe σ ws → RS X.K F0 H0 ρ' F σ' H cs' → Q σ' H)
theorem gcs_nil {ws : List Nat} : GCs X [] ws nilB := by
  refine PGs.imp pgs_nil fun vs σ H Q ⟨F0, H0, ρ, F, cs, ds, ρ', R, r, e, k⟩ => ?_
  unfold nilB at e
  split at e
  · cases e
    exact ⟨r, k σ cs rfl R⟩
  · cases e
theorem gcs_cons {tg : Expr} {ts : List Expr} {b : DB} {bs : DBs} {ws : List Nat} (h1 : GC X tg ws b) (h2 : GCs X ts ws bs)
    (hs : (assignEach (tg :: ts) X.env).map (·.2) = assign tg X.env :: (assignEach ts X.env).map (·.2) := by rfl) : GCs X (tg :: ts) ws (consB b bs) := by
  refine PGs.imp (pgs_cons h1 h2 hs) fun vs σ H Q ⟨F0, H0, ρ, F, cs, ds, ρ', R, r, e, k⟩ => ?_
  unfold consB at e
  split at e
  · rename_i d ds
    split at e
    · rename_i ρ1 e1
      obtain ⟨v, r', ev, x, y⟩ := r
      exact ⟨v, r', ev, F0, H0, ρ, F, cs, d, ρ1, R, x, e1, fun σ1 cs1 w1 R1 => ⟨F0, H0, ρ1, F, cs1, ds, ρ', R1, y, e, fun σ2 cs2 w2 R2 => k σ2 cs2 (w2.trans w1) R2⟩⟩
    · cases e
  · cases e
theorem gc_tup {es : List Expr} {k : Nat} {bs : DBs} {n : Nat} {ws : List Nat} (hc : X.calm = true) (h : GCs X es ws bs)
    (hn : (assignEach es X.env).length = n := by rfl) (hst : (assignEach es X.env).findIdx? (·.1) = none := by rfl) : GC X (.Tuple es k pos) ws (tupB n bs) := by
  refine PG.imp (pg_tup hc h hn hst) fun v σ H Q ⟨F0, H0, ρ, F, cs, d, ρ', R, r, e, k⟩ => ?_
  unfold tupB at e
  split at e
  · rename_i ds
    split at e
    · rename_i hl
      obtain ⟨p, vs, ev, s, t⟩ := r
      exact ⟨p, vs, ev, SqT.of (R.fh _ _ s), by rw [← t.len]; exact hl, F0, H0, ρ, F, cs, ds, ρ', R, t, e, k⟩
    · cases e
  · cases e
def GTs (X : Cx) (ifs : List Expr) (f : DT) : Prop := PTs X ifs (tT X W0 f)
theorem PTs.imp {X : Cx} {e : List Expr} {t t' : TT} (h : PTs X e t) (i : ∀ σ H Q, t' σ H Q → t σ H Q) : PTs X e t' := ⟨fun p s σ H Q I q => h.run p s σ H Q I (i σ H Q q)⟩
def yesT : DT := fun _ => .ok true
theorem gts_nil : GTs X [] yesT := PTs.imp pts_nil fun σ H Q ⟨F0, H0, ρ, F, cs, R, p⟩ => p F H (Ext.refl R.fh)
theorem gts_one {ct : DT} (h : GT X W0 c ct) : GTs X [c] ct := pts_one h
inductive Rt where
  | item (o : O) | skip | bad
  deriving Inhabited
def itemT (b : DB) (ct : DT) (fe : DE) (ρ : Rho) (d : D) : Rt := match b d ρ with
  | some ρ' => match ct ρ' with
    | .ok true => match fe ρ' with
      | .ok (.ow o) => .item o
      | _ => .bad
    | .ok false => .skip
    | _ => .bad
  | none => .bad
def compL (t : D → Rt) : List D → List O → Rs
  | [], acc => .ok (.ow (.lst acc))
  | d :: ds, acc => match t d with
    | .item o => compL t ds (acc ++ [o])
    | .skip => compL t ds acc
    | .bad => .bad
def compE (fi : DI) (b : DB) (ct : DT) (fe : DE) (vs : List Nat) : DE := fun ρ => match fi ρ with
  | .ok ds => if okLen ds.length then compL (itemT b ct fe (forget vs ρ)) ds [] else .bad
  | .ex c => .ex c
  | .bad => .bad
theorem tLc_of {tg it elt : Expr} {X' : Cx} {fi : DI} {b : DB} {ct : DT} {vs : List Nat} (hK : X'.K = X.K) : ∀ σ H Q, tE X W (compE fi b ct fe vs) σ H Q →
    tLc (fun σ H R => ∃ F0 H0 ρ F cs, RS X.K F0 H0 ρ F σ H cs ∧ postI X W (fi ρ) F0 H0 ρ σ F H R)
      (fun v σ H Q => ∃ F0 H0 ρ F cs d ρ', RS X'.K F0 H0 ρ F σ H cs ∧ Rep X'.K F d v ∧ b d ρ = some ρ' ∧ ∀ σ' cs', wipe σ' vs = wipe σ vs → RS X'.K F0 H0 ρ' F σ' H cs' → Q σ' H) (tT X' W0 ct) (tE X' W0 fe) vs σ H Q := fun σ H Q ⟨F0, H0, ρ, F, cs, R, p⟩ => by
  rw [hK]
  refine ⟨F0, H0, ρ, F, cs, R, ?_⟩
  unfold compE at p
  cases q : fi ρ with
  | bad => rw [q] at p; exact p
  | ex c => rw [q] at p; exact p
  | ok ds =>
    simp only [q] at p
    intro F1 H1 J cs1 x1 R1 wk D nD
    split at p
    · rename_i hlen
      have hz := okLen_le hlen
      have hD1 : D ∉ cs1 := fun h => R1.sl.there D h nD
      have hD0 : H0 D = none := R1.h0.free nD
      refine ⟨fun i m H2 => m = ds.length - i ∧ i ≤ ds.length ∧ ∃ F2 acc vsa cD, Same F1 F2 ∧ RS X.K F0 H0 ρ F2 σ H2 cs1 ∧ Same H1 H2 ∧ (∀ a, H1 a ≠ none → F2 a = F1 a) ∧ H2 D = some (.lst vsa) ∧ OReps X.K F2 H2 acc vsa cD ∧ (D :: cD).Nodup ∧
        (∀ c ∈ D :: cD, H1 c = none ∧ F2 c = none) ∧ acc.length ≤ i ∧ post X W (compL (itemT b ct fe (forget vs ρ)) (ds.drop i) acc) σ F H Q,
        ⟨ds.length, by simp, Nat.zero_le _, F1, [], [], [], Same.refl _, R1.outCell hD1 (R1.fh.free nD) hD0, same_upd' nD, fun _ _ => rfl, upd_same, ⟨rfl, rfl⟩, by simp, fun c hc => by
          have : c = D := by simpa using hc
          subst this
          exact ⟨nD, R1.fh.free nD⟩, Nat.zero_le _, by rw [List.drop_zero]; exact p⟩, ?_⟩
      rintro i m H2 ⟨rfl, hi, F2, acc, vsa, cD, s2, R2, sh2, nw2, hD, rD, nd2, cf2, hacc, p2⟩
      by_cases hlt : i < ds.length
      · refine .inr ⟨wk.go i H2 (s2.trans R2.fh) hlt, fun H3 => ∃ F2 acc vsa cD, Same F1 F2 ∧ RS X.K F0 H0 ρ F2 σ H3 cs1 ∧ Same H1 H3 ∧ (∀ a, H1 a ≠ none → F2 a = F1 a) ∧ H3 D = some (.lst vsa) ∧ OReps X.K F2 H3 acc vsa cD ∧ (D :: cD).Nodup ∧
          (∀ c ∈ D :: cD, H1 c = none ∧ F2 c = none) ∧ acc.length ≤ i + 1 ∧ post X W (compL (itemT b ct fe (forget vs ρ)) (ds.drop (i + 1)) acc) σ F H Q, fun H' h => ⟨ds.length - (i + 1), by omega, rfl, hlt, h⟩, fun x H3 y => ?_⟩
        have hd : ds[i]? = some ds[i] := List.getElem?_eq_getElem hlt
        obtain ⟨F3, e3, r3⟩ := wk.yl i F2 H2 x H3 ds[i] s2 R2.fh hd y
        obtain ⟨csw, Rw⟩ := (R2.ext e3).forget vs
        have Rw2 := Rw.wipe vs fun j hj hl => forget_at hj (by rw [forget_len] at hl; exact hl)
        rw [List.drop_eq_getElem_cons hlt] at p2
        unfold compL itemT at p2
        cases eb : b ds[i] (forget vs ρ) with
        | none => simp only [eb] at p2; exact p2.elim
        | some ρ3 =>
          simp only [eb] at p2
          refine ⟨F0, H0, _, F3, csw, ds[i], ρ3, Rw2, r3, eb, fun σ4 cs4 w4 R4 => ⟨w4.trans (wipe_wipe σ vs), F0, H0, ρ3, F3, cs4, by rw [hK]; exact R4, ?_⟩⟩
          cases ec : ct ρ3 with
          | bad => simp only [ec] at p2; exact p2.elim
          | ex k => simp only [ec] at p2; exact p2.elim
          | ok k =>
            intro F5 H5 e5
            have e25 := e3.trans e5
            cases k with
            | false =>
              simp only [ec] at p2
              rw [if_neg (by decide)]
              have nn : ∀ c ∈ D :: cD, H2 c ≠ none := fun c hc => by
                rcases List.mem_cons.mp hc with rfl | h
                · rw [hD]; exact fun h => nomatch h
                · exact rD.there c h
              exact ⟨F5, acc, vsa, cD, s2.trans e25.ff, R2.ext e25, sh2.trans e25.hh, fun a ha => by
                have : H2 a ≠ none := by
                  cases q : H1 a with
                  | none => exact absurd q ha
                  | some u => rw [sh2 a u q]; exact fun h => nomatch h
                rw [e25.nw a this]; exact nw2 a ha, e25.hh _ _ hD, rD.frame e25.ff fun c hc => e25.there (rD.there c hc), nd2, fun c hc => ⟨(cf2 c hc).1, e25.nf (nn c hc) (cf2 c hc).2⟩, by omega, p2⟩
            | true =>
              simp only [ec] at p2
              rw [if_pos rfl]
              refine ⟨F0, H0, ρ3, F5, cs4, by rw [hK]; exact R4.ext e5, ?_⟩
              cases ee : fe ρ3 with
              | bad => simp only [ee] at p2; exact p2.elim
              | ex k => simp only [ee] at p2; exact p2.elim
              | ok y =>
                cases y with
                | vw o => simp only [ee] at p2; exact p2.elim
                | ow o =>
                  simp only [ee] at p2
                  intro F6 H6 z c6 e6 r6 n6
                  rw [hK] at r6
                  have e26 := e25.trans e6
                  have nn : ∀ c ∈ D :: cD, H2 c ≠ none := fun c hc => by
                    rcases List.mem_cons.mp hc with rfl | h
                    · rw [hD]; exact fun h => nomatch h
                    · exact rD.there c h
                  have n62 : ∀ c ∈ c6, H2 c = none := fun c hc => e25.hh.free (n6.nw c hc).1
                  have dj : ∀ c ∈ c6, c ∉ D :: cD := fun c hc h => nn c h (n62 c hc)
                  have hD6 : F6 D = none := e26.nf (nn D List.mem_cons_self) (cf2 D List.mem_cons_self).2
                  refine ⟨vsa, e26.hh _ _ hD, by have := rD.len; omega, F6, acc ++ [o], vsa ++ [z], cD ++ c6, s2.trans e26.ff, (R2.ext e26).outCell hD1 hD6 hD0, fun b u q => ?_, fun a ha => ?_, upd_same, ?_, ?_, fun c hc => ?_, ?_, p2⟩
                  · rw [upd_ne (ne_of_none q nD)]
                    exact e26.hh b u (sh2 b u q)
                  · have : H2 a ≠ none := by
                      cases q : H1 a with
                      | none => exact absurd q ha
                      | some u => rw [sh2 a u q]; exact fun h => nomatch h
                    rw [e26.nw a this]; exact nw2 a ha
                  · have ndD : D ∉ cD := (List.nodup_cons.mp nd2).1
                    refine OReps.append ((rD.frame e26.ff fun c hc => e26.there (rD.there c hc)).frame (Same.refl _) fun c hc => upd_ne fun e => ndD (e ▸ hc)) (OReps.one (r6.frame (Same.refl _) fun c hc => upd_ne fun e => dj c hc (by rw [e]; exact List.mem_cons_self)))
                  · have : (D :: (cD ++ c6)) = (D :: cD) ++ c6 := rfl
                    rw [this, List.nodup_append]
                    exact ⟨nd2, n6.nd, fun a ha b hb e => dj b hb (e ▸ ha)⟩
                  · have : c ∈ (D :: cD) ++ c6 := hc
                    rcases List.mem_append.mp this with h | h
                    · exact ⟨(cf2 c h).1, e26.nf (nn c h) (cf2 c h).2⟩
                    · exact ⟨sh2.free (n62 c h), (n6.nw c h).2⟩
                  · rw [List.length_append, List.length_singleton]; omega
      · have e : i = ds.length := by omega
        subst e
        rw [List.drop_length] at p2
        exact .inl ⟨wk.st H2 (s2.trans R2.fh), p2 F2 H2 (.ref D) (D :: cD) ⟨x1.hh.trans sh2, x1.ff.trans s2, R2.fh, fun a ha => by
          have : H1 a ≠ none := by rw [x1.there ha]; exact ha
          rw [nw2 a this]; exact x1.nw a ha⟩ ⟨D, vsa, cD, rfl, rfl, hD, rD⟩ ⟨nd2, fun c hc => ⟨x1.hh.free (cf2 c hc).1, (cf2 c hc).2⟩⟩⟩
    · exact p.elim
theorem ge_lc {elt tg iter : Expr} {ifs : List Expr} {scope : Scope} {own : List (Str × Nat)} {fi : DI} {b : DB} {ct : DT} {k : Nat} (C : Cc X W k) (hi : GI X W tg iter fi) (ok : BlkOk X.N X.env.scope scope own)
    (hg : ∀ X' : Cx, (∃ s H C cl fp, X' = X.blk s H scope (compEnvC scope cl C X.env) fp) → Cc X' W0 k → GC X' tg (own.map (·.2)) b ∧ GTs X' ifs ct ∧ GE X' W0 elt fe)
    (hs : ∀ x, foldedSetIterable iter X.env x = pure x := by intro _; rfl) : GE X W (.ListComp elt [⟨tg, iter, ifs, 0⟩] scope pos) (compE fi b ct fe (own.map (·.2))) := by
  have cc : ∀ s H C0 cl fp, Cc (X.blk s H scope (compEnvC scope cl C0 X.env) fp) W0 k := fun s H C0 cl fp => ⟨C.calm, C.room, C.nd, fun σ pins H s e s' I h => by
    obtain ⟨_, _, _, _, _, _, _, _, _, _, _, _, z⟩ := h
    exact z.elim⟩
  exact PE.imp (pe_lc (g := fun v σ H Q => ∃ F0 H0 ρ F cs d ρ', RS X.K F0 H0 ρ F σ H cs ∧ Rep X.K F d v ∧ b d ρ = some ρ' ∧ ∀ σ' cs', wipe σ' (own.map (·.2)) = wipe σ (own.map (·.2)) → RS X.K F0 H0 ρ' F σ' H cs' → Q σ' H) (tt := tT X W0 ct) (te := tE X W0 fe) C.calm C.nd hi ok (fun s H C0 cl fp => (hg _ ⟨s, H, C0, cl, fp, rfl⟩ (cc s H C0 cl fp)).1) (fun s H C0 cl fp => (hg _ ⟨s, H, C0, cl, fp, rfl⟩ (cc s H C0 cl fp)).2.1) (fun s H C0 cl fp => (hg _ ⟨s, H, C0, cl, fp, rfl⟩ (cc s H C0 cl fp)).2.2) hs) (tLc_of (X' := X) (tg := tg) (it := iter) (elt := elt) rfl)
end
end DL
namespace DL
open PySem PySem.Spec L2
variable {K : PySem.W.Frag} {F F' H H' H0 F0 F1 H1 : Hp} {cs cs' : List Addr} {σ σ' : L2.St} {ρ ρ' : Rho}
structure Cb (X : Cx) (W : WX) (k : Nat) : Prop where
  cc : Cc X W k
  own : PassesOwn (model X.prog X.w) X.A X.env X.xe
  tk : Takes X W
section
variable {X : Cx} {W : WX} {pos : Pos} {a b c e : Expr} {fa fb fc fe : DE} {f g : DS} {k : Nat}
theorem gs_setLc {i : Nat} {y : Str} {py : Pos} {elt tg iter : Expr} {ifs : List Expr} {scope : Scope} {own : List (Str × Nat)} {spos : Pos} {fi : DI} {bd : DB} {ct : DT} (C : Cc X W k) (hi : GI X W tg iter fi) (ok : BlkOk X.N X.env.scope scope own)
    (hg : ∀ X' : Cx, (∃ s H C cl fp, X' = X.blk s H scope (compEnvC scope cl C X.env) fp) → Cc X' W0 k → GC X' tg (own.map (·.2)) bd ∧ GTs X' ifs ct ∧ GE X' W0 elt fe)
    (hy : X.N[i]? = some y := by rfl) (hyl : X.env.scope.names.lookup y = some .local := by rfl)
    (hsw : swapsWith (.ListComp elt [⟨tg, iter, ifs, 0⟩] scope pos) (some (.Name y py)) spos.line X.env = pure true := by exact sw_true rfl rfl rfl (by decide +kernel))
    (hs : ∀ x, foldedSetIterable iter X.env x = pure x := by intro _; rfl) : GS X W (.Assign [.Name y py] (.ListComp elt [⟨tg, iter, ifs, 0⟩] scope pos) spos) (setS i (compE fi bd ct fe (own.map (·.2)))) := by
  have cc : ∀ s H C0 cl fp, Cc (X.blk s H scope (compEnvC scope cl C0 X.env) fp) W0 k := fun s H C0 cl fp => ⟨C.calm, C.room, C.nd, fun σ pins H s e s' I h => by
    obtain ⟨_, _, _, _, _, _, _, _, _, _, _, _, z⟩ := h
    exact z.elim⟩
  refine PS.imp (ps_setLc (g := fun v σ H Q => ∃ F0 H0 ρ F cs d ρ', RS X.K F0 H0 ρ F σ H cs ∧ Rep X.K F d v ∧ bd d ρ = some ρ' ∧ ∀ σ' cs', wipe σ' (own.map (·.2)) = wipe σ (own.map (·.2)) → RS X.K F0 H0 ρ' F σ' H cs' → Q σ' H) (tt := tT X W0 ct) (te := tE X W0 fe) C.calm C.nd hy hyl hsw hi ok (fun s H C0 cl fp => (hg _ ⟨s, H, C0, cl, fp, rfl⟩ (cc s H C0 cl fp)).1) (fun s H C0 cl fp => (hg _ ⟨s, H, C0, cl, fp, rfl⟩ (cc s H C0 cl fp)).2.1) (fun s H C0 cl fp => (hg _ ⟨s, H, C0, cl, fp, rfl⟩ (cc s H C0 cl fp)).2.2) hs) fun D σ H h => ?_
  have h' := tAsg_of D σ H h
  exact tLc_of (X := X) (X' := X) (tg := tg) (it := iter) (elt := elt) (W := W) rfl σ H _ h'
structure XOk (K : PySem.W.Frag) (mg : Str → Option Value) (x : Str) : Prop where
  ex : ∃ (C : Addr) (B newId initId : String) (bmB : List Value), ExcBaseFacts B newId initId bmB ∧ PySem.W.excIn K C bmB newId = true ∧ mg x = some (.ref C) ∧ PySem.W.keepIn K (.ref C) = true ∧ PySem.W.subIn K (.ref C) (.type "BaseException") = some true ∧ PySem.W.typeIn K (.ref C) = some (.type "type")
def raiseS (x : Str) : DS := fun ρ => .ex x ρ
theorem gs_raise {x m : Str} {j : Nat} {p p2 pos2 : Pos} (C : Cb X W k) (xo : XOk X.K X.mg x) (hg : Gl X x := by rfl) (hdb : (x == ("__debug__" : Str)) = false := by decide) : GS X W (.Raise (some (.Call (.Name x p) [.Constant (.str m) j p2] [] pos2)) none pos) (raiseS x) := by
  obtain ⟨Ca, B, newId, initId, bmB, hF, q, gC, kC, h1, h2⟩ := xo.ex
  refine PS.imp (ps_raise C.cc.calm C.tk (pmk_own hF q gC kC (raises_own h1 h2) hg hdb)) fun D σ H ⟨F0, H0, ρ, F, cs, R, p⟩ => ?_
  exact p F H σ cs Ca (Same.refl _) R gC
def replD {κ : Type} [DecidableEq κ] : List κ → List D → κ → D → List D
  | k' :: ks, d' :: ds, k, d => (if k' = k then d else d') :: replD ks ds k d
  | _, ds, _, _ => ds
def putD {κ : Type} [DecidableEq κ] (ks : List κ) (ds : List D) (k : κ) (d : D) : List κ × List D := if k ∈ ks then (ks, replD ks ds k d) else (ks ++ [k], ds ++ [d])
def replV {κ : Type} [DecidableEq κ] : List κ → List V → κ → V → List V
  | k' :: ks, v' :: vs, k, v => (if k' = k then v else v') :: replV ks vs k v
  | _, vs, _, _ => vs
theorem replV_len {κ : Type} [DecidableEq κ] : ∀ (ks : List κ) (vs : List V) (k : κ) (v : V), (replV ks vs k v).length = vs.length
  | [], vs, _, _ => by cases vs <;> rfl
  | _ :: _, [], _, _ => rfl
  | k' :: ks, v' :: vs, k, v => by unfold replV; rw [List.length_cons, List.length_cons, replV_len ks vs k v]
theorem repl_reps {κ : Type} [DecidableEq κ] : ∀ {ks : List κ} {ds : List D} {vs : List V} {k : κ} {d : D} {v : V}, Reps K F ds vs → Rep K F d v → Reps K F (replD ks ds k d) (replV ks vs k v)
  | [], ds, vs, k, d, v, r, _ => by cases ds <;> cases vs <;> exact r
  | _ :: _, [], vs, k, d, v, e, _ => by cases (show vs = [] from e); rfl
  | k' :: ks, d' :: ds, _, k, d, v, ⟨v', r, e, x, y⟩, h => by
    subst e
    unfold replD replV
    refine ⟨_, _, rfl, ?_, repl_reps y h⟩
    split
    · exact h
    · exact x
theorem zip_any {κ : Type} [DecidableEq κ] (k : κ) : ∀ {ks : List κ} {vs : List V}, ks.length = vs.length → (((ks.zip vs).any fun kv => decide (kv.1 = k)) = true ↔ k ∈ ks)
  | [], [], _ => by simp
  | k' :: ks, v :: vs, h => by
    rw [List.zip_cons_cons, List.any_cons, Bool.or_eq_true, zip_any k (by simpa using h), List.mem_cons]
    simp [eq_comm]
  | [], _ :: _, h => by cases h
  | _ :: _, [], h => by cases h
theorem zip_repl {κ : Type} [DecidableEq κ] (k : κ) (v : V) : ∀ {ks : List κ} {vs : List V}, ks.length = vs.length → ((ks.zip vs).map fun kv => if kv.1 = k then (kv.1, v) else kv) = ks.zip (replV ks vs k v)
  | [], [], _ => rfl
  | k' :: ks, v' :: vs, h => by
    unfold replV
    rw [List.zip_cons_cons, List.map_cons, List.zip_cons_cons, zip_repl k v (by simpa using h)]
    congr 1
    show (if k' = k then (k', v) else (k', v')) = _
    split <;> rfl
  | [], _ :: _, h => by cases h
  | _ :: _, [], h => by cases h
theorem put_zip {κ : Type} [DecidableEq κ] {ks : List κ} {ds : List D} {vs : List V} {k : κ} {d : D} {v : V} (l : ks.length = vs.length) (r : Reps K F ds vs) (h : Rep K F d v) : ∃ us, putK (ks.zip vs) k v = (putD ks ds k d).1.zip us ∧ (putD ks ds k d).1.length = us.length ∧ Reps K F (putD ks ds k d).2 us := by
  unfold putK putD
  by_cases hm : k ∈ ks
  · rw [if_pos hm, if_pos ((zip_any k l).mpr hm)]
    exact ⟨replV ks vs k v, zip_repl k v l, by rw [replV_len]; exact l, repl_reps r h⟩
  · rw [if_neg hm, if_neg fun e => hm ((zip_any k l).mp e)]
    refine ⟨vs ++ [v], ?_, by simp [l], r.append ⟨v, [], rfl, h, rfl⟩⟩
    rw [List.zip_append l]
    rfl
@[simp] def setO : O → D → O → Option O
  | .lst os, .int k, o => match ixN os.length k with
    | some j => some (.lst (os.set j o))
    | none => none
  | .dK ks ds, y, .fz d => match keyD y with
    | some k => if ks.length < lim then some (.dK (putD ks ds k d).1 (putD ks ds k d).2) else none
    | none => none
  | _, _, _ => none
def storeS (fv : DV) (fp : DP) (fb : DE) : DS := fun ρ => match fv ρ with
  | .ok o ρ' => match fp ρ' with
    | .ok i p => match fb ρ' with
      | .ok y => match ρ'[i]? with
        | some (some t) => match O.at p t with
          | some s => match setO s y.d o with
            | some s' => .nx (ρ'.set i (some (O.put p s' t)))
            | none => .bad
          | none => .bad
        | _ => .bad
      | _ => .bad
    | _ => .bad
  | .ex c => .ex c ρ
  | .bad => .bad
theorem set_dic (hu : X.A.units + 64 < cLine) : PSet X (fun o i v H Q => ∃ a H4, o = .ref a ∧ DPut H a i v H4 ∧ Q H4) := by
  intro pins s σ H o i v ov iv u Q I ro ri rv ⟨a, H4, e, g, q⟩
  subst e
  cases ro
  exact d_setItem (by omega) I g ri rv fun s' I' => ⟨H4, I', q⟩
theorem PSet.or {t t' : TSet} (h : PSet X t) (h' : PSet X t') : PSet X (fun o i v H Q => t o i v H Q ∨ t' o i v H Q) := by
  intro pins s σ H o i v ov iv u Q I ro ri rv q
  rcases q with q | q
  · exact h pins s σ H o i v ov iv u Q I ro ri rv q
  · exact h' pins s σ H o i v ov iv u Q I ro ri rv q
theorem OReps.setAt : ∀ {os : List O} {vs : List V} {c c1 : List Addr} {o : O} {v : V} (n : Nat), OReps K F H os vs c → ORep K F H o v c1 → n < os.length → (c ++ c1).Nodup → ∃ c2, OReps K F H (os.set n o) (vs.set n v) c2 ∧ c2.Nodup ∧ ∀ b ∈ c2, b ∈ c ++ c1
  | [], _, _, _, _, _, n, _, _, h, _ => absurd h (Nat.not_lt_zero _)
  | x :: os, _, _, c1, o, v, 0, ⟨w, r, d1, d2, e1, e2, p, q⟩, ro, _, nd => by
    subst e1 e2
    rw [List.append_assoc, List.nodup_append] at nd
    obtain ⟨n1, n2, n3⟩ := nd
    rw [List.nodup_append] at n2
    obtain ⟨m1, m2, m3⟩ := n2
    refine ⟨c1 ++ d2, ⟨v, r, c1, d2, rfl, rfl, ro, q⟩, ?_, fun b hb => ?_⟩
    · rw [List.nodup_append]
      exact ⟨m2, m1, fun a ha b hb e => m3 b hb a ha e.symm⟩
    · rcases List.mem_append.mp hb with h | h
      · exact List.mem_append_right _ h
      · exact List.mem_append_left _ (List.mem_append_right _ h)
  | x :: os, _, _, c1, o, v, n + 1, ⟨w, r, d1, d2, e1, e2, p, q⟩, ro, h, nd => by
    subst e1 e2
    rw [List.append_assoc, List.nodup_append] at nd
    obtain ⟨n1, n2, n3⟩ := nd
    obtain ⟨c2, r2, nd2, s2⟩ := OReps.setAt n q ro (by simpa using h) n2
    refine ⟨d1 ++ c2, ⟨w, r.set n v, d1, c2, rfl, rfl, p, r2⟩, ?_, fun b hb => ?_⟩
    · rw [List.nodup_append]
      exact ⟨n1, nd2, fun a ha b hb e => n3 a ha b (s2 b hb) e⟩
    · rcases List.mem_append.mp hb with h | h
      · exact List.mem_append_left _ (List.mem_append_left _ h)
      · rcases List.mem_append.mp (s2 b h) with h | h
        · exact List.mem_append_left _ (List.mem_append_right _ h)
        · exact List.mem_append_right _ h
theorem gs_store {o i : Expr} {p2 : Pos} {fv : DV} {fp : DP} (C : Cc X W k) (he : GV X W e fv) (ho : GP X W o fp) (hi : GE X W i fb) (ha : ∀ v, assign (.Subscript o i p2) X.env v = (do
      let ov ← holding [v] (eval o X.env)
      let iv ← holding [v, ov] (eval i X.env)
      standAt p2
      holding [v, ov, iv] (setItem ov iv v)
      release [v, ov, iv] []) := by intro _; rfl)
    (hs : swapsWithSole [.Subscript o i p2] e pos.line X.env = pure false := by rfl) (hw : swappedStores [.Subscript o i p2] e X.env = pure none := by rfl)
    (h1 : (assignEach [.Subscript o i p2] X.env).map (·.2) = [assign (.Subscript o i p2) X.env] := by rfl) : GS X W (.Assign [.Subscript o i p2] e pos) (storeS fv fp fb) := by
  refine PS.imp (ps_asg he (pg_sub ho hi (PSet.or set_list (set_dic C.hu)) ha) hs hw h1) fun D σ H ⟨F0, H0, ρ, F, cs, R, p⟩ => ?_
  refine ⟨F0, H0, ρ, F, cs, R, ?_⟩
  unfold storeS at p
  cases q1 : fv ρ with
  | bad => simp only [q1] at p; exact p
  | ex c => simp only [q1] at p; exact fun F2 H2 C e m => p F2 H2 σ cs C e.ff (R.ext e) m
  | ok o1 ρ' =>
    simp only [q1] at p
    intro F1 H1 v c1 cs1 e1 R1 r1 t1
    refine ⟨F0, H0, ρ', F1, cs1, R1, ?_⟩
    cases q2 : fp ρ' with
    | bad => simp only [q2] at p; exact p.elim
    | ex c => simp only [q2] at p; exact p.elim
    | ok j pl =>
      simp only [q2] at p
      intro F2 H2 w u e2 hv hat
      refine ⟨F0, H0, ρ', F2, cs1, R1.ext e2, ?_⟩
      cases q3 : fb ρ' with
      | bad => simp only [q3] at p; exact p.elim
      | ex c => simp only [q3] at p; exact p.elim
      | ok y =>
        simp only [q3] at p
        intro F3 H3 z c3 e3 r3 n3
        have R3 := (R1.ext e2).ext e3
        have rz := r3.view e3.fh
        have r1' : ORep X.K F3 H3 o1 v c1 := ORep.ext e3 (ORep.ext e2 r1)
        split at p
        · rename_i t et
          split at p
          · rename_i s es
            split at p
            · rename_i s' eset
              obtain ⟨v', u', d1, d2, d3, g1, g2, g3, g4, kk⟩ := R3.putAt et es
              rw [hv] at g2
              cases g2
              have : u' = u := g3.fun_ (hat.same e3.hh)
              subst this
              subst g1
              have nd := R3.nd
              rw [List.nodup_append] at nd
              obtain ⟨n1, n23, d123⟩ := nd
              rw [List.nodup_append] at n23
              obtain ⟨n2, n3', d23⟩ := n23
              have c1F : ∀ b ∈ c1, F3 b = none ∧ H0 b = none ∧ b ∉ d1 ++ (d2 ++ d3) := fun b hb => by
                have q := t1.fr b hb
                exact ⟨(e2.trans e3).nf (r1.there b hb) q.1, q.2⟩
              have nd21 : (d2 ++ c1).Nodup := by
                rw [List.nodup_append]
                exact ⟨n2, t1.nd, fun a ha b hb e => by subst e; exact (c1F a hb).2.2 (List.mem_append_right _ (List.mem_append_left _ ha))⟩
              have okc : ∀ c ∈ d2 ++ c1, F3 c = none ∧ H0 c = none ∧ c ∉ d1 ∧ c ∉ d3 := fun c hc => by
                rcases List.mem_append.mp hc with h | h
                · have q := R3.cf c (List.mem_append_right _ (List.mem_append_left _ h))
                  exact ⟨q.1, q.2, fun h1 => d123 c h1 c (List.mem_append_left _ h) rfl, fun h1 => d23 c h c h1 rfl⟩
                · have q := c1F c h
                  exact ⟨q.1, q.2.1, fun h1 => q.2.2 (List.mem_append_left _ h1), fun h1 => q.2.2 (List.mem_append_right _ (List.mem_append_right _ h1))⟩
              have fin : ∀ H4 c4, (∀ b, b ∉ d2 → H3 b ≠ none → H4 b = H3 b) → ORep X.K F3 H4 s' u' c4 → c4.Nodup → (∀ b ∈ c4, b ∈ d2 ++ c1) → D.nx σ H4 := fun H4 c4 k4 r4 n4 s4 =>
                p F3 H4 σ _ ((e1.ff.trans e2.ff).trans e3.ff) (kk H4 s' c4 k4 r4 n4 fun c hc => okc c (s4 c hc))
              unfold setO at eset
              split at eset
              · rename_i os kx ey
                rw [ey] at rz
                split at eset
                · rename_i n en
                  cases eset
                  obtain ⟨a, vs, c', f1, f2, f3, f4⟩ := g4
                  subst f1 f2
                  rw [f4.len] at en
                  have hn : n < os.length := by rw [f4.len]; exact (ixN_seq en).2.1
                  have nd' := nd21
                  rw [List.cons_append, List.nodup_cons] at nd'
                  obtain ⟨c2, r2, nd2, s2⟩ := OReps.setAt n f4 r1' hn nd'.2
                  refine .inl ⟨a, vs, kx, n, rfl, rz, f3, en, fin _ (a :: c2) (fun b hb hn => upd_ne fun e => hb (by rw [e]; exact List.mem_cons_self)) ⟨a, vs.set n v, c2, rfl, rfl, upd_same, r2.frame (Same.refl _) fun b hb => upd_ne fun e => nd'.1 (e ▸ s2 b hb)⟩ (List.nodup_cons.mpr ⟨fun h => nd'.1 (s2 _ h), nd2⟩) fun b hb => ?_⟩
                  rcases List.mem_cons.mp hb with rfl | h
                  · exact List.mem_cons_self
                  · exact List.mem_cons_of_mem _ (s2 b h)
                · cases eset
              · rename_i ks ds d
                split at eset
                · rename_i ky ek
                  split at eset
                  · rename_i hl
                    cases eset
                    obtain ⟨a, vs, f1, f2, f3, f4, f5⟩ := g4
                    subst f1 f2
                    obtain ⟨us, h1, h2, h3⟩ := put_zip (k := ky) f4 f5 r1'.2
                    refine .inr ⟨a, _, rfl, .inl ⟨_, ky, f3, keyD_v rz ek, ?_, rfl⟩, fin _ [a] (fun b hb hn => upd_ne fun e => hb (by rw [e]; exact List.mem_cons_self)) ⟨a, us, rfl, rfl, by rw [upd_same, h1], h2, h3⟩ (by simp) fun b hb => List.mem_append_left _ hb⟩
                    rw [List.length_zip, ← f4, Nat.min_self, ← lim_eq]
                    exact hl
                  · cases eset
                · cases eset
              · cases eset
            · exact p.elim
          · exact p.elim
        · exact p.elim
def startR (n : Nat) (ds : List D) : Rho := ds.map (fun d => some (.fz d)) ++ List.replicate (n - ds.length) none
def semOf (n : Nat) (f : DS) : DF := fun ds => match f (startR n ds) with
  | .rt o => .ok o
  | .nx _ => .ok (.fz .non)
  | .ex c _ => .ex c
  | _ => .bad
theorem slots_nones : ∀ (m : Nat), Slots K F H (List.replicate m none) (List.replicate m none) []
  | 0 => ⟨rfl, rfl⟩
  | m + 1 => ⟨none, _, [], [], rfl, rfl, rfl, slots_nones m⟩
theorem slots_start : ∀ {ds vs} (m : Nat), Reps K F ds vs → Slots K F H (ds.map (fun d => some (.fz d)) ++ List.replicate m none) (vs.map some ++ List.replicate m none) []
  | [], _, m, e => by cases e; exact slots_nones m
  | d :: ds, _, m, ⟨v, r, e, x, y⟩ => by subst e; exact ⟨some v, _, [], [], rfl, rfl, ⟨rfl, x⟩, slots_start m y⟩
end
section
variable {P : Program} {w : World} {K : PySem.W.Frag} {mg : Str → Option Value} {base : Heap}
end
end DL
namespace DL
open PySem PySem.Spec L2
variable {K : PySem.W.Frag} {F F' H H' H0 F0 F1 H1 : Hp} {cs cs' : List Addr} {σ σ' : L2.St} {ρ ρ' : Rho}
section
variable {X : Cx} {W : WX} {pos : Pos} {a b c e : Expr} {fa fb fc fe : DE} {f g : DS} {k : Nat}
@[simp] def intKs : List Key → Option (List Int)
  | [] => some []
  | .inl i :: ks => match intKs ks with
    | some ns => some (i :: ns)
    | none => none
  | .inr _ :: _ => none
theorem intKs_eq : ∀ {ks ns}, intKs ks = some ns → ks = ns.map Sum.inl
  | [], _, h => by cases h; rfl
  | .inl i :: ks, ns, h => by
    unfold intKs at h
    cases q : intKs ks with
    | none => rw [q] at h; cases h
    | some is => rw [q] at h; cases h; rw [List.map_cons, ← intKs_eq q]
  | .inr _ :: _, _, h => by cases h
theorem intKs_map : ∀ ns : List Int, intKs (ns.map Sum.inl) = some ns
  | [] => rfl
  | n :: ns => by rw [List.map_cons, intKs, intKs_map ns]
@[simp] def gSortX : List Ar → Rs := fun as => match as with
  | [a] => match a.d with
    | .dK ks _ => match intKs ks with
      | some ns => if ns.length < 64 then .ok (.ow (.lst (((sortI ns).map D.int).map .fz))) else .bad
      | none => .bad
    | _ => gSorted [a]
  | _ => .bad
@[simp] def newE (o : O) : DE := fun _ => .ok (.ow o)
theorem ge_dK : GE X W (.Dict [] [] pos) (newE (.dK [] [])) := PE.imp pe_dnewK fun σ H Q ⟨F0, H0, ρ, F, cs, R, p⟩ => fun a na =>
  p F _ (.ref a) [a] (ext_new R.fh na) ⟨a, [], rfl, rfl, upd_same, rfl, rfl⟩ ⟨List.nodup_cons.mpr ⟨(nomatch ·), List.nodup_nil⟩, fun c hc => by
    cases List.mem_singleton.mp hc
    exact ⟨na, R.fh.free na⟩⟩
end
def blkB (N : List Str) (sc scope : Scope) (own : List (Str × Nat)) : Bool :=
  decide (scope.kind = .function) && scope.names.all (fun y => decide (scope.names.lookup y.1 = some y.2)) && own.all (fun p => decide (N[p.2]? = some p.1))
    && scope.names.all (fun y => !decide (y.2 = .free) || decide (sc.names.lookup y.1 = some .cell) || decide (sc.names.lookup y.1 = some .free))
    && scope.names.all (fun y => !(decide (y.2 = .local) || decide (y.2 = .cell)) || decide (y.1 ∈ own.map (·.1)) || !decide (y.1 ∈ N))
theorem blk_of {N N' : List Str} {sc sc' scope : Scope} {own : List (Str × Nat)} (hN : N' = N) (hs : sc' = sc) (h : blkB N sc scope own = true) : BlkOk N' sc' scope own := by
  subst hN hs
  unfold blkB at h
  simp only [Bool.and_eq_true, List.all_eq_true, decide_eq_true_eq, Bool.or_eq_true, Bool.not_eq_true', decide_eq_false_iff_not] at h
  obtain ⟨⟨⟨⟨h1, h2⟩, h3⟩, h4⟩, h5⟩ := h
  refine ⟨h1, h2, h3, fun y hy e => ?_, fun y hy e => ?_⟩
  · rcases h4 y hy with (h | h) | h
    · exact absurd e h
    · exact .inl h
    · exact .inr h
  · rcases h5 y hy with (h | h) | h
    · rw [Bool.or_eq_false_iff, decide_eq_false_iff_not, decide_eq_false_iff_not] at h
      rcases e with e | e
      · exact absurd e h.1
      · exact absurd e h.2
    · exact .inl h
    · exact .inr h
abbrev WEx (E : XK) : WX := fun cls d _ H => E cls d H
section
variable {P : Program} {w : World} {K : PySem.W.Frag} {mg : Str → Option Value} {base : Heap}
theorem dok_of {x qual : Str} {st : Stmt} {f : Addr} {fd : FuncData} {N ps : List Str} {k : Nat} {fb : DS} (F : Fun K x qual st f fd) (S : FnScope N ps (defScope st)) (hm : mg x = some (.ref f)) (hb : Binds K fd ps [])
    (hbody : ∀ (cdv : Value) (A : Around) (outer : List Env) (s : Shared) (H : Hp) (E : XK), Cb (cxOf (L2.CX P w) P w K mg base N qual (defScope st) f cdv A outer s H E) (WEx E) k → GSs (cxOf (L2.CX P w) P w K mg base N qual (defScope st) f cdv A outer s H E) (WEx E) (defBody st) fb) :
    DOk P w K mg base (k + 1) x (semOf N.length fb) ps.length := by
  refine ⟨f, fd, ps, F.okX S (fun vs H Q E h => ?_) (fun cdv A outer s H vs Q E hr h => ?_), hm, F.kp, hb⟩
  · obtain ⟨_, _, h, _⟩ := h
    exact h
  · obtain ⟨F0, ds, hl, fh, r, p⟩ := h
    have tk : Takes (cxOf (L2.CX P w) P w K mg base N qual (defScope st) f cdv A outer s H E) (WEx E) := takes_of rfl rfl rfl rfl
    have C : Cb (cxOf (L2.CX P w) P w K mg base N qual (defScope st) f cdv A outer s H E) (WEx E) k := ⟨⟨rfl, hr, S.nd, fun σ => passAt tk σ⟩, passes_of rfl, tk⟩
    refine ⟨_, hbody cdv A outer s H E C, F0, H, startR N.length ds, F0, [], ⟨fh, Same.refl _, fun _ _ => rfl, Same.refl _, ?_, List.nodup_nil, fun _ h => nomatch h⟩, ?_⟩
    · unfold startR L2.start
      rw [r.len]
      exact slots_start _ r
    · unfold semOf at p
      cases q : fb (startR N.length ds) with
      | bad => rw [q] at p; exact p.elim
      | bk ρ => rw [q] at p; exact p.elim
      | ct ρ => rw [q] at p; exact p.elim
      | nx ρ =>
        rw [q] at p
        exact fun F' H' σ' cs' s' R' => p F' H' .non [] R'.toExt ⟨rfl, rfl⟩ New.nil
      | rt o => rw [q] at p; exact p
      | rw o ps => rw [q] at p; exact p.elim
      | ex c ρ =>
        rw [q] at p
        exact fun F' H' σ' cs' C' s' R' m => p F' H' C' R'.toExt m
end
end DL
namespace DL
open PySem PySem.Spec L2
variable {K : PySem.W.Frag} {F F' H H' H0 F0 F1 H1 : Hp} {cs cs' : List Addr} {σ : L2.St} {ρ : Rho}
section
variable {X : Cx} {W : WX} {pos : Pos} {e : Expr} {fb : DE} {k : Nat}
end
end DL
namespace DL
open PySem PySem.Spec L2 PyProof.Rows
section
variable {P : Program} {w : World} {A : Around} {E : Value → Shared → Prop} {s : Shared}
end
end DL
namespace DL
open PySem PySem.Spec L2 PyProof.Rows
section
variable {X : Cx}
end
def ddI : List Int → List Int
  | [] => []
  | x :: r => if x ∈ ddI r then ddI r else x :: ddI r
theorem ddI_mem {x : Int} : ∀ {l : List Int}, x ∈ ddI l ↔ x ∈ l
  | [] => Iff.rfl
  | y :: r => by
    unfold ddI
    split
    · rename_i h
      rw [ddI_mem, List.mem_cons]
      exact ⟨.inr, fun h2 => h2.elim (fun e => e ▸ ddI_mem.mp h) id⟩
    · rw [List.mem_cons, List.mem_cons, ddI_mem]
theorem ddI_nodup : ∀ l : List Int, (ddI l).Nodup
  | [] => List.nodup_nil
  | y :: r => by
    unfold ddI
    split
    · exact ddI_nodup r
    · rename_i h
      exact List.nodup_cons.mpr ⟨h, ddI_nodup r⟩
def sortU (l : List Int) : List Int := sortI (ddI l)
theorem sortU_mem {x : Int} {l : List Int} : x ∈ sortU l ↔ x ∈ l := (sortI_perm _).mem_iff.trans ddI_mem
theorem sortU_lt (l : List Int) : (sortU l).Pairwise (· < ·) := lt_of_le_nodup _ (sortI_sorted _) ((sortI_perm _).nodup_iff.mpr (ddI_nodup l))
theorem strict_uniq : ∀ {l m : List Int}, l.Pairwise (· < ·) → m.Pairwise (· < ·) → (∀ k, k ∈ l ↔ k ∈ m) → l = m
  | [], [], _, _, _ => rfl
  | [], y :: m, _, _, h => nomatch (h y).mpr List.mem_cons_self
  | x :: l, [], _, _, h => nomatch (h x).mp List.mem_cons_self
  | x :: l, y :: m, h1, h2, h => by
    rw [List.pairwise_cons] at h1 h2
    have e : x = y := by
      rcases List.mem_cons.mp ((h x).mp List.mem_cons_self) with e | a1
      · exact e
      · rcases List.mem_cons.mp ((h y).mpr List.mem_cons_self) with e | a2
        · exact e.symm
        · have := h1.1 y a2
          have := h2.1 x a1
          omega
    subst e
    rw [strict_uniq h1.2 h2.2 fun k => ?_]
    constructor
    · intro hk
      rcases List.mem_cons.mp ((h k).mp (List.mem_cons_of_mem _ hk)) with e | hk2
      · have := h1.1 k hk
        omega
      · exact hk2
    · intro hk
      rcases List.mem_cons.mp ((h k).mpr (List.mem_cons_of_mem _ hk)) with e | hk2
      · have := h2.1 k hk
        omega
      · exact hk2
variable {K : PySem.W.Frag} {F F' H H' H0 F0 F1 H1 : Hp} {cs cs' : List Addr} {σ σ' : L2.St} {ρ ρ' : Rho}
section
variable {X : Cx} {W : WX} {pos : Pos} {a b c e : Expr} {fa fb fc fe : DE} {fa' : DA}
@[simp] def gSortSet : List Ar → Rs
  | [a] => match intsA a with
    | some ns => if ns.length < 4000 then .ok (.ow (.lst (((sortU ns).map D.int).map .fz))) else .bad
    | none => .bad
  | _ => .bad
end
end DL
namespace DL
open PySem PySem.Spec L2
variable {K : PySem.W.Frag} {F F' H H' H0 F0 F1 H1 : Hp} {cs cs' : List Addr} {σ σ' : L2.St} {ρ ρ' : Rho}
def frzAll : Rho → Rho
  | [] => []
  | none :: ρ => none :: frzAll ρ
  | some o :: ρ => some (.fz o.toD) :: frzAll ρ
theorem slots_all (h : Same F H) : ∀ {ρ σ cs}, Slots K F H ρ σ cs → Slots K H H (frzAll ρ) σ []
  | [], _, _, ⟨e, _⟩ => ⟨e, rfl⟩
  | none :: ρ, _, _, ⟨x, r, c1, c2, e1, e2, s, t⟩ => by
    refine ⟨x, r, [], [], e1, rfl, ?_, slots_all h t⟩
    have e3 : c1 = [] := by
      cases x with
      | none => exact s
      | some v => exact s
    subst e3
    exact s
  | some o :: ρ, _, _, ⟨x, r, c1, c2, e1, e2, s, t⟩ => by
    refine ⟨x, r, [], [], e1, rfl, ?_, slots_all h t⟩
    cases x with
    | none => exact s.elim
    | some v => exact ⟨rfl, ORep.view (o := o) h s⟩
def viewE (fe : DE) : DE := fun ρ => match fe (frzAll ρ) with
  | .ok (.ow o) => if leafFlat o then .ok (.ow o) else .bad
  | .ok (.vw _) => .bad
  | .ex c => .ex c
  | .bad => .bad
section
variable {X : Cx} {W : WX} {pos : Pos} {a b c e : Expr} {fa fb fc fe : DE} {f g : DS} {k : Nat}
theorem tE_view : ∀ σ H Q, tE X W (viewE fe) σ H Q → tE X W fe σ H Q := fun σ H Q ⟨F0, H0, ρ, F, cs, R, p⟩ => by
  refine ⟨H, H, frzAll ρ, H, [], ⟨Same.refl _, Same.refl _, fun _ _ => rfl, Same.refl _, slots_all R.fh R.sl, List.nodup_nil, fun _ h => nomatch h⟩, ?_⟩
  unfold viewE at p
  cases q : fe (frzAll ρ) with
  | bad => rw [q] at p; exact p
  | ex c =>
    rw [q] at p
    exact fun F2 H2 C2 e2 m => p (backF F H F2) H2 C2 (backF_ext R.fh e2) m
  | ok a =>
    rw [q] at p
    cases a with
    | vw o => exact p.elim
    | ow o =>
      dsimp only at p
      split at p
      · rename_i hl
        refine fun F2 H2 v c2 e2 r2 n2 => p (backF F H F2) H2 v c2 (backF_ext R.fh e2) (ORep.anyF (o := o) hl r2) ⟨n2.nd, fun c hc => ⟨(n2.nw c hc).1, ?_⟩⟩
        unfold backF
        rw [(n2.nw c hc).1]
        exact (n2.nw c hc).2
      · exact p.elim
theorem gs_setLcV {i : Nat} {y : Str} {py : Pos} {elt tg iter : Expr} {ifs : List Expr} {scope : Scope} {own : List (Str × Nat)} {spos : Pos} {fi : DI} {bd : DB} {ct : DT} (C : Cc X W k) (hi : GI X W tg iter fi) (ok : BlkOk X.N X.env.scope scope own)
    (hg : ∀ X' : Cx, (∃ s H C cl fp, X' = X.blk s H scope (compEnvC scope cl C X.env) fp) → Cc X' W0 k → GC X' tg (own.map (·.2)) bd ∧ GTs X' ifs ct ∧ GE X' W0 elt fe)
    (hy : X.N[i]? = some y := by rfl) (hyl : X.env.scope.names.lookup y = some .local := by rfl)
    (hsw : swapsWith (.ListComp elt [⟨tg, iter, ifs, 0⟩] scope pos) (some (.Name y py)) spos.line X.env = pure true := by exact sw_true rfl rfl rfl (by decide +kernel))
    (hs : ∀ x, foldedSetIterable iter X.env x = pure x := by intro _; rfl) : GS X W (.Assign [.Name y py] (.ListComp elt [⟨tg, iter, ifs, 0⟩] scope pos) spos) (setS i (viewE (compE fi bd ct fe (own.map (·.2))))) := by
  have cc : ∀ s H C0 cl fp, Cc (X.blk s H scope (compEnvC scope cl C0 X.env) fp) W0 k := fun s H C0 cl fp => ⟨C.calm, C.room, C.nd, fun σ pins H s e s' I h => by
    obtain ⟨_, _, _, _, _, _, _, _, _, _, _, _, z⟩ := h
    exact z.elim⟩
  refine PS.imp (ps_setLc (g := fun v σ H Q => ∃ F0 H0 ρ F cs d ρ', RS X.K F0 H0 ρ F σ H cs ∧ Rep X.K F d v ∧ bd d ρ = some ρ' ∧ ∀ σ' cs', wipe σ' (own.map (·.2)) = wipe σ (own.map (·.2)) → RS X.K F0 H0 ρ' F σ' H cs' → Q σ' H) (tt := tT X W0 ct) (te := tE X W0 fe) C.calm C.nd hy hyl hsw hi ok (fun s H C0 cl fp => (hg _ ⟨s, H, C0, cl, fp, rfl⟩ (cc s H C0 cl fp)).1) (fun s H C0 cl fp => (hg _ ⟨s, H, C0, cl, fp, rfl⟩ (cc s H C0 cl fp)).2.1) (fun s H C0 cl fp => (hg _ ⟨s, H, C0, cl, fp, rfl⟩ (cc s H C0 cl fp)).2.2) hs) fun D σ H h => ?_
  have h' := tAsg_of D σ H h
  exact tLc_of (X := X) (X' := X) (tg := tg) (it := iter) (elt := elt) (W := W) rfl σ H _ (tE_view σ H _ h')
end
end DL
namespace DL
open PySem PySem.Spec L2
variable {K : PySem.W.Frag} {F F' H H' H0 F0 F1 H1 : Hp} {cs cs' : List Addr} {σ σ' : L2.St} {ρ ρ' : Rho}
structure DOk1 (P : Program) (w : World) (K : PySem.W.Frag) (mg : Str → Option Value) (base : Heap) (k : Nat) (x : Str) (sem : DF) (n : Nat) : Prop where
  ex : ∃ (f : Addr) (fd : FuncData) (ps : List Str), FnOk P w K mg base (L2.CX P w) k f fd ps (spD K mg sem (n + 1)) ∧ mg x = some (.ref f) ∧ PySem.W.keepIn K (.ref f) = true ∧ Binds K fd ps [.none] ∧ Binds K fd ps []
theorem DOk1.mono {P : Program} {w : World} {mg : Str → Option Value} {base : Heap} {k j : Nat} {x : Str} {sem : DF} {n : Nat} (h : DOk1 P w K mg base k x sem n) (l : k ≤ j) : DOk1 P w K mg base j x sem n := by
  obtain ⟨f, fd, ps, F, r⟩ := h.ex
  exact ⟨f, fd, ps, F.mono l, r⟩
theorem DOk1.all {P : Program} {w : World} {mg : Str → Option Value} {base : Heap} {k : Nat} {x : Str} {sem : DF} {n : Nat} (h : DOk1 P w K mg base k x sem n) : DOk P w K mg base k x sem (n + 1) := by
  obtain ⟨f, fd, ps, F, h1, h2, _, h3⟩ := h.ex
  exact ⟨f, fd, ps, F, h1, h2, h3⟩
section
variable {X : Cx} {W : WX} {pos : Pos} {a b c e : Expr} {fa fb fc fe : DE}
end
end DL
namespace DL
open PySem PySem.Spec L2
section
variable {P : Program} {w : World} {K : PySem.W.Frag} {mg : Str → Option Value} {base : Heap}
end
end DL
namespace DL
open PySem PySem.Spec L2
variable {K : PySem.W.Frag} {F F' H H' H0 F0 F1 H1 : Hp} {cs cs' : List Addr} {σ σ' : L2.St} {ρ ρ' : Rho}
section
variable {X : Cx} {W : WX} {pos : Pos} {a b c e : Expr} {fa fb fc fe : DE} {f g : DS} {k : Nat} {st : Stmt} {sts rest : List Stmt}
@[simp] def listAt (ρ : Rho) (i : Nat) : Option (List D) := match ρ[i]? with
  | some (some (.lst os)) => allFz os
  | some (some (.fz (.lst ds))) => some ds
  | _ => none
end
end DL
namespace DL
open PySem PySem.Spec L2
abbrev dI (i : Int) : Ar := .ow (.fz (.int i))
abbrev dB (b : Bool) : Ar := .ow (.fz (.bl b))
@[simp] theorem sub_I {i j : Int} : gSub (dI i) (dI j) = okI (i - j) := rfl
@[simp] theorem add_I {i j : Int} : gAdd (dI i) (dI j) = okI (i + j) := rfl
@[simp] theorem neg_I {i : Int} : gNeg (dI i) = okI (-i) := rfl
@[simp] theorem mul_I {i j : Int} (h : okMul i j = true) : gMul (dI i) (dI j) = okI (i * j) := by
  show (if okMul i j then okI (i * j) else .bad) = _
  rw [h]; rfl
@[simp] theorem mod_I {i j : Int} (h : 0 < j) : gMod (dI i) (dI j) = okI (i % j) := by
  show (if decide (0 < j) then okI (i % j) else .bad) = _
  rw [decide_eq_true h]; rfl
@[simp] theorem fdiv_I {i j : Int} (h : okDiv j = true) : gFdiv (dI i) (dI j) = okI (i / j) := by
  show (if okDiv j then okI (i / j) else .bad) = _
  rw [h]; rfl
@[simp] theorem pow_I {i j : Int} (h : okPow i j = true) : gPow (dI i) (dI j) = okI (i ^ j.toNat) := by
  show (if okPow i j then okI (i ^ j.toNat) else .bad) = _
  rw [h]; rfl
@[simp] theorem cmp_I {g : Int → Int → Bool} {i j : Int} : cmpI g (dI i) (dI j) = okB (g i j) := rfl
theorem okMul_l {i j : Int} (h : -18446744073709551616 < i ∧ i < 18446744073709551616) : okMul i j = true := by
  unfold okMul
  have : smallI i = true := decide_eq_true (by omega)
  rw [this]; simp
theorem okMul_r {i j : Int} (h : -18446744073709551616 < j ∧ j < 18446744073709551616) : okMul i j = true := by
  unfold okMul
  have : smallI j = true := decide_eq_true (by omega)
  rw [this]; simp
theorem okDiv_of {j : Int} (h : 0 < j) (h2 : j < 18446744073709551616) : okDiv j = true := by
  unfold okDiv
  rw [decide_eq_true h, Bool.true_and]
  refine decide_eq_true ?_
  have : j.natAbs.log2 < 64 := (Nat.log2_lt (by omega)).mpr (by omega)
  omega
theorem ix_seq {x : Ar} {l : Bool} {os : List O} {i : Int} {o : O} (hx : x.o.seq = some (l, os)) (h0 : 0 ≤ i) (h : os[i.toNat]? = some o) : gIx x (dI i) = .ok (itemAr o) := by
  have hl : i.toNat < os.length := (List.getElem?_eq_some_iff.mp h).1
  unfold gIx
  rw [hx]
  show (match L2.atI os i with | some o => Rs.ok (itemAr o) | none => .bad) = _
  unfold L2.atI ixN
  rw [if_pos h0, if_pos (by omega)]
  simp [h]
theorem ix_tup {ds : List D} {i : Int} {d : D} (h0 : 0 ≤ i) (h : ds[i.toNat]? = some d) : gIx (.ow (.fz (.tup ds))) (dI i) = .ok (.ow (.fz d)) :=
  ix_seq (os := ds.map .fz) (o := .fz d) rfl h0 (by rw [List.getElem?_map, h]; rfl)
def Sh (n : Nat) (d : D) : Prop := (toPy d).canLay0 = true ∧ (toPy d).depth ≤ n
theorem Sh.mono {n m : Nat} {d : D} (h : Sh n d) (l : n ≤ m) : Sh m d := ⟨h.1, Nat.le_trans h.2 l⟩
theorem Sh.shp {d : D} (h : Sh 64 d) : shp d = true := by
  unfold DL.shp SeqAt.shaped
  rw [h.1, Bool.true_and]
  exact decide_eq_true h.2
theorem Sh.int {n : Nat} {i : Int} : Sh n (.int i) := ⟨by simp [toPy, PyData.canLay0], by simp [toPy, PyData.depth]⟩
theorem Sh.non {n : Nat} : Sh n .non := ⟨by simp [toPy, PyData.canLay0], by simp [toPy, PyData.depth]⟩
theorem Sh.bl {n : Nat} {b : Bool} : Sh n (.bl b) := ⟨by simp [toPy, PyData.canLay0], by simp [toPy, PyData.depth]⟩
theorem Sh.all {n : Nat} : ∀ {ds : List D}, (∀ d ∈ ds, Sh n d) → PyData.canLayAll0 (toPys ds) = true ∧ PyData.depthAll (toPys ds) ≤ n
  | [], _ => ⟨by simp [toPys, PyData.canLayAll0], by simp [toPys, PyData.depthAll]⟩
  | d :: ds, h => by
    have h1 := h d List.mem_cons_self
    have h2 := Sh.all (ds := ds) fun x hx => h x (List.mem_cons_of_mem _ hx)
    refine ⟨by simp [toPys, PyData.canLayAll0, h1.1, h2.1], ?_⟩
    simp only [toPys, PyData.depthAll]
    have := h1.2
    have := h2.2
    omega
theorem Sh.lst {n : Nat} {ds : List D} (h : ∀ d ∈ ds, Sh n d) : Sh (n + 1) (.lst ds) := by
  have q := Sh.all h
  exact ⟨by simpa [toPy, PyData.canLay0] using q.1, by simpa [toPy, PyData.depth] using q.2⟩
theorem Sh.tup {n : Nat} {ds : List D} (h : ∀ d ∈ ds, Sh n d) : Sh (n + 1) (.tup ds) := by
  have q := Sh.all h
  exact ⟨by simpa [toPy, PyData.canLay0] using q.1, by simpa [toPy, PyData.depth] using q.2⟩
theorem Sh.map {α : Type} {n : Nat} {xs : List α} {e : α → D} (h : ∀ x ∈ xs, Sh n (e x)) : Sh (n + 1) (.lst (xs.map e)) := Sh.lst fun d hd => by
  obtain ⟨x, hx, rfl⟩ := List.mem_map.mp hd
  exact h x hx
theorem Sh.refl {d : D} (h : Sh 64 d) : eqD d d = true := SeqAt.eqv_refl _ h.1
@[simp] theorem eqD_I {i j : Int} : eqD (.int i) (.int j) = decide (i = j) := by
  unfold eqD
  simp only [toPy, PyData.eqv]
  by_cases h : i = j <;> simp [h]
@[simp] theorem gEq_I {i j : Int} : gEq (dI i) (dI j) = okB (decide (i = j)) := by
  have h : ∀ k : Int, shp (.int k) = true := fun k => Sh.shp Sh.int
  unfold gEq
  show (if shp (.int i) && shp (.int j) then okB (eqD (.int i) (.int j)) else .bad) = _
  rw [h, h, eqD_I]
  rfl
@[simp] theorem gNe_I {i j : Int} : gNe (dI i) (dI j) = okB (!decide (i = j)) := by
  have h : ∀ k : Int, shp (.int k) = true := fun k => Sh.shp Sh.int
  unfold gNe
  show (if shp (.int i) && shp (.int j) then okB (!eqD (.int i) (.int j)) else .bad) = _
  rw [h, h, eqD_I]
  rfl
@[simp] theorem shp_I {i : Int} : shp (.int i) = true := Sh.shp Sh.int
@[simp] theorem rangeL_zero {n : Int} : rangeL 0 n = (List.range n.toNat).map fun i => .int (i : Nat) := by
  unfold rangeL
  simp
theorem allFz_enc {α : Type} {e : α → D} : ∀ xs : List α, allFz (xs.map fun x => O.fz (e x)) = some (xs.map e)
  | [] => rfl
  | x :: xs => by simp [allFz, allFz_enc xs]
@[simp] theorem allFz_fz (xs : List D) : allFz (xs.map O.fz) = some xs := allFz_map xs
@[simp] theorem allFz_comp {α : Type} {f : α → D} (xs : List α) : allFz (xs.map (O.fz ∘ f)) = some (xs.map f) := allFz_enc xs
@[simp] theorem toDs_fzs (xs : List D) : O.toDs (xs.map O.fz) = xs := toDs_fz xs
@[simp] theorem toDs_comp {α : Type} {f : α → D} (xs : List α) : O.toDs (xs.map (O.fz ∘ f)) = xs.map f := by
  rw [O.toDs_map, List.map_map]
  rfl
@[simp] theorem toDs_append (xs ys : List O) : O.toDs (xs ++ ys) = O.toDs xs ++ O.toDs ys := by
  rw [O.toDs_map, O.toDs_map, O.toDs_map, List.map_append]
@[simp] theorem cut_all {α : Type} (xs : List α) : cutD xs none none = xs := by
  unfold cutD HT.sIx
  simp
@[simp] theorem ix_t0 {a : D} {r : List D} : gIx (.ow (.fz (.tup (a :: r)))) (dI 0) = .ok (.ow (.fz a)) := ix_tup (by decide) rfl
@[simp] theorem ix_t1 {a b : D} {r : List D} : gIx (.ow (.fz (.tup (a :: b :: r)))) (dI 1) = .ok (.ow (.fz b)) := ix_tup (by decide) rfl
@[simp] theorem ix_t2 {a b c : D} {r : List D} : gIx (.ow (.fz (.tup (a :: b :: c :: r)))) (dI 2) = .ok (.ow (.fz c)) := ix_tup (by decide) rfl
@[simp] theorem ix_o0 {a : O} {r : List O} : gIx (.vw (.tup (a :: r))) (dI 0) = .ok (itemAr a) := ix_seq (os := a :: r) (l := false) rfl (by decide) rfl
@[simp] theorem ix_o1 {a b : O} {r : List O} : gIx (.vw (.tup (a :: b :: r))) (dI 1) = .ok (itemAr b) := ix_seq (os := a :: b :: r) (l := false) rfl (by decide) rfl
@[simp] theorem ix_o2 {a b c : O} {r : List O} : gIx (.vw (.tup (a :: b :: c :: r))) (dI 2) = .ok (itemAr c) := ix_seq (os := a :: b :: c :: r) (l := false) rfl (by decide) rfl
@[simp] theorem okLen_of {n : Nat} (h : n ≤ 1000000) : okLen n = true := by unfold okLen lim; simp; omega
@[simp] theorem isi_int_non : isiD "int" .non = okB false := by
  have h : kitB "NoneType" "int" = some false := by decide +kernel
  show (match kitB "NoneType" "int" with | some b => okB b | none => .bad) = _
  rw [h]
@[simp] theorem isi_int_bl {b : Bool} : isiD "int" (.bl b) = okB true := by
  have h : kitB "bool" "int" = some true := by decide +kernel
  show (match kitB "bool" "int" with | some b => okB b | none => .bad) = _
  rw [h]
@[simp] theorem isi_int_int {i : Int} : isiD "int" (.int i) = okB true := by
  have h : kitB "int" "int" = some true := by decide +kernel
  show (match kitB "int" "int" with | some b => okB b | none => .bad) = _
  rw [h]
@[simp] theorem isi_int_str {x : Str} : isiD "int" (.str x) = okB false := by
  have h : kitB "str" "int" = some false := by decide +kernel
  show (match kitB "str" "int" with | some b => okB b | none => .bad) = _
  rw [h]
@[simp] theorem isi_int_lst {ds : List D} : isiD "int" (.lst ds) = okB false := by
  have h : kitB "list" "int" = some false := by decide +kernel
  show (match kitB "list" "int" with | some b => okB b | none => .bad) = _
  rw [h]
@[simp] theorem isi_int_tup {ds : List D} : isiD "int" (.tup ds) = okB false := by
  have h : kitB "tuple" "int" = some false := by decide +kernel
  show (match kitB "tuple" "int" with | some b => okB b | none => .bad) = _
  rw [h]
@[simp] theorem isi_bool_non : isiD "bool" .non = okB false := by
  have h : kitB "NoneType" "bool" = some false := by decide +kernel
  show (match kitB "NoneType" "bool" with | some b => okB b | none => .bad) = _
  rw [h]
@[simp] theorem isi_bool_bl {b : Bool} : isiD "bool" (.bl b) = okB true := by
  have h : kitB "bool" "bool" = some true := by decide +kernel
  show (match kitB "bool" "bool" with | some b => okB b | none => .bad) = _
  rw [h]
@[simp] theorem isi_bool_int {i : Int} : isiD "bool" (.int i) = okB false := by
  have h : kitB "int" "bool" = some false := by decide +kernel
  show (match kitB "int" "bool" with | some b => okB b | none => .bad) = _
  rw [h]
@[simp] theorem isi_bool_str {x : Str} : isiD "bool" (.str x) = okB false := by
  have h : kitB "str" "bool" = some false := by decide +kernel
  show (match kitB "str" "bool" with | some b => okB b | none => .bad) = _
  rw [h]
@[simp] theorem isi_bool_lst {ds : List D} : isiD "bool" (.lst ds) = okB false := by
  have h : kitB "list" "bool" = some false := by decide +kernel
  show (match kitB "list" "bool" with | some b => okB b | none => .bad) = _
  rw [h]
@[simp] theorem isi_bool_tup {ds : List D} : isiD "bool" (.tup ds) = okB false := by
  have h : kitB "tuple" "bool" = some false := by decide +kernel
  show (match kitB "tuple" "bool" with | some b => okB b | none => .bad) = _
  rw [h]
@[simp] theorem isi_str_non : isiD "str" .non = okB false := by
  have h : kitB "NoneType" "str" = some false := by decide +kernel
  show (match kitB "NoneType" "str" with | some b => okB b | none => .bad) = _
  rw [h]
@[simp] theorem isi_str_bl {b : Bool} : isiD "str" (.bl b) = okB false := by
  have h : kitB "bool" "str" = some false := by decide +kernel
  show (match kitB "bool" "str" with | some b => okB b | none => .bad) = _
  rw [h]
@[simp] theorem isi_str_int {i : Int} : isiD "str" (.int i) = okB false := by
  have h : kitB "int" "str" = some false := by decide +kernel
  show (match kitB "int" "str" with | some b => okB b | none => .bad) = _
  rw [h]
@[simp] theorem isi_str_str {x : Str} : isiD "str" (.str x) = okB true := by
  have h : kitB "str" "str" = some true := by decide +kernel
  show (match kitB "str" "str" with | some b => okB b | none => .bad) = _
  rw [h]
@[simp] theorem isi_str_lst {ds : List D} : isiD "str" (.lst ds) = okB false := by
  have h : kitB "list" "str" = some false := by decide +kernel
  show (match kitB "list" "str" with | some b => okB b | none => .bad) = _
  rw [h]
@[simp] theorem isi_str_tup {ds : List D} : isiD "str" (.tup ds) = okB false := by
  have h : kitB "tuple" "str" = some false := by decide +kernel
  show (match kitB "tuple" "str" with | some b => okB b | none => .bad) = _
  rw [h]
@[simp] theorem isi_list_non : isiD "list" .non = okB false := by
  have h : kitB "NoneType" "list" = some false := by decide +kernel
  show (match kitB "NoneType" "list" with | some b => okB b | none => .bad) = _
  rw [h]
@[simp] theorem isi_list_bl {b : Bool} : isiD "list" (.bl b) = okB false := by
  have h : kitB "bool" "list" = some false := by decide +kernel
  show (match kitB "bool" "list" with | some b => okB b | none => .bad) = _
  rw [h]
@[simp] theorem isi_list_int {i : Int} : isiD "list" (.int i) = okB false := by
  have h : kitB "int" "list" = some false := by decide +kernel
  show (match kitB "int" "list" with | some b => okB b | none => .bad) = _
  rw [h]
@[simp] theorem isi_list_str {x : Str} : isiD "list" (.str x) = okB false := by
  have h : kitB "str" "list" = some false := by decide +kernel
  show (match kitB "str" "list" with | some b => okB b | none => .bad) = _
  rw [h]
@[simp] theorem isi_list_lst {ds : List D} : isiD "list" (.lst ds) = okB true := by
  have h : kitB "list" "list" = some true := by decide +kernel
  show (match kitB "list" "list" with | some b => okB b | none => .bad) = _
  rw [h]
@[simp] theorem isi_list_tup {ds : List D} : isiD "list" (.tup ds) = okB false := by
  have h : kitB "tuple" "list" = some false := by decide +kernel
  show (match kitB "tuple" "list" with | some b => okB b | none => .bad) = _
  rw [h]
@[simp] theorem isi_tuple_non : isiD "tuple" .non = okB false := by
  have h : kitB "NoneType" "tuple" = some false := by decide +kernel
  show (match kitB "NoneType" "tuple" with | some b => okB b | none => .bad) = _
  rw [h]
@[simp] theorem isi_tuple_bl {b : Bool} : isiD "tuple" (.bl b) = okB false := by
  have h : kitB "bool" "tuple" = some false := by decide +kernel
  show (match kitB "bool" "tuple" with | some b => okB b | none => .bad) = _
  rw [h]
@[simp] theorem isi_tuple_int {i : Int} : isiD "tuple" (.int i) = okB false := by
  have h : kitB "int" "tuple" = some false := by decide +kernel
  show (match kitB "int" "tuple" with | some b => okB b | none => .bad) = _
  rw [h]
@[simp] theorem isi_tuple_str {x : Str} : isiD "tuple" (.str x) = okB false := by
  have h : kitB "str" "tuple" = some false := by decide +kernel
  show (match kitB "str" "tuple" with | some b => okB b | none => .bad) = _
  rw [h]
@[simp] theorem isi_tuple_lst {ds : List D} : isiD "tuple" (.lst ds) = okB false := by
  have h : kitB "list" "tuple" = some false := by decide +kernel
  show (match kitB "list" "tuple" with | some b => okB b | none => .bad) = _
  rw [h]
@[simp] theorem isi_tuple_tup {ds : List D} : isiD "tuple" (.tup ds) = okB true := by
  have h : kitB "tuple" "tuple" = some true := by decide +kernel
  show (match kitB "tuple" "tuple" with | some b => okB b | none => .bad) = _
  rw [h]
@[simp] theorem isi_dict_non : isiD "dict" .non = okB false := by
  have h : kitB "NoneType" "dict" = some false := by decide +kernel
  show (match kitB "NoneType" "dict" with | some b => okB b | none => .bad) = _
  rw [h]
@[simp] theorem isi_dict_bl {b : Bool} : isiD "dict" (.bl b) = okB false := by
  have h : kitB "bool" "dict" = some false := by decide +kernel
  show (match kitB "bool" "dict" with | some b => okB b | none => .bad) = _
  rw [h]
@[simp] theorem isi_dict_int {i : Int} : isiD "dict" (.int i) = okB false := by
  have h : kitB "int" "dict" = some false := by decide +kernel
  show (match kitB "int" "dict" with | some b => okB b | none => .bad) = _
  rw [h]
@[simp] theorem isi_dict_str {x : Str} : isiD "dict" (.str x) = okB false := by
  have h : kitB "str" "dict" = some false := by decide +kernel
  show (match kitB "str" "dict" with | some b => okB b | none => .bad) = _
  rw [h]
@[simp] theorem isi_dict_lst {ds : List D} : isiD "dict" (.lst ds) = okB false := by
  have h : kitB "list" "dict" = some false := by decide +kernel
  show (match kitB "list" "dict" with | some b => okB b | none => .bad) = _
  rw [h]
@[simp] theorem isi_dict_tup {ds : List D} : isiD "dict" (.tup ds) = okB false := by
  have h : kitB "tuple" "dict" = some false := by decide +kernel
  show (match kitB "tuple" "dict" with | some b => okB b | none => .bad) = _
  rw [h]
@[simp] theorem toDs_rev (xs : List O) : O.toDs xs.reverse = (O.toDs xs).reverse := by
  rw [O.toDs_map, O.toDs_map, List.map_reverse]
end DL
namespace DL
open PySem PySem.Spec L2
variable {K : PySem.W.Frag} {F F' H H' H0 F0 F1 H1 : Hp} {cs cs' : List Addr} {σ σ' : L2.St} {ρ ρ' : Rho}
section
variable {X : Cx} {W : WX} {pos : Pos} {a b c e : Expr} {fa fb fc fe : DE} {f g : DS} {k : Nat}
end
end DL
namespace DL
open PySem PySem.Spec L2
variable {K : PySem.W.Frag} {F F' H H' H0 F0 F1 H1 : Hp} {cs cs' : List Addr} {σ σ' : L2.St} {ρ ρ' : Rho}
section
variable {X : Cx} {W : WX} {pos : Pos} {a b c e : Expr} {fa fb fc fe : DE} {f g : DS} {k : Nat}
def meth0S (T : String) (fp : DP) (g : GMt) : DS := methS T fp nilV g
theorem gs_meth0 {T : String} {id : String} {name : Str} {apos cpos : Pos} {r : V → List V → Hp → VK → Prop} {g : GMt} {o : Expr} {fp : DP} (pa : PlainAttrs T) (slot : Slot T name id) (hty : typeOf (.builtin id) = pure (.type "method_descriptor")) (hm : MtR X id r) (mt : MtT X r g) (hT : T ≠ "") (ho : GP X W o fp)
    (hbase : attributeBase o name X.env (eval o X.env) = eval o X.env := by rfl) (hline : (apos.endLine == cpos.line) = true := by rfl)
    (hsw : swapsWith (.Call (.Attribute o name apos) [] [] cpos) none pos.line X.env = pure false := by rfl) :
    GS X W (.Expr (.Call (.Attribute o name apos) [] [] cpos) pos) (meth0S T fp g) := by
  refine PS.imp (ps_expr (pe_bm0 pa slot hty hm ho hbase hline) hsw) fun D σ H ⟨F0, H0, ρ, F, cs, R, p⟩ => ?_
  refine ⟨F0, H0, ρ, F, cs, R, ?_⟩
  unfold meth0S methS nilV at p
  cases q1 : fp ρ with
  | bad => simp only [q1] at p; exact p
  | ex c => simp only [q1] at p; exact fun F2 H2 C e m => p F2 H2 σ cs C e.ff (R.ext e) m
  | ok i pl =>
    simp only [q1] at p
    intro F1 H1 v u e1 hv hat
    split at p
    · rename_i hk
      refine ⟨kindAt_ty hT (R.ext e1) hk hv hat, ?_⟩
      have R2 := R.ext e1
      split at p
      · rename_i o eo
        split at p
        · rename_i s es
          split at p
          · rename_i s' eg
            obtain ⟨v', u', d1, d2, d3, g1, g2, g3, g4, kk⟩ := R2.putAt eo es
            rw [hv] at g2
            cases g2
            have : u' = u := g3.fun_ hat
            subst this
            subst g1
            have nd := R2.nd
            rw [List.nodup_append] at nd
            obtain ⟨n1, n23, d123⟩ := nd
            rw [List.nodup_append] at n23
            obtain ⟨n2, n3, d23⟩ := n23
            refine mt F1 H1 s s' [] u' [] d2 [] _ e1.fh g4 ⟨rfl, rfl⟩ (by rw [List.append_nil]; exact n2) (fun b hb => ?_) eg fun H3 w c3 k3 r3 n4 s3 => ?_
            · rw [List.append_nil] at hb
              exact (R2.cf b (List.mem_append_right _ (List.mem_append_left _ hb))).1
            · have := kk H3 s' c3 k3 r3 n4 fun c hc => by
                have h : c ∈ d2 := by simpa using s3 c hc
                have q := R2.cf c (List.mem_append_right _ (List.mem_append_left _ h))
                exact ⟨q.1, q.2, fun h1 => d123 c h1 c (List.mem_append_left _ h) rfl, fun h1 => d23 c h c h1 rfl⟩
              exact p F1 H3 σ _ e1.ff this
          · exact p.elim
        · exact p.elim
      · exact p.elim
    · exact p.elim
theorem mt_cell {s' : O} {c c' c2 : List Addr} {a : Addr} {os' : List O} {vs' : List V} {Q : VK} {w : V} (nd : (a :: c ++ c').Nodup) (r : OReps K F H os' vs' c2) (n2 : c2.Nodup) (h2 : ∀ b ∈ c2, b ∈ c ++ c')
    (k : ∀ H2 w c2, (∀ b, b ∉ a :: c → H b ≠ none → H2 b = H b) → ORep K F H2 (.lst os') (.ref a) c2 → c2.Nodup → (∀ b ∈ c2, b ∈ a :: c ++ c') → Q w H2) : Q w (upd H a (.lst vs')) := by
  rw [List.cons_append, List.nodup_cons] at nd
  refine k _ w (a :: c2) (fun b hb hn => upd_ne fun e => hb (by rw [e]; exact List.mem_cons_self)) ⟨a, vs', c2, rfl, rfl, upd_same, r.frame (Same.refl _) fun b hb => upd_ne fun e => nd.1 (e ▸ h2 b hb)⟩ (List.nodup_cons.mpr ⟨fun h => nd.1 (h2 _ h), n2⟩) fun b hb => ?_
  rcases List.mem_cons.mp hb with rfl | h
  · exact List.mem_cons_self
  · exact List.mem_cons_of_mem _ (h2 b h)
def gClear : GMt
  | .lst _, [] => some (.lst [])
  | _, _ => none
theorem mtt_clear : MtT X rClear gClear := by
  intro F H s s' as u vs c c' Q fh rs ra nd cf eg k
  unfold gClear at eg
  split at eg
  · rename_i os
    cases eg
    obtain ⟨a, ys, c2, e1, e2, e3, q⟩ := rs
    obtain ⟨e4, e5⟩ := ra
    subst e1 e2 e4 e5
    exact ⟨a, ys, rfl, rfl, e3, mt_cell (K := X.K) (F := F) (s' := .lst []) (os' := []) (vs' := []) (c2 := []) nd (show OReps X.K F H [] [] [] from ⟨rfl, rfl⟩) List.nodup_nil (fun _ h => nomatch h) k⟩
  · cases eg
end
end DL
namespace DL
open PySem PySem.Spec L2
inductive M (α : Type) where
  | ok (a : α) | ex (c : Str) | bad
def M.bind {α β : Type} : M α → (α → M β) → M β
  | .ok a, f => f a
  | .ex c, _ => .ex c
  | .bad, _ => .bad
@[simp] theorem M.bind_ok {α β : Type} {a : α} {f : α → M β} : (M.ok a).bind f = f a := Eq.symm (Eq.symm rfl)
@[simp] theorem M.bind_ex {α β : Type} {c : Str} {f : α → M β} : (M.ex c).bind f = .ex c := Eq.symm (Eq.symm rfl)
@[simp] theorem M.bind_bad {α β : Type} {f : α → M β} : M.bad.bind f = .bad := Eq.symm (Eq.symm rfl)
def lt {α β : Type} (a : α) (f : α → M β) : M β := f a
@[simp] theorem lt_eq {α β : Type} {a : α} {f : α → M β} : lt a f = f a := Eq.symm (Eq.symm rfl)
inductive Fl (β γ : Type) where
  | nx (b : β) | rt (a : γ)
def M.fl {β γ : Type} (m : M (Fl β γ)) (f : β → M γ) : M γ := m.bind fun
  | .nx b => f b
  | .rt a => .ok a
@[simp] theorem M.fl_nx {β γ : Type} {b : β} {f : β → M γ} : (M.ok (Fl.nx b)).fl f = f b := Eq.symm (Eq.symm rfl)
@[simp] theorem M.fl_rt {β γ : Type} {a : γ} {f : β → M γ} : (M.ok (Fl.rt a)).fl f = .ok a := Eq.symm (Eq.symm rfl)
@[simp] theorem M.fl_ex {β γ : Type} {c : Str} {f : β → M γ} : (M.ex c).fl f = .ex c := Eq.symm (Eq.symm rfl)
@[simp] theorem M.fl_bad {β γ : Type} {f : β → M γ} : (M.bad : M (Fl β γ)).fl f = .bad := Eq.symm (Eq.symm rfl)
def forM {α β : Type} (step : α → β → M β) : List α → β → M β
  | [], b => .ok b
  | x :: xs, b => (step x b).bind fun b => forM step xs b
def forF {α β γ : Type} (step : α → β → M (Fl β γ)) : List α → β → M (Fl β γ)
  | [], b => .ok (.nx b)
  | x :: xs, b => (step x b).bind fun
    | .nx b => forF step xs b
    | .rt a => .ok (.rt a)
def whileM {β : Type} (c : β → M Bool) (t : β → M β) : Nat → β → M β
  | 0, _ => .bad
  | n + 1, b => (c b).bind fun z => if z then (t b).bind fun b => whileM c t n b else .ok b
def mapM {α β : Type} (f : α → M β) : List α → M (List β)
  | [] => .ok []
  | x :: xs => (f x).bind fun y => (mapM f xs).bind fun ys => .ok (y :: ys)
def filtM {α β : Type} (p : α → M Bool) (f : α → M β) : List α → M (List β)
  | [] => .ok []
  | x :: xs => (p x).bind fun z => if z then (f x).bind fun y => (filtM p f xs).bind fun ys => .ok (y :: ys) else filtM p f xs
def optC {α β : Type} (x : Option α) (a : β) (f : α → β) : β := match x with
  | none => a
  | some y => f y
@[simp] theorem optC_none {α β : Type} {a : β} {f : α → β} : optC (none : Option α) a f = a := Eq.symm (Eq.symm rfl)
@[simp] theorem optC_some {α β : Type} {x : α} {a : β} {f : α → β} : optC (some x) a f = f x := Eq.symm (Eq.symm rfl)
def unO {α : Type} (x : Option α) : M α := optC x .bad .ok
@[simp] theorem unO_some {α : Type} {x : α} : unO (some x) = .ok x := Eq.symm (Eq.symm rfl)
def grd {α : Type} (b : Bool) (a : α) : M α := if b then .ok a else .bad
@[simp] theorem grd_true {α : Type} {a : α} : grd true a = .ok a := Eq.symm (Eq.symm rfl)
def ix {α : Type} (xs : List α) (i : Int) : M α := match L2.atI xs i with
  | some a => .ok a
  | none => .bad
def mulM (i j : Int) : M Int := if okMul i j then .ok (i * j) else .bad
def modM (i j : Int) : M Int := if 0 < j then .ok (i % j) else .bad
def fdivM (i j : Int) : M Int := if okDiv j then .ok (i / j) else .bad
def catM {α : Type} (xs ys : List α) : M (List α) := if okLen (xs.length + ys.length) then .ok (xs ++ ys) else .bad
def repM {α : Type} (xs : List α) (k : Int) : M (List α) := if decide (-(2 ^ 63) ≤ k) && decide (k < 2 ^ 63) && okLen (xs.length * k.toNat) then .ok (List.replicate k.toNat xs).flatten else .bad
def appM {α : Type} (xs : List α) (x : α) : M (List α) := if xs.length < lim then .ok (xs ++ [x]) else .bad
def compP {α β : Type} (f : α → β) (xs : List α) : M (List β) := if okLen xs.length then .ok (xs.map f) else .bad
def compM {α β : Type} (f : α → M β) (xs : List α) : M (List β) := if okLen xs.length then mapM f xs else .bad
def compFP {α β : Type} (p : α → Bool) (f : α → β) (xs : List α) : M (List β) := if okLen xs.length then .ok ((xs.filter p).map f) else .bad
def compF {α β : Type} (p : α → M Bool) (f : α → M β) (xs : List α) : M (List β) := if okLen xs.length then filtM p f xs else .bad
def rng (lo hi : Int) : List Int := (List.range (hi - lo).toNat).map fun i => lo + (i : Nat)
def rngM (lo hi : Int) : M (List Int) := if okR lo && okR hi then .ok (rng lo hi) else .bad
def rngL (lo hi : Int) : M (List Int) := if okR lo && okR hi && okLen (hi - lo).toNat then .ok (rng lo hi) else .bad
def enumL {α : Type} (xs : List α) : List (Int × α) := xs.zipIdx.map fun p => ((p.2 : Nat), p.1)
def minM (xs : List Int) : M Int := match xs with
  | [] => .bad
  | n :: ns => .ok (minI (n :: ns))
def setM {α : Type} (xs : List α) (i : Int) (x : α) : M (List α) := match ixN xs.length i with
  | some j => .ok (xs.set j x)
  | none => .bad
def eI : Int → D := .int
def eB : Bool → D := .bl
def eS : Str → D := .str
def eN : Unit → D := fun _ => .non
def eO {α : Type} (e : α → D) : Option α → D := fun
  | none => .non
  | some a => e a
def eL {α : Type} (e : α → D) : List α → D := fun xs => .lst (xs.map e)
def eT1 {α : Type} (e : α → D) : α → D := fun a => .tup [e a]
def eT2 {α β : Type} (e : α → D) (f : β → D) : α × β → D := fun p => .tup [e p.1, f p.2]
def eT3 {α β γ : Type} (e : α → D) (f : β → D) (g : γ → D) : α × β × γ → D := fun p => .tup [e p.1, f p.2.1, g p.2.2]
def eT4 {α β γ δ : Type} (e : α → D) (f : β → D) (g : γ → D) (h : δ → D) : α × β × γ × δ → D := fun p => .tup [e p.1, f p.2.1, g p.2.2.1, h p.2.2.2]
def oF {α : Type} (e : α → D) : α → O := fun a => .fz (e a)
def oO {α : Type} (s : α → O) : Option α → O := fun
  | none => .fz .non
  | some a => s a
def oL {α : Type} (s : α → O) : List α → O := fun xs => .lst (xs.map s)
def oT1 {α : Type} (e : α → O) : α → O := fun a => .tup [e a]
def oT2 {α β : Type} (e : α → O) (f : β → O) : α × β → O := fun p => .tup [e p.1, f p.2]
def oT3 {α β γ : Type} (e : α → O) (f : β → O) (g : γ → O) : α × β × γ → O := fun p => .tup [e p.1, f p.2.1, g p.2.2]
def oT4 {α β γ δ : Type} (e : α → O) (f : β → O) (g : γ → O) (h : δ → O) : α × β × γ × δ → O := fun p => .tup [e p.1, f p.2.1, g p.2.2.1, h p.2.2.2]
class ToD {α : Type} (s : α → O) (e : outParam (α → D)) : Prop where
  td : ∀ a, (s a).toD = e a
instance {α : Type} {e : α → D} : ToD (oF e) e := ⟨fun _ => rfl⟩
theorem toDs_of {α : Type} {s : α → O} {e : α → D} (h : ∀ a, (s a).toD = e a) (xs : List α) : O.toDs (xs.map s) = xs.map e := by
  rw [O.toDs_map, List.map_map]
  exact List.map_congr_left fun a _ => h a
instance {α : Type} {s : α → O} {e : α → D} [ToD s e] : ToD (oL s) (eL e) := ⟨fun xs => congrArg D.lst (toDs_of ToD.td xs)⟩
instance {α : Type} {s : α → O} {e : α → D} [ToD s e] : ToD (oO s) (eO e) := ⟨fun x => by
  cases x with
  | none => rfl
  | some a => exact ToD.td a⟩
instance {α : Type} {s : α → O} {e : α → D} [ToD s e] : ToD (oT1 s) (eT1 e) := ⟨fun p => by simp [oT1, eT1, ToD.td (s := s)]⟩
instance {α β : Type} {s : α → O} {e : α → D} {t : β → O} {f : β → D} [ToD s e] [ToD t f] : ToD (oT2 s t) (eT2 e f) := ⟨fun p => by simp [oT2, eT2, ToD.td (s := s), ToD.td (s := t)]⟩
instance {α β γ : Type} {s : α → O} {e : α → D} {t : β → O} {f : β → D} {u : γ → O} {g : γ → D} [ToD s e] [ToD t f] [ToD u g] : ToD (oT3 s t u) (eT3 e f g) := ⟨fun p => by simp [oT3, eT3, ToD.td (s := s), ToD.td (s := t), ToD.td (s := u)]⟩
instance {α β γ δ : Type} {s : α → O} {e : α → D} {t : β → O} {f : β → D} {u : γ → O} {g : γ → D} {v : δ → O} {h : δ → D} [ToD s e] [ToD t f] [ToD u g] [ToD v h] : ToD (oT4 s t u v) (eT4 e f g h) := ⟨fun p => by simp [oT4, eT4, ToD.td (s := s), ToD.td (s := t), ToD.td (s := u), ToD.td (s := v)]⟩
class LeafF {α : Type} (s : α → O) : Prop where
  lf : ∀ a, leafFlat (s a) = true
class FlatE {α : Type} (e : α → D) : Prop where
  fl : ∀ a, flatD (e a) = true
instance : FlatE eI := ⟨fun _ => rfl⟩
instance : FlatE eB := ⟨fun _ => rfl⟩
instance : FlatE eS := ⟨fun _ => rfl⟩
instance : FlatE eN := ⟨fun _ => rfl⟩
instance {α : Type} {e : α → D} [FlatE e] : FlatE (eO e) := ⟨fun x => by
  cases x with
  | none => rfl
  | some a => exact FlatE.fl a⟩
instance {α : Type} {e : α → D} [FlatE e] : LeafF (oF e) := ⟨fun a => FlatE.fl a⟩
theorem leafs_of {α : Type} {s : α → O} (h : ∀ a, leafFlat (s a) = true) : ∀ xs : List α, leafsFlat (xs.map s) = true
  | [] => rfl
  | x :: xs => by simp [leafsFlat, h x, leafs_of h xs]
instance {α : Type} {s : α → O} [LeafF s] : LeafF (oL s) := ⟨fun xs => leafs_of LeafF.lf xs⟩
instance {α : Type} {s : α → O} [LeafF s] : LeafF (oO s) := ⟨fun x => by
  cases x with
  | none => rfl
  | some a => exact LeafF.lf a⟩
instance {α : Type} {s : α → O} [LeafF s] : LeafF (oT1 s) := ⟨fun p => by simp [oT1, leafFlat, leafsFlat, LeafF.lf]⟩
instance {α β : Type} {s : α → O} {t : β → O} [LeafF s] [LeafF t] : LeafF (oT2 s t) := ⟨fun p => by simp [oT2, leafFlat, leafsFlat, LeafF.lf]⟩
instance {α β γ : Type} {s : α → O} {t : β → O} {u : γ → O} [LeafF s] [LeafF t] [LeafF u] : LeafF (oT3 s t u) := ⟨fun p => by simp [oT3, leafFlat, leafsFlat, LeafF.lf]⟩
instance {α β γ δ : Type} {s : α → O} {t : β → O} {u : γ → O} {v : δ → O} [LeafF s] [LeafF t] [LeafF u] [LeafF v] : LeafF (oT4 s t u v) := ⟨fun p => by simp [oT4, leafFlat, leafsFlat, LeafF.lf]⟩
class EqE {α : Type} (e : α → D) (n : outParam Nat) : Prop where
  sh : ∀ a, Sh n (e a)
  eq : ∀ a b, eqD (e a) (e b) = true ↔ a = b
class NnE {α : Type} (e : α → D) : Prop where
  nn : ∀ a, e a ≠ .non
instance : NnE eI := ⟨fun _ h => nomatch h⟩
instance : NnE eB := ⟨fun _ h => nomatch h⟩
instance : NnE eS := ⟨fun _ h => nomatch h⟩
instance {α : Type} {e : α → D} : NnE (eL e) := ⟨fun _ h => nomatch h⟩
instance {α : Type} {e : α → D} : NnE (eT1 e) := ⟨fun _ h => nomatch h⟩
instance {α β : Type} {e : α → D} {f : β → D} : NnE (eT2 e f) := ⟨fun _ h => nomatch h⟩
instance {α β γ : Type} {e : α → D} {f : β → D} {g : γ → D} : NnE (eT3 e f g) := ⟨fun _ h => nomatch h⟩
instance {α β γ δ : Type} {e : α → D} {f : β → D} {g : γ → D} {h : δ → D} : NnE (eT4 e f g h) := ⟨fun _ h => nomatch h⟩
theorem eqD_bl {a b : Bool} : eqD (.bl a) (.bl b) = true ↔ a = b := by
  unfold eqD
  cases a <;> cases b <;> simp [toPy, PyData.eqv]
instance : EqE eI 0 := ⟨fun _ => Sh.int, fun a b => by simp [eI]⟩
instance : EqE eB 0 := ⟨fun _ => Sh.bl, fun a b => eqD_bl⟩
end DL
namespace DL
open PySem PySem.Spec L2
theorem eqD_non {d : D} (h : d ≠ .non) : eqD .non d = false ∧ eqD d .non = false := by
  unfold eqD
  cases d <;> first | exact absurd rfl h | simp [toPy, PyData.eqv]
theorem eqDs {α : Type} {e : α → D} (h : ∀ a b, eqD (e a) (e b) = true ↔ a = b) : ∀ xs ys : List α, PyData.eqvAll (toPys (xs.map e)) (toPys (ys.map e)) = true ↔ xs = ys
  | [], [] => by simp [toPys, PyData.eqvAll]
  | [], _ :: _ => by simp [toPys, PyData.eqvAll]
  | _ :: _, [] => by simp [toPys, PyData.eqvAll]
  | x :: xs, y :: ys => by
    have h1 := h x y
    unfold eqD at h1
    simp [toPys, PyData.eqvAll, h1, eqDs h xs ys]
instance {α : Type} {e : α → D} {n : Nat} [EqE e n] : EqE (eL e) (n + 1) := ⟨fun xs => Sh.map fun x _ => EqE.sh x, fun xs ys => by
  have := eqDs (e := e) EqE.eq xs ys
  simpa [eL, eqD, toPy, PyData.eqv] using this⟩
instance {α : Type} {e : α → D} {n : Nat} [EqE e n] : EqE (eT1 e) (n + 1) := ⟨fun p => Sh.tup fun d hd => by
  simp at hd
  subst hd
  exact EqE.sh _, fun a b => by
  have h1 := EqE.eq (e := e) a b
  unfold eqD at h1 ⊢
  simp [eT1, toPy, toPys, PyData.eqv, PyData.eqvAll, h1]⟩
instance {α β : Type} {e : α → D} {f : β → D} {n m : Nat} [EqE e n] [EqE f m] : EqE (eT2 e f) (max n m + 1) := ⟨fun p => Sh.tup fun d hd => by
  simp at hd
  rcases hd with rfl | rfl
  · exact (EqE.sh (e := e) _).mono (by omega)
  · exact (EqE.sh (e := f) _).mono (by omega), fun a b => by
  have h1 := EqE.eq (e := e) a.1 b.1
  have h2 := EqE.eq (e := f) a.2 b.2
  unfold eqD at h1 h2 ⊢
  simp [eT2, toPy, toPys, PyData.eqv, PyData.eqvAll, h1, h2, Prod.ext_iff]⟩
instance {α β γ : Type} {e : α → D} {f : β → D} {g : γ → D} {n m k : Nat} [EqE e n] [EqE f m] [EqE g k] : EqE (eT3 e f g) (max n (max m k) + 1) := ⟨fun p => Sh.tup fun d hd => by
  simp at hd
  rcases hd with rfl | rfl | rfl
  · exact (EqE.sh (e := e) _).mono (by omega)
  · exact (EqE.sh (e := f) _).mono (by omega)
  · exact (EqE.sh (e := g) _).mono (by omega), fun a b => by
  have h1 := EqE.eq (e := e) a.1 b.1
  have h2 := EqE.eq (e := f) a.2.1 b.2.1
  have h3 := EqE.eq (e := g) a.2.2 b.2.2
  unfold eqD at h1 h2 h3 ⊢
  simp [eT3, toPy, toPys, PyData.eqv, PyData.eqvAll, h1, h2, h3, Prod.ext_iff]⟩
instance {α β γ δ : Type} {e : α → D} {f : β → D} {g : γ → D} {h : δ → D} {n m k l : Nat} [EqE e n] [EqE f m] [EqE g k] [EqE h l] : EqE (eT4 e f g h) (max n (max m (max k l)) + 1) := ⟨fun p => Sh.tup fun d hd => by
  simp at hd
  rcases hd with rfl | rfl | rfl | rfl
  · exact (EqE.sh (e := e) _).mono (by omega)
  · exact (EqE.sh (e := f) _).mono (by omega)
  · exact (EqE.sh (e := g) _).mono (by omega)
  · exact (EqE.sh (e := h) _).mono (by omega), fun a b => by
  have h1 := EqE.eq (e := e) a.1 b.1
  have h2 := EqE.eq (e := f) a.2.1 b.2.1
  have h3 := EqE.eq (e := g) a.2.2.1 b.2.2.1
  have h4 := EqE.eq (e := h) a.2.2.2 b.2.2.2
  unfold eqD at h1 h2 h3 h4 ⊢
  simp [eT4, toPy, toPys, PyData.eqv, PyData.eqvAll, h1, h2, h3, h4, Prod.ext_iff]⟩
instance {α : Type} {e : α → D} {n : Nat} [EqE e n] [NnE e] : EqE (eO e) n := ⟨fun x => by
  cases x with
  | none => exact Sh.non
  | some a => exact EqE.sh a, fun x y => by
  cases x with
  | none => cases y with
    | none => simp [eO, eqD, toPy, PyData.eqv]
    | some b => simp [eO, (eqD_non (NnE.nn (e := e) b)).1]
  | some a => cases y with
    | none => simp [eO, (eqD_non (NnE.nn (e := e) a)).2]
    | some b => simp [eO, EqE.eq (e := e) a b]⟩
instance : EqE eN 0 := ⟨fun _ => Sh.non, fun a b => by simp [eN, eqD, toPy, PyData.eqv]⟩
end DL
namespace DL
open PySem PySem.Spec L2
abbrev rO {α : Type} (s : α → O) : α → Ar := fun a => .ow (s a)
abbrev rV {α : Type} (s : α → O) : α → Ar := fun a => itemAr (s a)
def RQ0 {α : Type} (r : Rs) (m : M α) (s : α → Ar) : Prop := match m with
  | .ok a => r = .ok (s a)
  | .ex c => r = .ex c
  | .bad => True
def AQ0 {α : Type} (r : Rm) (m : M α) (s : α → List Ar) : Prop := match m with
  | .ok a => r = .ok (s a)
  | .ex c => r = .ex c
  | .bad => True
def TQ0 (r : Rb) (m : M Bool) : Prop := match m with
  | .ok a => r = .ok a
  | .ex c => r = .ex c
  | .bad => True
def VQ0 {α : Type} (r : Rv) (m : M α) (s : α → O) (ρ' : Rho) : Prop := match m with
  | .ok a => r = .ok (s a) ρ'
  | .ex c => r = .ex c
  | .bad => True
def VsQ0 {α : Type} (r : Rvs) (m : M α) (s : α → List O) (ρ' : Rho) : Prop := match m with
  | .ok a => r = .ok (s a) ρ'
  | .ex c => r = .ex c
  | .bad => True
def IQ0 {α : Type} (r : Ri) (m : M (List α)) (e : α → D) : Prop := match m with
  | .ok xs => r = .ok (xs.map e)
  | .ex c => r = .ex c
  | .bad => True
def FQ0 {α : Type} (r : Rf) (m : M α) (s : α → O) : Prop := match m with
  | .ok a => r = .ok (s a)
  | .ex c => r = .ex c
  | .bad => True
structure FQ {α : Type} (r : Rf) (m : M α) (s : α → O) : Prop where
  out : FQ0 r m s
def XQ0 (r : Option (Option Int)) (m : M (Option Int)) : Prop := match m with
  | .ok a => r = some a
  | .ex _ => True
  | .bad => True
section
variable {α β γ : Type} {ρ ρ' : Rho} {g : Ar → Ar → Rs} {u : Ar → Rs} {fa fb fc : DE} {a b : Ar} {ma : M α} {mb : M β} {sa : α → Ar} {sb : β → Ar} {s : γ → Ar} {m : M γ}
theorem pq_var {i : Nat} {o : O} (h : ρ[i]? = some (some o)) : varE i ρ = .ok (itemAr o) := by
  unfold varE
  rw [h]
  cases o <;> rfl
theorem pq_varF {i : Nat} {d : D} (h : ρ[i]? = some (some (.fz d))) : varE i ρ = .ok (.ow (.fz d)) := by
  unfold varE
  rw [h]
theorem pq_bin {r : Ar} (ha : fa ρ = .ok a) (hb : fb ρ = .ok b) (ho : g a b = .ok r) : bin g fa fb ρ = .ok r := by
  unfold bin Rs.bind
  rw [ha, hb]
  exact ho
theorem rq_pp_z (ha : fa ρ = .ok a) (hb : fb ρ = .ok b) (ho : RQ0 (g a b) m s) : RQ0 (bin g fa fb ρ) m s := by
  have : bin g fa fb ρ = g a b := by unfold bin Rs.bind; rw [ha, hb]
  rw [this]; exact ho
theorem rq_mp_z {mo : α → M γ} (ha : RQ0 (fa ρ) ma sa) (hb : fb ρ = .ok b) (ho : ∀ x, RQ0 (g (sa x) b) (mo x) s) : RQ0 (bin g fa fb ρ) (ma.bind mo) s := by
  cases ma with
  | ok x => exact rq_pp_z ha hb (ho x)
  | ex c =>
    have ha : fa ρ = .ex c := ha
    show bin g fa fb ρ = .ex c
    unfold bin Rs.bind
    rw [ha]
  | bad => trivial
theorem rq_pm_z {mo : β → M γ} (ha : fa ρ = .ok a) (hb : RQ0 (fb ρ) mb sb) (ho : ∀ y, RQ0 (g a (sb y)) (mo y) s) : RQ0 (bin g fa fb ρ) (mb.bind mo) s := by
  cases mb with
  | ok x => exact rq_pp_z ha hb (ho x)
  | ex c =>
    have hb : fb ρ = .ex c := hb
    show bin g fa fb ρ = .ex c
    unfold bin Rs.bind
    rw [ha, hb]
  | bad => trivial
theorem rq_mm_z {mo : α → β → M γ} (ha : RQ0 (fa ρ) ma sa) (hb : RQ0 (fb ρ) mb sb) (ho : ∀ x y, RQ0 (g (sa x) (sb y)) (mo x y) s) : RQ0 (bin g fa fb ρ) (ma.bind fun x => mb.bind fun y => mo x y) s := by
  cases ma with
  | ok x =>
    have t := rq_pm_z (g := g) (show fa ρ = .ok (sa x) from ha) hb (ho x)
    exact t
  | ex c =>
    have ha : fa ρ = .ex c := ha
    show bin g fa fb ρ = .ex c
    unfold bin Rs.bind
    rw [ha]
  | bad => trivial
theorem pq_un {r : Ar} (ha : fa ρ = .ok a) (ho : u a = .ok r) : un u fa ρ = .ok r := by
  unfold un Rs.bind
  rw [ha]
  exact ho
theorem rq_unF_z {e : α → D} {x : Option α} (h : fa ρ = .ok (.ow (.fz (eO e x)))) : RQ0 (fa ρ) (unO x) (rO (oF e)) := by
  cases x with
  | none => trivial
  | some y => exact h
theorem rq_bind_z {mo : α → M γ} {r : Rs} (h : RQ0 r ma sa) (k : ∀ x, r = .ok (sa x) → RQ0 r (mo x) s) : RQ0 r (ma.bind mo) s := by
  cases ma with
  | ok x => exact k x h
  | ex c => exact h
  | bad => trivial
theorem rq_of_z {r : Rs} {x : γ} (h : r = .ok (s x)) : RQ0 r (.ok x) s := h
theorem rq_ok_z {r : Rs} {x : γ} (h : RQ0 r (.ok x) s) : r = .ok (s x) := h
variable {f : DE} {ga : DA} {as : List Ar} {mas : M β} {ss : β → List Ar}
theorem aq_nil : nilA ρ = .ok [] := rfl
theorem aq_pp (hf : f ρ = .ok a) (hg : ga ρ = .ok as) : consA f ga ρ = .ok (a :: as) := by
  unfold consA
  rw [hf, hg]
theorem aq_pm_z (hf : f ρ = .ok a) (hg : AQ0 (ga ρ) mas ss) : AQ0 (consA f ga ρ) mas (fun y => a :: ss y) := by
  cases mas with
  | ok y => exact aq_pp hf hg
  | ex c =>
    have hg : ga ρ = .ex c := hg
    show consA f ga ρ = .ex c
    unfold consA
    rw [hf, hg]
  | bad => trivial
theorem aq_mp_z (hf : RQ0 (f ρ) ma sa) (hg : ga ρ = .ok as) : AQ0 (consA f ga ρ) ma (fun x => sa x :: as) := by
  cases ma with
  | ok y => exact aq_pp hf hg
  | ex c =>
    have hf : f ρ = .ex c := hf
    show consA f ga ρ = .ex c
    unfold consA
    rw [hf]
  | bad => trivial
theorem aq_mm_z (hf : RQ0 (f ρ) ma sa) (hg : AQ0 (ga ρ) mas ss) : AQ0 (consA f ga ρ) (ma.bind fun x => mas.bind fun y => .ok (x, y)) (fun p => sa p.1 :: ss p.2) := by
  cases ma with
  | ok x =>
    cases mas with
    | ok y => exact aq_pp hf hg
    | ex c =>
      have hf : f ρ = .ok (sa x) := hf
      have hg : ga ρ = .ex c := hg
      show consA f ga ρ = .ex c
      unfold consA
      rw [hf, hg]
    | bad => trivial
  | ex c =>
    have hf : f ρ = .ex c := hf
    show consA f ga ρ = .ex c
    unfold consA
    rw [hf]
  | bad => trivial
theorem pq_callB {g : List Ar → Rs} {r : Ar} (ha : ga ρ = .ok as) (ho : g as = .ok r) : callB g ga ρ = .ok r := by
  unfold callB
  rw [ha]; exact ho
theorem rq_callB0_z {g : List Ar → Rs} (ha : ga ρ = .ok as) (ho : RQ0 (g as) m s) : RQ0 (callB g ga ρ) m s := by
  have : callB g ga ρ = g as := by unfold callB; rw [ha]
  rw [this]; exact ho
theorem rq_callB_z {g : List Ar → Rs} {mo : β → M γ} (ha : AQ0 (ga ρ) mas ss) (ho : ∀ y, RQ0 (g (ss y)) (mo y) s) : RQ0 (callB g ga ρ) (mas.bind mo) s := by
  cases mas with
  | ok y => exact rq_callB0_z ha (ho y)
  | ex c =>
    have ha : ga ρ = .ex c := ha
    show callB g ga ρ = .ex c
    unfold callB
    rw [ha]
  | bad => trivial
theorem fq_toRs_z {sem : DF} {o : γ → O} {as : List Ar} (hv : noVw as = true ∨ ∀ a, leafFlat (o a) = true) (h : FQ (sem (as.map Ar.d)) m o) : RQ0 (toRs as (sem (as.map Ar.d))) m (rO o) := by
  cases m with
  | ok x =>
    have h : sem (as.map Ar.d) = .ok (o x) := h.out
    show toRs as (sem (as.map Ar.d)) = .ok (.ow (o x))
    have : (noVw as || leafFlat (o x)) = true := by
      rcases hv with hv | hv
      · rw [hv]; rfl
      · rw [hv x, Bool.or_true]
    rw [h]
    exact if_pos this
  | ex c =>
    have h : sem (as.map Ar.d) = .ex c := h.out
    show toRs as (sem (as.map Ar.d)) = .ex c
    rw [h]; rfl
  | bad => trivial
theorem rq_callF0_z {sem : DF} {n : Nat} {o : γ → O} {ds : List D} (ha : ga ρ = .ok as) (hn : as.length = n) (hd : as.map Ar.d = ds) (hv : noVw as = true ∨ ∀ a, leafFlat (o a) = true) (h : FQ (sem ds) m o) : RQ0 (callF sem n ga ρ) m (rO o) := by
  have : callF sem n ga ρ = toRs as (sem (as.map Ar.d)) := by unfold callF; rw [ha]; exact if_pos hn
  rw [this]
  subst hd
  exact fq_toRs_z hv h
theorem rq_callF_z {sem : DF} {n : Nat} {o : γ → O} {mo : β → M γ} {ds : β → List D} (ha : AQ0 (ga ρ) mas ss) (hn : ∀ y, (ss y).length = n) (hd : ∀ y, (ss y).map Ar.d = ds y) (hv : (∀ y, noVw (ss y) = true) ∨ ∀ a, leafFlat (o a) = true) (h : ∀ y, FQ (sem (ds y)) (mo y) o) : RQ0 (callF sem n ga ρ) (mas.bind mo) (rO o) := by
  cases mas with
  | ok y => exact rq_callF0_z ha (hn y) (hd y) (hv.imp (fun h => h y) id) (h y)
  | ex c =>
    have ha : ga ρ = .ex c := ha
    show callF sem n ga ρ = .ex c
    unfold callF
    rw [ha]
  | bad => trivial
theorem pq_lst {os : List O} (ha : ga ρ = .ok as) (ho : owAll as = some os) (hl : okLen os.length = true) : lstE ga ρ = .ok (.ow (.lst os)) := by
  unfold lstE
  rw [ha]
  show (match owAll as with | some os => if okLen os.length then Rs.ok (.ow (.lst os)) else .bad | none => .bad) = _
  rw [ho]
  exact if_pos hl
theorem rq_lst_z {os : β → List O} {mo : β → γ} {s : γ → O} (ha : AQ0 (ga ρ) mas ss) (ho : ∀ y, owAll (ss y) = some (os y)) (hl : ∀ y, okLen (os y).length = true) (hs : ∀ y, s (mo y) = .lst (os y)) : RQ0 (lstE ga ρ) (mas.bind fun y => .ok (mo y)) (rO s) := by
  cases mas with
  | ok y =>
    show lstE ga ρ = .ok (.ow (s (mo y)))
    rw [hs]
    exact pq_lst ha (ho y) (hl y)
  | ex c =>
    have ha : ga ρ = .ex c := ha
    show lstE ga ρ = .ex c
    unfold lstE
    rw [ha]
  | bad => trivial
theorem pq_tupO {os : List O} (ha : ga ρ = .ok as) (ho : owAll as = some os) (hl : okLen os.length = true) (hz : allFz os = none) : tupE ga ρ = .ok (.ow (.tup os)) := by
  unfold tupE
  rw [ha]
  show (match owAll as with | some os => if okLen os.length then (match allFz os with | some ds => Rs.ok (.ow (.fz (.tup ds))) | none => .ok (.ow (.tup os))) else .bad | none => .bad) = _
  rw [ho]
  show (if okLen os.length then (match allFz os with | some ds => Rs.ok (.ow (.fz (.tup ds))) | none => .ok (.ow (.tup os))) else .bad) = _
  rw [if_pos hl, hz]
theorem rq_tup_z {mo : β → γ} {s : γ → O} (ha : AQ0 (ga ρ) mas ss) (h : ∀ y, ga ρ = .ok (ss y) → tupE ga ρ = .ok (.ow (s (mo y)))) : RQ0 (tupE ga ρ) (mas.bind fun y => .ok (mo y)) (rO s) := by
  cases mas with
  | ok y => exact h y ha
  | ex c =>
    have ha : ga ρ = .ex c := ha
    show tupE ga ρ = .ex c
    unfold tupE
    rw [ha]
  | bad => trivial
variable {p q : Bool} {t1 t2 : DT} {mp mq : M Bool}
theorem tq_p (h : fa ρ = .ok (dB p)) : testE fa ρ = .ok p := by
  unfold testE
  rw [h]; rfl
theorem tq_m_z (h : RQ0 (fa ρ) mp (rO (oF eB))) : TQ0 (testE fa ρ) mp := by
  cases mp with
  | ok b => exact tq_p h
  | ex c =>
    have h : fa ρ = .ex c := h
    show testE fa ρ = .ex c
    unfold testE
    rw [h]; rfl
  | bad => trivial
theorem tq_of_z {r : Rb} (h : r = .ok p) : TQ0 r (.ok p) := h
theorem tq_not_p (h : t1 ρ = .ok p) : notT t1 ρ = .ok (!p) := by
  unfold notT
  rw [h]
theorem tq_not_m_z (h : TQ0 (t1 ρ) mp) : TQ0 (notT t1 ρ) (mp.bind fun b => .ok (!b)) := by
  cases mp with
  | ok b => exact tq_not_p h
  | ex c =>
    have h : t1 ρ = .ex c := h
    show notT t1 ρ = .ex c
    unfold notT
    rw [h]
  | bad => trivial
theorem tq_and_pp (h : t1 ρ = .ok p) (h2 : t2 ρ = .ok q) : andT t1 t2 ρ = .ok (p && q) := by
  unfold andT
  rw [h]
  cases p
  · rfl
  · exact h2
theorem tq_and_pm_z (h : t1 ρ = .ok p) (h2 : TQ0 (t2 ρ) mq) : TQ0 (andT t1 t2 ρ) (if p then mq else .ok false) := by
  cases p with
  | false =>
    show andT t1 t2 ρ = .ok false
    unfold andT; rw [h]
  | true =>
    have : andT t1 t2 ρ = t2 ρ := by unfold andT; rw [h]
    rw [if_pos rfl, this]; exact h2
theorem tq_or_pm_z (h : t1 ρ = .ok p) (h2 : TQ0 (t2 ρ) mq) : TQ0 (orT t1 t2 ρ) (if p then .ok true else mq) := by
  cases p with
  | true =>
    show orT t1 t2 ρ = .ok true
    unfold orT; rw [h]
  | false =>
    have : orT t1 t2 ρ = t2 ρ := by unfold orT; rw [h]
    rw [if_neg (by decide), this]; exact h2
theorem tq_and_mm_z (h : TQ0 (t1 ρ) mp) (h2 : TQ0 (t2 ρ) mq) : TQ0 (andT t1 t2 ρ) (mp.bind fun p => if p then mq else .ok false) := by
  cases mp with
  | ok p => exact tq_and_pm_z h h2
  | ex c =>
    have h : t1 ρ = .ex c := h
    show andT t1 t2 ρ = .ex c
    unfold andT; rw [h]
  | bad => trivial
theorem tq_or_mm_z (h : TQ0 (t1 ρ) mp) (h2 : TQ0 (t2 ρ) mq) : TQ0 (orT t1 t2 ρ) (mp.bind fun p => if p then .ok true else mq) := by
  cases mp with
  | ok p => exact tq_or_pm_z h h2
  | ex c =>
    have h : t1 ρ = .ex c := h
    show orT t1 t2 ρ = .ex c
    unfold orT; rw [h]
  | bad => trivial
theorem notV_eq {fa : DE} : notV fa ρ = (match notT (testE fa) ρ with | .ok b => okB b | .ex c => .ex c | .bad => .bad) := by
  unfold notV notT testE Rs.bind
  cases fa ρ with
  | ok a =>
    cases a with
    | vw o => rfl
    | ow o => cases o with
      | fz d => cases d <;> rfl
      | _ => rfl
  | _ => rfl
theorem vq_not_z {mo : M Bool} (h : TQ0 (notT (testE fa) ρ) mo) : RQ0 (notV fa ρ) mo (rO (oF eB)) := by
  rw [notV_eq]
  cases mo with
  | ok b => have h : _ = _ := h; show _ = _; rw [h]; rfl
  | ex c => have h : _ = _ := h; show _ = _; rw [h]
  | bad => trivial
theorem test_ok {r : Rs} {b : Bool} (h : r.test = .ok b) : r = okB b := by
  cases r with
  | ok a =>
    cases a with
    | vw o => cases h
    | ow o => cases o with
      | fz d => cases d with
        | bl k => cases h; rfl
        | _ => cases h
      | _ => cases h
  | ex c => cases h
  | bad => cases h
theorem test_ex {r : Rs} {c : Str} (h : r.test = .ex c) : r = .ex c := by
  cases r with
  | ok a =>
    cases a with
    | vw o => cases h
    | ow o => cases o with
      | fz d => cases d with
        | bl k => cases h
        | _ => cases h
      | _ => cases h
  | ex k => cases h; rfl
  | bad => cases h
theorem vq_and_z {mo : M Bool} (h : TQ0 (andT (testE fa) (testE fb) ρ) mo) : RQ0 (andV fa fb ρ) mo (rO (oF eB)) := by
  unfold andT at h
  cases q : testE fa ρ with
  | bad =>
    rw [q] at h
    cases mo with
    | ok b => have h : Rb.bad = _ := h; cases h
    | ex c => have h : Rb.bad = _ := h; cases h
    | bad => trivial
  | ex c =>
    rw [q] at h
    have e := test_ex q
    have : andV fa fb ρ = .ex c := by unfold andV Rs.bind; rw [e]
    rw [this]
    cases mo with
    | ok b => have h : Rb.ex c = _ := h; cases h
    | ex k => have h : Rb.ex c = .ex k := h; cases h; rfl
    | bad => trivial
  | ok k =>
    rw [q] at h
    have e := test_ok q
    cases k with
    | false =>
      have : andV fa fb ρ = okB false := by unfold andV Rs.bind; rw [e]
      rw [this]
      cases mo with
      | ok b => have h : Rb.ok false = .ok b := h; cases h; rfl
      | ex k => have h : Rb.ok false = .ex k := h; cases h
      | bad => trivial
    | true =>
      have : andV fa fb ρ = fb ρ := by unfold andV Rs.bind; rw [e]
      rw [this]
      cases mo with
      | ok b => exact test_ok h
      | ex k => exact test_ex h
      | bad => trivial
theorem vq_or_z {mo : M Bool} (h : TQ0 (orT (testE fa) (testE fb) ρ) mo) : RQ0 (orV fa fb ρ) mo (rO (oF eB)) := by
  unfold orT at h
  cases q : testE fa ρ with
  | bad =>
    rw [q] at h
    cases mo with
    | ok b => have h : Rb.bad = _ := h; cases h
    | ex c => have h : Rb.bad = _ := h; cases h
    | bad => trivial
  | ex c =>
    rw [q] at h
    have e := test_ex q
    have : orV fa fb ρ = .ex c := by unfold orV Rs.bind; rw [e]
    rw [this]
    cases mo with
    | ok b => have h : Rb.ex c = _ := h; cases h
    | ex k => have h : Rb.ex c = .ex k := h; cases h; rfl
    | bad => trivial
  | ok k =>
    rw [q] at h
    have e := test_ok q
    cases k with
    | true =>
      have : orV fa fb ρ = okB true := by unfold orV Rs.bind; rw [e]
      rw [this]
      cases mo with
      | ok b => have h : Rb.ok true = .ok b := h; cases h; rfl
      | ex k => have h : Rb.ok true = .ex k := h; cases h
      | bad => trivial
    | false =>
      have : orV fa fb ρ = fb ρ := by unfold orV Rs.bind; rw [e]
      rw [this]
      cases mo with
      | ok b => exact test_ok h
      | ex k => exact test_ex h
      | bad => trivial
end
end DL
namespace DL
open PySem PySem.Spec L2
inductive Gh where
  | fgt (i : Nat) | frz (i : Nat)
@[simp] def gh : List Gh → Rho → Rho
  | [], ρ => ρ
  | .fgt i :: l, ρ => gh l (ρ.set i none)
  | .frz i :: l, ρ => gh l (frz i ρ)
def ghS (l : List Gh) (f : DS) : DS := fun ρ => f (gh l ρ)
theorem gss_gh {X : Cx} {W : WX} {sts : List Stmt} {f : DS} (l : List Gh) (h : GSs X W sts f) : GSs X W sts (ghS l f) := by
  induction l with
  | nil => exact h
  | cons x l ih => cases x with
    | fgt i => exact gss_fgt [i] ih
    | frz i => exact gss_frz i ih
theorem gh_n {ρ : Rho} : gh [] ρ = ρ := rfl
theorem gh_f {i : Nat} {l : List Gh} {ρ ρ' : Rho} (h : gh l (ρ.set i none) = ρ') : gh (.fgt i :: l) ρ = ρ' := h
theorem gh_z {α : Type} {s : α → O} {e : α → D} [t : ToD s e] {x : α} {i : Nat} {l : List Gh} {ρ ρ' : Rho} (hi : ρ[i]? = some (some (s x))) (h : gh l (ρ.set i (some (.fz (e x)))) = ρ') : gh (.frz i :: l) ρ = ρ' := by
  show gh l (frz i ρ) = ρ'
  have : frz i ρ = ρ.set i (some (.fz (e x))) := by
    unfold frz
    rw [hi]
    show ρ.set i (some (.fz (s x).toD)) = _
    rw [ToD.td (s := s)]
  rw [this]; exact h
def Sim0 {γ : Type} (r : SR) (m : M γ) (P : γ → SR → Prop) : Prop := match m with
  | .ok a => P a r
  | .ex c => ∃ ρ, r = .ex c ρ
  | .bad => True
def Tp {γ : Type} (so : γ → O) : γ → SR → Prop := fun a r => r = .rt (so a) ∨ (so a = .fz .non ∧ ∃ ρ, r = .nx ρ)
def Np {β : Type} (up : β → Rho) : β → SR → Prop := fun b r => r = .nx (up b)
def Jp {β : Type} (l : List Gh) (up : β → Rho) : β → SR → Prop := fun b r => ∃ ρ, r = .nx ρ ∧ gh l ρ = up b
def Lp {β : Type} (is : List Nat) (up : β → Rho) : β → SR → Prop := fun b r => ∃ ρ, (r = .nx ρ ∨ r = .ct ρ) ∧ forget is ρ = up b
def Ep {γ : Type} (P : γ → SR → Prop) : γ → SR → Prop := fun a r => ((∃ o, r = .rt o) ∨ ∃ o ps, r = .rw o ps) ∧ P a r
def Fp {β γ : Type} (N : β → SR → Prop) (P : γ → SR → Prop) : Fl β γ → SR → Prop := fun c r => match c with
  | .nx b => N b r
  | .rt a => Ep P a r
section
variable {α β γ δ : Type} {ρ ρ' ρ1 ρ2 : Rho} {f g R A B K : DS} {l : List Gh} {m : M α} {mR : α → M γ} {P : γ → SR → Prop} {upd up : α → Rho} {mA mB : M γ}
theorem sim_end_z {b : γ} (h : P b (.nx ρ)) : Sim0 (nilS ρ) (.ok b) P := h
theorem sim_gh_z {m : M γ} (h : gh l ρ = ρ1) (k : Sim0 (R ρ1) m P) : Sim0 (ghS l R ρ) m P := by
  show Sim0 (R (gh l ρ)) m P
  rw [h]; exact k
theorem sim_s_z (hf : Sim0 (f ρ) m (Np upd)) (hu : ∀ a, gh l (upd a) = up a) (hR : ∀ a, Sim0 (R (up a)) (mR a) P) : Sim0 (seqS f (ghS l R) ρ) (m.bind mR) P := by
  cases m with
  | ok a =>
    have hf : f ρ = .nx (upd a) := hf
    have : seqS f (ghS l R) ρ = R (up a) := by
      unfold seqS ghS
      rw [hf]
      show R (gh l (upd a)) = _
      rw [hu]
    show Sim0 (seqS f (ghS l R) ρ) (mR a) P
    rw [this]; exact hR a
  | ex c =>
    obtain ⟨ρ', hf⟩ := hf
    refine ⟨ρ', ?_⟩
    unfold seqS
    rw [hf]
  | bad => trivial
theorem sim_l_z {x : α} (hf : f ρ = .nx (upd x)) (hu : ∀ a, gh l (upd a) = up a) (hR : ∀ a, Sim0 (R (up a)) (mR a) P) : Sim0 (seqS f (ghS l R) ρ) (lt x mR) P := sim_s_z (m := .ok x) hf hu hR
theorem sim_p_z {m : M γ} (hf : f ρ = .nx ρ1) (hu : gh l ρ1 = ρ2) (hR : Sim0 (R ρ2) m P) : Sim0 (seqS f (ghS l R) ρ) m P := by
  have : seqS f (ghS l R) ρ = R ρ2 := by
    unfold seqS ghS
    rw [hf]
    show R (gh l ρ1) = _
    rw [hu]
  rw [this]; exact hR
theorem sim_j_z (hf : Sim0 (f ρ) m (Jp l up)) (hR : ∀ a, Sim0 (R (up a)) (mR a) P) : Sim0 (seqS f (ghS l R) ρ) (m.bind mR) P := by
  cases m with
  | ok a =>
    obtain ⟨ρ', hf, hu⟩ := hf
    have : seqS f (ghS l R) ρ = R (up a) := by
      unfold seqS ghS
      rw [hf]
      show R (gh l ρ') = _
      rw [hu]
    show Sim0 (seqS f (ghS l R) ρ) (mR a) P
    rw [this]; exact hR a
  | ex c =>
    obtain ⟨ρ', hf⟩ := hf
    refine ⟨ρ', ?_⟩
    unfold seqS
    rw [hf]
  | bad => trivial
theorem Ep.seq {a : γ} {r : SR} (h : Ep P a r) (e : f ρ = r) : P a (seqS f g ρ) := by
  obtain ⟨⟨o, rfl⟩ | ⟨o, ps, rfl⟩, h⟩ := h
  · have : seqS f g ρ = .rt o := by unfold seqS; rw [e]
    rw [this]; exact h
  · have : seqS f g ρ = .rw o ps := by unfold seqS; rw [e]
    rw [this]; exact h
theorem sim_sF_z {m : M (Fl α γ)} (hf : Sim0 (f ρ) m (Fp (Np upd) P)) (hu : ∀ a, gh l (upd a) = up a) (hR : ∀ a, Sim0 (R (up a)) (mR a) P) : Sim0 (seqS f (ghS l R) ρ) (m.fl mR) P := by
  cases m with
  | ok c => cases c with
    | nx a => exact sim_s_z (m := .ok a) hf hu hR
    | rt a => exact Ep.seq (g := ghS l R) hf rfl
  | ex c =>
    obtain ⟨ρ', hf⟩ := hf
    refine ⟨ρ', ?_⟩
    unfold seqS
    rw [hf]
  | bad => trivial
theorem sim_seq_end_z {m : M γ} (h : Sim0 (f ρ) m (Ep P)) : Sim0 (seqS f g ρ) m P := by
  cases m with
  | ok a => exact Ep.seq h rfl
  | ex c =>
    obtain ⟨ρ', hf⟩ := h
    refine ⟨ρ', ?_⟩
    unfold seqS
    rw [hf]
  | bad => trivial
theorem sim_nil_z {m : M γ} (h : Sim0 (g ρ) m P) : Sim0 (seqS nilS g ρ) m P := h
variable {i : Nat} {fe : DE} {s : α → O} {o : O}
theorem set_p (h : fe ρ = .ok (.ow o)) (hi : decide (i < ρ.length) = true := by rfl) : setS i fe ρ = .nx (ρ.set i (some o)) := by
  unfold setS
  rw [h]
  exact if_pos (of_decide_eq_true hi)
theorem set_m_z (h : RQ0 (fe ρ) m (rO s)) (hi : decide (i < ρ.length) = true := by rfl) : Sim0 (setS i fe ρ) m (Np fun a => ρ.set i (some (s a))) := by
  cases m with
  | ok a => exact set_p h hi
  | ex c =>
    have h : fe ρ = .ex c := h
    exact ⟨ρ, by unfold setS; rw [h]⟩
  | bad => trivial
theorem unp_p {b : DB} {e : α → D} [ToD s e] {x : α} (h : fe ρ = .ok (.ow (s x))) (hb : b (e x) ρ = some ρ1) : unpS fe b ρ = .nx ρ1 := by
  unfold unpS
  rw [h]
  show (match b (s x).toD ρ with | some ρ' => SR.nx ρ' | none => .bad) = _
  rw [ToD.td (s := s), hb]
variable {c : DT} {p : Bool} {mc : M Bool}
theorem sim_if_p_z (h : c ρ = .ok p) (hA : Sim0 (A ρ) mA P) (hB : Sim0 (B ρ) mB P) : Sim0 (ifS c A B ρ) (if p then mA else mB) P := by
  unfold ifS
  rw [h]
  cases p
  · exact hB
  · exact hA
theorem sim_if_m_z (h : TQ0 (c ρ) mc) (hA : Sim0 (A ρ) mA P) (hB : Sim0 (B ρ) mB P) : Sim0 (ifS c A B ρ) (mc.bind fun p => if p then mA else mB) P := by
  cases mc with
  | ok p => exact sim_if_p_z h hA hB
  | ex k =>
    have h : c ρ = .ex k := h
    exact ⟨ρ, by unfold ifS; rw [h]⟩
  | bad => trivial
theorem seq_if : seqS (ifS c A B) K ρ = ifS c (seqS A K) (seqS B K) ρ := by
  unfold seqS ifS
  cases c ρ with
  | ok b => cases b <;> rfl
  | _ => rfl
theorem sim_ifK_p_z (h : c ρ = .ok p) (hA : Sim0 (seqS A K ρ) mA P) (hB : Sim0 (seqS B K ρ) mB P) : Sim0 (seqS (ifS c A B) K ρ) (if p then mA else mB) P := by
  rw [seq_if]; exact sim_if_p_z h hA hB
theorem sim_ifK_m_z (h : TQ0 (c ρ) mc) (hA : Sim0 (seqS A K ρ) mA P) (hB : Sim0 (seqS B K ρ) mB P) : Sim0 (seqS (ifS c A B) K ρ) (mc.bind fun p => if p then mA else mB) P := by
  rw [seq_if]; exact sim_if_m_z h hA hB
theorem sim_optN_z {mB : δ → M γ} {x : Option δ} (ρf : Option δ → Rho) (h : ∀ x, c (ρf x) = .ok x.isNone) (hA : Sim0 (A (ρf none)) mA P) (hB : ∀ y, Sim0 (B (ρf (some y))) (mB y) P) : Sim0 (ifS c A B (ρf x)) (optC x mA mB) P := by
  cases x with
  | none =>
    have := h none
    unfold ifS
    rw [this]
    exact hA
  | some y =>
    have := h (some y)
    unfold ifS
    rw [this]
    exact hB y
theorem sim_optS_z {mA : δ → M γ} {mB : M γ} {x : Option δ} (ρf : Option δ → Rho) (h : ∀ x, c (ρf x) = .ok (!x.isNone)) (hA : ∀ y, Sim0 (A (ρf (some y))) (mA y) P) (hB : Sim0 (B (ρf none)) mB P) : Sim0 (ifS c A B (ρf x)) (optC x mB mA) P := by
  cases x with
  | none =>
    have := h none
    unfold ifS
    rw [this]
    exact hB
  | some y =>
    have := h (some y)
    unfold ifS
    rw [this]
    exact hA y
theorem sim_optKN_z {mB : δ → M γ} {x : Option δ} (ρf : Option δ → Rho) (h : ∀ x, c (ρf x) = .ok x.isNone) (hA : Sim0 (seqS A K (ρf none)) mA P) (hB : ∀ y, Sim0 (seqS B K (ρf (some y))) (mB y) P) : Sim0 (seqS (ifS c A B) K (ρf x)) (optC x mA mB) P := by
  rw [seq_if]; exact sim_optN_z ρf h hA hB
theorem vq_ow_z {fe : DE} (h : RQ0 (fe ρ) m (rO s)) : VQ0 (owV fe ρ) m s ρ := by
  cases m with
  | ok a =>
    have h : fe ρ = .ok (.ow (s a)) := h
    show owV fe ρ = .ok (s a) ρ
    unfold owV
    rw [h]
  | ex c =>
    have h : fe ρ = .ex c := h
    show owV fe ρ = .ex c
    unfold owV
    rw [h]
  | bad => trivial
theorem vp_ow {fe : DE} (h : fe ρ = .ok (.ow o)) : owV fe ρ = .ok o ρ := by
  unfold owV
  rw [h]
theorem vp_mvF {d : D} (h : ρ[i]? = some (some (.fz d))) : mvV i ρ = .ok (.fz d) ρ := by
  unfold mvV
  rw [h]
theorem vp_mvL {os : List O} (h : ρ[i]? = some (some (.lst os))) : mvV i ρ = .ok (.lst os) (ρ.set i none) := by
  unfold mvV
  rw [h]
variable {fv : DV} {gv : DVs} {os : List O} {ss : β → List O} {ms : M β}
theorem vs_nil : nilV ρ = .ok [] ρ := rfl
theorem vs_pp (hf : fv ρ = .ok o ρ1) (hg : gv ρ1 = .ok os ρ2) : consV fv gv ρ = .ok (o :: os) ρ2 := by
  unfold consV
  rw [hf]
  show (match gv ρ1 with | .ok os ρ2 => Rvs.ok (o :: os) ρ2 | .ex c => .ex c | .bad => .bad) = _
  rw [hg]
theorem vs_mp_z (hf : VQ0 (fv ρ) m s ρ1) (hg : gv ρ1 = .ok os ρ2) : VsQ0 (consV fv gv ρ) m (fun a => s a :: os) ρ2 := by
  cases m with
  | ok a => exact vs_pp hf hg
  | ex c =>
    have hf : fv ρ = .ex c := hf
    show consV fv gv ρ = .ex c
    unfold consV
    rw [hf]
  | bad => trivial
theorem vs_pm_z (hf : fv ρ = .ok o ρ1) (hg : VsQ0 (gv ρ1) ms ss ρ2) : VsQ0 (consV fv gv ρ) ms (fun b => o :: ss b) ρ2 := by
  cases ms with
  | ok b => exact vs_pp hf hg
  | ex c =>
    have hg : gv ρ1 = .ex c := hg
    show consV fv gv ρ = .ex c
    unfold consV
    rw [hf]
    show (match gv ρ1 with | .ok os ρ2 => Rvs.ok (o :: os) ρ2 | .ex c => .ex c | .bad => .bad) = _
    rw [hg]
  | bad => trivial
theorem vs_mm_z (hf : VQ0 (fv ρ) m s ρ1) (hg : VsQ0 (gv ρ1) ms ss ρ2) : VsQ0 (consV fv gv ρ) (m.bind fun a => ms.bind fun b => .ok (a, b)) (fun p => s p.1 :: ss p.2) ρ2 := by
  cases m with
  | ok a =>
    have t := vs_pm_z (gv := gv) (show fv ρ = .ok (s a) ρ1 from hf) hg
    cases ms with
    | ok b => exact t
    | ex c => exact t
    | bad => trivial
  | ex c =>
    have hf : fv ρ = .ex c := hf
    show consV fv gv ρ = .ex c
    unfold consV
    rw [hf]
  | bad => trivial
theorem sim_ret_z {so : α → O} {inj : α → γ} (h : VQ0 (fv ρ) m so ρ1) (hP : ∀ a, P (inj a) (.rt (so a))) : Sim0 (retS fv ρ) (m.bind fun a => .ok (inj a)) P := by
  cases m with
  | ok a =>
    have h : fv ρ = .ok (so a) ρ1 := h
    have : retS fv ρ = .rt (so a) := by unfold retS; rw [h]
    show Sim0 (retS fv ρ) (.ok (inj a)) P
    rw [this]; exact hP a
  | ex c =>
    have h : fv ρ = .ex c := h
    exact ⟨ρ, by unfold retS; rw [h]⟩
  | bad => trivial
theorem sim_ret_id_z {so : γ → O} {m : M γ} (h : VQ0 (fv ρ) m so ρ1) (hP : ∀ a, P a (.rt (so a))) : Sim0 (retS fv ρ) m P := by
  cases m with
  | ok a =>
    have h : fv ρ = .ok (so a) ρ1 := h
    have : retS fv ρ = .rt (so a) := by unfold retS; rw [h]
    rw [this]; exact hP a
  | ex c =>
    have h : fv ρ = .ex c := h
    exact ⟨ρ, by unfold retS; rw [h]⟩
  | bad => trivial
theorem sim_ret_p_z {b : γ} (h : fv ρ = .ok o ρ1) (hP : P b (.rt o)) : Sim0 (retS fv ρ) (.ok b) P := by
  have : retS fv ρ = .rt o := by unfold retS; rw [h]
  rw [this]; exact hP
theorem sim_raise_z {k : Str} : Sim0 (raiseS k ρ) (.ex k : M γ) P := ⟨ρ, rfl⟩
variable {fi : DI} {e : α → D} {tb : DB} {is : List Nat} {mi : M (List α)}
theorem sim_turn_z {b : β} {upb : β → Rho} {m : M β} {d : D} (hb : tb d ρ = some ρ1) (hf : Sim0 (f ρ1) m (Lp is upb)) : Sim0 (turnS tb f is d ρ) m (Np upb) := by
  unfold turnS
  rw [hb]
  cases m with
  | ok a =>
    obtain ⟨ρ', h, e⟩ := hf
    show (match f ρ1 with | .nx ρ2 => SR.nx (forget is ρ2) | .ct ρ2 => .nx (forget is ρ2) | r => r) = .nx (upb a)
    rcases h with h | h
    · rw [h]; show SR.nx _ = _; rw [e]
    · rw [h]; show SR.nx _ = _; rw [e]
  | ex c =>
    obtain ⟨ρ', h⟩ := hf
    refine ⟨ρ', ?_⟩
    show (match f ρ1 with | .nx ρ2 => SR.nx (forget is ρ2) | .ct ρ2 => .nx (forget is ρ2) | r => r) = _
    rw [h]
  | bad => trivial
theorem sim_turnF_z {upb : β → Rho} {m : M (Fl β γ)} {d : D} (hb : tb d ρ = some ρ1) (hf : Sim0 (f ρ1) m (Fp (Lp is upb) P)) : Sim0 (turnS tb f is d ρ) m (Fp (Np upb) P) := by
  cases m with
  | ok c => cases c with
    | nx b => exact sim_turn_z (b := b) (m := .ok b) (upb := upb) hb hf
    | rt a =>
      obtain ⟨⟨o, h⟩ | ⟨o, ps, h⟩, q⟩ := hf
      · have : turnS tb f is d ρ = .rt o := by
          unfold turnS
          rw [hb]
          show (match f ρ1 with | .nx ρ2 => SR.nx (forget is ρ2) | .ct ρ2 => .nx (forget is ρ2) | r => r) = _
          rw [h]
        exact ⟨.inl ⟨o, this⟩, by rw [this, ← h]; exact q⟩
      · have : turnS tb f is d ρ = .rw o ps := by
          unfold turnS
          rw [hb]
          show (match f ρ1 with | .nx ρ2 => SR.nx (forget is ρ2) | .ct ρ2 => .nx (forget is ρ2) | r => r) = _
          rw [h]
        exact ⟨.inr ⟨o, ps, this⟩, by rw [this, ← h]; exact q⟩
  | ex c =>
    obtain ⟨ρ', h⟩ := hf
    refine ⟨ρ', ?_⟩
    unfold turnS
    rw [hb]
    show (match f ρ1 with | .nx ρ2 => SR.nx (forget is ρ2) | .ct ρ2 => .nx (forget is ρ2) | r => r) = _
    rw [h]
  | bad => trivial
theorem sim_loop_z {t : D → DS} {upb : β → Rho} {step : α → β → M β} (h : ∀ x b, Sim0 (t (e x) (upb b)) (step x b) (Np upb)) : ∀ (xs : List α) (b : β), Sim0 (loopS t (xs.map e) (upb b)) (forM step xs b) (Np upb)
  | [], b => rfl
  | x :: xs, b => by
    have s := h x b
    unfold forM
    rw [List.map_cons]
    unfold loopS
    cases q : step x b with
    | ok b' =>
      rw [q] at s
      have s : t (e x) (upb b) = .nx (upb b') := s
      rw [s]
      exact sim_loop_z h xs b'
    | ex c =>
      rw [q] at s
      obtain ⟨ρ', s⟩ := s
      exact ⟨ρ', by rw [s]⟩
    | bad => trivial
theorem sim_loopF_z {t : D → DS} {upb : β → Rho} {step : α → β → M (Fl β γ)} (h : ∀ x b, Sim0 (t (e x) (upb b)) (step x b) (Fp (Np upb) P)) : ∀ (xs : List α) (b : β), Sim0 (loopS t (xs.map e) (upb b)) (forF step xs b) (Fp (Np upb) P)
  | [], b => rfl
  | x :: xs, b => by
    have s := h x b
    unfold forF
    rw [List.map_cons]
    unfold loopS
    cases q : step x b with
    | ok c =>
      rw [q] at s
      cases c with
      | nx b' =>
        have s : t (e x) (upb b) = .nx (upb b') := s
        rw [s]
        exact sim_loopF_z h xs b'
      | rt a =>
        obtain ⟨⟨o, s1⟩ | ⟨o, ps, s1⟩, s2⟩ := s
        · rw [s1] at s2 ⊢
          exact ⟨.inl ⟨o, rfl⟩, s2⟩
        · rw [s1] at s2 ⊢
          exact ⟨.inr ⟨o, ps, rfl⟩, s2⟩
    | ex c =>
      rw [q] at s
      obtain ⟨ρ', s⟩ := s
      exact ⟨ρ', by rw [s]⟩
    | bad => trivial
theorem sim_for_z {upb : β → Rho} {b0 : β} {step : α → β → M β} {upx : α → β → Rho} {xs : List α} (hi : IQ0 (fi ρ) (.ok xs) e) (h0 : upb b0 = ρ) (hb : ∀ x b, tb (e x) (upb b) = some (upx x b)) (hs : ∀ x b, Sim0 (f (upx x b)) (step x b) (Lp is upb)) : Sim0 (forS fi tb f is ρ) (forM step xs b0) (Np upb) := by
  have hi : fi ρ = .ok (xs.map e) := hi
  have : forS fi tb f is ρ = loopS (turnS tb f is) (xs.map e) (upb b0) := by unfold forS; rw [hi, h0]
  rw [this]
  exact sim_loop_z (fun x b => sim_turn_z (b := b) (hb x b) (hs x b)) xs b0
theorem sim_forF_z {upb : β → Rho} {b0 : β} {step : α → β → M (Fl β γ)} {upx : α → β → Rho} {xs : List α} (hi : IQ0 (fi ρ) (.ok xs) e) (h0 : upb b0 = ρ) (hb : ∀ x b, tb (e x) (upb b) = some (upx x b)) (hs : ∀ x b, Sim0 (f (upx x b)) (step x b) (Fp (Lp is upb) P)) : Sim0 (forS fi tb f is ρ) (forF step xs b0) (Fp (Np upb) P) := by
  have hi : fi ρ = .ok (xs.map e) := hi
  have : forS fi tb f is ρ = loopS (turnS tb f is) (xs.map e) (upb b0) := by unfold forS; rw [hi, h0]
  rw [this]
  exact sim_loopF_z (fun x b => sim_turnF_z (hb x b) (hs x b)) xs b0
theorem sim_forI_z {mo : List α → M γ} {Q : γ → SR → Prop} (hi : IQ0 (fi ρ) mi e) (h : ∀ xs, IQ0 (fi ρ) (.ok xs) e → Sim0 (forS fi tb f is ρ) (mo xs) Q) : Sim0 (forS fi tb f is ρ) (mi.bind mo) Q := by
  cases mi with
  | ok xs => exact h xs hi
  | ex c =>
    have hi : fi ρ = .ex c := hi
    exact ⟨ρ, by unfold forS; rw [hi]⟩
  | bad => trivial
theorem iq_list_z {sL : List α → O} [ToD sL (eL e)] {fe : DE} (h : RQ0 (fe ρ) mi (rO sL)) : IQ0 (listI fe ρ) mi e := by
  cases mi with
  | ok xs =>
    have h : fe ρ = .ok (.ow (sL xs)) := h
    show listI fe ρ = .ok (xs.map e)
    unfold listI
    rw [h]
    show (match (sL xs).toD with | .lst ds => Ri.ok ds | _ => .bad) = _
    rw [ToD.td (s := sL)]
    rfl
  | ex c =>
    have h : fe ρ = .ex c := h
    show listI fe ρ = .ex c
    unfold listI
    rw [h]
  | bad => trivial
theorem iq_args0_z {G : List D → Ri} {fa : DA} {as : List Ar} {ds : List D} (ha : fa ρ = .ok as) (hv : noVw as = true) (hd : as.map Ar.d = ds) (hg : IQ0 (G ds) mi e) : IQ0 (argsI G fa ρ) mi e := by
  have : argsI G fa ρ = G (as.map Ar.d) := by unfold argsI; rw [ha]; exact if_pos hv
  rw [this, hd]; exact hg
theorem iq_args_z {G : List D → Ri} {fa : DA} {ma : M β} {ss : β → List Ar} {ds : β → List D} {mo : β → M (List α)} (ha : AQ0 (fa ρ) ma ss) (hv : ∀ y, noVw (ss y) = true) (hd : ∀ y, (ss y).map Ar.d = ds y) (hg : ∀ y, IQ0 (G (ds y)) (mo y) e) : IQ0 (argsI G fa ρ) (ma.bind mo) e := by
  cases ma with
  | ok y => exact iq_args0_z ha (hv y) (hd y) (hg y)
  | ex c =>
    have ha : fa ρ = .ex c := ha
    show argsI G fa ρ = .ex c
    unfold argsI
    rw [ha]
  | bad => trivial
theorem fq_sem_z {n : Nat} {d : DS} {ds : List D} {m : M γ} {so : γ → O} (h0 : startR n ds = ρ) (h : Sim0 (d ρ) m (Tp so)) : FQ (semOf n d ds) m so := by
  subst h0
  refine ⟨?_⟩
  unfold semOf
  cases m with
  | ok a =>
    rcases h with h | ⟨e, ρ', h⟩
    · show (match d (startR n ds) with | .rt o => Rf.ok o | .nx _ => .ok (.fz .non) | .ex c _ => .ex c | _ => .bad) = _
      rw [h]
    · show (match d (startR n ds) with | .rt o => Rf.ok o | .nx _ => .ok (.fz .non) | .ex c _ => .ex c | _ => .bad) = _
      rw [h, e]
  | ex c =>
    obtain ⟨ρ', h⟩ := h
    show (match d (startR n ds) with | .rt o => Rf.ok o | .nx _ => .ok (.fz .non) | .ex c _ => .ex c | _ => .bad) = _
    rw [h]
  | bad => trivial
end
end DL
namespace DL
open PySem PySem.Spec L2
theorem d_nil : ([] : List Ar).map Ar.d = [] := rfl
theorem d_cons {a : Ar} {d : D} {as : List Ar} {ds : List D} (h : a.d = d) (t : as.map Ar.d = ds) : (a :: as).map Ar.d = d :: ds := by
  rw [List.map_cons, h, t]
section
variable {α β γ δ : Type}
theorem td_o {s : α → O} {e : α → D} [ToD s e] {x : α} : (Ar.ow (s x)).d = e x := ToD.td x
theorem td_v {s : α → O} {e : α → D} [ToD s e] {x : α} : (itemAr (s x)).d = e x := by
  rw [← ToD.td (s := s) x]
  cases s x <;> rfl
theorem o_mulp {i j : Int} (h : okMul i j = true) : gMul (dI i) (dI j) = okI (i * j) := mul_I h
theorem o_mul_z {i j : Int} : RQ0 (gMul (dI i) (dI j)) (mulM i j) (rO (oF eI)) := by
  unfold mulM
  by_cases h : okMul i j = true
  · rw [if_pos h]; exact mul_I h
  · rw [if_neg h]; trivial
theorem o_mod_z {i j : Int} : RQ0 (gMod (dI i) (dI j)) (modM i j) (rO (oF eI)) := by
  unfold modM
  by_cases h : 0 < j
  · rw [if_pos h]; exact mod_I h
  · rw [if_neg h]; trivial
theorem o_fdiv_z {i j : Int} : RQ0 (gFdiv (dI i) (dI j)) (fdivM i j) (rO (oF eI)) := by
  unfold fdivM
  by_cases h : okDiv j = true
  · rw [if_pos h]; exact fdiv_I h
  · rw [if_neg h]; trivial
theorem o_lt {i j : Int} : gLt (dI i) (dI j) = okB (decide (i < j)) := rfl
theorem o_gt {i j : Int} : gGt (dI i) (dI j) = okB (decide (j < i)) := rfl
theorem o_ge {i j : Int} : gGe (dI i) (dI j) = okB (decide (j ≤ i)) := rfl
theorem o_eq {e : α → D} {n : Nat} [EqE e n] [DecidableEq α] {a b : Ar} {x y : α} (hn : n ≤ 64 := by decide) (ha : a.d = e x) (hb : b.d = e y) : gEq a b = okB (decide (x = y)) := by
  unfold gEq
  rw [ha, hb, ((EqE.sh (e := e) x).mono hn).shp, ((EqE.sh (e := e) y).mono hn).shp]
  show okB (eqD (e x) (e y)) = _
  have := EqE.eq (e := e) x y
  congr 1
  congr 1
  congr 1
  congr 1
  rw [Bool.eq_iff_iff, this]
  simp
theorem o_ne {e : α → D} {n : Nat} [EqE e n] [DecidableEq α] {a b : Ar} {x y : α} (hn : n ≤ 64 := by decide) (ha : a.d = e x) (hb : b.d = e y) : gNe a b = okB (!decide (x = y)) := by
  unfold gNe
  rw [ha, hb, ((EqE.sh (e := e) x).mono hn).shp, ((EqE.sh (e := e) y).mono hn).shp]
  show okB (!eqD (e x) (e y)) = _
  have := EqE.eq (e := e) x y
  congr 1
  congr 1
  congr 1
  congr 1
  congr 1
  rw [Bool.eq_iff_iff, this]
  simp
theorem isNon_O {e : α → D} [NnE e] {x : Option α} : isNon (eO e x) = x.isNone := by
  cases x with
  | none => rfl
  | some a =>
    show isNon (e a) = false
    have := NnE.nn (e := e) a
    cases q : e a <;> first | (exact absurd q this) | rfl
theorem o_isn {e : α → D} [NnE e] {a b : Ar} {x : Option α} (ha : a.d = eO e x) (hb : b.d = .non) : gIsN a b = okB x.isNone := by
  unfold gIsN
  rw [hb]
  show okB (isNon a.d) = _
  rw [ha, isNon_O]
theorem o_isnt {e : α → D} [NnE e] {a b : Ar} {x : Option α} (ha : a.d = eO e x) (hb : b.d = .non) : gNotN a b = okB (!x.isNone) := by
  unfold gNotN
  rw [hb]
  show okB (!isNon a.d) = _
  rw [ha, isNon_O]
theorem seq_fL {e : α → D} {xs : List α} : (Ar.ow (.fz (eL e xs))).o.seq = some (true, (xs.map e).map .fz) := rfl
theorem atI_map {s : α → β} {xs : List α} {i : Int} : L2.atI (xs.map s) i = (L2.atI xs i).map s := by
  unfold L2.atI
  rw [List.length_map]
  cases ixN xs.length i with
  | none => rfl
  | some j => simp
theorem o_ixL_z {s : α → O} {a : Ar} {xs : List α} {i : Int} (ha : a.o.seq = some (true, xs.map s)) : RQ0 (gIx a (dI i)) (ix xs i) (rV s) := by
  unfold ix gIx
  rw [ha]
  show RQ0 (match L2.atI (xs.map s) i with | some o => .ok (itemAr o) | none => .bad) _ _
  rw [atI_map]
  cases L2.atI xs i with
  | none => trivial
  | some a => rfl
theorem o_ixLF_z {e : α → D} {a : Ar} {xs : List α} {i : Int} (ha : a.o.seq = some (true, xs.map (oF e))) : RQ0 (gIx a (dI i)) (ix xs i) (rO (oF e)) := o_ixL_z ha
theorem o_ixF_z {e : α → D} {a : Ar} {xs : List α} {i : Int} (ha : a.o.seq = some (true, (xs.map e).map .fz)) : RQ0 (gIx a (dI i)) (ix xs i) (rO (oF e)) := by
  rw [List.map_map] at ha
  exact o_ixL_z (s := O.fz ∘ e) ha
theorem o_t0 {a : Ar} {o : O} {os : List O} {k : Bool} (ha : a.o.seq = some (k, o :: os)) : gIx a (dI 0) = .ok (itemAr o) := ix_seq ha (by decide) rfl
theorem o_t1 {a : Ar} {o p : O} {os : List O} {k : Bool} (ha : a.o.seq = some (k, p :: o :: os)) : gIx a (dI 1) = .ok (itemAr o) := ix_seq ha (by decide) rfl
theorem o_len {a : Ar} {k : Bool} {os : List O} {n : Nat} (ha : a.o.seq = some (k, os)) (hn : os.length = n) : gLen [a] = okI n := by
  unfold gLen
  dsimp only
  rw [ha, ← hn]
theorem inV_int {i : Int} {xs : List Int} : inV (V.int i) (xs.map fun x => V.int x) = decide (i ∈ xs) := by
  induction xs with
  | nil => rfl
  | cons x xs ih =>
    have : inV (V.int i) ((x :: xs).map fun x => V.int x) = (eqV (V.int x) (V.int i) || inV (V.int i) (xs.map fun x => V.int x)) := by
      first | rfl | simp [inV]
    rw [this, ih]
    have : eqV (V.int x) (V.int i) = decide (x = i) := by first | rfl | simp [eqV]
    rw [this]
    by_cases h : x = i
    · subst h; simp
    · have : ¬ i = x := fun e => h e.symm
      simp [h, this]
theorem o_in_ {neg : Bool} {a b : Ar} {i : Int} {xs : List Int} {k : Bool} {os : List O} (ha : a.d = .int i) (hb : b.o.seq = some (k, os)) (ho : allFz os = some (xs.map D.int)) : gIn neg a b = okB (xor neg (decide (i ∈ xs))) := by
  unfold gIn
  rw [hb]
  show (match allFz os with | some ds => if flatD a.d && flats ds then okB (xor neg (inV (vOf a.d) (ds.map vOf))) else .bad | none => .bad) = _
  rw [ho, ha]
  have hf : flats (xs.map D.int) = true := by
    unfold flats
    rw [List.all_map, List.all_eq_true]
    intro x _
    rfl
  show (if flatD (.int i) && flats (xs.map D.int) then okB (xor neg (inV (vOf (.int i)) ((xs.map D.int).map vOf))) else .bad) = _
  rw [hf]
  show okB (xor neg (inV (V.int i) ((xs.map D.int).map vOf))) = _
  rw [List.map_map]
  have : (vOf ∘ D.int) = fun x => V.int x := rfl
  rw [this, inV_int]
theorem o_nin {a b : Ar} {i : Int} {xs : List Int} {k : Bool} {os : List O} (ha : a.d = .int i) (hb : b.o.seq = some (k, os)) (ho : allFz os = some (xs.map eI)) : gIn true a b = okB (!decide (i ∈ xs)) := by
  rw [o_in_ ha hb ho]
  cases decide (i ∈ xs) <;> rfl
theorem fz_L {e : α → D} {xs : List α} : allFz ((xs.map e).map .fz) = some (xs.map e) := allFz_fz _
theorem fz_oL {e : α → D} {xs : List α} : allFz (xs.map (oF e)) = some (xs.map e) := allFz_enc xs
theorem o_rep_z {e : α → D} {xs : List α} {k : Int} {os : List O} (h1 : allFz os = some (xs.map e)) : RQ0 (gMul (.ow (.lst os)) (dI k)) (repM xs k) (rO (oL (oF e))) := by
  have q : gMul (.ow (.lst os)) (dI k) = (if decide (-(2 ^ 63) ≤ k) && decide (k < 2 ^ 63) && okLen (xs.length * k.toNat) then .ok (.ow (.lst ((List.replicate k.toNat (xs.map e)).flatten.map .fz))) else .bad) := by
    show (match allFz os with | some ds => if decide (-(2 ^ 63) ≤ k) && decide (k < 2 ^ 63) && okLen (ds.length * k.toNat) then Rs.ok (.ow (.lst ((List.replicate k.toNat ds).flatten.map .fz))) else .bad | none => .bad) = _
    rw [h1]
    simp
  rw [q]
  unfold repM
  by_cases h : (decide (-(2 ^ 63) ≤ k) && decide (k < 2 ^ 63) && okLen (xs.length * k.toNat)) = true
  · rw [if_pos h, if_pos h]
    show Rs.ok _ = Rs.ok (.ow (.lst ((List.replicate k.toNat xs).flatten.map (oF e))))
    have : (List.replicate k.toNat (xs.map e)).flatten.map O.fz = (List.replicate k.toNat xs).flatten.map (oF e) := by
      rw [List.map_flatten, List.map_flatten]
      simp [Function.comp_def]
      rfl
    rw [this]
  · rw [if_neg h, if_neg h]; trivial
theorem intsA_of {a : Ar} {xs : List Int} {os : List O} (ha : a.o.seq = some (true, os)) (h1 : allFz os = some (xs.map D.int)) : intsA a = some xs := by
  unfold intsA
  rw [ha]
  show (match allFz os with | some ds => intsD ds | none => none) = _
  rw [h1]
  exact intsD_map xs
theorem o_min1_z {a : Ar} {xs : List Int} (h : intsA a = some xs) : RQ0 (gL1 minI [a]) (minM xs) (rO (oF eI)) := by
  unfold gL1
  dsimp only
  rw [h]
  cases xs with
  | nil => trivial
  | cons n ns => rfl
theorem o_list {e : α → D} {a : Ar} {xs : List α} {k : Bool} {os : List O} (ha : a.o.seq = some (k, os)) (h1 : allFz os = some (xs.map e)) : gList [a] = .ok (.ow (oL (oF e) xs)) := by
  unfold gList
  dsimp only
  rw [ha]
  show (match allFz os with | some ds => Rs.ok (.ow (.lst (ds.map .fz))) | none => .bad) = _
  rw [h1]
  show Rs.ok (.ow (.lst ((xs.map e).map .fz))) = _
  rw [List.map_map]
  rfl
theorem g_range1_z {n : Int} : IQ0 (gRange1 [.int n]) (rngM 0 n) eI := by
  unfold rngM gRange1
  dsimp only
  by_cases h : okR n = true
  · have h0 : (okR 0 && okR n) = true := by rw [h]; decide
    rw [if_pos h, if_pos h0]
    show Ri.ok (rangeL 0 n) = .ok ((rng 0 n).map eI)
    unfold rangeL rng
    simp [eI]
  · have h0 : ¬ (okR 0 && okR n) = true := fun e => h (by rw [Bool.and_eq_true] at e; exact e.2)
    rw [if_neg h0]; trivial
theorem g_zip_z {e : α → D} {f : β → D} {xs : List α} {ys : List β} : IQ0 (gZip [eL e xs, eL f ys]) (.ok (xs.zip ys)) (eT2 e f) := by
  show Ri.ok (((xs.map e).zip (ys.map f)).map fun p => D.tup [p.1, p.2]) = .ok ((xs.zip ys).map (eT2 e f))
  rw [List.zip_map, List.map_map]
  rfl
theorem g_enum_z {e : α → D} {xs : List α} : IQ0 (gEnum [eL e xs]) (.ok (enumL xs)) (eT2 eI e) := by
  show Ri.ok ((xs.map e).zipIdx.map fun p => D.tup [.int (p.2 : Nat), p.1]) = .ok ((enumL xs).map (eT2 eI e))
  unfold enumL
  rw [List.zipIdx_map, List.map_map, List.map_map]
  rfl
def M.nox {α : Type} : M α → M α
  | .ex _ => .bad
  | m => m
@[simp] theorem nox_ok {a : α} : (M.ok a).nox = .ok a := Eq.symm (Eq.symm rfl)
@[simp] theorem nox_ex {c : Str} : (M.ex c : M α).nox = .bad := Eq.symm (Eq.symm rfl)
@[simp] theorem nox_bad : (M.bad : M α).nox = .bad := Eq.symm (Eq.symm rfl)
def ItQ (r : Rt) (mp : M Bool) (me : M α) (s : α → O) : Prop := match mp with
  | .ok true => (match me with
    | .ok a => r = .item (s a)
    | _ => True)
  | .ok false => r = .skip
  | _ => True
theorem itq_z {tb : DB} {ct : DT} {fe : DE} {ρ0 ρ1 : Rho} {d : D} {mp : M Bool} {me : M α} {s : α → O} (hb : tb d ρ0 = some ρ1) (hc : TQ0 (ct ρ1) mp) (he : RQ0 (fe ρ1) me (rO s)) : ItQ (itemT tb ct fe ρ0 d) mp me s := by
  unfold itemT
  rw [hb]
  cases mp with
  | bad => trivial
  | ex c => trivial
  | ok z =>
    have hc : ct ρ1 = .ok z := hc
    cases z with
    | false =>
      show (match ct ρ1 with | .ok true => _ | .ok false => Rt.skip | _ => .bad) = .skip
      rw [hc]
    | true =>
      cases me with
      | bad => trivial
      | ex c => trivial
      | ok a =>
        have he : fe ρ1 = .ok (.ow (s a)) := he
        show (match ct ρ1 with | .ok true => _ | .ok false => Rt.skip | _ => .bad) = .item (s a)
        rw [hc]
        show (match fe ρ1 with | .ok (.ow o) => Rt.item o | _ => .bad) = _
        rw [he]
theorem comp_pp {t : D → Rt} {e : α → D} {s : β → O} {p : α → Bool} {f : α → β} (h : ∀ x, ItQ (t (e x)) (.ok (p x)) (.ok (f x)) s) (xs : List α) : compL t (xs.map e) [] = .ok (.ow (oL s ((xs.filter p).map f))) := by
  have key : ∀ (xs : List α) (acc : List O), compL t (xs.map e) acc = .ok (.ow (.lst (acc ++ ((xs.filter p).map f).map s))) := by
    intro xs
    induction xs with
    | nil => intro acc; simp [compL]
    | cons x xs ih =>
      intro acc
      have hx := h x
      rw [List.map_cons]
      unfold compL
      cases q : p x with
      | true =>
        rw [q] at hx
        have hx : t (e x) = .item (s (f x)) := hx
        rw [hx]
        show compL t (xs.map e) (acc ++ [s (f x)]) = _
        rw [ih]
        simp [q]
      | false =>
        rw [q] at hx
        have hx : t (e x) = .skip := hx
        rw [hx]
        show compL t (xs.map e) acc = _
        rw [ih]
        simp [q]
  have := key xs []
  rw [this, List.nil_append]
  rfl
theorem comp_mm {t : D → Rt} {e : α → D} {s : β → O} {p : α → M Bool} {f : α → M β} (h : ∀ x, ItQ (t (e x)) (p x) (f x) s) (xs : List α) (acc : List O) : match (filtM (fun x => (p x).nox) (fun x => (f x).nox) xs : M (List β)) with
    | .ok ys => compL t (xs.map e) acc = .ok (.ow (.lst (acc ++ ys.map s)))
    | .ex _ => False
    | .bad => True := by
  induction xs generalizing acc with
  | nil => simp [filtM, compL]
  | cons x xs ih =>
    have hx := h x
    unfold filtM
    rw [List.map_cons]
    unfold compL
    cases q : p x with
    | bad => trivial
    | ex c => trivial
    | ok z =>
      rw [q] at hx
      cases z with
      | false =>
        have hx : t (e x) = .skip := hx
        simp only [nox_ok, M.bind_ok, if_neg (Bool.false_ne_true)]
        rw [hx]
        exact ih acc
      | true =>
        simp only [nox_ok, M.bind_ok, if_true]
        cases q2 : f x with
        | bad => trivial
        | ex c => trivial
        | ok y =>
          rw [q2] at hx
          have hx : t (e x) = .item (s y) := hx
          rw [hx]
          have := ih (acc ++ [s y])
          revert this
          simp only [nox_ok, M.bind_ok]
          generalize filtM (fun x => (p x).nox) (fun x => (f x).nox) xs = r
          cases r with
          | bad => exact fun _ => trivial
          | ex c => exact False.elim
          | ok ys =>
            intro this
            show compL t (xs.map e) (acc ++ [s y]) = _
            have this : compL t (xs.map e) (acc ++ [s y]) = .ok (.ow (.lst ((acc ++ [s y]) ++ ys.map s))) := this
            rw [this]
            simp
theorem compE_ok_z {fi : DI} {tb : DB} {ct : DT} {fe : DE} {vs : List Nat} {ρ : Rho} {e : α → D} {xs : List α} (hi : IQ0 (fi ρ) (.ok xs) e) (hl : okLen xs.length = true) : compE fi tb ct fe vs ρ = compL (itemT tb ct fe (forget vs ρ)) (xs.map e) [] := by
  have hi : fi ρ = .ok (xs.map e) := hi
  unfold compE
  rw [hi]
  show (if okLen (xs.map e).length then _ else _) = _
  rw [if_pos (by simpa using hl)]
theorem rq_compP_z {fi : DI} {tb : DB} {fe : DE} {vs : List Nat} {ρ : Rho} {e : α → D} {s : β → O} {f : α → β} {ρx : α → Rho} {xs : List α} (hi : IQ0 (fi ρ) (.ok xs) e) (hb : ∀ x, tb (e x) (forget vs ρ) = some (ρx x)) (he : ∀ x, fe (ρx x) = .ok (.ow (s (f x)))) : RQ0 (compE fi tb yesT fe vs ρ) (compP f xs) (rO (oL s)) := by
  unfold compP
  by_cases hl : okLen xs.length = true
  · rw [if_pos hl]
    show compE fi tb yesT fe vs ρ = _
    rw [compE_ok_z hi hl]
    have := comp_pp (p := fun _ => true) (fun x => itq_z (ct := yesT) (mp := .ok true) (me := .ok (f x)) (hb x) rfl (he x)) xs
    rw [this]
    have e2 : xs.filter (fun _ => true) = xs := by simp
    rw [e2]
  · rw [if_neg hl]; trivial
theorem rq_compFP_z {fi : DI} {tb : DB} {ct : DT} {fe : DE} {vs : List Nat} {ρ : Rho} {e : α → D} {s : β → O} {p : α → Bool} {f : α → β} {ρx : α → Rho} {xs : List α} (hi : IQ0 (fi ρ) (.ok xs) e) (hb : ∀ x, tb (e x) (forget vs ρ) = some (ρx x)) (hc : ∀ x, ct (ρx x) = .ok (p x)) (he : ∀ x, fe (ρx x) = .ok (.ow (s (f x)))) : RQ0 (compE fi tb ct fe vs ρ) (compFP p f xs) (rO (oL s)) := by
  unfold compFP
  by_cases hl : okLen xs.length = true
  · rw [if_pos hl]
    show compE fi tb ct fe vs ρ = _
    rw [compE_ok_z hi hl]
    exact comp_pp (p := p) (fun x => itq_z (mp := .ok (p x)) (me := .ok (f x)) (hb x) (hc x) (he x)) xs
  · rw [if_neg hl]; trivial
theorem rq_compF_z {fi : DI} {tb : DB} {ct : DT} {fe : DE} {vs : List Nat} {ρ : Rho} {e : α → D} {s : β → O} {p : α → M Bool} {f : α → M β} {ρx : α → Rho} {xs : List α} (hi : IQ0 (fi ρ) (.ok xs) e) (hb : ∀ x, tb (e x) (forget vs ρ) = some (ρx x)) (hc : ∀ x, TQ0 (ct (ρx x)) (p x)) (he : ∀ x, RQ0 (fe (ρx x)) (f x) (rO s)) : RQ0 (compE fi tb ct fe vs ρ) (compF (fun x => (p x).nox) (fun x => (f x).nox) xs) (rO (oL s)) := by
  unfold compF
  by_cases hl : okLen xs.length = true
  · rw [if_pos hl, compE_ok_z hi hl]
    have := comp_mm (p := p) (f := f) (s := s) (t := itemT tb ct fe (forget vs ρ)) (fun x => itq_z (hb x) (hc x) (he x)) xs []
    revert this
    cases filtM (fun x => (p x).nox) (fun x => (f x).nox) xs with
    | bad => exact fun _ => trivial
    | ex c => exact False.elim
    | ok ys => exact fun this => this
  · rw [if_neg hl]; trivial
theorem filtM_true {f : α → M β} : ∀ xs : List α, filtM (fun _ => (M.ok true).nox) f xs = mapM f xs
  | [] => rfl
  | x :: xs => by
    unfold filtM mapM
    rw [filtM_true xs]
    rfl
theorem rq_compM_z {fi : DI} {tb : DB} {fe : DE} {vs : List Nat} {ρ : Rho} {e : α → D} {s : β → O} {f : α → M β} {ρx : α → Rho} {xs : List α} (hi : IQ0 (fi ρ) (.ok xs) e) (hb : ∀ x, tb (e x) (forget vs ρ) = some (ρx x)) (he : ∀ x, RQ0 (fe (ρx x)) (f x) (rO s)) : RQ0 (compE fi tb yesT fe vs ρ) (compM (fun x => (f x).nox) xs) (rO (oL s)) := by
  have := rq_compF_z (ct := yesT) (p := fun _ => .ok true) hi hb (fun _ => rfl) he
  unfold compF at this
  unfold compM
  rw [filtM_true] at this
  exact this
theorem rq_compI_z {fi : DI} {tb : DB} {ct : DT} {fe : DE} {vs : List Nat} {ρ : Rho} {e : α → D} {mi : M (List α)} {mo : List α → M γ} {s : γ → Ar} (hi : IQ0 (fi ρ) mi e) (h : ∀ xs, IQ0 (fi ρ) (.ok xs) e → RQ0 (compE fi tb ct fe vs ρ) (mo xs) s) : RQ0 (compE fi tb ct fe vs ρ) (mi.bind mo) s := by
  cases mi with
  | ok xs => exact h xs hi
  | ex c =>
    have hi : fi ρ = .ex c := hi
    show compE fi tb ct fe vs ρ = .ex c
    unfold compE
    rw [hi]
  | bad => trivial
end
end DL
namespace DL
open PySem PySem.Spec L2
class Pl {α : Type} (s : α → O) : Prop where
  co : ∀ a, (s a).core = s a
  re : ∀ a b, (s a).recore b = b
theorem Pl.of {α : Type} {s : α → O} (h : ∀ a x o, s a ≠ .nm x o) : Pl s := ⟨fun a => by
  have := h a
  cases q : s a <;> first | rfl | exact absurd q (this _ _), fun a b => by
  have := h a
  cases q : s a <;> first | rfl | exact absurd q (this _ _)⟩
theorem Pl.nn {α : Type} {s : α → O} [Pl s] (a : α) (x : Addr) (o : O) : s a ≠ .nm x o := fun e => by
  have := Pl.re (s := s) a (.fz .non)
  rw [e] at this
  cases this
instance {α : Type} {e : α → D} : Pl (oF e) := Pl.of fun _ _ _ h => nomatch h
instance {α : Type} {e : α → O} : Pl (oL e) := Pl.of fun _ _ _ h => nomatch h
instance {α : Type} {e : α → O} : Pl (oT1 e) := Pl.of fun _ _ _ h => nomatch h
instance {α β : Type} {e : α → O} {f : β → O} : Pl (oT2 e f) := Pl.of fun _ _ _ h => nomatch h
instance {α β γ : Type} {e : α → O} {f : β → O} {g : γ → O} : Pl (oT3 e f g) := Pl.of fun _ _ _ h => nomatch h
instance {α β γ δ : Type} {e : α → O} {f : β → O} {g : γ → O} {h : δ → O} : Pl (oT4 e f g h) := Pl.of fun _ _ _ h => nomatch h
instance {α : Type} {e : α → O} [Pl e] : Pl (oO e) := Pl.of fun x y o h => by
  cases x with
  | none => cases h
  | some a => exact Pl.nn (s := e) a y o h
def oNm {α : Type} (a : Addr) (s : α → O) : α → O := fun x => .nm a (s x)
instance {α : Type} {s : α → O} {e : α → D} {a : Addr} [ToD s e] : ToD (oNm a s) e := ⟨fun x => ToD.td (s := s) x⟩
section
variable {A α β γ δ : Type} {ρ ρ' : Rho} {i : Nat} {sA : A → O} {s : α → O} {fp : DP} {fb : DE}
def Nex (f : α → M β) : Prop := ∀ y c, f y ≠ .ex c
def MQ (r : Rp) (ρ : Rho) (i : Nat) (sA : A → O) (s : α → O) (md : (α → M α) → M A) : Prop := ∀ f : α → M α, Nex f → match md f with
  | .ok x' => ∃ p o cur new, r = .ok i p ∧ ρ[i]? = some (some o) ∧ O.at p o = some (s cur) ∧ f cur = .ok new ∧ O.put p (s new) o = sA x'
  | .ex _ => False
  | .bad => True
theorem mq_var {x : α} [Pl s] (h : ρ[i]? = some (some (s x))) : MQ (varP i ρ) ρ i s s (fun f => f x) := by
  intro f nx
  dsimp only
  cases q : f x with
  | bad => trivial
  | ex c => exact nx x c q
  | ok y => exact ⟨[], s x, x, y, by unfold varP; rw [h], h, congrArg some (Pl.co (s := s) x), q, Pl.re (s := s) x (s y)⟩
theorem mq_nm {x : α} {a : Addr} (h : ρ[i]? = some (some (oNm a s x))) : MQ (varP i ρ) ρ i (oNm a s) s (fun f => f x) := by
  intro f nx
  dsimp only
  cases q : f x with
  | bad => trivial
  | ex c => exact nx x c q
  | ok y => exact ⟨[], oNm a s x, x, y, by unfold varP; rw [h], h, rfl, q, rfl⟩
def GQ (g : GMt) (s : α → O) (as : List O) (F : α → M α) : Prop := Nex F ∧ ∀ y y', F y = .ok y' → g (s y) as = some (s y')
theorem sim_meth__z {T : String} {fa : DVs} {g : GMt} {as : List O} {F : α → M α} {md : (α → M α) → M A} (hp : MQ (fp ρ) ρ i sA s md) (hk : ∀ y, tyO (s y) = T) (ha : fa ρ = .ok as ρ') (hρ : ρ'[i]? = ρ[i]?) (hg : GQ g s as F) : Sim0 (methS T fp fa g ρ) (md F) (Np fun x => ρ'.set i (some (sA x))) := by
  have := hp F hg.1
  cases q : md F with
  | bad => trivial
  | ex c => rw [q] at this; exact this.elim
  | ok x' =>
    rw [q] at this
    obtain ⟨p, o, y, y', h1, h2, h3, h4, h5⟩ := this
    show methS T fp fa g ρ = .nx _
    have hkd : kindAt ρ i p = T := by
      unfold kindAt
      rw [h2]
      dsimp only
      rw [h3]
      exact hk y
    unfold methS
    rw [h1]
    dsimp only
    rw [if_pos hkd, ha]
    dsimp only
    rw [hρ, h2]
    dsimp only
    rw [h3]
    dsimp only
    rw [hg.2 y y' h4]
    dsimp only
    rw [h5]
theorem sim_meth_z {T : String} {fa : DVs} {g : GMt} {as : List O} {F : α → M α} {md : (α → M α) → M A} (hp : MQ (fp ρ) ρ i sA s md) (hk : ∀ y, tyO (s y) = T) (ha : fa ρ = .ok as ρ') (hρ : ρ'[i]? = ρ[i]?) (hg : GQ g s as F) {upd : A → Rho} (hu : ∀ x, ρ'.set i (some (sA x)) = upd x) : Sim0 (methS T fp fa g ρ) (md F) (Np upd) := by
  have e : (fun x => ρ'.set i (some (sA x))) = upd := funext hu
  rw [← e]
  exact sim_meth__z hp hk ha hρ hg
theorem sim_meth_m__z {T : String} {fa : DVs} {g : GMt} {ss : β → List O} {F : β → α → M α} {m : M β} {x : α} [Pl s] (hx : ρ[i]? = some (some (s x))) (hk : ∀ y, tyO (s y) = T) (ha : VsQ0 (fa ρ) m ss ρ') (hρ : ρ'[i]? = ρ[i]?) (hg : ∀ b, GQ g s (ss b) (F b)) : Sim0 (methS T (varP i) fa g ρ) (m.bind fun b => F b x) (Np fun x => ρ'.set i (some (s x))) := by
  cases m with
  | bad => trivial
  | ok b => exact sim_meth__z (md := fun f => f x) (mq_var hx) hk ha hρ (hg b)
  | ex c =>
    have ha : fa ρ = .ex c := ha
    refine ⟨ρ, ?_⟩
    have hkd : kindAt ρ i [] = T := by
      unfold kindAt
      rw [hx]
      show (match O.at [] (s x) with | some s => tyO s | none => "") = T
      rw [show O.at [] (s x) = some (s x) from congrArg some (Pl.co (s := s) x)]
      exact hk x
    unfold methS varP
    rw [hx]
    dsimp only
    rw [if_pos hkd, ha]
theorem sim_meth_m_z {T : String} {fa : DVs} {g : GMt} {ss : β → List O} {F : β → α → M α} {m : M β} {x : α} [Pl s] (hx : ρ[i]? = some (some (s x))) (hk : ∀ y, tyO (s y) = T) (ha : VsQ0 (fa ρ) m ss ρ') (hρ : ρ'[i]? = ρ[i]?) (hg : ∀ b, GQ g s (ss b) (F b)) {upd : α → Rho} (hu : ∀ x, ρ'.set i (some (s x)) = upd x) : Sim0 (methS T (varP i) fa g ρ) (m.bind fun b => F b x) (Np upd) := by
  have e : (fun x => ρ'.set i (some (s x))) = upd := funext hu
  rw [← e]
  exact sim_meth_m__z hx hk ha hρ hg
theorem gq_append {t : α → O} {v : α} : GQ gAppend (oL t) [t v] (fun xs => appM xs v) := by
  refine ⟨fun y c e => ?_, fun y y' e => ?_⟩
  · unfold appM at e
    dsimp only at e
    split at e <;> cases e
  · unfold appM at e
    dsimp only at e
    split at e
    · rename_i h
      cases e
      show (if (y.map t).length < lim then some (O.lst (y.map t ++ [t v])) else none) = _
      rw [if_pos (by simpa using h)]
      unfold oL
      simp
    · cases e
theorem gq_clear {t : α → O} : GQ gClear (oL t) [] (fun _ => .ok []) := by
  refine ⟨fun y c e => (nomatch e), fun y y' e => ?_⟩
  cases e
  rfl
def SQ (s : α → O) (y : D) (o : O) (F : α → M α) : Prop := Nex F ∧ ∀ x x', F x = .ok x' → setO (s x) y o = some (s x')
theorem sim_store__z {fv : DV} {o : O} {y : Ar} {F : α → M α} {md : (α → M α) → M A} (hv : fv ρ = .ok o ρ') (hp : MQ (fp ρ') ρ' i sA s md) (hb : fb ρ' = .ok y) (hg : SQ s y.d o F) : Sim0 (storeS fv fp fb ρ) (md F) (Np fun x => ρ'.set i (some (sA x))) := by
  have := hp F hg.1
  cases q : md F with
  | bad => trivial
  | ex c => rw [q] at this; exact this.elim
  | ok x' =>
    rw [q] at this
    obtain ⟨p, t, x, x2, h1, h2, h3, h4, h5⟩ := this
    show storeS fv fp fb ρ = .nx _
    unfold storeS
    rw [hv]
    dsimp only
    rw [h1]
    dsimp only
    rw [hb]
    dsimp only
    rw [h2]
    dsimp only
    rw [h3]
    dsimp only
    rw [hg.2 x x2 h4]
    dsimp only
    rw [h5]
theorem sim_store_z {fv : DV} {o : O} {y : Ar} {F : α → M α} {md : (α → M α) → M A} (hv : fv ρ = .ok o ρ') (hp : MQ (fp ρ') ρ' i sA s md) (hb : fb ρ' = .ok y) (hg : SQ s y.d o F) {upd : A → Rho} (hu : ∀ x, ρ'.set i (some (sA x)) = upd x) : Sim0 (storeS fv fp fb ρ) (md F) (Np upd) := by
  have e : (fun x => ρ'.set i (some (sA x))) = upd := funext hu
  rw [← e]
  exact sim_store__z hv hp hb hg
theorem sq_list {t : α → O} {k : Int} {v : α} : SQ (oL t) (.int k) (t v) (fun xs => setM xs k v) := by
  refine ⟨fun y c e => ?_, fun y y' e => ?_⟩
  · unfold setM at e
    dsimp only at e
    split at e <;> cases e
  · unfold setM at e
    dsimp only at e
    split at e
    · rename_i j hj
      cases e
      show (match ixN (y.map t).length k with | some j => some (O.lst ((y.map t).set j (t v))) | none => none) = some (.lst ((y.set j v).map t))
      rw [List.length_map, hj, List.map_set]
    · cases e
variable {κ : Type} [DecidableEq κ]
abbrev Dc (κ α : Type) := List (κ × α)
def kI : Int → Key := Sum.inl
def kS : Str → Key := Sum.inr
def eDk (ke : κ → Key) (e : α → D) : Dc κ α → D := fun d => .dK (d.map fun p => ke p.1) (d.map fun p => e p.2)
def oDk (ke : κ → Key) (e : α → D) : Dc κ α → O := fun d => .dK (d.map fun p => ke p.1) (d.map fun p => e p.2)
instance {κ α : Type} {ke : κ → Key} {e : α → D} : Pl (oDk ke e) := Pl.of fun _ _ _ h => nomatch h
instance {ke : κ → Key} {e : α → D} : ToD (oDk ke e) (eDk ke e) := ⟨fun _ => rfl⟩
instance {ke : κ → Key} {e : α → D} : NnE (eDk ke e) := ⟨fun _ h => nomatch h⟩
instance {ke : κ → Key} {e : α → D} [FlatE e] : LeafF (oDk ke e) := ⟨fun d => by
  show flats (d.map fun p => e p.2) = true
  unfold flats
  rw [List.all_map, List.all_eq_true]
  exact fun p _ => FlatE.fl p.2⟩
def dg : Dc κ α → κ → Option α
  | [], _ => none
  | (k', v) :: d, k => if k' = k then some v else dg d k
def dp (d : Dc κ α) (k : κ) (v : α) : Dc κ α := if k ∈ d.map (·.1) then d.map (fun p => if p.1 = k then (p.1, v) else p) else d ++ [(k, v)]
def dpM (d : Dc κ α) (k : κ) (v : α) : M (Dc κ α) := if d.length < lim then .ok (dp d k v) else .bad
class Inj (ke : κ → Key) : Prop where
  inj : ∀ a b, ke a = ke b → a = b
instance : Inj kI := ⟨fun a b h => Sum.inl.inj h⟩
instance : Inj kS := ⟨fun a b h => Sum.inr.inj h⟩
theorem look_dg {ke : κ → Key} [Inj ke] {e : α → D} : ∀ (d : Dc κ α) (k : κ), look (d.map fun p => ke p.1) (d.map fun p => e p.2) (ke k) = (dg d k).map e
  | [], k => by simp [look, dg]
  | (k', v) :: d, k => by
    rw [List.map_cons, List.map_cons]
    unfold look dg
    by_cases h : k' = k
    · subst h; simp
    · have : ¬ ke k' = ke k := fun q => h (Inj.inj _ _ q)
      rw [if_neg this, if_neg h]
      exact look_dg d k
theorem replD_dp {ke : κ → Key} [Inj ke] {e : α → D} : ∀ (d : Dc κ α) (k : κ) (v : α), replD (d.map fun p => ke p.1) (d.map fun p => e p.2) (ke k) (e v) = (d.map fun p => if p.1 = k then (p.1, v) else p).map fun p => e p.2
  | [], k, v => rfl
  | (k', w) :: d, k, v => by
    simp only [List.map_cons]
    unfold replD
    rw [replD_dp d k v]
    by_cases h : k' = k
    · subst h; simp
    · have : ¬ ke k' = ke k := fun q => h (Inj.inj _ _ q)
      simp [h, this]
theorem putD_dp {ke : κ → Key} [Inj ke] {e : α → D} (d : Dc κ α) (k : κ) (v : α) : putD (d.map fun p => ke p.1) (d.map fun p => e p.2) (ke k) (e v) = ((dp d k v).map (fun (p : κ × α) => ke p.1), (dp d k v).map fun (p : κ × α) => e p.2) := by
  have hm : ke k ∈ (d.map fun p => ke p.1) ↔ k ∈ d.map (·.1) := by
    simp only [List.mem_map]
    exact ⟨fun ⟨p, hp, q⟩ => ⟨p, hp, Inj.inj _ _ q⟩, fun ⟨p, hp, q⟩ => ⟨p, hp, by rw [q]⟩⟩
  unfold putD dp
  by_cases h : k ∈ d.map (·.1)
  · rw [if_pos (hm.mpr h), if_pos h, replD_dp]
    congr 1
    rw [List.map_map]
    refine List.map_congr_left fun p _ => ?_
    dsimp only [Function.comp]
    split <;> rfl
  · rw [if_neg fun q => h (hm.mp q), if_neg h]
    simp
class KeyE (ke : κ → Key) (f : outParam (κ → D)) : Prop where
  kd : ∀ k, keyD (f k) = some (ke k)
instance : KeyE kI eI := ⟨fun _ => rfl⟩
instance : KeyE kS eS := ⟨fun _ => rfl⟩
end
section
variable {δ : Type} {t1 t2 : DT} {q : δ → Bool} {mq : δ → M Bool} {x : Option δ}
theorem tq_andS_p (ρf : Option δ → Rho) (h : ∀ x, t1 (ρf x) = .ok (!x.isNone)) (h2 : ∀ y, t2 (ρf (some y)) = .ok (q y)) : andT t1 t2 (ρf x) = .ok (optC x false q) := by
  unfold andT
  rw [h]
  cases x with
  | none => rfl
  | some y => exact h2 y
theorem tq_orN_p (ρf : Option δ → Rho) (h : ∀ x, t1 (ρf x) = .ok x.isNone) (h2 : ∀ y, t2 (ρf (some y)) = .ok (q y)) : orT t1 t2 (ρf x) = .ok (optC x true q) := by
  unfold orT
  rw [h]
  cases x with
  | none => rfl
  | some y => exact h2 y
theorem tq_andS_z (ρf : Option δ → Rho) (h : ∀ x, t1 (ρf x) = .ok (!x.isNone)) (h2 : ∀ y, TQ0 (t2 (ρf (some y))) (mq y)) : TQ0 (andT t1 t2 (ρf x)) (optC x (.ok false) mq) := by
  unfold andT
  rw [h]
  cases x with
  | none => rfl
  | some y => exact h2 y
end
end DL
namespace DL
open PySem PySem.Spec L2
@[irreducible] def fuel : Nat := 1000000000
section
variable {ρ : Rho} {t1 t2 : DT} {q b : Bool} {mq : M Bool}
theorem tq_or_f (h : t1 ρ = .ok false) (h2 : t2 ρ = .ok q) : orT t1 t2 ρ = .ok q := by unfold orT; rw [h]; exact h2
theorem tq_or_fm_z (h : t1 ρ = .ok false) (h2 : TQ0 (t2 ρ) mq) : TQ0 (orT t1 t2 ρ) mq := by
  have : orT t1 t2 ρ = t2 ρ := by unfold orT; rw [h]
  rw [this]; exact h2
theorem pq_isi {T : String} {fa : DE} {a : Ar} {d : D} (ha : fa ρ = .ok a) (hd : a.d = d) (h : isiD T d = okB b) : isiE T fa ρ = okB b := by
  unfold isiE Rs.bind
  rw [ha]
  show isiD T a.d = _
  rw [hd, h]
theorem isi_some {α : Type} {T : String} {e : α → D} {x : Option α} (h0 : isiD T .non = okB false) (h1 : ∀ a, isiD T (e a) = okB true) : isiD T (eO e x) = okB x.isSome := by
  cases x with
  | none => exact h0
  | some a => exact h1 a
variable {A B K' : DS} {γ : Type} {m : M γ} {P : γ → SR → Prop} {c : DT}
end
variable {K : PySem.W.Frag} {F F' H H' H0 F0 F1 H1 : Hp} {cs cs' : List Addr} {σ σ' : L2.St} {ρ ρ' : Rho}
end DL
namespace DL
open PySem PySem.Spec L2
variable {K : PySem.W.Frag} {F F' H H' H0 F0 F1 H1 : Hp} {cs cs' : List Addr} {σ σ' : L2.St} {ρ ρ' : Rho}
structure Al (K : PySem.W.Frag) (H : Hp) (σ : L2.St) (i t : Nat) (p : List Nat) (j : List Nat) (q : Addr) : Prop where
  ex : ∃ v0 v, σ[i]? = some (some v0) ∧ σ[t]? = some (some v) ∧ VAt K H p v0 (.ref q) ∧ VAt K H (p ++ j) v0 v
theorem Al.same {i t p j q} (A : Al K H σ i t p j q) (h : Same H H') : Al K H' σ i t p j q := by
  obtain ⟨v0, v, h1, h2, h3, h4⟩ := A.ex
  exact ⟨v0, v, h1, h2, h3.same h, h4.same h⟩
theorem RS.setNone {t : Nat} {x : Option V} (R : RS K F0 H0 ρ F σ H cs) (h : ρ[t]? = some none) : RS K F0 H0 ρ F (σ.set t x) H cs :=
  ⟨R.fh, R.f0, R.nw, R.h0, R.sl.setNone h, R.nd, R.cf⟩
section
variable {X : Cx} {W : WX} {pos : Pos} {a b c e : Expr} {fa fb fc fe : DE} {t : Nat} {st : Stmt} {sts rest : List Stmt}
@[simp] def noneAt (ρ : Rho) (t : Nat) : Bool := match ρ[t]? with
  | some none => true
  | _ => false
@[simp] def lenAt (ρ : Rho) (i : Nat) (p : List Nat) : Option Nat := match ρ[i]? with
  | some (some o) => match O.at p o with
    | some (.lst os) => some os.length
    | _ => none
  | _ => none
theorem lenAt_rep {i : Nat} {p : List Nat} {N : Nat} {v u : V} (R : RS K F0 H0 ρ F σ H cs) (h : lenAt ρ i p = some N) (hv : σ[i]? = some (some v)) (hat : VAt K H p v u) : ∃ a vs, u = .ref a ∧ H a = some (.lst vs) ∧ vs.length = N := by
  unfold lenAt at h
  split at h
  · rename_i o eo
    split at h
    · rename_i os es
      cases h
      obtain ⟨v', u', c1, c2, c3, _, g2, g3, g4, _⟩ := R.putAt eo es
      rw [hv] at g2
      cases g2
      have : u' = u := g3.fun_ hat
      subst this
      obtain ⟨a, vs, c', e1, e2, e3, q⟩ := g4
      exact ⟨a, vs, e1, e3, q.len.symm⟩
    · cases h
  · cases h
end
end DL
namespace DL
open PySem PySem.Spec L2
section
variable {A α β γ : Type} {s : α → O} {t : β → O}
theorem mapM_nex {F : α → M β} (h : Nex F) : ∀ (xs : List α) c, mapM F xs ≠ .ex c
  | [], c, e => by cases e
  | x :: xs, c, e => by
    unfold mapM at e
    cases q : F x with
    | bad => rw [q] at e; cases e
    | ex k => exact h x k q
    | ok y =>
      rw [q] at e
      simp only [M.bind_ok] at e
      cases q2 : mapM F xs with
      | bad => rw [q2] at e; cases e
      | ex k => exact mapM_nex h xs k q2
      | ok ys => rw [q2] at e; cases e
end
end DL
namespace DL
open PySem PySem.Spec L2
section
variable {P : Program} {w : World} {K : PySem.W.Frag} {mg : Str → Option Value} {base : Heap}
theorem fnD {x qual : Str} {st : Stmt} {f : Addr} {fd : FuncData} {N ps : List Str} {k : Nat} {fb : DS} (F : Fun K x qual st f fd) (S : FnScope N ps (defScope st))
    (hbody : ∀ (cdv : Value) (A : Around) (outer : List Env) (s : Shared) (H : Hp) (E : XK), Cb (cxOf (L2.CX P w) P w K mg base N qual (defScope st) f cdv A outer s H E) (WEx E) k → GSs (cxOf (L2.CX P w) P w K mg base N qual (defScope st) f cdv A outer s H E) (WEx E) (defBody st) fb) :
    FnOk P w K mg base (L2.CX P w) (k + 1) f fd ps (spD K mg (semOf N.length fb) ps.length) := by
  refine F.okX S (fun vs H Q E h => ?_) (fun cdv A outer s H vs Q E hr h => ?_)
  · obtain ⟨_, _, h, _⟩ := h
    exact h
  · obtain ⟨F0, ds, hl, fh, r, p⟩ := h
    have tk : Takes (cxOf (L2.CX P w) P w K mg base N qual (defScope st) f cdv A outer s H E) (WEx E) := takes_of rfl rfl rfl rfl
    have C : Cb (cxOf (L2.CX P w) P w K mg base N qual (defScope st) f cdv A outer s H E) (WEx E) k := ⟨⟨rfl, hr, S.nd, fun σ => passAt tk σ⟩, passes_of rfl, tk⟩
    refine ⟨_, hbody cdv A outer s H E C, F0, H, startR N.length ds, F0, [], ⟨fh, Same.refl _, fun _ _ => rfl, Same.refl _, ?_, List.nodup_nil, fun _ h => nomatch h⟩, ?_⟩
    · unfold startR L2.start
      rw [r.len]
      exact slots_start _ r
    · unfold semOf at p
      cases q : fb (startR N.length ds) with
      | bad => rw [q] at p; exact p.elim
      | bk ρ => rw [q] at p; exact p.elim
      | ct ρ => rw [q] at p; exact p.elim
      | nx ρ =>
        rw [q] at p
        exact fun F' H' σ' cs' s' R' => p F' H' .non [] R'.toExt ⟨rfl, rfl⟩ New.nil
      | rt o => rw [q] at p; exact p
      | rw o ps => rw [q] at p; exact p.elim
      | ex c ρ =>
        rw [q] at p
        exact fun F' H' σ' cs' C' s' R' m => p F' H' C' R'.toExt m
abbrev scrD (ns : List Int) : D := .lst (ns.map .int)
theorem cx_no {P : Program} {w : World} {H : Hp} {s : Shared} {e : Value} {s' : Shared} (c : L2.CX P w [] H s (fun _ _ _ => False) e s') : False := by
  obtain ⟨_, _, _, _, _, _, _, _, _, _, _, _, z⟩ := c
  exact z
end
end DL
namespace DL
open PySem PySem.Spec L2
structure Sim {γ : Type} (r : SR) (m : M γ) (P : γ → SR → Prop) : Prop where
  out : Sim0 r m P
theorem Sim_eq {γ : Type} {r : SR} {m : M γ} {P : γ → SR → Prop} : Sim r m P = Sim0 r m P := propext ⟨fun h => h.out, fun h => ⟨h⟩⟩
structure RQ {α : Type} (r : Rs) (m : M α) (s : α → Ar) : Prop where
  out : RQ0 r m s
theorem RQ_eq {α : Type} {r : Rs} {m : M α} {s : α → Ar} : RQ r m s = RQ0 r m s := propext ⟨fun h => h.out, fun h => ⟨h⟩⟩
structure AQ {α : Type} (r : Rm) (m : M α) (s : α → List Ar) : Prop where
  out : AQ0 r m s
theorem AQ_eq {α : Type} {r : Rm} {m : M α} {s : α → List Ar} : AQ r m s = AQ0 r m s := propext ⟨fun h => h.out, fun h => ⟨h⟩⟩
structure TQ (r : Rb) (m : M Bool) : Prop where
  out : TQ0 r m
theorem TQ_eq {r : Rb} {m : M Bool} : TQ r m = TQ0 r m := propext ⟨fun h => h.out, fun h => ⟨h⟩⟩
structure VQ {α : Type} (r : Rv) (m : M α) (s : α → O) (ρ' : Rho) : Prop where
  out : VQ0 r m s ρ'
theorem VQ_eq {α : Type} {r : Rv} {m : M α} {s : α → O} {ρ' : Rho} : VQ r m s ρ' = VQ0 r m s ρ' := propext ⟨fun h => h.out, fun h => ⟨h⟩⟩
structure VsQ {α : Type} (r : Rvs) (m : M α) (s : α → List O) (ρ' : Rho) : Prop where
  out : VsQ0 r m s ρ'
theorem VsQ_eq {α : Type} {r : Rvs} {m : M α} {s : α → List O} {ρ' : Rho} : VsQ r m s ρ' = VsQ0 r m s ρ' := propext ⟨fun h => h.out, fun h => ⟨h⟩⟩
structure IQ {α : Type} (r : Ri) (m : M (List α)) (e : α → D) : Prop where
  out : IQ0 r m e
theorem IQ_eq {α : Type} {r : Ri} {m : M (List α)} {e : α → D} : IQ r m e = IQ0 r m e := propext ⟨fun h => h.out, fun h => ⟨h⟩⟩
structure XQ (r : Option (Option Int)) (m : M (Option Int)) : Prop where
  out : XQ0 r m
theorem XQ_eq {r : Option (Option Int)} {m : M (Option Int)} : XQ r m = XQ0 r m := propext ⟨fun h => h.out, fun h => ⟨h⟩⟩
section
variable {α β γ : Type} {ρ ρ' : Rho} {g : Ar → Ar → Rs} {u : Ar → Rs} {fa fb fc : DE} {a b : Ar} {ma : M α} {mb : M β} {sa : α → Ar} {sb : β → Ar} {s : γ → Ar} {m : M γ}
theorem rq_pp (ha : fa ρ = .ok a) (hb : fb ρ = .ok b) (ho : RQ (g a b) m s) : RQ (bin g fa fb ρ) m s := by
  simp only [Sim_eq, RQ_eq, AQ_eq, TQ_eq, VQ_eq, VsQ_eq, IQ_eq, XQ_eq] at *
  exact rq_pp_z ha hb ho
end
section
variable {α β γ : Type} {ρ ρ' : Rho} {g : Ar → Ar → Rs} {u : Ar → Rs} {fa fb fc : DE} {a b : Ar} {ma : M α} {mb : M β} {sa : α → Ar} {sb : β → Ar} {s : γ → Ar} {m : M γ}
theorem rq_mp {mo : α → M γ} (ha : RQ (fa ρ) ma sa) (hb : fb ρ = .ok b) (ho : ∀ x, RQ (g (sa x) b) (mo x) s) : RQ (bin g fa fb ρ) (ma.bind mo) s := by
  simp only [Sim_eq, RQ_eq, AQ_eq, TQ_eq, VQ_eq, VsQ_eq, IQ_eq, XQ_eq] at *
  exact rq_mp_z ha hb ho
end
section
variable {α β γ : Type} {ρ ρ' : Rho} {g : Ar → Ar → Rs} {u : Ar → Rs} {fa fb fc : DE} {a b : Ar} {ma : M α} {mb : M β} {sa : α → Ar} {sb : β → Ar} {s : γ → Ar} {m : M γ}
theorem rq_pm {mo : β → M γ} (ha : fa ρ = .ok a) (hb : RQ (fb ρ) mb sb) (ho : ∀ y, RQ (g a (sb y)) (mo y) s) : RQ (bin g fa fb ρ) (mb.bind mo) s := by
  simp only [Sim_eq, RQ_eq, AQ_eq, TQ_eq, VQ_eq, VsQ_eq, IQ_eq, XQ_eq] at *
  exact rq_pm_z ha hb ho
end
section
variable {α β γ : Type} {ρ ρ' : Rho} {g : Ar → Ar → Rs} {u : Ar → Rs} {fa fb fc : DE} {a b : Ar} {ma : M α} {mb : M β} {sa : α → Ar} {sb : β → Ar} {s : γ → Ar} {m : M γ}
theorem rq_mm {mo : α → β → M γ} (ha : RQ (fa ρ) ma sa) (hb : RQ (fb ρ) mb sb) (ho : ∀ x y, RQ (g (sa x) (sb y)) (mo x y) s) : RQ (bin g fa fb ρ) (ma.bind fun x => mb.bind fun y => mo x y) s := by
  simp only [Sim_eq, RQ_eq, AQ_eq, TQ_eq, VQ_eq, VsQ_eq, IQ_eq, XQ_eq] at *
  exact rq_mm_z ha hb ho
end
section
variable {α β γ : Type} {ρ ρ' : Rho} {g : Ar → Ar → Rs} {u : Ar → Rs} {fa fb fc : DE} {a b : Ar} {ma : M α} {mb : M β} {sa : α → Ar} {sb : β → Ar} {s : γ → Ar} {m : M γ}
end
section
variable {α β γ : Type} {ρ ρ' : Rho} {g : Ar → Ar → Rs} {u : Ar → Rs} {fa fb fc : DE} {a b : Ar} {ma : M α} {mb : M β} {sa : α → Ar} {sb : β → Ar} {s : γ → Ar} {m : M γ}
end
section
variable {α β γ : Type} {ρ ρ' : Rho} {g : Ar → Ar → Rs} {u : Ar → Rs} {fa fb fc : DE} {a b : Ar} {ma : M α} {mb : M β} {sa : α → Ar} {sb : β → Ar} {s : γ → Ar} {m : M γ}
end
section
variable {α β γ : Type} {ρ ρ' : Rho} {g : Ar → Ar → Rs} {u : Ar → Rs} {fa fb fc : DE} {a b : Ar} {ma : M α} {mb : M β} {sa : α → Ar} {sb : β → Ar} {s : γ → Ar} {m : M γ}
theorem rq_unF {e : α → D} {x : Option α} (h : fa ρ = .ok (.ow (.fz (eO e x)))) : RQ (fa ρ) (unO x) (rO (oF e)) := by
  simp only [Sim_eq, RQ_eq, AQ_eq, TQ_eq, VQ_eq, VsQ_eq, IQ_eq, XQ_eq] at *
  exact rq_unF_z h
end
section
variable {α β γ : Type} {ρ ρ' : Rho} {g : Ar → Ar → Rs} {u : Ar → Rs} {fa fb fc : DE} {a b : Ar} {ma : M α} {mb : M β} {sa : α → Ar} {sb : β → Ar} {s : γ → Ar} {m : M γ}
theorem rq_bind {mo : α → M γ} {r : Rs} (h : RQ r ma sa) (k : ∀ x, r = .ok (sa x) → RQ r (mo x) s) : RQ r (ma.bind mo) s := by
  simp only [Sim_eq, RQ_eq, AQ_eq, TQ_eq, VQ_eq, VsQ_eq, IQ_eq, XQ_eq] at *
  exact rq_bind_z h k
end
section
variable {α β γ : Type} {ρ ρ' : Rho} {g : Ar → Ar → Rs} {u : Ar → Rs} {fa fb fc : DE} {a b : Ar} {ma : M α} {mb : M β} {sa : α → Ar} {sb : β → Ar} {s : γ → Ar} {m : M γ}
theorem rq_of {r : Rs} {x : γ} (h : r = .ok (s x)) : RQ r (.ok x) s := by
  simp only [Sim_eq, RQ_eq, AQ_eq, TQ_eq, VQ_eq, VsQ_eq, IQ_eq, XQ_eq] at *
  exact rq_of_z h
end
section
variable {α β γ : Type} {ρ ρ' : Rho} {g : Ar → Ar → Rs} {u : Ar → Rs} {fa fb fc : DE} {a b : Ar} {ma : M α} {mb : M β} {sa : α → Ar} {sb : β → Ar} {s : γ → Ar} {m : M γ}
theorem rq_ok {r : Rs} {x : γ} (h : RQ r (.ok x) s) : r = .ok (s x) := by
  simp only [Sim_eq, RQ_eq, AQ_eq, TQ_eq, VQ_eq, VsQ_eq, IQ_eq, XQ_eq] at *
  exact rq_ok_z h
end
section
variable {α β γ : Type} {ρ ρ' : Rho} {g : Ar → Ar → Rs} {u : Ar → Rs} {fa fb fc : DE} {a b : Ar} {ma : M α} {mb : M β} {sa : α → Ar} {sb : β → Ar} {s : γ → Ar} {m : M γ}
end
section
variable {α β γ : Type} {ρ ρ' : Rho} {g : Ar → Ar → Rs} {u : Ar → Rs} {fa fb fc : DE} {a b : Ar} {ma : M α} {mb : M β} {sa : α → Ar} {sb : β → Ar} {s : γ → Ar} {m : M γ}
variable {f : DE} {ga : DA} {as : List Ar} {mas : M β} {ss : β → List Ar}
theorem aq_pm (hf : f ρ = .ok a) (hg : AQ (ga ρ) mas ss) : AQ (consA f ga ρ) mas (fun y => a :: ss y) := by
  simp only [Sim_eq, RQ_eq, AQ_eq, TQ_eq, VQ_eq, VsQ_eq, IQ_eq, XQ_eq] at *
  exact aq_pm_z hf hg
end
section
variable {α β γ : Type} {ρ ρ' : Rho} {g : Ar → Ar → Rs} {u : Ar → Rs} {fa fb fc : DE} {a b : Ar} {ma : M α} {mb : M β} {sa : α → Ar} {sb : β → Ar} {s : γ → Ar} {m : M γ}
variable {f : DE} {ga : DA} {as : List Ar} {mas : M β} {ss : β → List Ar}
theorem aq_mp (hf : RQ (f ρ) ma sa) (hg : ga ρ = .ok as) : AQ (consA f ga ρ) ma (fun x => sa x :: as) := by
  simp only [Sim_eq, RQ_eq, AQ_eq, TQ_eq, VQ_eq, VsQ_eq, IQ_eq, XQ_eq] at *
  exact aq_mp_z hf hg
end
section
variable {α β γ : Type} {ρ ρ' : Rho} {g : Ar → Ar → Rs} {u : Ar → Rs} {fa fb fc : DE} {a b : Ar} {ma : M α} {mb : M β} {sa : α → Ar} {sb : β → Ar} {s : γ → Ar} {m : M γ}
variable {f : DE} {ga : DA} {as : List Ar} {mas : M β} {ss : β → List Ar}
theorem aq_mm (hf : RQ (f ρ) ma sa) (hg : AQ (ga ρ) mas ss) : AQ (consA f ga ρ) (ma.bind fun x => mas.bind fun y => .ok (x, y)) (fun p => sa p.1 :: ss p.2) := by
  simp only [Sim_eq, RQ_eq, AQ_eq, TQ_eq, VQ_eq, VsQ_eq, IQ_eq, XQ_eq] at *
  exact aq_mm_z hf hg
end
section
variable {α β γ : Type} {ρ ρ' : Rho} {g : Ar → Ar → Rs} {u : Ar → Rs} {fa fb fc : DE} {a b : Ar} {ma : M α} {mb : M β} {sa : α → Ar} {sb : β → Ar} {s : γ → Ar} {m : M γ}
variable {f : DE} {ga : DA} {as : List Ar} {mas : M β} {ss : β → List Ar}
end
section
variable {α β γ : Type} {ρ ρ' : Rho} {g : Ar → Ar → Rs} {u : Ar → Rs} {fa fb fc : DE} {a b : Ar} {ma : M α} {mb : M β} {sa : α → Ar} {sb : β → Ar} {s : γ → Ar} {m : M γ}
variable {f : DE} {ga : DA} {as : List Ar} {mas : M β} {ss : β → List Ar}
theorem rq_callB {g : List Ar → Rs} {mo : β → M γ} (ha : AQ (ga ρ) mas ss) (ho : ∀ y, RQ (g (ss y)) (mo y) s) : RQ (callB g ga ρ) (mas.bind mo) s := by
  simp only [Sim_eq, RQ_eq, AQ_eq, TQ_eq, VQ_eq, VsQ_eq, IQ_eq, XQ_eq] at *
  exact rq_callB_z ha ho
end
section
variable {α β γ : Type} {ρ ρ' : Rho} {g : Ar → Ar → Rs} {u : Ar → Rs} {fa fb fc : DE} {a b : Ar} {ma : M α} {mb : M β} {sa : α → Ar} {sb : β → Ar} {s : γ → Ar} {m : M γ}
variable {f : DE} {ga : DA} {as : List Ar} {mas : M β} {ss : β → List Ar}
end
section
variable {α β γ : Type} {ρ ρ' : Rho} {g : Ar → Ar → Rs} {u : Ar → Rs} {fa fb fc : DE} {a b : Ar} {ma : M α} {mb : M β} {sa : α → Ar} {sb : β → Ar} {s : γ → Ar} {m : M γ}
variable {f : DE} {ga : DA} {as : List Ar} {mas : M β} {ss : β → List Ar}
theorem rq_callF0 {sem : DF} {n : Nat} {o : γ → O} {ds : List D} (ha : ga ρ = .ok as) (hn : as.length = n) (hd : as.map Ar.d = ds) (hv : noVw as = true ∨ ∀ a, leafFlat (o a) = true) (h : FQ (sem ds) m o) : RQ (callF sem n ga ρ) m (rO o) := by
  simp only [Sim_eq, RQ_eq, AQ_eq, TQ_eq, VQ_eq, VsQ_eq, IQ_eq, XQ_eq] at *
  exact rq_callF0_z ha hn hd hv h
end
section
variable {α β γ : Type} {ρ ρ' : Rho} {g : Ar → Ar → Rs} {u : Ar → Rs} {fa fb fc : DE} {a b : Ar} {ma : M α} {mb : M β} {sa : α → Ar} {sb : β → Ar} {s : γ → Ar} {m : M γ}
variable {f : DE} {ga : DA} {as : List Ar} {mas : M β} {ss : β → List Ar}
theorem rq_callF {sem : DF} {n : Nat} {o : γ → O} {mo : β → M γ} {ds : β → List D} (ha : AQ (ga ρ) mas ss) (hn : ∀ y, (ss y).length = n) (hd : ∀ y, (ss y).map Ar.d = ds y) (hv : (∀ y, noVw (ss y) = true) ∨ ∀ a, leafFlat (o a) = true) (h : ∀ y, FQ (sem (ds y)) (mo y) o) : RQ (callF sem n ga ρ) (mas.bind mo) (rO o) := by
  simp only [Sim_eq, RQ_eq, AQ_eq, TQ_eq, VQ_eq, VsQ_eq, IQ_eq, XQ_eq] at *
  exact rq_callF_z ha hn hd hv h
end
section
variable {α β γ : Type} {ρ ρ' : Rho} {g : Ar → Ar → Rs} {u : Ar → Rs} {fa fb fc : DE} {a b : Ar} {ma : M α} {mb : M β} {sa : α → Ar} {sb : β → Ar} {s : γ → Ar} {m : M γ}
variable {f : DE} {ga : DA} {as : List Ar} {mas : M β} {ss : β → List Ar}
theorem rq_lst {os : β → List O} {mo : β → γ} {s : γ → O} (ha : AQ (ga ρ) mas ss) (ho : ∀ y, owAll (ss y) = some (os y)) (hl : ∀ y, okLen (os y).length = true) (hs : ∀ y, s (mo y) = .lst (os y)) : RQ (lstE ga ρ) (mas.bind fun y => .ok (mo y)) (rO s) := by
  simp only [Sim_eq, RQ_eq, AQ_eq, TQ_eq, VQ_eq, VsQ_eq, IQ_eq, XQ_eq] at *
  exact rq_lst_z ha ho hl hs
end
section
variable {α β γ : Type} {ρ ρ' : Rho} {g : Ar → Ar → Rs} {u : Ar → Rs} {fa fb fc : DE} {a b : Ar} {ma : M α} {mb : M β} {sa : α → Ar} {sb : β → Ar} {s : γ → Ar} {m : M γ}
variable {f : DE} {ga : DA} {as : List Ar} {mas : M β} {ss : β → List Ar}
theorem rq_tup {mo : β → γ} {s : γ → O} (ha : AQ (ga ρ) mas ss) (h : ∀ y, ga ρ = .ok (ss y) → tupE ga ρ = .ok (.ow (s (mo y)))) : RQ (tupE ga ρ) (mas.bind fun y => .ok (mo y)) (rO s) := by
  simp only [Sim_eq, RQ_eq, AQ_eq, TQ_eq, VQ_eq, VsQ_eq, IQ_eq, XQ_eq] at *
  exact rq_tup_z ha h
end
section
variable {α β γ : Type} {ρ ρ' : Rho} {g : Ar → Ar → Rs} {u : Ar → Rs} {fa fb fc : DE} {a b : Ar} {ma : M α} {mb : M β} {sa : α → Ar} {sb : β → Ar} {s : γ → Ar} {m : M γ}
variable {f : DE} {ga : DA} {as : List Ar} {mas : M β} {ss : β → List Ar}
variable {p q : Bool} {t1 t2 : DT} {mp mq : M Bool}
theorem tq_m (h : RQ (fa ρ) mp (rO (oF eB))) : TQ (testE fa ρ) mp := by
  simp only [Sim_eq, RQ_eq, AQ_eq, TQ_eq, VQ_eq, VsQ_eq, IQ_eq, XQ_eq] at *
  exact tq_m_z h
end
section
variable {α β γ : Type} {ρ ρ' : Rho} {g : Ar → Ar → Rs} {u : Ar → Rs} {fa fb fc : DE} {a b : Ar} {ma : M α} {mb : M β} {sa : α → Ar} {sb : β → Ar} {s : γ → Ar} {m : M γ}
variable {f : DE} {ga : DA} {as : List Ar} {mas : M β} {ss : β → List Ar}
variable {p q : Bool} {t1 t2 : DT} {mp mq : M Bool}
theorem tq_of {r : Rb} (h : r = .ok p) : TQ r (.ok p) := by
  simp only [Sim_eq, RQ_eq, AQ_eq, TQ_eq, VQ_eq, VsQ_eq, IQ_eq, XQ_eq] at *
  exact tq_of_z h
end
section
variable {α β γ : Type} {ρ ρ' : Rho} {g : Ar → Ar → Rs} {u : Ar → Rs} {fa fb fc : DE} {a b : Ar} {ma : M α} {mb : M β} {sa : α → Ar} {sb : β → Ar} {s : γ → Ar} {m : M γ}
variable {f : DE} {ga : DA} {as : List Ar} {mas : M β} {ss : β → List Ar}
variable {p q : Bool} {t1 t2 : DT} {mp mq : M Bool}
theorem tq_not_m (h : TQ (t1 ρ) mp) : TQ (notT t1 ρ) (mp.bind fun b => .ok (!b)) := by
  simp only [Sim_eq, RQ_eq, AQ_eq, TQ_eq, VQ_eq, VsQ_eq, IQ_eq, XQ_eq] at *
  exact tq_not_m_z h
end
section
variable {α β γ : Type} {ρ ρ' : Rho} {g : Ar → Ar → Rs} {u : Ar → Rs} {fa fb fc : DE} {a b : Ar} {ma : M α} {mb : M β} {sa : α → Ar} {sb : β → Ar} {s : γ → Ar} {m : M γ}
variable {f : DE} {ga : DA} {as : List Ar} {mas : M β} {ss : β → List Ar}
variable {p q : Bool} {t1 t2 : DT} {mp mq : M Bool}
theorem tq_and_pm (h : t1 ρ = .ok p) (h2 : TQ (t2 ρ) mq) : TQ (andT t1 t2 ρ) (if p then mq else .ok false) := by
  simp only [Sim_eq, RQ_eq, AQ_eq, TQ_eq, VQ_eq, VsQ_eq, IQ_eq, XQ_eq] at *
  exact tq_and_pm_z h h2
end
section
variable {α β γ : Type} {ρ ρ' : Rho} {g : Ar → Ar → Rs} {u : Ar → Rs} {fa fb fc : DE} {a b : Ar} {ma : M α} {mb : M β} {sa : α → Ar} {sb : β → Ar} {s : γ → Ar} {m : M γ}
variable {f : DE} {ga : DA} {as : List Ar} {mas : M β} {ss : β → List Ar}
variable {p q : Bool} {t1 t2 : DT} {mp mq : M Bool}
theorem tq_or_pm (h : t1 ρ = .ok p) (h2 : TQ (t2 ρ) mq) : TQ (orT t1 t2 ρ) (if p then .ok true else mq) := by
  simp only [Sim_eq, RQ_eq, AQ_eq, TQ_eq, VQ_eq, VsQ_eq, IQ_eq, XQ_eq] at *
  exact tq_or_pm_z h h2
end
section
variable {α β γ : Type} {ρ ρ' : Rho} {g : Ar → Ar → Rs} {u : Ar → Rs} {fa fb fc : DE} {a b : Ar} {ma : M α} {mb : M β} {sa : α → Ar} {sb : β → Ar} {s : γ → Ar} {m : M γ}
variable {f : DE} {ga : DA} {as : List Ar} {mas : M β} {ss : β → List Ar}
variable {p q : Bool} {t1 t2 : DT} {mp mq : M Bool}
theorem tq_and_mm (h : TQ (t1 ρ) mp) (h2 : TQ (t2 ρ) mq) : TQ (andT t1 t2 ρ) (mp.bind fun p => if p then mq else .ok false) := by
  simp only [Sim_eq, RQ_eq, AQ_eq, TQ_eq, VQ_eq, VsQ_eq, IQ_eq, XQ_eq] at *
  exact tq_and_mm_z h h2
end
section
variable {α β γ : Type} {ρ ρ' : Rho} {g : Ar → Ar → Rs} {u : Ar → Rs} {fa fb fc : DE} {a b : Ar} {ma : M α} {mb : M β} {sa : α → Ar} {sb : β → Ar} {s : γ → Ar} {m : M γ}
variable {f : DE} {ga : DA} {as : List Ar} {mas : M β} {ss : β → List Ar}
variable {p q : Bool} {t1 t2 : DT} {mp mq : M Bool}
theorem tq_or_mm (h : TQ (t1 ρ) mp) (h2 : TQ (t2 ρ) mq) : TQ (orT t1 t2 ρ) (mp.bind fun p => if p then .ok true else mq) := by
  simp only [Sim_eq, RQ_eq, AQ_eq, TQ_eq, VQ_eq, VsQ_eq, IQ_eq, XQ_eq] at *
  exact tq_or_mm_z h h2
end
section
variable {α β γ : Type} {ρ ρ' : Rho} {g : Ar → Ar → Rs} {u : Ar → Rs} {fa fb fc : DE} {a b : Ar} {ma : M α} {mb : M β} {sa : α → Ar} {sb : β → Ar} {s : γ → Ar} {m : M γ}
variable {f : DE} {ga : DA} {as : List Ar} {mas : M β} {ss : β → List Ar}
variable {p q : Bool} {t1 t2 : DT} {mp mq : M Bool}
theorem vq_not {mo : M Bool} (h : TQ (notT (testE fa) ρ) mo) : RQ (notV fa ρ) mo (rO (oF eB)) := by
  simp only [Sim_eq, RQ_eq, AQ_eq, TQ_eq, VQ_eq, VsQ_eq, IQ_eq, XQ_eq] at *
  exact vq_not_z h
end
section
variable {α β γ : Type} {ρ ρ' : Rho} {g : Ar → Ar → Rs} {u : Ar → Rs} {fa fb fc : DE} {a b : Ar} {ma : M α} {mb : M β} {sa : α → Ar} {sb : β → Ar} {s : γ → Ar} {m : M γ}
variable {f : DE} {ga : DA} {as : List Ar} {mas : M β} {ss : β → List Ar}
variable {p q : Bool} {t1 t2 : DT} {mp mq : M Bool}
theorem vq_and {mo : M Bool} (h : TQ (andT (testE fa) (testE fb) ρ) mo) : RQ (andV fa fb ρ) mo (rO (oF eB)) := by
  simp only [Sim_eq, RQ_eq, AQ_eq, TQ_eq, VQ_eq, VsQ_eq, IQ_eq, XQ_eq] at *
  exact vq_and_z h
end
section
variable {α β γ : Type} {ρ ρ' : Rho} {g : Ar → Ar → Rs} {u : Ar → Rs} {fa fb fc : DE} {a b : Ar} {ma : M α} {mb : M β} {sa : α → Ar} {sb : β → Ar} {s : γ → Ar} {m : M γ}
variable {f : DE} {ga : DA} {as : List Ar} {mas : M β} {ss : β → List Ar}
variable {p q : Bool} {t1 t2 : DT} {mp mq : M Bool}
theorem vq_or {mo : M Bool} (h : TQ (orT (testE fa) (testE fb) ρ) mo) : RQ (orV fa fb ρ) mo (rO (oF eB)) := by
  simp only [Sim_eq, RQ_eq, AQ_eq, TQ_eq, VQ_eq, VsQ_eq, IQ_eq, XQ_eq] at *
  exact vq_or_z h
end
section
variable {α β γ : Type} {ρ ρ' : Rho} {g : Ar → Ar → Rs} {u : Ar → Rs} {fa fb fc : DE} {a b : Ar} {ma : M α} {mb : M β} {sa : α → Ar} {sb : β → Ar} {s : γ → Ar} {m : M γ}
variable {f : DE} {ga : DA} {as : List Ar} {mas : M β} {ss : β → List Ar}
variable {p q : Bool} {t1 t2 : DT} {mp mq : M Bool}
end
section
variable {α β γ : Type} {ρ ρ' : Rho} {g : Ar → Ar → Rs} {u : Ar → Rs} {fa fb fc : DE} {a b : Ar} {ma : M α} {mb : M β} {sa : α → Ar} {sb : β → Ar} {s : γ → Ar} {m : M γ}
variable {f : DE} {ga : DA} {as : List Ar} {mas : M β} {ss : β → List Ar}
variable {p q : Bool} {t1 t2 : DT} {mp mq : M Bool}
end
section
variable {α β γ : Type} {ρ ρ' : Rho} {g : Ar → Ar → Rs} {u : Ar → Rs} {fa fb fc : DE} {a b : Ar} {ma : M α} {mb : M β} {sa : α → Ar} {sb : β → Ar} {s : γ → Ar} {m : M γ}
variable {f : DE} {ga : DA} {as : List Ar} {mas : M β} {ss : β → List Ar}
variable {p q : Bool} {t1 t2 : DT} {mp mq : M Bool}
end
section
variable {α β γ δ : Type} {ρ ρ' ρ1 ρ2 : Rho} {f g R A B K : DS} {l : List Gh} {m : M α} {mR : α → M γ} {P : γ → SR → Prop} {upd up : α → Rho} {mA mB : M γ}
theorem sim_end {b : γ} (h : P b (.nx ρ)) : Sim (nilS ρ) (.ok b) P := by
  simp only [Sim_eq, RQ_eq, AQ_eq, TQ_eq, VQ_eq, VsQ_eq, IQ_eq, XQ_eq] at *
  exact sim_end_z h
end
section
variable {α β γ δ : Type} {ρ ρ' ρ1 ρ2 : Rho} {f g R A B K : DS} {l : List Gh} {m : M α} {mR : α → M γ} {P : γ → SR → Prop} {upd up : α → Rho} {mA mB : M γ}
end
section
variable {α β γ δ : Type} {ρ ρ' ρ1 ρ2 : Rho} {f g R A B K : DS} {l : List Gh} {m : M α} {mR : α → M γ} {P : γ → SR → Prop} {upd up : α → Rho} {mA mB : M γ}
theorem sim_gh {m : M γ} (h : gh l ρ = ρ1) (k : Sim (R ρ1) m P) : Sim (ghS l R ρ) m P := by
  simp only [Sim_eq, RQ_eq, AQ_eq, TQ_eq, VQ_eq, VsQ_eq, IQ_eq, XQ_eq] at *
  exact sim_gh_z h k
end
section
variable {α β γ δ : Type} {ρ ρ' ρ1 ρ2 : Rho} {f g R A B K : DS} {l : List Gh} {m : M α} {mR : α → M γ} {P : γ → SR → Prop} {upd up : α → Rho} {mA mB : M γ}
theorem sim_s (hf : Sim (f ρ) m (Np upd)) (hu : ∀ a, gh l (upd a) = up a) (hR : ∀ a, Sim (R (up a)) (mR a) P) : Sim (seqS f (ghS l R) ρ) (m.bind mR) P := by
  simp only [Sim_eq, RQ_eq, AQ_eq, TQ_eq, VQ_eq, VsQ_eq, IQ_eq, XQ_eq] at *
  exact sim_s_z hf hu hR
end
section
variable {α β γ δ : Type} {ρ ρ' ρ1 ρ2 : Rho} {f g R A B K : DS} {l : List Gh} {m : M α} {mR : α → M γ} {P : γ → SR → Prop} {upd up : α → Rho} {mA mB : M γ}
theorem sim_l {x : α} (hf : f ρ = .nx (upd x)) (hu : ∀ a, gh l (upd a) = up a) (hR : ∀ a, Sim (R (up a)) (mR a) P) : Sim (seqS f (ghS l R) ρ) (lt x mR) P := by
  simp only [Sim_eq, RQ_eq, AQ_eq, TQ_eq, VQ_eq, VsQ_eq, IQ_eq, XQ_eq] at *
  exact sim_l_z hf hu hR
end
section
variable {α β γ δ : Type} {ρ ρ' ρ1 ρ2 : Rho} {f g R A B K : DS} {l : List Gh} {m : M α} {mR : α → M γ} {P : γ → SR → Prop} {upd up : α → Rho} {mA mB : M γ}
theorem sim_p {m : M γ} (hf : f ρ = .nx ρ1) (hu : gh l ρ1 = ρ2) (hR : Sim (R ρ2) m P) : Sim (seqS f (ghS l R) ρ) m P := by
  simp only [Sim_eq, RQ_eq, AQ_eq, TQ_eq, VQ_eq, VsQ_eq, IQ_eq, XQ_eq] at *
  exact sim_p_z hf hu hR
end
section
variable {α β γ δ : Type} {ρ ρ' ρ1 ρ2 : Rho} {f g R A B K : DS} {l : List Gh} {m : M α} {mR : α → M γ} {P : γ → SR → Prop} {upd up : α → Rho} {mA mB : M γ}
theorem sim_j (hf : Sim (f ρ) m (Jp l up)) (hR : ∀ a, Sim (R (up a)) (mR a) P) : Sim (seqS f (ghS l R) ρ) (m.bind mR) P := by
  simp only [Sim_eq, RQ_eq, AQ_eq, TQ_eq, VQ_eq, VsQ_eq, IQ_eq, XQ_eq] at *
  exact sim_j_z hf hR
end
section
variable {α β γ δ : Type} {ρ ρ' ρ1 ρ2 : Rho} {f g R A B K : DS} {l : List Gh} {m : M α} {mR : α → M γ} {P : γ → SR → Prop} {upd up : α → Rho} {mA mB : M γ}
end
section
variable {α β γ δ : Type} {ρ ρ' ρ1 ρ2 : Rho} {f g R A B K : DS} {l : List Gh} {m : M α} {mR : α → M γ} {P : γ → SR → Prop} {upd up : α → Rho} {mA mB : M γ}
theorem sim_sF {m : M (Fl α γ)} (hf : Sim (f ρ) m (Fp (Np upd) P)) (hu : ∀ a, gh l (upd a) = up a) (hR : ∀ a, Sim (R (up a)) (mR a) P) : Sim (seqS f (ghS l R) ρ) (m.fl mR) P := by
  simp only [Sim_eq, RQ_eq, AQ_eq, TQ_eq, VQ_eq, VsQ_eq, IQ_eq, XQ_eq] at *
  exact sim_sF_z hf hu hR
end
section
variable {α β γ δ : Type} {ρ ρ' ρ1 ρ2 : Rho} {f g R A B K : DS} {l : List Gh} {m : M α} {mR : α → M γ} {P : γ → SR → Prop} {upd up : α → Rho} {mA mB : M γ}
theorem sim_seq_end {m : M γ} (h : Sim (f ρ) m (Ep P)) : Sim (seqS f g ρ) m P := by
  simp only [Sim_eq, RQ_eq, AQ_eq, TQ_eq, VQ_eq, VsQ_eq, IQ_eq, XQ_eq] at *
  exact sim_seq_end_z h
end
section
variable {α β γ δ : Type} {ρ ρ' ρ1 ρ2 : Rho} {f g R A B K : DS} {l : List Gh} {m : M α} {mR : α → M γ} {P : γ → SR → Prop} {upd up : α → Rho} {mA mB : M γ}
theorem sim_nil {m : M γ} (h : Sim (g ρ) m P) : Sim (seqS nilS g ρ) m P := by
  simp only [Sim_eq, RQ_eq, AQ_eq, TQ_eq, VQ_eq, VsQ_eq, IQ_eq, XQ_eq] at *
  exact sim_nil_z h
end
section
variable {α β γ δ : Type} {ρ ρ' ρ1 ρ2 : Rho} {f g R A B K : DS} {l : List Gh} {m : M α} {mR : α → M γ} {P : γ → SR → Prop} {upd up : α → Rho} {mA mB : M γ}
variable {i : Nat} {fe : DE} {s : α → O} {o : O}
theorem set_m (h : RQ (fe ρ) m (rO s)) (hi : decide (i < ρ.length) = true := by rfl) : Sim (setS i fe ρ) m (Np fun a => ρ.set i (some (s a))) := by
  simp only [Sim_eq, RQ_eq, AQ_eq, TQ_eq, VQ_eq, VsQ_eq, IQ_eq, XQ_eq] at *
  exact set_m_z h hi
end
section
variable {α β γ δ : Type} {ρ ρ' ρ1 ρ2 : Rho} {f g R A B K : DS} {l : List Gh} {m : M α} {mR : α → M γ} {P : γ → SR → Prop} {upd up : α → Rho} {mA mB : M γ}
variable {i : Nat} {fe : DE} {s : α → O} {o : O}
end
section
variable {α β γ δ : Type} {ρ ρ' ρ1 ρ2 : Rho} {f g R A B K : DS} {l : List Gh} {m : M α} {mR : α → M γ} {P : γ → SR → Prop} {upd up : α → Rho} {mA mB : M γ}
variable {i : Nat} {fe : DE} {s : α → O} {o : O}
end
section
variable {α β γ δ : Type} {ρ ρ' ρ1 ρ2 : Rho} {f g R A B K : DS} {l : List Gh} {m : M α} {mR : α → M γ} {P : γ → SR → Prop} {upd up : α → Rho} {mA mB : M γ}
variable {i : Nat} {fe : DE} {s : α → O} {o : O}
variable {c : DT} {p : Bool} {mc : M Bool}
theorem sim_if_p (h : c ρ = .ok p) (hA : Sim (A ρ) mA P) (hB : Sim (B ρ) mB P) : Sim (ifS c A B ρ) (if p then mA else mB) P := by
  simp only [Sim_eq, RQ_eq, AQ_eq, TQ_eq, VQ_eq, VsQ_eq, IQ_eq, XQ_eq] at *
  exact sim_if_p_z h hA hB
end
section
variable {α β γ δ : Type} {ρ ρ' ρ1 ρ2 : Rho} {f g R A B K : DS} {l : List Gh} {m : M α} {mR : α → M γ} {P : γ → SR → Prop} {upd up : α → Rho} {mA mB : M γ}
variable {i : Nat} {fe : DE} {s : α → O} {o : O}
variable {c : DT} {p : Bool} {mc : M Bool}
theorem sim_if_m (h : TQ (c ρ) mc) (hA : Sim (A ρ) mA P) (hB : Sim (B ρ) mB P) : Sim (ifS c A B ρ) (mc.bind fun p => if p then mA else mB) P := by
  simp only [Sim_eq, RQ_eq, AQ_eq, TQ_eq, VQ_eq, VsQ_eq, IQ_eq, XQ_eq] at *
  exact sim_if_m_z h hA hB
end
section
variable {α β γ δ : Type} {ρ ρ' ρ1 ρ2 : Rho} {f g R A B K : DS} {l : List Gh} {m : M α} {mR : α → M γ} {P : γ → SR → Prop} {upd up : α → Rho} {mA mB : M γ}
variable {i : Nat} {fe : DE} {s : α → O} {o : O}
variable {c : DT} {p : Bool} {mc : M Bool}
theorem sim_ifK_p (h : c ρ = .ok p) (hA : Sim (seqS A K ρ) mA P) (hB : Sim (seqS B K ρ) mB P) : Sim (seqS (ifS c A B) K ρ) (if p then mA else mB) P := by
  simp only [Sim_eq, RQ_eq, AQ_eq, TQ_eq, VQ_eq, VsQ_eq, IQ_eq, XQ_eq] at *
  exact sim_ifK_p_z h hA hB
end
section
variable {α β γ δ : Type} {ρ ρ' ρ1 ρ2 : Rho} {f g R A B K : DS} {l : List Gh} {m : M α} {mR : α → M γ} {P : γ → SR → Prop} {upd up : α → Rho} {mA mB : M γ}
variable {i : Nat} {fe : DE} {s : α → O} {o : O}
variable {c : DT} {p : Bool} {mc : M Bool}
theorem sim_ifK_m (h : TQ (c ρ) mc) (hA : Sim (seqS A K ρ) mA P) (hB : Sim (seqS B K ρ) mB P) : Sim (seqS (ifS c A B) K ρ) (mc.bind fun p => if p then mA else mB) P := by
  simp only [Sim_eq, RQ_eq, AQ_eq, TQ_eq, VQ_eq, VsQ_eq, IQ_eq, XQ_eq] at *
  exact sim_ifK_m_z h hA hB
end
section
variable {α β γ δ : Type} {ρ ρ' ρ1 ρ2 : Rho} {f g R A B K : DS} {l : List Gh} {m : M α} {mR : α → M γ} {P : γ → SR → Prop} {upd up : α → Rho} {mA mB : M γ}
variable {i : Nat} {fe : DE} {s : α → O} {o : O}
variable {c : DT} {p : Bool} {mc : M Bool}
end
section
variable {α β γ δ : Type} {ρ ρ' ρ1 ρ2 : Rho} {f g R A B K : DS} {l : List Gh} {m : M α} {mR : α → M γ} {P : γ → SR → Prop} {upd up : α → Rho} {mA mB : M γ}
variable {i : Nat} {fe : DE} {s : α → O} {o : O}
variable {c : DT} {p : Bool} {mc : M Bool}
theorem sim_optS {mA : δ → M γ} {mB : M γ} {x : Option δ} (ρf : Option δ → Rho) (h : ∀ x, c (ρf x) = .ok (!x.isNone)) (hA : ∀ y, Sim (A (ρf (some y))) (mA y) P) (hB : Sim (B (ρf none)) mB P) : Sim (ifS c A B (ρf x)) (optC x mB mA) P := by
  simp only [Sim_eq, RQ_eq, AQ_eq, TQ_eq, VQ_eq, VsQ_eq, IQ_eq, XQ_eq] at *
  exact sim_optS_z ρf h hA hB
end
section
variable {α β γ δ : Type} {ρ ρ' ρ1 ρ2 : Rho} {f g R A B K : DS} {l : List Gh} {m : M α} {mR : α → M γ} {P : γ → SR → Prop} {upd up : α → Rho} {mA mB : M γ}
variable {i : Nat} {fe : DE} {s : α → O} {o : O}
variable {c : DT} {p : Bool} {mc : M Bool}
theorem sim_optKN {mB : δ → M γ} {x : Option δ} (ρf : Option δ → Rho) (h : ∀ x, c (ρf x) = .ok x.isNone) (hA : Sim (seqS A K (ρf none)) mA P) (hB : ∀ y, Sim (seqS B K (ρf (some y))) (mB y) P) : Sim (seqS (ifS c A B) K (ρf x)) (optC x mA mB) P := by
  simp only [Sim_eq, RQ_eq, AQ_eq, TQ_eq, VQ_eq, VsQ_eq, IQ_eq, XQ_eq] at *
  exact sim_optKN_z ρf h hA hB
end
section
variable {α β γ δ : Type} {ρ ρ' ρ1 ρ2 : Rho} {f g R A B K : DS} {l : List Gh} {m : M α} {mR : α → M γ} {P : γ → SR → Prop} {upd up : α → Rho} {mA mB : M γ}
variable {i : Nat} {fe : DE} {s : α → O} {o : O}
variable {c : DT} {p : Bool} {mc : M Bool}
end
section
variable {α β γ δ : Type} {ρ ρ' ρ1 ρ2 : Rho} {f g R A B K : DS} {l : List Gh} {m : M α} {mR : α → M γ} {P : γ → SR → Prop} {upd up : α → Rho} {mA mB : M γ}
variable {i : Nat} {fe : DE} {s : α → O} {o : O}
variable {c : DT} {p : Bool} {mc : M Bool}
theorem vq_ow {fe : DE} (h : RQ (fe ρ) m (rO s)) : VQ (owV fe ρ) m s ρ := by
  simp only [Sim_eq, RQ_eq, AQ_eq, TQ_eq, VQ_eq, VsQ_eq, IQ_eq, XQ_eq] at *
  exact vq_ow_z h
end
section
variable {α β γ δ : Type} {ρ ρ' ρ1 ρ2 : Rho} {f g R A B K : DS} {l : List Gh} {m : M α} {mR : α → M γ} {P : γ → SR → Prop} {upd up : α → Rho} {mA mB : M γ}
variable {i : Nat} {fe : DE} {s : α → O} {o : O}
variable {c : DT} {p : Bool} {mc : M Bool}
variable {fv : DV} {gv : DVs} {os : List O} {ss : β → List O} {ms : M β}
theorem vs_mp (hf : VQ (fv ρ) m s ρ1) (hg : gv ρ1 = .ok os ρ2) : VsQ (consV fv gv ρ) m (fun a => s a :: os) ρ2 := by
  simp only [Sim_eq, RQ_eq, AQ_eq, TQ_eq, VQ_eq, VsQ_eq, IQ_eq, XQ_eq] at *
  exact vs_mp_z hf hg
end
section
variable {α β γ δ : Type} {ρ ρ' ρ1 ρ2 : Rho} {f g R A B K : DS} {l : List Gh} {m : M α} {mR : α → M γ} {P : γ → SR → Prop} {upd up : α → Rho} {mA mB : M γ}
variable {i : Nat} {fe : DE} {s : α → O} {o : O}
variable {c : DT} {p : Bool} {mc : M Bool}
variable {fv : DV} {gv : DVs} {os : List O} {ss : β → List O} {ms : M β}
end
section
variable {α β γ δ : Type} {ρ ρ' ρ1 ρ2 : Rho} {f g R A B K : DS} {l : List Gh} {m : M α} {mR : α → M γ} {P : γ → SR → Prop} {upd up : α → Rho} {mA mB : M γ}
variable {i : Nat} {fe : DE} {s : α → O} {o : O}
variable {c : DT} {p : Bool} {mc : M Bool}
variable {fv : DV} {gv : DVs} {os : List O} {ss : β → List O} {ms : M β}
theorem vs_mm (hf : VQ (fv ρ) m s ρ1) (hg : VsQ (gv ρ1) ms ss ρ2) : VsQ (consV fv gv ρ) (m.bind fun a => ms.bind fun b => .ok (a, b)) (fun p => s p.1 :: ss p.2) ρ2 := by
  simp only [Sim_eq, RQ_eq, AQ_eq, TQ_eq, VQ_eq, VsQ_eq, IQ_eq, XQ_eq] at *
  exact vs_mm_z hf hg
end
section
variable {α β γ δ : Type} {ρ ρ' ρ1 ρ2 : Rho} {f g R A B K : DS} {l : List Gh} {m : M α} {mR : α → M γ} {P : γ → SR → Prop} {upd up : α → Rho} {mA mB : M γ}
variable {i : Nat} {fe : DE} {s : α → O} {o : O}
variable {c : DT} {p : Bool} {mc : M Bool}
variable {fv : DV} {gv : DVs} {os : List O} {ss : β → List O} {ms : M β}
end
section
variable {α β γ δ : Type} {ρ ρ' ρ1 ρ2 : Rho} {f g R A B K : DS} {l : List Gh} {m : M α} {mR : α → M γ} {P : γ → SR → Prop} {upd up : α → Rho} {mA mB : M γ}
variable {i : Nat} {fe : DE} {s : α → O} {o : O}
variable {c : DT} {p : Bool} {mc : M Bool}
variable {fv : DV} {gv : DVs} {os : List O} {ss : β → List O} {ms : M β}
end
section
variable {α β γ δ : Type} {ρ ρ' ρ1 ρ2 : Rho} {f g R A B K : DS} {l : List Gh} {m : M α} {mR : α → M γ} {P : γ → SR → Prop} {upd up : α → Rho} {mA mB : M γ}
variable {i : Nat} {fe : DE} {s : α → O} {o : O}
variable {c : DT} {p : Bool} {mc : M Bool}
variable {fv : DV} {gv : DVs} {os : List O} {ss : β → List O} {ms : M β}
theorem sim_ret {so : α → O} {inj : α → γ} (h : VQ (fv ρ) m so ρ1) (hP : ∀ a, P (inj a) (.rt (so a))) : Sim (retS fv ρ) (m.bind fun a => .ok (inj a)) P := by
  simp only [Sim_eq, RQ_eq, AQ_eq, TQ_eq, VQ_eq, VsQ_eq, IQ_eq, XQ_eq] at *
  exact sim_ret_z h hP
end
section
variable {α β γ δ : Type} {ρ ρ' ρ1 ρ2 : Rho} {f g R A B K : DS} {l : List Gh} {m : M α} {mR : α → M γ} {P : γ → SR → Prop} {upd up : α → Rho} {mA mB : M γ}
variable {i : Nat} {fe : DE} {s : α → O} {o : O}
variable {c : DT} {p : Bool} {mc : M Bool}
variable {fv : DV} {gv : DVs} {os : List O} {ss : β → List O} {ms : M β}
theorem sim_ret_id {so : γ → O} {m : M γ} (h : VQ (fv ρ) m so ρ1) (hP : ∀ a, P a (.rt (so a))) : Sim (retS fv ρ) m P := by
  simp only [Sim_eq, RQ_eq, AQ_eq, TQ_eq, VQ_eq, VsQ_eq, IQ_eq, XQ_eq] at *
  exact sim_ret_id_z h hP
end
section
variable {α β γ δ : Type} {ρ ρ' ρ1 ρ2 : Rho} {f g R A B K : DS} {l : List Gh} {m : M α} {mR : α → M γ} {P : γ → SR → Prop} {upd up : α → Rho} {mA mB : M γ}
variable {i : Nat} {fe : DE} {s : α → O} {o : O}
variable {c : DT} {p : Bool} {mc : M Bool}
variable {fv : DV} {gv : DVs} {os : List O} {ss : β → List O} {ms : M β}
theorem sim_ret_p {b : γ} (h : fv ρ = .ok o ρ1) (hP : P b (.rt o)) : Sim (retS fv ρ) (.ok b) P := by
  simp only [Sim_eq, RQ_eq, AQ_eq, TQ_eq, VQ_eq, VsQ_eq, IQ_eq, XQ_eq] at *
  exact sim_ret_p_z h hP
end
section
variable {α β γ δ : Type} {ρ ρ' ρ1 ρ2 : Rho} {f g R A B K : DS} {l : List Gh} {m : M α} {mR : α → M γ} {P : γ → SR → Prop} {upd up : α → Rho} {mA mB : M γ}
variable {i : Nat} {fe : DE} {s : α → O} {o : O}
variable {c : DT} {p : Bool} {mc : M Bool}
variable {fv : DV} {gv : DVs} {os : List O} {ss : β → List O} {ms : M β}
end
section
variable {α β γ δ : Type} {ρ ρ' ρ1 ρ2 : Rho} {f g R A B K : DS} {l : List Gh} {m : M α} {mR : α → M γ} {P : γ → SR → Prop} {upd up : α → Rho} {mA mB : M γ}
variable {i : Nat} {fe : DE} {s : α → O} {o : O}
variable {c : DT} {p : Bool} {mc : M Bool}
variable {fv : DV} {gv : DVs} {os : List O} {ss : β → List O} {ms : M β}
end
section
variable {α β γ δ : Type} {ρ ρ' ρ1 ρ2 : Rho} {f g R A B K : DS} {l : List Gh} {m : M α} {mR : α → M γ} {P : γ → SR → Prop} {upd up : α → Rho} {mA mB : M γ}
variable {i : Nat} {fe : DE} {s : α → O} {o : O}
variable {c : DT} {p : Bool} {mc : M Bool}
variable {fv : DV} {gv : DVs} {os : List O} {ss : β → List O} {ms : M β}
theorem sim_raise {k : Str} : Sim (raiseS k ρ) (.ex k : M γ) P := by
  simp only [Sim_eq, RQ_eq, AQ_eq, TQ_eq, VQ_eq, VsQ_eq, IQ_eq, XQ_eq] at *
  exact sim_raise_z
end
section
variable {α β γ δ : Type} {ρ ρ' ρ1 ρ2 : Rho} {f g R A B K : DS} {l : List Gh} {m : M α} {mR : α → M γ} {P : γ → SR → Prop} {upd up : α → Rho} {mA mB : M γ}
variable {i : Nat} {fe : DE} {s : α → O} {o : O}
variable {c : DT} {p : Bool} {mc : M Bool}
variable {fv : DV} {gv : DVs} {os : List O} {ss : β → List O} {ms : M β}
variable {fi : DI} {e : α → D} {tb : DB} {is : List Nat} {mi : M (List α)}
theorem sim_for {upb : β → Rho} {b0 : β} {step : α → β → M β} {upx : α → β → Rho} {xs : List α} (hi : IQ (fi ρ) (.ok xs) e) (h0 : upb b0 = ρ) (hb : ∀ x b, tb (e x) (upb b) = some (upx x b)) (hs : ∀ x b, Sim (f (upx x b)) (step x b) (Lp is upb)) : Sim (forS fi tb f is ρ) (forM step xs b0) (Np upb) := by
  simp only [Sim_eq, RQ_eq, AQ_eq, TQ_eq, VQ_eq, VsQ_eq, IQ_eq, XQ_eq] at *
  exact sim_for_z hi h0 hb hs
end
section
variable {α β γ δ : Type} {ρ ρ' ρ1 ρ2 : Rho} {f g R A B K : DS} {l : List Gh} {m : M α} {mR : α → M γ} {P : γ → SR → Prop} {upd up : α → Rho} {mA mB : M γ}
variable {i : Nat} {fe : DE} {s : α → O} {o : O}
variable {c : DT} {p : Bool} {mc : M Bool}
variable {fv : DV} {gv : DVs} {os : List O} {ss : β → List O} {ms : M β}
variable {fi : DI} {e : α → D} {tb : DB} {is : List Nat} {mi : M (List α)}
theorem sim_forF {upb : β → Rho} {b0 : β} {step : α → β → M (Fl β γ)} {upx : α → β → Rho} {xs : List α} (hi : IQ (fi ρ) (.ok xs) e) (h0 : upb b0 = ρ) (hb : ∀ x b, tb (e x) (upb b) = some (upx x b)) (hs : ∀ x b, Sim (f (upx x b)) (step x b) (Fp (Lp is upb) P)) : Sim (forS fi tb f is ρ) (forF step xs b0) (Fp (Np upb) P) := by
  simp only [Sim_eq, RQ_eq, AQ_eq, TQ_eq, VQ_eq, VsQ_eq, IQ_eq, XQ_eq] at *
  exact sim_forF_z hi h0 hb hs
end
section
variable {α β γ δ : Type} {ρ ρ' ρ1 ρ2 : Rho} {f g R A B K : DS} {l : List Gh} {m : M α} {mR : α → M γ} {P : γ → SR → Prop} {upd up : α → Rho} {mA mB : M γ}
variable {i : Nat} {fe : DE} {s : α → O} {o : O}
variable {c : DT} {p : Bool} {mc : M Bool}
variable {fv : DV} {gv : DVs} {os : List O} {ss : β → List O} {ms : M β}
variable {fi : DI} {e : α → D} {tb : DB} {is : List Nat} {mi : M (List α)}
theorem sim_forI {mo : List α → M γ} {Q : γ → SR → Prop} (hi : IQ (fi ρ) mi e) (h : ∀ xs, IQ (fi ρ) (.ok xs) e → Sim (forS fi tb f is ρ) (mo xs) Q) : Sim (forS fi tb f is ρ) (mi.bind mo) Q := by
  simp only [Sim_eq, RQ_eq, AQ_eq, TQ_eq, VQ_eq, VsQ_eq, IQ_eq, XQ_eq] at *
  exact sim_forI_z hi h
end
section
variable {α β γ δ : Type} {ρ ρ' ρ1 ρ2 : Rho} {f g R A B K : DS} {l : List Gh} {m : M α} {mR : α → M γ} {P : γ → SR → Prop} {upd up : α → Rho} {mA mB : M γ}
variable {i : Nat} {fe : DE} {s : α → O} {o : O}
variable {c : DT} {p : Bool} {mc : M Bool}
variable {fv : DV} {gv : DVs} {os : List O} {ss : β → List O} {ms : M β}
variable {fi : DI} {e : α → D} {tb : DB} {is : List Nat} {mi : M (List α)}
end
section
variable {α β γ δ : Type} {ρ ρ' ρ1 ρ2 : Rho} {f g R A B K : DS} {l : List Gh} {m : M α} {mR : α → M γ} {P : γ → SR → Prop} {upd up : α → Rho} {mA mB : M γ}
variable {i : Nat} {fe : DE} {s : α → O} {o : O}
variable {c : DT} {p : Bool} {mc : M Bool}
variable {fv : DV} {gv : DVs} {os : List O} {ss : β → List O} {ms : M β}
variable {fi : DI} {e : α → D} {tb : DB} {is : List Nat} {mi : M (List α)}
end
section
variable {α β γ δ : Type} {ρ ρ' ρ1 ρ2 : Rho} {f g R A B K : DS} {l : List Gh} {m : M α} {mR : α → M γ} {P : γ → SR → Prop} {upd up : α → Rho} {mA mB : M γ}
variable {i : Nat} {fe : DE} {s : α → O} {o : O}
variable {c : DT} {p : Bool} {mc : M Bool}
variable {fv : DV} {gv : DVs} {os : List O} {ss : β → List O} {ms : M β}
variable {fi : DI} {e : α → D} {tb : DB} {is : List Nat} {mi : M (List α)}
theorem iq_list {sL : List α → O} [ToD sL (eL e)] {fe : DE} (h : RQ (fe ρ) mi (rO sL)) : IQ (listI fe ρ) mi e := by
  simp only [Sim_eq, RQ_eq, AQ_eq, TQ_eq, VQ_eq, VsQ_eq, IQ_eq, XQ_eq] at *
  exact iq_list_z h
end
section
variable {α β γ δ : Type} {ρ ρ' ρ1 ρ2 : Rho} {f g R A B K : DS} {l : List Gh} {m : M α} {mR : α → M γ} {P : γ → SR → Prop} {upd up : α → Rho} {mA mB : M γ}
variable {i : Nat} {fe : DE} {s : α → O} {o : O}
variable {c : DT} {p : Bool} {mc : M Bool}
variable {fv : DV} {gv : DVs} {os : List O} {ss : β → List O} {ms : M β}
variable {fi : DI} {e : α → D} {tb : DB} {is : List Nat} {mi : M (List α)}
theorem iq_args0 {G : List D → Ri} {fa : DA} {as : List Ar} {ds : List D} (ha : fa ρ = .ok as) (hv : noVw as = true) (hd : as.map Ar.d = ds) (hg : IQ (G ds) mi e) : IQ (argsI G fa ρ) mi e := by
  simp only [Sim_eq, RQ_eq, AQ_eq, TQ_eq, VQ_eq, VsQ_eq, IQ_eq, XQ_eq] at *
  exact iq_args0_z ha hv hd hg
end
section
variable {α β γ δ : Type} {ρ ρ' ρ1 ρ2 : Rho} {f g R A B K : DS} {l : List Gh} {m : M α} {mR : α → M γ} {P : γ → SR → Prop} {upd up : α → Rho} {mA mB : M γ}
variable {i : Nat} {fe : DE} {s : α → O} {o : O}
variable {c : DT} {p : Bool} {mc : M Bool}
variable {fv : DV} {gv : DVs} {os : List O} {ss : β → List O} {ms : M β}
variable {fi : DI} {e : α → D} {tb : DB} {is : List Nat} {mi : M (List α)}
theorem iq_args {G : List D → Ri} {fa : DA} {ma : M β} {ss : β → List Ar} {ds : β → List D} {mo : β → M (List α)} (ha : AQ (fa ρ) ma ss) (hv : ∀ y, noVw (ss y) = true) (hd : ∀ y, (ss y).map Ar.d = ds y) (hg : ∀ y, IQ (G (ds y)) (mo y) e) : IQ (argsI G fa ρ) (ma.bind mo) e := by
  simp only [Sim_eq, RQ_eq, AQ_eq, TQ_eq, VQ_eq, VsQ_eq, IQ_eq, XQ_eq] at *
  exact iq_args_z ha hv hd hg
end
section
variable {α β γ δ : Type} {ρ ρ' ρ1 ρ2 : Rho} {f g R A B K : DS} {l : List Gh} {m : M α} {mR : α → M γ} {P : γ → SR → Prop} {upd up : α → Rho} {mA mB : M γ}
variable {i : Nat} {fe : DE} {s : α → O} {o : O}
variable {c : DT} {p : Bool} {mc : M Bool}
variable {fv : DV} {gv : DVs} {os : List O} {ss : β → List O} {ms : M β}
variable {fi : DI} {e : α → D} {tb : DB} {is : List Nat} {mi : M (List α)}
theorem fq_sem {n : Nat} {d : DS} {ds : List D} {m : M γ} {so : γ → O} (h0 : startR n ds = ρ) (h : Sim (d ρ) m (Tp so)) : FQ (semOf n d ds) m so := by
  simp only [Sim_eq, RQ_eq, AQ_eq, TQ_eq, VQ_eq, VsQ_eq, IQ_eq, XQ_eq] at *
  exact fq_sem_z h0 h
end
section
variable {α β γ δ : Type}
theorem o_mul {i j : Int} : RQ (gMul (dI i) (dI j)) (mulM i j) (rO (oF eI)) := by
  simp only [Sim_eq, RQ_eq, AQ_eq, TQ_eq, VQ_eq, VsQ_eq, IQ_eq, XQ_eq] at *
  exact o_mul_z
end
section
variable {α β γ δ : Type}
theorem o_mod {i j : Int} : RQ (gMod (dI i) (dI j)) (modM i j) (rO (oF eI)) := by
  simp only [Sim_eq, RQ_eq, AQ_eq, TQ_eq, VQ_eq, VsQ_eq, IQ_eq, XQ_eq] at *
  exact o_mod_z
end
section
variable {α β γ δ : Type}
theorem o_fdiv {i j : Int} : RQ (gFdiv (dI i) (dI j)) (fdivM i j) (rO (oF eI)) := by
  simp only [Sim_eq, RQ_eq, AQ_eq, TQ_eq, VQ_eq, VsQ_eq, IQ_eq, XQ_eq] at *
  exact o_fdiv_z
end
section
variable {α β γ δ : Type}
end
section
variable {α β γ δ : Type}
end
section
variable {α β γ δ : Type}
end
section
variable {α β γ δ : Type}
end
section
variable {α β γ δ : Type}
theorem o_ixLF {e : α → D} {a : Ar} {xs : List α} {i : Int} (ha : a.o.seq = some (true, xs.map (oF e))) : RQ (gIx a (dI i)) (ix xs i) (rO (oF e)) := by
  simp only [Sim_eq, RQ_eq, AQ_eq, TQ_eq, VQ_eq, VsQ_eq, IQ_eq, XQ_eq] at *
  exact o_ixLF_z ha
end
section
variable {α β γ δ : Type}
theorem o_ixF {e : α → D} {a : Ar} {xs : List α} {i : Int} (ha : a.o.seq = some (true, (xs.map e).map .fz)) : RQ (gIx a (dI i)) (ix xs i) (rO (oF e)) := by
  simp only [Sim_eq, RQ_eq, AQ_eq, TQ_eq, VQ_eq, VsQ_eq, IQ_eq, XQ_eq] at *
  exact o_ixF_z ha
end
section
variable {α β γ δ : Type}
end
section
variable {α β γ δ : Type}
theorem o_rep {e : α → D} {xs : List α} {k : Int} {os : List O} (h1 : allFz os = some (xs.map e)) : RQ (gMul (.ow (.lst os)) (dI k)) (repM xs k) (rO (oL (oF e))) := by
  simp only [Sim_eq, RQ_eq, AQ_eq, TQ_eq, VQ_eq, VsQ_eq, IQ_eq, XQ_eq] at *
  exact o_rep_z h1
end
section
variable {α β γ δ : Type}
end
section
variable {α β γ δ : Type}
end
section
variable {α β γ δ : Type}
end
section
variable {α β γ δ : Type}
theorem o_min1 {a : Ar} {xs : List Int} (h : intsA a = some xs) : RQ (gL1 minI [a]) (minM xs) (rO (oF eI)) := by
  simp only [Sim_eq, RQ_eq, AQ_eq, TQ_eq, VQ_eq, VsQ_eq, IQ_eq, XQ_eq] at *
  exact o_min1_z h
end
section
variable {α β γ δ : Type}
end
section
variable {α β γ δ : Type}
end
section
variable {α β γ δ : Type}
end
section
variable {α β γ δ : Type}
end
section
variable {α β γ δ : Type}
end
section
variable {α β γ δ : Type}
theorem g_range1 {n : Int} : IQ (gRange1 [.int n]) (rngM 0 n) eI := by
  simp only [Sim_eq, RQ_eq, AQ_eq, TQ_eq, VQ_eq, VsQ_eq, IQ_eq, XQ_eq] at *
  exact g_range1_z
end
section
variable {α β γ δ : Type}
end
section
variable {α β γ δ : Type}
theorem g_zip {e : α → D} {f : β → D} {xs : List α} {ys : List β} : IQ (gZip [eL e xs, eL f ys]) (.ok (xs.zip ys)) (eT2 e f) := by
  simp only [Sim_eq, RQ_eq, AQ_eq, TQ_eq, VQ_eq, VsQ_eq, IQ_eq, XQ_eq] at *
  exact g_zip_z
end
section
variable {α β γ δ : Type}
theorem g_enum {e : α → D} {xs : List α} : IQ (gEnum [eL e xs]) (.ok (enumL xs)) (eT2 eI e) := by
  simp only [Sim_eq, RQ_eq, AQ_eq, TQ_eq, VQ_eq, VsQ_eq, IQ_eq, XQ_eq] at *
  exact g_enum_z
end
section
variable {α β γ δ : Type}
end
section
variable {α β γ δ : Type}
end
section
variable {α β γ δ : Type}
end
section
variable {α β γ δ : Type}
theorem rq_compP {fi : DI} {tb : DB} {fe : DE} {vs : List Nat} {ρ : Rho} {e : α → D} {s : β → O} {f : α → β} {ρx : α → Rho} {xs : List α} (hi : IQ (fi ρ) (.ok xs) e) (hb : ∀ x, tb (e x) (forget vs ρ) = some (ρx x)) (he : ∀ x, fe (ρx x) = .ok (.ow (s (f x)))) : RQ (compE fi tb yesT fe vs ρ) (compP f xs) (rO (oL s)) := by
  simp only [Sim_eq, RQ_eq, AQ_eq, TQ_eq, VQ_eq, VsQ_eq, IQ_eq, XQ_eq] at *
  exact rq_compP_z hi hb he
end
section
variable {α β γ δ : Type}
theorem rq_compFP {fi : DI} {tb : DB} {ct : DT} {fe : DE} {vs : List Nat} {ρ : Rho} {e : α → D} {s : β → O} {p : α → Bool} {f : α → β} {ρx : α → Rho} {xs : List α} (hi : IQ (fi ρ) (.ok xs) e) (hb : ∀ x, tb (e x) (forget vs ρ) = some (ρx x)) (hc : ∀ x, ct (ρx x) = .ok (p x)) (he : ∀ x, fe (ρx x) = .ok (.ow (s (f x)))) : RQ (compE fi tb ct fe vs ρ) (compFP p f xs) (rO (oL s)) := by
  simp only [Sim_eq, RQ_eq, AQ_eq, TQ_eq, VQ_eq, VsQ_eq, IQ_eq, XQ_eq] at *
  exact rq_compFP_z hi hb hc he
end
section
variable {α β γ δ : Type}
end
section
variable {α β γ δ : Type}
theorem rq_compM {fi : DI} {tb : DB} {fe : DE} {vs : List Nat} {ρ : Rho} {e : α → D} {s : β → O} {f : α → M β} {ρx : α → Rho} {xs : List α} (hi : IQ (fi ρ) (.ok xs) e) (hb : ∀ x, tb (e x) (forget vs ρ) = some (ρx x)) (he : ∀ x, RQ (fe (ρx x)) (f x) (rO s)) : RQ (compE fi tb yesT fe vs ρ) (compM (fun x => (f x).nox) xs) (rO (oL s)) := by
  simp only [Sim_eq, RQ_eq, AQ_eq, TQ_eq, VQ_eq, VsQ_eq, IQ_eq, XQ_eq] at *
  exact rq_compM_z hi hb he
end
section
variable {α β γ δ : Type}
theorem rq_compI {fi : DI} {tb : DB} {ct : DT} {fe : DE} {vs : List Nat} {ρ : Rho} {e : α → D} {mi : M (List α)} {mo : List α → M γ} {s : γ → Ar} (hi : IQ (fi ρ) mi e) (h : ∀ xs, IQ (fi ρ) (.ok xs) e → RQ (compE fi tb ct fe vs ρ) (mo xs) s) : RQ (compE fi tb ct fe vs ρ) (mi.bind mo) s := by
  simp only [Sim_eq, RQ_eq, AQ_eq, TQ_eq, VQ_eq, VsQ_eq, IQ_eq, XQ_eq] at *
  exact rq_compI_z hi h
end
section
variable {A α β γ δ : Type} {ρ ρ' : Rho} {i : Nat} {sA : A → O} {s : α → O} {fp : DP} {fb : DE}
end
section
variable {A α β γ δ : Type} {ρ ρ' : Rho} {i : Nat} {sA : A → O} {s : α → O} {fp : DP} {fb : DE}
theorem sim_meth {T : String} {fa : DVs} {g : GMt} {as : List O} {F : α → M α} {md : (α → M α) → M A} (hp : MQ (fp ρ) ρ i sA s md) (hk : ∀ y, tyO (s y) = T) (ha : fa ρ = .ok as ρ') (hρ : ρ'[i]? = ρ[i]?) (hg : GQ g s as F) {upd : A → Rho} (hu : ∀ x, ρ'.set i (some (sA x)) = upd x) : Sim (methS T fp fa g ρ) (md F) (Np upd) := by
  simp only [Sim_eq, RQ_eq, AQ_eq, TQ_eq, VQ_eq, VsQ_eq, IQ_eq, XQ_eq] at *
  exact sim_meth_z hp hk ha hρ hg hu
end
section
variable {A α β γ δ : Type} {ρ ρ' : Rho} {i : Nat} {sA : A → O} {s : α → O} {fp : DP} {fb : DE}
end
section
variable {A α β γ δ : Type} {ρ ρ' : Rho} {i : Nat} {sA : A → O} {s : α → O} {fp : DP} {fb : DE}
theorem sim_meth_m {T : String} {fa : DVs} {g : GMt} {ss : β → List O} {F : β → α → M α} {m : M β} {x : α} [Pl s] (hx : ρ[i]? = some (some (s x))) (hk : ∀ y, tyO (s y) = T) (ha : VsQ (fa ρ) m ss ρ') (hρ : ρ'[i]? = ρ[i]?) (hg : ∀ b, GQ g s (ss b) (F b)) {upd : α → Rho} (hu : ∀ x, ρ'.set i (some (s x)) = upd x) : Sim (methS T (varP i) fa g ρ) (m.bind fun b => F b x) (Np upd) := by
  simp only [Sim_eq, RQ_eq, AQ_eq, TQ_eq, VQ_eq, VsQ_eq, IQ_eq, XQ_eq] at *
  exact sim_meth_m_z hx hk ha hρ hg hu
end
section
variable {A α β γ δ : Type} {ρ ρ' : Rho} {i : Nat} {sA : A → O} {s : α → O} {fp : DP} {fb : DE}
end
section
variable {A α β γ δ : Type} {ρ ρ' : Rho} {i : Nat} {sA : A → O} {s : α → O} {fp : DP} {fb : DE}
theorem sim_store {fv : DV} {o : O} {y : Ar} {F : α → M α} {md : (α → M α) → M A} (hv : fv ρ = .ok o ρ') (hp : MQ (fp ρ') ρ' i sA s md) (hb : fb ρ' = .ok y) (hg : SQ s y.d o F) {upd : A → Rho} (hu : ∀ x, ρ'.set i (some (sA x)) = upd x) : Sim (storeS fv fp fb ρ) (md F) (Np upd) := by
  simp only [Sim_eq, RQ_eq, AQ_eq, TQ_eq, VQ_eq, VsQ_eq, IQ_eq, XQ_eq] at *
  exact sim_store_z hv hp hb hg hu
end
section
variable {A α β γ δ : Type} {ρ ρ' : Rho} {i : Nat} {sA : A → O} {s : α → O} {fp : DP} {fb : DE}
end
section
variable {A α β γ δ : Type} {ρ ρ' : Rho} {i : Nat} {sA : A → O} {s : α → O} {fp : DP} {fb : DE}
end
section
variable {A α β γ δ : Type} {ρ ρ' : Rho} {i : Nat} {sA : A → O} {s : α → O} {fp : DP} {fb : DE}
end
section
variable {A α β γ δ : Type} {ρ ρ' : Rho} {i : Nat} {sA : A → O} {s : α → O} {fp : DP} {fb : DE}
end
section
variable {A α β γ δ : Type} {ρ ρ' : Rho} {i : Nat} {sA : A → O} {s : α → O} {fp : DP} {fb : DE}
end
section
variable {A α β γ δ : Type} {ρ ρ' : Rho} {i : Nat} {sA : A → O} {s : α → O} {fp : DP} {fb : DE}
end
section
variable {A α β γ δ : Type} {ρ ρ' : Rho} {i : Nat} {sA : A → O} {s : α → O} {fp : DP} {fb : DE}
variable {κ : Type} [DecidableEq κ]
end
section
variable {A α β γ δ : Type} {ρ ρ' : Rho} {i : Nat} {sA : A → O} {s : α → O} {fp : DP} {fb : DE}
variable {κ : Type} [DecidableEq κ]
end
section
variable {δ : Type} {t1 t2 : DT} {q : δ → Bool} {mq : δ → M Bool} {x : Option δ}
theorem tq_andS (ρf : Option δ → Rho) (h : ∀ x, t1 (ρf x) = .ok (!x.isNone)) (h2 : ∀ y, TQ (t2 (ρf (some y))) (mq y)) : TQ (andT t1 t2 (ρf x)) (optC x (.ok false) mq) := by
  simp only [Sim_eq, RQ_eq, AQ_eq, TQ_eq, VQ_eq, VsQ_eq, IQ_eq, XQ_eq] at *
  exact tq_andS_z ρf h h2
end
section
variable {δ : Type} {t1 t2 : DT} {q : δ → Bool} {mq : δ → M Bool} {x : Option δ}
end
section
variable {ρ : Rho} {t1 t2 : DT} {q b : Bool} {mq : M Bool}
end
section
variable {ρ : Rho} {t1 t2 : DT} {q b : Bool} {mq : M Bool}
theorem tq_or_fm (h : t1 ρ = .ok false) (h2 : TQ (t2 ρ) mq) : TQ (orT t1 t2 ρ) mq := by
  simp only [Sim_eq, RQ_eq, AQ_eq, TQ_eq, VQ_eq, VsQ_eq, IQ_eq, XQ_eq] at *
  exact tq_or_fm_z h h2
end
section
variable {ρ : Rho} {t1 t2 : DT} {q b : Bool} {mq : M Bool}
end
section
variable {ρ : Rho} {t1 t2 : DT} {q b : Bool} {mq : M Bool}
variable {A B K' : DS} {γ : Type} {m : M γ} {P : γ → SR → Prop} {c : DT}
end
section
variable {ρ : Rho} {t1 t2 : DT} {q b : Bool} {mq : M Bool}
variable {A B K' : DS} {γ : Type} {m : M γ} {P : γ → SR → Prop} {c : DT}
end
section
variable {ρ : Rho} {t1 t2 : DT} {q b : Bool} {mq : M Bool}
variable {A B K' : DS} {γ : Type} {m : M γ} {P : γ → SR → Prop} {c : DT}
end
section
variable {ρ : Rho} {t1 t2 : DT} {q b : Bool} {mq : M Bool}
variable {A B K' : DS} {γ : Type} {m : M γ} {P : γ → SR → Prop} {c : DT}
end
section
variable {ρ : Rho} {t1 t2 : DT} {q b : Bool} {mq : M Bool}
variable {A B K' : DS} {γ : Type} {m : M γ} {P : γ → SR → Prop} {c : DT}
end
section
variable {ρ : Rho} {t1 t2 : DT} {q b : Bool} {mq : M Bool}
variable {A B K' : DS} {γ : Type} {m : M γ} {P : γ → SR → Prop} {c : DT}
end
section
variable {A α β γ : Type} {s : α → O} {t : β → O}
end
section
variable {A α β γ : Type} {s : α → O} {t : β → O}
end
end DL
namespace DL
open PySem PySem.Spec L2
theorem fuel_eq : fuel = 1000000000 := by unfold fuel; rfl
section
variable {α β γ : Type}
def getZ [Inhabited α] (xs : List α) (i : Int) : α := xs.getD i.toNat default
theorem getZ_nat [Inhabited α] {xs : List α} {i : Nat} (h : i < xs.length) : getZ xs (i : Int) = xs[i] := by
  unfold getZ
  rw [Int.toNat_natCast, List.getD_eq_getElem?_getD, List.getElem?_eq_getElem h]
  rfl
theorem getZ_at [Inhabited α] {xs : List α} {i : Int} (h0 : 0 ≤ i) (h : i < xs.length) : getZ xs i = xs[i.toNat]'(by omega) := by
  unfold getZ
  rw [List.getD_eq_getElem?_getD, List.getElem?_eq_getElem (by omega)]
  rfl
theorem getZ_mem [Inhabited α] {xs : List α} {i : Int} (h0 : 0 ≤ i) (h : i < xs.length) : getZ xs i ∈ xs := by
  rw [getZ_at h0 h]
  exact List.getElem_mem _
theorem ix_ok [Inhabited α] {xs : List α} {i : Int} (h0 : 0 ≤ i) (h : i < xs.length) : ix xs i = .ok (getZ xs i) := by
  unfold ix L2.atI ixN
  rw [if_pos h0, if_pos (by omega), getZ_at h0 h]
  have : xs[i.toNat]? = some (xs[i.toNat]'(by omega)) := List.getElem?_eq_getElem (by omega)
  show (match (match some i.toNat with | some j => xs[j]? | none => none) with | some a => M.ok a | none => .bad) = _
  dsimp only
  rw [this]
theorem mulM_l {i j : Int} (h : -18446744073709551616 < i) (h2 : i < 18446744073709551616) : mulM i j = .ok (i * j) := if_pos (okMul_l ⟨h, h2⟩)
theorem mulM_r {i j : Int} (h : -18446744073709551616 < j) (h2 : j < 18446744073709551616) : mulM i j = .ok (i * j) := if_pos (okMul_r ⟨h, h2⟩)
theorem modM_ok {i j : Int} (h : 0 < j) : modM i j = .ok (i % j) := if_pos h
theorem fdivM_ok {i j : Int} (h : 0 < j) (h2 : j < 18446744073709551616) : fdivM i j = .ok (i / j) := if_pos (okDiv_of h h2)
theorem rngM_ok {lo hi : Int} (h : -4611686018427387904 ≤ lo) (h2 : lo < 4611686018427387904) (h3 : -4611686018427387904 ≤ hi) (h4 : hi < 4611686018427387904) : rngM lo hi = .ok (rng lo hi) := by
  refine if_pos ?_
  unfold okR
  rw [decide_eq_true h, decide_eq_true h2, decide_eq_true h3, decide_eq_true h4]
  rfl
theorem rngL_ok {lo hi : Int} (h : -4611686018427387904 ≤ lo) (h2 : lo < 4611686018427387904) (h3 : -4611686018427387904 ≤ hi) (h4 : hi < 4611686018427387904) (h5 : hi - lo ≤ 16777216) : rngL lo hi = .ok (rng lo hi) := by
  refine if_pos ?_
  unfold okR okLen lim
  rw [decide_eq_true h, decide_eq_true h2, decide_eq_true h3, decide_eq_true h4, decide_eq_true (by omega)]
  rfl
theorem appM_ok {xs : List α} {x : α} (h : xs.length < 16777216) : appM xs x = .ok (xs ++ [x]) := if_pos h
theorem catM_ok {xs ys : List α} (h : xs.length + ys.length ≤ 16777216) : catM xs ys = .ok (xs ++ ys) := if_pos (decide_eq_true h)
theorem okLen_ok {n : Nat} (h : n ≤ 16777216) : okLen n = true := decide_eq_true h
theorem compP_ok {f : α → β} {xs : List α} (h : xs.length ≤ 16777216) : compP f xs = .ok (xs.map f) := if_pos (okLen_ok h)
theorem compFP_ok {p : α → Bool} {f : α → β} {xs : List α} (h : xs.length ≤ 16777216) : compFP p f xs = .ok ((xs.filter p).map f) := if_pos (okLen_ok h)
theorem mapM_ok {f : α → M β} {g : α → β} : ∀ {xs : List α}, (∀ x ∈ xs, f x = .ok (g x)) → mapM f xs = .ok (xs.map g)
  | [], _ => rfl
  | x :: xs, h => by
    unfold mapM
    rw [h x List.mem_cons_self, M.bind_ok, mapM_ok fun y hy => h y (List.mem_cons_of_mem _ hy)]
    rfl
theorem mapM_ex {f : α → M β} {P : α → β → Prop} : ∀ {xs : List α}, (∀ x ∈ xs, ∃ y, f x = .ok y ∧ P x y) → ∃ ys, mapM f xs = .ok ys ∧ ys.length = xs.length ∧ (∀ i (h : i < xs.length) (h' : i < ys.length), P xs[i] ys[i])
  | [], _ => ⟨[], rfl, rfl, fun i h => absurd h (Nat.not_lt_zero _)⟩
  | x :: xs, h => by
    obtain ⟨y, e, p⟩ := h x List.mem_cons_self
    obtain ⟨ys, e2, l, q⟩ := mapM_ex fun z hz => h z (List.mem_cons_of_mem _ hz)
    refine ⟨y :: ys, ?_, by simp [l], fun i h h' => ?_⟩
    · unfold mapM
      rw [e, M.bind_ok, e2, M.bind_ok]
    · cases i with
      | zero => exact p
      | succ i => exact q i (by simpa using h) (by simpa using h')
theorem compM_ex {f : α → M β} {P : α → β → Prop} {xs : List α} (hl : xs.length ≤ 16777216) (h : ∀ x ∈ xs, ∃ y, f x = .ok y ∧ P x y) : ∃ ys, compM f xs = .ok ys ∧ ys.length = xs.length ∧ (∀ i (h : i < xs.length) (h' : i < ys.length), P xs[i] ys[i]) := by
  unfold compM
  rw [if_pos (okLen_ok hl)]
  exact mapM_ex h
theorem forM_inv {step : α → β → M β} {xs : List α} {b0 : β} (P : List α → β → Prop) (h0 : P [] b0) (hs : ∀ ys x zs b, xs = ys ++ x :: zs → P ys b → ∃ b', step x b = .ok b' ∧ P (ys ++ [x]) b') : ∃ b, forM step xs b0 = .ok b ∧ P xs b := by
  have key : ∀ (zs ys : List α) (b : β), xs = ys ++ zs → P ys b → ∃ b', forM step zs b = .ok b' ∧ P xs b' := by
    intro zs
    induction zs with
    | nil => intro ys b e h; rw [List.append_nil] at e; subst e; exact ⟨b, rfl, h⟩
    | cons z zs ih =>
      intro ys b e h
      obtain ⟨b1, e1, h1⟩ := hs ys z zs b e h
      obtain ⟨b2, e2, h2⟩ := ih (ys ++ [z]) b1 (by rw [e]; simp) h1
      exact ⟨b2, by unfold forM; rw [e1, M.bind_ok, e2], h2⟩
  exact key xs [] b0 rfl h0
theorem forF_all {step : α → β → M (Fl β γ)} {b : β} : ∀ {xs : List α}, (∀ x ∈ xs, step x b = .ok (.nx b)) → forF step xs b = .ok (.nx b)
  | [], _ => rfl
  | x :: xs, h => by
    unfold forF
    rw [h x List.mem_cons_self, M.bind_ok]
    exact forF_all fun y hy => h y (List.mem_cons_of_mem _ hy)
theorem forF_or {step : α → β → M (Fl β γ)} {xs : List α} {b0 : β} (P : List α → β → Prop) (R : γ → Prop) (h0 : P [] b0) (hs : ∀ ys x zs b, xs = ys ++ x :: zs → P ys b → (∃ b', step x b = .ok (.nx b') ∧ P (ys ++ [x]) b') ∨ ∃ a, step x b = .ok (.rt a) ∧ R a) : (∃ b, forF step xs b0 = .ok (.nx b) ∧ P xs b) ∨ ∃ a, forF step xs b0 = .ok (.rt a) ∧ R a := by
  have key : ∀ (zs ys : List α) (b : β), xs = ys ++ zs → P ys b → (∃ b', forF step zs b = .ok (.nx b') ∧ P xs b') ∨ ∃ a, forF step zs b = .ok (.rt a) ∧ R a := by
    intro zs
    induction zs with
    | nil => intro ys b e h; rw [List.append_nil] at e; subst e; exact .inl ⟨b, rfl, h⟩
    | cons z zs ih =>
      intro ys b e h
      rcases hs ys z zs b e h with ⟨b1, e1, h1⟩ | ⟨a, e1, h1⟩
      · have := ih (ys ++ [z]) b1 (by rw [e]; simp) h1
        unfold forF
        rw [e1, M.bind_ok]
        exact this
      · exact .inr ⟨a, by unfold forF; rw [e1, M.bind_ok], h1⟩
  exact key xs [] b0 rfl h0
theorem whileM_ok {c : β → M Bool} {t : β → M β} {b0 : β} (μ : β → Nat) (I P : β → Prop) (h0 : I b0) (hμ : μ b0 < 1000000000) (hs : ∀ b, I b → (c b = .ok false ∧ P b) ∨ (c b = .ok true ∧ ∃ b', t b = .ok b' ∧ I b' ∧ μ b' < μ b)) : ∃ b, whileM c t fuel b0 = .ok b ∧ P b := by
  have key : ∀ (n : Nat) (b : β), I b → μ b < n → ∃ b', whileM c t n b = .ok b' ∧ P b' := by
    intro n
    induction n with
    | zero => intro b _ h; omega
    | succ n ih =>
      intro b hb hl
      unfold whileM
      rcases hs b hb with ⟨e, p⟩ | ⟨e, b1, e1, i1, l1⟩
      · exact ⟨b, by rw [e]; rfl, p⟩
      · obtain ⟨b2, e2, p2⟩ := ih b1 i1 (by omega)
        exact ⟨b2, by rw [e, M.bind_ok, if_pos rfl, e1, M.bind_ok, e2], p2⟩
  rw [fuel_eq]
  exact key _ b0 h0 hμ
theorem rng_len {lo hi : Int} : (rng lo hi).length = (hi - lo).toNat := by unfold rng; simp
theorem rng_mem {lo hi x : Int} : x ∈ rng lo hi ↔ lo ≤ x ∧ x < hi := by
  unfold rng
  simp only [List.mem_map, List.mem_range]
  constructor
  · rintro ⟨i, h, rfl⟩; omega
  · rintro ⟨h1, h2⟩; exact ⟨(x - lo).toNat, by omega, by omega⟩
theorem rng_get {lo hi : Int} {i : Nat} (h : i < (rng lo hi).length) : (rng lo hi)[i] = lo + i := by
  simp [rng]
theorem rng_split {lo hi x : Int} {ys zs : List Int} (e : rng lo hi = ys ++ x :: zs) : x = lo + (ys.length : Nat) ∧ lo + (ys.length : Nat) < hi := by
  have hl := congrArg List.length e
  rw [rng_len] at hl
  simp at hl
  have hi' : ys.length < (rng lo hi).length := by rw [rng_len]; omega
  have h1 := rng_get hi'
  have : (rng lo hi)[ys.length] = x := by
    have : (rng lo hi)[ys.length]? = some x := by rw [e]; simp
    rw [List.getElem?_eq_getElem hi'] at this
    exact Option.some.inj this
  rw [this] at h1
  exact ⟨h1, by omega⟩
variable {κ : Type} [DecidableEq κ]
theorem dp_len {d : Dc κ α} {k : κ} {v : α} : (dp d k v).length ≤ d.length + 1 := by
  unfold dp
  split <;> simp
theorem dpM_ok {d : Dc κ α} {k : κ} {v : α} (h : d.length < 16777216) : dpM d k v = .ok (dp d k v) := if_pos h
end
end DL
namespace DL
open PySem PySem.Spec L2
def sortS (xs : List Int) : M (List Int) := if xs.length < 4000 then .ok (sortU xs) else .bad
theorem sortS_ok {xs : List Int} (h : xs.length < 4000) : sortS xs = .ok (sortU xs) := if_pos h
section
variable {ρ : Rho} {α : Type} {fa : DE} {ma : M α} {sa : α → Ar} {b : Bool} {T : String}
theorem isi_opt_f {e : α → D} {x : Option α} (h0 : isiD T .non = okB false) (h1 : ∀ a, isiD T (e a) = okB false) : isiD T (eO e x) = okB false := by
  cases x with
  | none => exact h0
  | some a => exact h1 a
end
end DL
namespace DL
open PySem PySem.Spec L2
section
variable {α β : Type}
theorem atN_ok {n : Nat} {i : Int} (h0 : 0 ≤ i) (h : i < (n : Int)) : ixN n i = some i.toNat := by
  unfold ixN
  rw [if_pos h0, if_pos (by omega)]
theorem setZ_ok {xs : List α} {i : Int} {x : α} (h0 : 0 ≤ i) (h : i < xs.length) : setM xs i x = .ok (xs.set i.toNat x) := by
  unfold setM
  rw [atN_ok h0 h]
theorem rng_lt (lo hi : Int) : (rng lo hi).Pairwise (· < ·) := by
  unfold rng
  rw [List.pairwise_map]
  exact List.Pairwise.imp (fun h => by omega) List.pairwise_lt_range
theorem sortU_rng {xs : List Int} {lo hi : Int} (h : ∀ x ∈ xs, lo ≤ x ∧ x < hi) : sortU xs = (rng lo hi).filter fun x => decide (x ∈ xs) := by
  refine strict_uniq (sortU_lt xs) ((rng_lt lo hi).filter _) fun k => ?_
  rw [sortU_mem, List.mem_filter, rng_mem, decide_eq_true_iff]
  exact ⟨fun m => ⟨h k m, m⟩, fun m => m.2⟩
end
end DL
namespace DL
open PySem PySem.Spec L2
theorem fa_n : frzAll [] = [] := rfl
theorem fa_z {ρ ρ' : Rho} (h : frzAll ρ = ρ') : frzAll (none :: ρ) = none :: ρ' := congrArg _ h
theorem fa_s {α : Type} {s : α → O} {e : α → D} [t : ToD s e] {x : α} {ρ ρ' : Rho} (h : frzAll ρ = ρ') : frzAll (some (s x) :: ρ) = some (oF e x) :: ρ' := by
  show some (O.fz (s x).toD) :: frzAll ρ = _
  rw [h, ToD.td (s := s) x]
  rfl
theorem rq_view {α : Type} {fe : DE} {ρ ρ' : Rho} {m : M α} {s : α → O} [LeafF s] (hr : frzAll ρ = ρ') (h : RQ (fe ρ') m (rO s)) : RQ (viewE fe ρ) m (rO s) := by
  simp only [RQ_eq] at *
  subst hr
  unfold viewE
  cases m with
  | bad => trivial
  | ex c =>
    have h : fe (frzAll ρ) = .ex c := h
    show _ = Rs.ex c
    rw [h]
  | ok a =>
    have h : fe (frzAll ρ) = .ok (.ow (s a)) := h
    show _ = Rs.ok (.ow (s a))
    rw [h]
    dsimp only
    rw [if_pos (LeafF.lf a)]
end DL
namespace DL
open PySem PySem.Spec L2
namespace PL
abbrev Row := Int × Int × List Int
theorem get_map {α : Type} [Inhabited α] {n x : Int} {f : Int → α} (h0 : 0 ≤ x) (h : x < n) : getZ ((rng 0 n).map f) x = f x := by
  rw [getZ_at h0 (by rw [List.length_map, rng_len]; omega), List.getElem_map, rng_get]
  congr 1
  omega
def wy (game : List Row) (a : Int) : List Int := (getZ game a).2.2
section
variable (game : List Row) (hand : Int) (part : Int → Bool)
def opn (D : List Int) (w : Int) : Bool := part w && !decide (w ∈ D)
def cnt (D : List Int) (a : Int) : Int := (((wy game a).filter (opn part D)).length : Nat)
def pull (D : List Int) (a : Int) : Bool := (wy game a).any (fun w => decide (w ∈ D)) && (decide ((getZ game a).1 = hand) || decide (cnt game part D a = 0))
def nextL (D : List Int) : List Int := (rng 0 (game.length : Int)).filter fun a => opn part D a && pull game hand part D a
end
section
variable {game : List Row} {hand : Int} {part : Int → Bool} {D D' : List Int} {a : Int}
theorem opn_iff {w : Int} : opn part D w = true ↔ part w = true ∧ w ∉ D := by
  unfold opn
  simp
theorem ddI_id : ∀ {l : List Int}, l.Nodup → ddI l = l
  | [], _ => rfl
  | x :: l, h => by
    obtain ⟨h1, h2⟩ := List.nodup_cons.mp h
    unfold ddI
    rw [ddI_id h2, if_neg h1]
theorem nodup_len {l : List Int} {n : Nat} (h : l.Nodup) (hl : ∀ x ∈ l, 0 ≤ x ∧ x < (n : Int)) : l.length ≤ n := by
  have e := sortU_rng hl
  have l1 : (sortU l).length = l.length := by
    unfold sortU
    rw [(sortI_perm _).length_eq, ddI_id h]
  have := List.length_filter_le (fun x => decide (x ∈ l)) (rng 0 (n : Int))
  rw [← e, l1, rng_len] at this
  omega
end
end PL
end DL
namespace DL
open PySem PySem.Spec L2
namespace PL
section
variable {game : List Row} {hand : Int} {part : Int → Bool} {D D' : List Int} {a : Int}
def In (game : List Row) (a : Int) : Prop := 0 ≤ a ∧ a < (game.length : Int)
def Shut (game : List Row) (hand : Int) (part : Int → Bool) (D layer : List Int) : Prop := ∀ a, In game a → opn part D a = true → a ∉ layer → pull game hand part D a = false
theorem nextL_mem : a ∈ nextL game hand part D ↔ In game a ∧ opn part D a = true ∧ pull game hand part D a = true := by
  unfold nextL
  rw [List.mem_filter, rng_mem, Bool.and_eq_true]
  rfl
theorem nextL_lt : (nextL game hand part D).Pairwise (· < ·) := (rng_lt _ _).filter _
theorem pull_iff : pull game hand part D a = true ↔ (∃ w ∈ wy game a, w ∈ D) ∧ ((getZ game a).1 = hand ∨ cnt game part D a = 0) := by
  unfold pull
  simp
theorem cnt_app {layer : List Int} (h : ∀ w ∈ layer, w ∉ wy game a) : cnt game part (D ++ layer) a = cnt game part D a := by
  unfold cnt
  congr 2
  refine List.filter_congr fun w hw => ?_
  have : w ∉ layer := fun hl => h w hl hw
  unfold opn
  by_cases h1 : w ∈ D <;> simp [h1, this]
theorem next_ok {layer fu : List Int} (sh : Shut game hand part D layer) (hf : ∀ a, a ∈ fu ↔ In game a ∧ opn part (D ++ layer) a = true ∧ (∃ w ∈ layer, w ∈ wy game a) ∧ ((getZ game a).1 = hand ∨ cnt game part (D ++ layer) a = 0)) :
    sortU fu = nextL game hand part (D ++ layer) := by
  refine strict_uniq (sortU_lt fu) nextL_lt fun a => ?_
  rw [sortU_mem, hf, nextL_mem, pull_iff]
  constructor
  · rintro ⟨h1, h2, ⟨w, hw, hwa⟩, h4⟩
    exact ⟨h1, h2, ⟨w, hwa, List.mem_append_right _ hw⟩, h4⟩
  · rintro ⟨h1, h2, ⟨w, hwa, hw⟩, h4⟩
    refine ⟨h1, h2, ?_, h4⟩
    by_cases hex : ∃ w ∈ layer, w ∈ wy game a
    · exact hex
    · exfalso
      have hno : ∀ w ∈ layer, w ∉ wy game a := fun w h1 h2 => hex ⟨w, h1, h2⟩
      have hwD : w ∈ D := by
        rcases List.mem_append.mp hw with h | h
        · exact h
        · exact absurd hwa (hno w h)
      rw [cnt_app hno] at h4
      obtain ⟨p1, p2⟩ := opn_iff.mp h2
      have := sh a h1 (opn_iff.mpr ⟨p1, fun h => p2 (List.mem_append_left _ h)⟩) fun h => p2 (List.mem_append_right _ h)
      rw [pull_iff.mpr ⟨⟨w, hwa, hwD⟩, h4⟩] at this
      cases this
end
end PL
end DL
namespace DL
open PySem PySem.Spec L2
namespace PL
section
variable {game : List Row} {hand : Int} {part : Int → Bool} {D D' : List Int} {a : Int}
end
end PL
end DL
namespace DL
open PySem PySem.Spec L2
namespace PL
section
variable {game : List Row} {hand : Int} {part : Int → Bool} {D D' : List Int} {a : Int}
end
end PL
end DL
namespace DL
open PySem PySem.Spec L2
namespace PL
section
variable {game : List Row} {hand hand' : Int} {a : Int}
def stay (game : List Row) (hand : Int) (X : Int → Bool) (a : Int) : Bool := if (getZ game a).1 = hand then (wy game a).any X else (wy game a).all X
end
end PL
end DL
namespace DL
open PySem PySem.Spec L2
variable {K : PySem.W.Frag} {F F' H H' H0 F0 F1 H1 : Hp} {cs cs' : List Addr} {σ σ' : L2.St} {ρ ρ' : Rho}
section
variable {X : Cx} {W : WX} {pos : Pos} {a b c e : Expr} {fa fb fc fe : DE}
end
section
variable {X : Cx} {W : WX} {pos apos cpos : Pos} {o a b c e : Expr} {fa fb fc fe : DE}
end
def kD : Key → D
  | .inl i => .int i
  | .inr x => .str x
end DL
namespace DL
open PySem PySem.Spec L2
variable {K : PySem.W.Frag} {F F' H H' H0 F0 F1 H1 : Hp} {cs cs' : List Addr} {σ σ' : L2.St} {ρ ρ' : Rho}
section
variable {X : Cx} {W : WX} {pos apos cpos p1 p2 p3 : Pos} {a b c e : Expr} {fa fb fc fe : DE} {x y : Str}
end
end DL
namespace DL
open PySem PySem.Spec L2
section
variable {α β γ : Type} {ρ ρ' ρ1 : Rho} {fe fa fb : DE} {a b : Ar} {m : M α} {s : α → O} {e : α → D}
variable {κ : Type} [DecidableEq κ]
class KdE (ke : κ → Key) (f : outParam (κ → D)) : Prop where
  kd : ∀ k, kD (ke k) = f k
instance : KdE kI eI := ⟨fun _ => rfl⟩
instance : KdE kS eS := ⟨fun _ => rfl⟩
end
end DL
namespace DL
open PySem PySem.Spec L2
def Ok {α : Type} (m : M α) (P : α → Prop) : Prop := ∃ a, m = .ok a ∧ P a
section
variable {α β γ δ : Type} {m : M α} {f : α → M β} {P P' : α → Prop} {Q : β → Prop}
theorem Ok.of {a : α} (h : P a) : Ok (.ok a) P := ⟨a, rfl, h⟩
theorem Ok.eq {a : α} (h : m = .ok a) (p : P a) : Ok m P := ⟨a, h, p⟩
theorem Ok.mono (h : Ok m P) (k : ∀ a, P a → P' a) : Ok m P' := let ⟨a, e, p⟩ := h; ⟨a, e, k a p⟩
theorem Ok.get {a : α} (h : Ok m (fun x => x = a)) : m = .ok a := by obtain ⟨b, e, p⟩ := h; rw [e, p]
theorem Ok.call (h : Ok m P) (k : ∀ a, P a → Ok (f a) Q) : Ok (m.bind f) Q := by
  obtain ⟨a, e, p⟩ := h
  rw [e, M.bind_ok]
  exact k a p
theorem Ok.eqc {a : α} (h : m = .ok a) (k : Ok (f a) Q) : Ok (m.bind f) Q := by rw [h, M.bind_ok]; exact k
theorem b_ok {a : α} (k : Ok (f a) Q) : Ok ((M.ok a).bind f) Q := k
theorem b_bind {m : M γ} {g : γ → M α} (k : Ok (m.bind fun x => (g x).bind f) Q) : Ok ((m.bind g).bind f) Q := by
  cases m with
  | ok a => exact k
  | ex c => obtain ⟨_, e, _⟩ := k; cases e
  | bad => obtain ⟨_, e, _⟩ := k; cases e
theorem b_lt {a : α} (k : Ok (f a) Q) : Ok (lt a f) Q := by rw [lt_eq]; exact k
theorem b_ltb {a : γ} {g : γ → M α} (k : Ok ((g a).bind f) Q) : Ok ((lt a g).bind f) Q := by rw [lt_eq]; exact k
theorem e_end (k : Ok (m.bind fun a => .ok a) P) : Ok m P := by
  obtain ⟨a, e, p⟩ := k
  cases m with
  | ok b => exact ⟨a, e, p⟩
  | ex c => cases e
  | bad => cases e
theorem b_nox (k : Ok (m.bind f) Q) : Ok (m.nox.bind f) Q := by
  cases m with
  | ok a => exact k
  | ex c => obtain ⟨_, e, _⟩ := k; cases e
  | bad => obtain ⟨_, e, _⟩ := k; cases e
theorem e_nox (k : Ok m P) : Ok m.nox P := by obtain ⟨a, rfl, p⟩ := k; exact ⟨a, rfl, p⟩
theorem e_ite {c : Bool} {a b : M α} (h1 : c = true → Ok a P) (h2 : c = false → Ok b P) : Ok (if c then a else b) P := by
  cases c with
  | true => exact h1 rfl
  | false => exact h2 rfl
theorem e_F {c : Bool} {a b : M α} (hc : c = false) (h : Ok b P) : Ok (if c then a else b) P := by rw [hc]; exact h
theorem b_ite {c : Bool} {a b : M α} (h1 : c = true → Ok (a.bind f) Q) (h2 : c = false → Ok (b.bind f) Q) : Ok ((if c then a else b).bind f) Q := by
  cases c with
  | true => exact h1 rfl
  | false => exact h2 rfl
theorem e_opt {x : Option γ} {a : M α} {g : γ → M α} (h1 : x = none → Ok a P) (h2 : ∀ y, x = some y → Ok (g y) P) : Ok (optC x a g) P := by
  cases x with
  | none => exact h1 rfl
  | some y => exact h2 y rfl
theorem b_fl {m : M (Fl γ δ)} {g : γ → M δ} {P : δ → Prop} (h : Ok m fun r => match r with | .nx b => Ok (g b) P | .rt a => P a) : Ok (m.fl g) P := by
  obtain ⟨r, rfl, h⟩ := h
  cases r with
  | nx b => exact h
  | rt a => exact ⟨a, rfl, h⟩
theorem b_fln {m : M (Fl γ δ)} {g : γ → M δ} {P : δ → Prop} {b : γ} (h : m = .ok (.nx b)) (k : Ok (g b) P) : Ok (m.fl g) P := by rw [h]; exact k
end
section
variable {α β γ : Type} {Q : β → Prop}
theorem b_ix [Inhabited α] {f : α → M β} {xs : List α} {i : Int} (k : Ok (f (getZ xs i)) Q) (h0 : 0 ≤ i := by omega) (h : i < xs.length := by omega) : Ok ((ix xs i).bind f) Q := by rw [ix_ok h0 h]; exact k
theorem b_mod {f : Int → M β} {i j : Int} (k : Ok (f (i % j)) Q) (h : 0 < j := by omega) : Ok ((modM i j).bind f) Q := by rw [modM_ok h]; exact k
theorem b_fdiv {f : Int → M β} {i j : Int} (k : Ok (f (i / j)) Q) (h : 0 < j := by omega) (h2 : j < 18446744073709551616 := by omega) : Ok ((fdivM i j).bind f) Q := by rw [fdivM_ok h h2]; exact k
theorem b_mull {f : Int → M β} {i j : Int} (k : Ok (f (i * j)) Q) (h : -18446744073709551616 < i := by omega) (h2 : i < 18446744073709551616 := by omega) : Ok ((mulM i j).bind f) Q := by rw [mulM_l h h2]; exact k
theorem b_mulr {f : Int → M β} {i j : Int} (k : Ok (f (i * j)) Q) (h : -18446744073709551616 < j := by omega) (h2 : j < 18446744073709551616 := by omega) : Ok ((mulM i j).bind f) Q := by rw [mulM_r h h2]; exact k
theorem b_app {f : List α → M β} {xs : List α} {x : α} (k : Ok (f (xs ++ [x])) Q) (h : xs.length < 16777216 := by omega) : Ok ((appM xs x).bind f) Q := by rw [appM_ok h]; exact k
theorem b_cat {f : List α → M β} {xs ys : List α} (k : Ok (f (xs ++ ys)) Q) (h : xs.length + ys.length ≤ 16777216 := by omega) : Ok ((catM xs ys).bind f) Q := by rw [catM_ok h]; exact k
theorem b_rng {f : List Int → M β} {lo hi : Int} (k : Ok (f (rng lo hi)) Q) (h : -4611686018427387904 ≤ lo := by omega) (h2 : lo < 4611686018427387904 := by omega) (h3 : -4611686018427387904 ≤ hi := by omega) (h4 : hi < 4611686018427387904 := by omega) : Ok ((rngM lo hi).bind f) Q := by rw [rngM_ok h h2 h3 h4]; exact k
theorem b_rngL {f : List Int → M β} {lo hi : Int} (k : Ok (f (rng lo hi)) Q) (h : -4611686018427387904 ≤ lo := by omega) (h2 : lo < 4611686018427387904 := by omega) (h3 : -4611686018427387904 ≤ hi := by omega) (h4 : hi < 4611686018427387904 := by omega) (h5 : hi - lo ≤ 16777216 := by omega) : Ok ((rngL lo hi).bind f) Q := by rw [rngL_ok h h2 h3 h4 h5]; exact k
theorem b_set {f : List α → M β} {xs : List α} {i : Int} {x : α} (k : Ok (f (xs.set i.toNat x)) Q) (h0 : 0 ≤ i := by omega) (h : i < xs.length := by omega) : Ok ((setM xs i x).bind f) Q := by rw [setZ_ok h0 h]; exact k
theorem b_srtS {f : List Int → M β} {xs : List Int} (k : Ok (f (sortU xs)) Q) (h : xs.length < 4000 := by omega) : Ok ((sortS xs).bind f) Q := by rw [sortS_ok h]; exact k
theorem b_dp [DecidableEq γ] {f : Dc γ α → M β} {d : Dc γ α} {k0 : γ} {v : α} (k : Ok (f (dp d k0 v)) Q) (h : d.length < 16777216 := by omega) : Ok ((dpM d k0 v).bind f) Q := by rw [dpM_ok h]; exact k
theorem b_compP {f : γ → α} {g : List α → M β} {xs : List γ} (k : Ok (g (xs.map f)) Q) (h : xs.length ≤ 16777216 := by omega) : Ok ((compP f xs).bind g) Q := by rw [compP_ok h]; exact k
theorem b_compFP {p : γ → Bool} {f : γ → α} {g : List α → M β} {xs : List γ} (k : Ok (g ((xs.filter p).map f)) Q) (h : xs.length ≤ 16777216 := by omega) : Ok ((compFP p f xs).bind g) Q := by rw [compFP_ok h]; exact k
theorem b_compM {f : γ → M α} {g : List α → M β} {xs : List γ} (P : γ → α → Prop) (hl : xs.length ≤ 16777216) (h : ∀ x ∈ xs, Ok (f x) (P x)) (k : ∀ ys : List α, ys.length = xs.length → (∀ i (h : i < xs.length) (h' : i < ys.length), P xs[i] ys[i]) → Ok (g ys) Q) : Ok ((compM f xs).bind g) Q := by
  obtain ⟨ys, e, l, q⟩ := compM_ex hl h
  rw [e]
  exact k ys l q
theorem b_for {step : γ → α → M α} {xs : List γ} {b0 : α} {f : α → M β} (I : List γ → α → Prop) (h0 : I [] b0) (hs : ∀ ys x zs b, xs = ys ++ x :: zs → I ys b → Ok (step x b) (I (ys ++ [x]))) (k : ∀ b, I xs b → Ok (f b) Q) : Ok ((forM step xs b0).bind f) Q := by
  obtain ⟨b, e, h⟩ := forM_inv I h0 hs
  rw [e]
  exact k b h
theorem e_forF {δ : Type} {step : γ → α → M (Fl α δ)} {xs : List γ} {b0 : α} (I : List γ → α → Prop) (R : δ → Prop) {S : Fl α δ → Prop} (h0 : I [] b0) (hs : ∀ ys x zs b, xs = ys ++ x :: zs → I ys b → Ok (step x b) fun r => match r with | .nx b' => I (ys ++ [x]) b' | .rt a => R a) (k : ∀ b, I xs b → S (.nx b)) (k2 : ∀ a, R a → S (.rt a)) : Ok (forF step xs b0) S := by
  rcases forF_or (step := step) (xs := xs) (b0 := b0) I R h0 (fun ys x zs b e h => by
    obtain ⟨r, e1, h1⟩ := hs ys x zs b e h
    cases r with
    | nx b' => exact .inl ⟨b', e1, h1⟩
    | rt a => exact .inr ⟨a, e1, h1⟩) with ⟨b, e, h⟩ | ⟨a, e, h⟩
  · exact ⟨_, e, k b h⟩
  · exact ⟨_, e, k2 a h⟩
theorem b_while {c : α → M Bool} {t : α → M α} {b0 : α} {f : α → M β} (μ : α → Nat) (I : α → Prop) (h0 : I b0) (hμ : μ b0 < 1000000000) (hs : ∀ b, I b → Ok (c b) fun z => if z then Ok (t b) (fun b' => I b' ∧ μ b' < μ b) else Ok (f b) Q) : Ok ((whileM c t fuel b0).bind f) Q := by
  obtain ⟨b, e, h⟩ := whileM_ok (c := c) (t := t) (b0 := b0) μ I (fun b => Ok (f b) Q) h0 hμ fun b hb => by
    obtain ⟨z, ez, h⟩ := hs b hb
    cases z with
    | false => exact .inl ⟨ez, h⟩
    | true =>
      obtain ⟨b', e', i', l'⟩ := h
      exact .inr ⟨ez, b', e', i', l'⟩
  rw [e]
  exact h
end
theorem dp_keys {κ α : Type} [DecidableEq κ] {d : Dc κ α} {k : κ} {v : α} : (dp d k v).map (·.1) = if k ∈ d.map (·.1) then d.map (·.1) else d.map (·.1) ++ [k] := by
  unfold dp
  by_cases h : k ∈ d.map (·.1)
  · rw [if_pos h, if_pos h, List.map_map]
    refine List.map_congr_left fun p _ => ?_
    show (if p.1 = k then (p.1, v) else p).1 = p.1
    split <;> rfl
  · rw [if_neg h, if_neg h, List.map_append]
    rfl
theorem mem_dp {κ α : Type} [DecidableEq κ] {d : Dc κ α} {k x : κ} {v : α} : x ∈ (dp d k v).map (·.1) ↔ x = k ∨ x ∈ d.map (·.1) := by
  rw [dp_keys]
  split
  · rename_i h
    exact ⟨.inr, fun e => e.elim (fun e => e ▸ h) id⟩
  · rw [List.mem_append, List.mem_singleton]
    exact or_comm
theorem nodup_dp {κ α : Type} [DecidableEq κ] {d : Dc κ α} {k : κ} {v : α} (h : (d.map (·.1)).Nodup) : ((dp d k v).map (·.1)).Nodup := by
  rw [dp_keys]
  split
  · exact h
  · rename_i hk
    refine List.nodup_append.mpr ⟨h, List.nodup_cons.mpr ⟨(fun h => nomatch h), List.nodup_nil⟩, fun a ha b hb e => hk ?_⟩
    rw [List.mem_singleton.mp hb] at e
    exact e ▸ ha
end DL
namespace DL
open PySem PySem.Spec L2
namespace PL
section
variable {game : List Row} {hand : Int} {part : Int → Bool} {a : Int} {ls : List (List Int)}
theorem min_ok {xs : List Int} (h : xs ≠ []) : minM xs = .ok (minI xs) := by
  cases xs with
  | nil => exact absurd rfl h
  | cons y ys => rfl
end
end PL
end DL
namespace L2
open PySem PySem.Spec PyProof.Rows
section
variable {X : Cx} {pins : List (Addr × Obj)} {σ : St} {H : Hp} {s : Shared}
end
section
variable {X : Cx} {x n : Str} {c : Value} {i : Nat} {body suite : List Stmt} {b₀ : Stmt} {np pos pos' : Pos} {tb : WX → TS} {ts : TS}
end
end L2
namespace DL
open PySem PySem.Spec L2
variable {K : PySem.W.Frag} {F F' H H' H0 F0 F1 H1 : Hp} {cs cs' : List Addr} {σ σ' : L2.St} {ρ ρ' : Rho}
section
variable {X : Cx} {W : WX} {pos np pos' py pn2 ap : Pos} {a b c e : Expr} {fa fb fc fe : DE} {f : DS} {body : List Stmt} {x y n : Str}
end
end DL
namespace DL
open PySem PySem.Spec L2
variable {K : PySem.W.Frag} {F F' H H' H0 F0 F1 H1 : Hp} {cs cs' : List Addr} {σ σ' : L2.St} {ρ ρ' : Rho}
section
variable {X : Cx} {W : WX} {pos p p2 tp : Pos} {a b c e : Expr} {fa fb fc fe : DE} {f : DS} {es : List Expr} {x y n : Str}
end
def eX : Str → D := .exc
instance : NnE eX := ⟨fun _ h => nomatch h⟩
section
variable {α β γ : Type} {fe fa fb : DE} {a b : Ar} {m : M α} {s : α → O} {e : α → D}
inductive Tr (α : Type) where
  | inl (a : α) | inr (c : Str)
def Tr.okO : Tr α → Option α
  | .inl a => some a
  | .inr _ => none
def Tr.exO : Tr α → Option Str
  | .inl _ => none
  | .inr c => some c
def Tr.okD {α : Type} (a0 : α) : Tr α → α
  | .inl a => a
  | .inr _ => a0
@[simp] theorem Tr.okD_l {α : Type} {a a0 : α} : (Tr.inl a).okD a0 = a := Eq.symm (Eq.symm rfl)
@[simp] theorem Tr.okD_r {α : Type} {c : Str} {a0 : α} : (Tr.inr c).okD a0 = a0 := Eq.symm (Eq.symm rfl)
@[simp] theorem Tr.okO_l {a : α} : (Tr.inl a).okO = some a := Eq.symm (Eq.symm rfl)
@[simp] theorem Tr.okO_r {c : Str} : (Tr.inr c : Tr α).okO = none := Eq.symm (Eq.symm rfl)
@[simp] theorem Tr.exO_l {a : α} : (Tr.inl a).exO = none := Eq.symm (Eq.symm rfl)
@[simp] theorem Tr.exO_r {c : Str} : (Tr.inr c : Tr α).exO = some c := Eq.symm (Eq.symm rfl)
end
end DL
namespace DL
open PySem PySem.Spec L2
theorem all_cons {α : Type} {p : α → Prop} {x : α} {xs : List α} (h : p x) (t : ∀ c ∈ xs, p c) : ∀ c ∈ x :: xs, p c := fun c hc => by
  rcases List.mem_cons.mp hc with rfl | hc
  · exact h
  · exact t c hc
end DL
namespace DL
open PySem PySem.Spec L2
theorem getZ_set {α : Type} [Inhabited α] {xs : List α} {x : α} {a b : Int} (h0 : 0 ≤ a) (h : a < xs.length) (h1 : 0 ≤ b) (h2 : b < xs.length) : getZ (xs.set a.toNat x) b = if b = a then x else getZ xs b := by
  rw [getZ_at h1 (by rw [List.length_set]; exact h2), List.getElem_set, getZ_at h1 h2]
  by_cases e : b = a
  · rw [if_pos e, if_pos (by omega)]
  · rw [if_neg e, if_neg (by omega)]
namespace PL
section
variable {game : List Row} {hand : Int} {rule : List (Option Int)}
end
end PL
end DL
namespace DL
open PySem PySem.Spec L2
variable {K : PySem.W.Frag} {F F' H H' H0 F0 F1 H1 : Hp} {cs cs' : List Addr} {X : Cx} {α : Type}
end DL
namespace DL
open PySem PySem.Spec L2
namespace PL
inductive Vd where | hand | rank | way | many
  deriving DecidableEq
def Vd.exc : Vd → Str
  | .hand => "NoHand"
  | .rank => "NoRank"
  | .way => "NoWay"
  | .many => "TooMany"
section
variable {wo : List Int → Int → M (List Int)}
end
end PL
end DL
namespace DL
open PySem PySem.Spec L2 PyProof.Rows
variable {K : PySem.W.Frag} {F F' H H' H0 F0 F1 H1 : Hp} {cs cs' : List Addr} {X : Cx} {W : WX} {α : Type}
def insP (x : Int × Int) : List (Int × Int) → List (Int × Int)
  | [] => [x]
  | y :: ys => if SrtO.lexB y x then y :: insP x ys else x :: y :: ys
def sortP : List (Int × Int) → List (Int × Int)
  | [] => []
  | x :: xs => insP x (sortP xs)
theorem insP_perm (x : Int × Int) : ∀ ys, (insP x ys).Perm (x :: ys)
  | [] => List.Perm.refl _
  | y :: ys => by
    unfold insP
    split
    · exact ((insP_perm x ys).cons y).trans (List.Perm.swap x y ys)
    · exact List.Perm.refl _
theorem sortP_perm : ∀ xs, (sortP xs).Perm xs
  | [] => List.Perm.refl _
  | x :: xs => (insP_perm x _).trans ((sortP_perm xs).cons x)
def leP (p q : Int × Int) : Prop := p.1 < q.1 ∨ (p.1 = q.1 ∧ p.2 ≤ q.2)
theorem insP_sorted {x : Int × Int} : ∀ {ys}, ys.Pairwise leP → (insP x ys).Pairwise leP
  | [], _ => List.pairwise_singleton _ _
  | y :: ys, h => by
    obtain ⟨h1, h2⟩ := List.pairwise_cons.mp h
    unfold insP
    split
    · rename_i hc
      have hc := SrtO.lexB_iff.mp hc
      refine List.pairwise_cons.mpr ⟨fun z hz => ?_, insP_sorted h2⟩
      rcases List.mem_cons.mp ((insP_perm x ys).mem_iff.mp hz) with rfl | hz
      · unfold leP; omega
      · exact h1 z hz
    · rename_i hc
      have hc : SrtO.lexB y x = false := by simpa using hc
      have hc := SrtO.lexB_no.mp hc
      refine List.pairwise_cons.mpr ⟨fun z hz => ?_, h⟩
      rcases List.mem_cons.mp hz with rfl | hz
      · unfold leP; omega
      · have := h1 z hz
        unfold leP at this ⊢
        omega
theorem sortP_sorted : ∀ xs, (sortP xs).Pairwise leP
  | [] => List.Pairwise.nil
  | x :: xs => insP_sorted (sortP_sorted xs)
theorem sortP_uniq : ∀ {l m : List (Int × Int)}, l.Perm m → l.Pairwise leP → m.Pairwise leP → l = m
  | [], m, p, _, _ => (List.nil_perm.mp p).symm
  | x :: l, [], p, _, _ => absurd p.length_eq (by simp)
  | x :: l, y :: m, p, h1, h2 => by
    obtain ⟨a1, a2⟩ := List.pairwise_cons.mp h1
    obtain ⟨b1, b2⟩ := List.pairwise_cons.mp h2
    have e : x = y := by
      have m1 : x ∈ y :: m := p.mem_iff.mp List.mem_cons_self
      have m2 : y ∈ x :: l := p.mem_iff.mpr List.mem_cons_self
      rcases List.mem_cons.mp m1 with e | m1
      · exact e
      · rcases List.mem_cons.mp m2 with e | m2
        · exact e.symm
        · have c1 := a1 y m2
          have c2 := b1 x m1
          unfold leP at c1 c2
          exact Prod.ext (by omega) (by omega)
    subst e
    rw [sortP_uniq ((List.perm_cons x).mp p) a2 b2]
def pD (p : Int × Int) : D := .tup [.int p.1, .int p.2]
end DL
namespace DL
open PySem PySem.Spec L2 PyProof.Rows
variable {K : PySem.W.Frag} {F F' H H' H0 F0 F1 H1 : Hp} {cs cs' : List Addr} {X : Cx} {W : WX} {α : Type}
end DL
namespace DL
open PySem PySem.Spec L2
namespace PL
abbrev PRow := Int × List (Int × Int)
inductive Vp where | hand | way | amount | many
  deriving DecidableEq
def Vp.exc : Vp → Str
  | .hand => "NoHand"
  | .way => "NoWay"
  | .amount => "NoAmount"
  | .many => "TooMany"
end PL
end DL
namespace DL
open PySem PySem.Spec L2 PyProof.Rows
variable {K : PySem.W.Frag} {F F' H H' H0 F0 F1 H1 : Hp} {cs cs' : List Addr} {X : Cx} {W : WX} {α : Type} {fk fv : DE} {k v : Expr} {pos : Pos}
end DL
namespace DL
open PySem PySem.Spec L2 PyProof.Rows
section
variable {X : Cx} {W : WX} {pos : Pos} {k v : Expr} {fk fv : DE}
end
end DL
namespace DL
open PySem PySem.Spec L2
variable {K : PySem.W.Frag} {F F' F2 F3 H H' H0 F0 F1 H1 : Hp} {cs cs' : List Addr}
def isOwn : O → Bool
  | .fz _ => false
  | _ => true
mutual
def nft : O → Bool
  | .fz _ => true
  | .lst xs => nfts xs
  | .tup xs => xs.any isOwn && nfts xs
  | .dK _ _ => true
  | .dT _ _ => true
  | .lk _ _ => true
  | .ins _ _ xs => nfts xs
  | .nm _ o => nft o
def nfts : List O → Bool
  | [] => true
  | x :: xs => nft x && nfts xs
end
def hasRef (us : List V) : Prop := ∃ v ∈ us, ∃ a, v = V.ref a
theorem own_ref {o : O} {v : V} (h : isOwn o = true) (r : ORep K F H o v cs) : ∃ a, v = .ref a := by
  cases o with
  | fz d => cases h
  | lst xs => obtain ⟨a, vs, c, e1, _⟩ := r; exact ⟨a, e1⟩
  | tup xs => obtain ⟨a, vs, c, e1, _⟩ := r; exact ⟨a, e1⟩
  | dK ks ds => obtain ⟨a, vs, e1, _⟩ := r; exact ⟨a, e1⟩
  | dT ks ds => obtain ⟨a, vs, e1, _⟩ := r; exact ⟨a, e1⟩
  | lk ks ds => obtain ⟨_, a, vs, od, e1, _⟩ := r; exact ⟨a, e1⟩
  | ins c ns os => obtain ⟨a, C, dx, vs, c', e1, _⟩ := r; exact ⟨a, e1⟩
  | nm a o => exact ⟨a, r.1⟩
theorem any_ref : ∀ {xs : List O} {vs : List V} {cs}, xs.any isOwn = true → OReps K F H xs vs cs → hasRef vs
  | [], _, _, h, _ => by cases h
  | x :: xs, _, _, h, ⟨v, r, c1, c2, e1, e2, rx, ry⟩ => by
    subst e1
    rw [List.any_cons, Bool.or_eq_true] at h
    rcases h with h | h
    · obtain ⟨a, e⟩ := own_ref h rx
      exact ⟨v, List.mem_cons_self, a, e⟩
    · obtain ⟨u, hu, h2⟩ := any_ref h ry
      exact ⟨u, List.mem_cons_of_mem _ hu, h2⟩
mutual
theorem nft_cells : ∀ {o v cs}, nft o = true → ORep K F H o v cs → ∀ c ∈ cs, ∀ us, H c = some (.tup us) → hasRef us
  | .fz d, v, cs, _, ⟨e, _⟩, c, hc, _, _ => by rw [e] at hc; cases hc
  | .lst xs, v, cs, h, ⟨a, vs, c, e1, e2, e3, r⟩, b, hb, us, hu => by
    rw [e2] at hb
    rcases List.mem_cons.mp hb with rfl | hb
    · rw [e3] at hu; cases hu
    · exact nfts_cells h r b hb us hu
  | .tup xs, v, cs, h, ⟨a, vs, c, e1, e2, e3, r⟩, b, hb, us, hu => by
    have h' : xs.any isOwn = true ∧ nfts xs = true := by simpa [nft] using h
    rw [e2] at hb
    rcases List.mem_cons.mp hb with rfl | hb
    · rw [e3] at hu
      cases hu
      exact any_ref h'.1 r
    · exact nfts_cells h'.2 r b hb us hu
  | .dK ks ds, v, cs, _, ⟨a, vs, e1, e2, e3, l, r⟩, b, hb, us, hu => by
    rw [e2] at hb
    rw [List.mem_singleton.mp hb, e3] at hu
    cases hu
  | .dT ks ds, v, cs, _, ⟨a, vs, e1, e2, ⟨ms, _, e3, _⟩, l, r⟩, b, hb, us, hu => by
    rw [e2] at hb
    rw [List.mem_singleton.mp hb, e3] at hu
    cases hu
  | .lk ks ds, v, cs, _, ⟨e, _⟩, c, hc, _, _ => by rw [e] at hc; cases hc
  | .ins cl ns xs, v, cs, h, ⟨a, C, dx, vs, c, e1, e2, e3, m, l, r⟩, b, hb, us, hu => by
    rw [e2] at hb
    rcases List.mem_cons.mp hb with rfl | hb
    · rw [e3] at hu; cases hu
    · exact nfts_cells h r b hb us hu
  | .nm a o, v, cs, h, ⟨_, r⟩, b, hb, us, hu => nft_cells (o := o) h r b hb us hu
theorem nfts_cells : ∀ {os vs cs}, nfts os = true → OReps K F H os vs cs → ∀ c ∈ cs, ∀ us, H c = some (.tup us) → hasRef us
  | [], _, _, _, ⟨_, e⟩, c, hc, _, _ => by rw [e] at hc; cases hc
  | o :: os, _, _, h, ⟨v, r, c1, c2, e1, e2, x, y⟩, c, hc, us, hu => by
    have h' : nft o = true ∧ nfts os = true := by simpa [nfts] using h
    rw [e2] at hc
    rcases List.mem_append.mp hc with hc | hc
    · exact nft_cells h'.1 x c hc us hu
    · exact nfts_cells h'.2 y c hc us hu
end
def nftAs : List Ar → Bool
  | [] => true
  | a :: as => nft a.o && nftAs as
theorem nfa_nil : nftAs [] = true := rfl
theorem nfa_cons {a : Ar} {as : List Ar} (h : nft a.o = true) (t : nftAs as = true) : nftAs (a :: as) = true := by
  unfold nftAs
  rw [h, t]
  rfl
theorem areps_cells (fh : Same F H) : ∀ {as : List Ar} {vs cs}, nftAs as = true → AReps K F H as vs cs → ∃ cv : List Addr, (∀ c ∈ cv, ∀ us, H c = some (.tup us) → hasRef us) ∧ ∀ F', Same F F' → (∀ c ∈ cv, F' c = H c) → Reps K F' (as.map Ar.d) vs
  | [], _, _, _, ⟨e, _⟩ => ⟨[], (fun c h => nomatch h), fun _ _ _ => e⟩
  | a :: as, _, _, h, ⟨v, r, c1, c2, e1, e2, x, y⟩ => by
    have h' : nft a.o = true ∧ nftAs as = true := by simpa [nftAs] using h
    obtain ⟨cv, q1, q2⟩ := areps_cells fh h'.2 y
    obtain ⟨c, rx⟩ := x.some
    refine ⟨c ++ cv, fun b hb us hu => ?_, fun F' s k => ⟨v, r, e1, ?_, q2 F' s fun b hb => k b (List.mem_append_right _ hb)⟩⟩
    · rcases List.mem_append.mp hb with hb | hb
      · exact nft_cells h'.1 rx b hb us hu
      · exact q1 b hb us hu
    · have := ORep.close (o := a.o) s (fun b hb => k b (List.mem_append_left _ hb)) rx
      exact this
def flatT : D → Bool
  | .tup ds => flats ds
  | _ => false
def flat2 (d : D) : Bool := flatD d || flatT d
mutual
def leaf2 : O → Bool
  | .fz d => flat2 d
  | .lst xs => leaf2s xs
  | .tup xs => leaf2s xs
  | .dK _ vs => vs.all flat2
  | .dT _ _ => false
  | .lk _ _ => false
  | .ins _ _ xs => leaf2s xs
  | .nm _ o => leaf2 o
def leaf2s : List O → Bool
  | [] => true
  | x :: xs => leaf2 x && leaf2s xs
end
theorem vOf_nref {d : D} (h : flatD d = true) (a : Addr) : vOf d ≠ .ref a := by
  cases d <;> first | (intro e; cases e) | cases h
theorem flats_nref : ∀ {ds : List D}, flats ds = true → ¬ hasRef (ds.map vOf)
  | [], _, ⟨_, h, _⟩ => nomatch h
  | d :: ds, h, ⟨v, hv, a, e⟩ => by
    have h' : flatD d = true ∧ flats ds = true := by simpa [flats] using h
    rw [List.map_cons] at hv
    rcases List.mem_cons.mp hv with rfl | hv
    · exact vOf_nref h'.1 a e
    · exact flats_nref h'.2 ⟨v, hv, a, e⟩
section
variable (hF : ∀ t us, F2 t = some (.tup us) → ¬ hasRef us → F3 t = some (.tup us))
include hF
theorem rep_to3 {d : D} {v : V} (h : flat2 d = true) (r : Rep K F2 d v) : Rep K F3 d v := by
  unfold flat2 at h
  rw [Bool.or_eq_true] at h
  rcases h with h | h
  · rw [rep_flat r h]; exact rep_vOf h
  · cases d with
    | tup ds =>
      have h : flats ds = true := h
      obtain ⟨a, vs, e1, e2, e3⟩ := r
      have ev := reps_flat e3 h
      subst ev
      exact ⟨a, _, e1, hF a _ e2 (flats_nref h), reps_anyF h e3⟩
    | _ => cases h
theorem reps_to3 : ∀ {ds : List D} {vs}, ds.all flat2 = true → Reps K F2 ds vs → Reps K F3 ds vs
  | [], _, _, e => e
  | d :: ds, _, h, ⟨v, r, e, x, y⟩ => by
    rw [List.all_cons, Bool.and_eq_true] at h
    exact ⟨v, r, e, rep_to3 hF h.1 x, reps_to3 h.2 y⟩
mutual
theorem ORep.to3 : ∀ {o v cs}, leaf2 o = true → ORep K F2 H o v cs → ORep K F3 H o v cs
  | .fz d, v, cs, h, ⟨e, r⟩ => ⟨e, rep_to3 hF h r⟩
  | .lst xs, v, cs, h, ⟨a, vs, c, e1, e2, e3, r⟩ => ⟨a, vs, c, e1, e2, e3, OReps.to3 h r⟩
  | .tup xs, v, cs, h, ⟨a, vs, c, e1, e2, e3, r⟩ => ⟨a, vs, c, e1, e2, e3, OReps.to3 h r⟩
  | .dK ks ds, v, cs, h, ⟨a, vs, e1, e2, e3, l, r⟩ => ⟨a, vs, e1, e2, e3, l, reps_to3 hF h r⟩
  | .dT ks ds, v, cs, h, _ => by unfold leaf2 at h; cases h
  | .lk ks ds, v, cs, h, _ => by unfold leaf2 at h; cases h
  | .ins cl ns xs, v, cs, h, ⟨a, C, dx, vs, c, e1, e2, e3, m, l, r⟩ => ⟨a, C, dx, vs, c, e1, e2, e3, m, l, OReps.to3 h r⟩
  | .nm a o, v, cs, h, ⟨e, r⟩ => ⟨e, ORep.to3 (o := o) h r⟩
theorem OReps.to3 : ∀ {os vs cs}, leaf2s os = true → OReps K F2 H os vs cs → OReps K F3 H os vs cs
  | [], _, _, _, e => e
  | o :: os, _, _, h, ⟨v, r, c1, c2, e1, e2, x, y⟩ => by
    have h' : leaf2 o = true ∧ leaf2s os = true := by simpa [leaf2s] using h
    exact ⟨v, r, c1, c2, e1, e2, ORep.to3 h'.1 x, OReps.to3 h'.2 y⟩
end
end
theorem backF_ext2 {G0 G : Hp} (fh : Same F H) (e : Ext G0 H G H') : Ext F H (backF F H G) H' where
  hh := e.hh
  ff := fun a o q => by unfold backF; rw [fh a o q]; exact q
  fh := fun a o q => by
    unfold backF at q
    cases h : H a with
    | none => rw [h] at q; exact e.fh a o q
    | some u => rw [h] at q; exact e.hh a o (fh a o q)
  nw := fun a h => by
    unfold backF
    cases q : H a with
    | none => exact absurd q h
    | some u => rfl
def toRs2 (as : List Ar) : Rf → Rs
  | .ok o => if nftAs as && leaf2 o then .ok (.ow o) else .bad
  | .ex c => .ex c
  | .bad => .bad
def callV (sem : DF) (n : Nat) (f : DA) : DE := fun ρ => match f ρ with
  | .ok as => if as.length = n && nftAs as then toRs2 as (sem (as.map Ar.d)) else .bad
  | .ex c => .ex c
  | .bad => .bad
section
variable {X : Cx} {W : WX} {pos : Pos}
theorem ge_callV {k j n : Nat} {x : Str} {p : Pos} {sem : DF} {e : Expr} {es : List Expr} {f : DA} (C : Cc X W j) (D : DOk X.prog X.w X.K X.mg X.base k x sem n) (hk : k ≤ j) (ha : GA X W (e :: es) f) (hg : Gl X x := by rfl)
    (hdb : (x == ("__debug__" : Str)) = false := by decide) (he : starEach (e :: es) X.env = (false, eval e X.env) :: starEach es X.env := by rfl) (hpl : (backTo pos (starEach es X.env)).any (·.1) = false := by rfl) :
    GE X W (.Call (.Name x p) (e :: es) [] pos) (callV sem n f) := by
  obtain ⟨fa, fd, ps, Fo, hm, kp, hb⟩ := D.ex
  refine PE.imp (pe_callS (E := WE W) Fo (C.room.mono hk) hg hm kp hb C.pass ha hdb he hpl) fun σ H Q ⟨F0, H0, ρ, F, cs, R, p⟩ => ?_
  refine ⟨F0, H0, ρ, F, cs, R, ?_⟩
  unfold callV at p
  cases q : f ρ with
  | bad => rw [q] at p; exact p
  | ex c => rw [q] at p; exact p
  | ok as =>
    simp only [q] at p
    split at p
    · rename_i hn
      rw [Bool.and_eq_true, decide_eq_true_iff] at hn
      obtain ⟨hn, hnf⟩ := hn
      intro F1 H1 vs c1 e1 r1 n1
      have hvn : vs.length = n := by rw [← r1.len]; exact hn
      obtain ⟨cv, q1, q2⟩ := areps_cells e1.fh hnf r1
      have sm : Same F1 (DL.shut F1 H1 cv) := fun a o h => by
        by_cases hc : a ∈ cv
        · rw [shut_in hc]; exact e1.fh a o h
        · rw [shut_out hc]; exact h
      refine ⟨DL.shut F1 H1 cv, as.map Ar.d, hvn, shut_same e1.fh, q2 _ sm (fun c hc => shut_in hc), ?_⟩
      cases qs : sem (as.map Ar.d) with
      | bad => rw [qs] at p; exact p
      | ex c =>
        rw [qs] at p
        exact fun F2 H2 C2 e2 m => p (backF F1 H1 F2) H2 C2 (e1.trans (backF_ext2 e1.fh e2)) m
      | ok o =>
        rw [qs] at p
        simp only [toRs2, hnf, Bool.true_and] at p
        split at p
        · rename_i hl
          refine fun F2 H2 v c2 e2 r2 n2 => p (backF F1 H1 F2) H2 v c2 (e1.trans (backF_ext2 e1.fh e2)) (ORep.to3 (F2 := F2) (fun t us ht hr => ?_) (o := o) hl r2) ?_
          · unfold backF
            cases h1 : H1 t with
            | none => exact ht
            | some u =>
              have h2 : F2 t = DL.shut F1 H1 cv t := e2.nw t (by rw [h1]; exact fun h => nomatch h)
              show F1 t = _
              by_cases hc : t ∈ cv
              · rw [shut_in hc, ht] at h2
                exact absurd (q1 t hc us h2.symm) hr
              · rw [shut_out hc] at h2
                rw [← h2]
                exact ht
          · refine ⟨n2.nd, fun c hc => ⟨e1.hh.free (n2.nw c hc).1, ?_⟩⟩
            unfold backF
            rw [(n2.nw c hc).1]
            exact (n2.nw c hc).2
        · exact p.elim
    · exact p.elim
end
class Flat2E {α : Type} (e : α → D) : Prop where
  f2 : ∀ a, flat2 (e a) = true
theorem flat2_of {d : D} (h : flatD d = true) : flat2 d = true := by unfold flat2; rw [h]; rfl
instance {α : Type} {e : α → D} [FlatE e] : Flat2E e := ⟨fun a => flat2_of (FlatE.fl a)⟩
instance {α β : Type} {e : α → D} {f : β → D} [FlatE e] [FlatE f] : Flat2E (eT2 e f) := ⟨fun p => by
  unfold flat2 eT2
  simp [flatT, flats, FlatE.fl (e := e), FlatE.fl (e := f)]⟩
instance {α β γ : Type} {e : α → D} {f : β → D} {g : γ → D} [FlatE e] [FlatE f] [FlatE g] : Flat2E (eT3 e f g) := ⟨fun p => by
  unfold flat2 eT3
  simp [flatT, flats, FlatE.fl (e := e), FlatE.fl (e := f), FlatE.fl (e := g)]⟩
class Leaf2 {α : Type} (s : α → O) : Prop where
  l2 : ∀ a, leaf2 (s a) = true
instance {α : Type} {e : α → D} [Flat2E e] : Leaf2 (oF e) := ⟨fun a => Flat2E.f2 a⟩
theorem leaf2s_of {α : Type} {s : α → O} (h : ∀ a, leaf2 (s a) = true) : ∀ xs : List α, leaf2s (xs.map s) = true
  | [] => rfl
  | x :: xs => by simp [leaf2s, h x, leaf2s_of h xs]
instance {α : Type} {s : α → O} [Leaf2 s] : Leaf2 (oL s) := ⟨fun xs => leaf2s_of Leaf2.l2 xs⟩
instance {α : Type} {s : α → O} [Leaf2 s] : Leaf2 (oO s) := ⟨fun x => by
  cases x with
  | none => rfl
  | some a => exact Leaf2.l2 a⟩
instance {α β : Type} {s : α → O} {t : β → O} [Leaf2 s] [Leaf2 t] : Leaf2 (oT2 s t) := ⟨fun p => by simp [oT2, leaf2, leaf2s, Leaf2.l2]⟩
instance {α β γ : Type} {s : α → O} {t : β → O} {u : γ → O} [Leaf2 s] [Leaf2 t] [Leaf2 u] : Leaf2 (oT3 s t u) := ⟨fun p => by simp [oT3, leaf2, leaf2s, Leaf2.l2]⟩
instance {κ α : Type} {ke : κ → Key} {e : α → D} [Flat2E e] : Leaf2 (oDk ke e) := ⟨fun d => by
  show (d.map fun p => e p.2).all flat2 = true
  rw [List.all_map, List.all_eq_true]
  intro p _
  exact Flat2E.f2 p.2⟩
class OwnO {α : Type} (s : α → O) : Prop where
  ow : ∀ a, isOwn (s a) = true
instance {α : Type} {s : α → O} : OwnO (oL s) := ⟨fun _ => rfl⟩
instance {κ α : Type} {ke : κ → Key} {e : α → D} : OwnO (oDk ke e) := ⟨fun _ => rfl⟩
class Nft {α : Type} (s : α → O) : Prop where
  nf : ∀ a, nft (s a) = true
instance {α : Type} {e : α → D} : Nft (oF e) := ⟨fun _ => rfl⟩
theorem nfts_of {α : Type} {s : α → O} (h : ∀ a, nft (s a) = true) : ∀ xs : List α, nfts (xs.map s) = true
  | [] => rfl
  | x :: xs => by simp [nfts, h x, nfts_of h xs]
instance {α : Type} {s : α → O} [Nft s] : Nft (oL s) := ⟨fun xs => nfts_of Nft.nf xs⟩
instance {κ α : Type} {ke : κ → Key} {e : α → D} : Nft (oDk ke e) := ⟨fun _ => rfl⟩
instance {α : Type} {s : α → O} [Nft s] : Nft (oO s) := ⟨fun x => by
  cases x with
  | none => rfl
  | some a => exact Nft.nf a⟩
instance {α β : Type} {s : α → O} {t : β → O} [OwnO t] [Nft s] [Nft t] : Nft (oT2 s t) := ⟨fun p => by simp [oT2, nft, nfts, Nft.nf, OwnO.ow]⟩
instance {α β : Type} {s : α → O} {t : β → O} [OwnO s] [Nft s] [Nft t] : Nft (oT2 s t) := ⟨fun p => by simp [oT2, nft, nfts, Nft.nf, OwnO.ow]⟩
instance {α β γ : Type} {s : α → O} {t : β → O} {u : γ → O} [OwnO u] [Nft s] [Nft t] [Nft u] : Nft (oT3 s t u) := ⟨fun p => by simp [oT3, nft, nfts, Nft.nf, OwnO.ow]⟩
section
variable {α β γ δ : Type} {ρ : Rho} {ga : DA}
theorem fq_toRs2 {sem : DF} {m : M γ} {o : γ → O} {as : List Ar} (hv : nftAs as = true) (hl : ∀ a, leaf2 (o a) = true) (h : FQ (sem (as.map Ar.d)) m o) : RQ (toRs2 as (sem (as.map Ar.d))) m (rO o) := by
  simp only [RQ_eq]
  cases m with
  | ok x =>
    have h : sem (as.map Ar.d) = .ok (o x) := h.out
    show toRs2 as (sem (as.map Ar.d)) = .ok (.ow (o x))
    rw [h]
    exact if_pos (by rw [hv, hl x]; rfl)
  | ex c =>
    have h : sem (as.map Ar.d) = .ex c := h.out
    show toRs2 as (sem (as.map Ar.d)) = .ex c
    rw [h]; rfl
  | bad => trivial
theorem rq_callV0 {sem : DF} {n : Nat} {m : M γ} {o : γ → O} {as : List Ar} {ds : List D} (ha : ga ρ = .ok as) (hn : as.length = n) (hd : as.map Ar.d = ds) (hv : nftAs as = true) (hl : ∀ a, leaf2 (o a) = true) (h : FQ (sem ds) m o) : RQ (callV sem n ga ρ) m (rO o) := by
  have : callV sem n ga ρ = toRs2 as (sem (as.map Ar.d)) := by unfold callV; rw [ha]; exact if_pos (by rw [hv, hn]; simp)
  rw [this]
  subst hd
  exact fq_toRs2 hv hl h
end
end DL
namespace DL
open PySem PySem.Spec PyProof.Rows
section
variable {prog : Program} {w : World} {A : Around} {E : Value → Shared → Prop} {s : Shared}
end
section
open L2
variable {X : Cx} {W : WX}
end
end DL
namespace DL
open PySem PySem.Spec L2
variable {K : PySem.W.Frag} {F F' H H' H0 F0 F1 H1 : Hp} {cs cs' : List Addr} {σ σ' : L2.St} {ρ ρ' : Rho}
def tupAt (ρ : Rho) (i : Nat) (p : List Nat) : Bool := match ρ[i]? with
  | some (some o) => match O.at p o with
    | some (.tup [_, _]) => true
    | _ => false
  | _ => false
theorem tupAt_rep {i : Nat} {p : List Nat} {v u : V} (R : RS K F0 H0 ρ F σ H cs) (h : tupAt ρ i p = true) (hv : σ[i]? = some (some v)) (hat : VAt K H p v u) : ∃ a w1 w2, u = .ref a ∧ H a = some (.tup [w1, w2]) := by
  unfold tupAt at h
  split at h
  · rename_i o eo
    split at h
    · rename_i o1 o2 es
      obtain ⟨v', u', c1, c2, c3, _, g2, g3, g4, _⟩ := R.putAt eo es
      rw [hv] at g2
      cases g2
      have : u' = u := g3.fun_ hat
      subst this
      obtain ⟨a, vs, c', e1, e2, e3, w1, r1, d1, d2, f1, f2, f3, w2, r2, d3, d4, g1, g2, g3, g4, g5⟩ := g4
      subst f1 g1 g4
      exact ⟨a, w1, w2, e1, e3⟩
    · cases h
  · cases h
section
variable {X : Cx} {W : WX} {pos : Pos} {a b c e : Expr} {fa fb fc fe : DE} {st : Stmt} {sts rest : List Stmt}
end
section
variable {α β A : Type} {s : α → O} {t : β → O}
end
end DL
namespace DL
open PySem PySem.Spec L2 PyProof.Rows
def spScrB (K : PySem.W.Frag) : Sp := fun vs H Q E => (∃ (a : Addr) (ns : List Int), vs = [.ref a] ∧ SqL K H a (ns.map V.int) ∧ ns.length ≤ 63 ∧ (∀ z ∈ ns, Builtin.Int.intBits z ≤ 1048576) ∧ ∀ H', Q (.bl true) H')
variable {P : Program} {w : World} {K : PySem.W.Frag} {mg : Str → Option Value} {base : Heap}
theorem fn_scrB {sem : DF} {k : Nat} {f : Addr} {fd : FuncData} {x : Str} (F : FnOk P w K mg base (L2.CX P w) k f fd [x] (spD K mg sem 1)) (h : ∀ ns : List Int, ns.length ≤ 63 → (∀ z ∈ ns, Builtin.Int.intBits z ≤ 1048576) → sem [scrD ns] = .ok (.fz (.bl true))) : FnOk P w K mg base (L2.CX P w) k f fd [x] (spScrB K) :=
  F.imp fun vs H Q E ⟨a, ns, e, s, l, hb, q⟩ => by
    subst e
    refine ⟨H, [scrD ns], rfl, Same.refl _, ⟨_, _, rfl, ⟨a, _, rfl, s, Reps.ints.mpr rfl⟩, rfl⟩, ?_⟩
    rw [h ns l hb]
    intro F' H' v cs' _ r _
    cases (show v = .bl true from r.2)
    exact q H'
def Sz (k : Nat) (i : Int) : Prop := i.natAbs < 2 ^ k
theorem sz_up {k m : Nat} {i : Int} (h : Sz k i) (l : k ≤ m) : Sz m i := Nat.lt_of_lt_of_le h (Nat.pow_le_pow_right (by decide) l)
theorem sz_log {k : Nat} {i : Int} (h : Sz k i) : i.natAbs.log2 ≤ k := by
  by_cases e : i.natAbs = 0
  · rw [e]; simp
  · exact Nat.le_of_lt ((Nat.log2_lt e).mpr h)
theorem sz_bits {z : Int} (h : Builtin.Int.intBits z ≤ 1048576) : Sz 1048576 z := by
  unfold Builtin.Int.intBits at h
  unfold Sz
  by_cases e : z = 0
  · subst e
    exact Nat.two_pow_pos _
  · rw [if_neg (by simpa using e)] at h
    have h0 : z.natAbs ≠ 0 := by omega
    exact (Nat.log2_lt h0).mp (by omega)
theorem sz_small {i : Int} (h : -18446744073709551616 < i) (h2 : i < 18446744073709551616) : Sz 64 i := by
  show i.natAbs < 18446744073709551616
  omega
theorem mulM_sz {k m : Nat} {i j : Int} (h : Sz k i) (h2 : Sz m j) (l : k + m < 100000000) : mulM i j = .ok (i * j) := by
  refine if_pos ?_
  unfold okMul
  have a := sz_log h
  have b := sz_log h2
  rw [decide_eq_true (show i.natAbs.log2 + j.natAbs.log2 < 100000000 by omega), Bool.or_true]
end DL
namespace DL
open PySem PySem.Spec L2
variable {K : PySem.W.Frag} {F F' H H' H0 F0 F1 H1 : Hp} {cs cs' : List Addr} {σ : St} {ρ : Rho}
section
variable {X : Cx} {W : WX} {pos : Pos} {e : Expr} {fe : DE}
end
section
variable {α : Type} {s : α → O} {e : α → D} {fe : DE} {m : M (List α)}
end
end DL
namespace DL
open PySem PySem.Spec L2 PyProof.Rows
section
variable {X : Cx} {W : WX} {K : PySem.W.Frag}
end
end DL
namespace DL
open PySem PySem.Spec L2 PyProof.Rows
section
variable {X : Cx}
end
variable {K : PySem.W.Frag} {F F' H H' H0 F0 F1 H1 : Hp} {cs cs' : List Addr} {σ σ' : L2.St} {ρ ρ' : Rho} {α κ : Type} [DecidableEq κ]
section
variable {X : Cx} {W : WX}
@[simp] def gSortDX : List Ar → Rs := fun as => match as with
  | [a] => match a.d with
    | .dK ks _ => match intKs ks with
      | some ns => .ok (.ow (.lst (((sortI ns).map D.int).map .fz)))
      | none => .bad
    | _ => .bad
  | _ => .bad
theorem dk_cell {c c' : List Addr} {a : Addr} {ks : List Key} {ds : List D} {us : List V} {Q : VK} {w : V} (l : ks.length = us.length) (r : Reps K F ds us)
    (k : ∀ H2 w c2, (∀ b, b ∉ [a] → H b ≠ none → H2 b = H b) → ORep K F H2 (.dK ks ds) (.ref a) c2 → c2.Nodup → (∀ b ∈ c2, b ∈ [a] ++ c') → Q w H2) : Q w (upd H a (.dK (ks.zip us))) :=
  k _ w [a] (fun b hb hn => upd_ne fun e => hb (by rw [e]; exact List.mem_cons_self)) ⟨a, us, rfl, rfl, upd_same, l, r⟩ (by simp) (fun b hb => by simp at hb; simp [hb])
def rDSetd : V → List V → Hp → VK → Prop := fun x vs H Q => ∃ (a : Addr) (kvs : List (Key × V)) (k : Key) (z : V), x = .ref a ∧ vs = [kV k, z] ∧ H a = some (.dK kvs) ∧ kvs.length < sizeLine ∧
  (∀ v, valV kvs k = some v → Q v H) ∧ (valV kvs k = none → Q z (upd H a (.dK (putK kvs k z))))
theorem mt_dsetd : MtR X "dict.setdefault" rDSetd := by
  intro pins s σ H x vs v us Q I rx rv h
  obtain ⟨a, kvs, k, z, rfl, rfl, hH, hz, q1, q2⟩ := h
  cases rx
  obtain ⟨u1, u2, rfl, r1, r2⟩ := rv.two
  exact d_setd I hH r1 r2 hz (fun v hv w' s4 I4 rw' => ⟨v, _, I4, rw', q1 v hv⟩) fun hn w' s4 I4 rw' => ⟨z, _, I4, rw', q2 hn⟩
def gSetd : GMt
  | .dK ks ds, [.fz y, .fz d] => match keyD y with
    | some k => if ks.length < lim then (match look ks ds k with
      | some _ => some (.dK ks ds)
      | none => some (.dK (putD ks ds k d).1 (putD ks ds k d).2)) else none
    | none => none
  | _, _ => none
theorem mtt_dsetd : MtT X rDSetd gSetd := by
  intro F H s s' as u vs c c' Q fh rs ra nd cf eg k
  unfold gSetd at eg
  split at eg
  · rename_i ks ds y d
    split at eg
    · rename_i ky ek
      split at eg
      · rename_i hh
        obtain ⟨a, ys, e1, e2, e3, l, q⟩ := rs
        obtain ⟨v1, r1, d1, d2, f1, f2, f3, f4⟩ := ra
        obtain ⟨v2, r2, d3, d4, f5, f6, f7, f8, f9⟩ := f4
        obtain ⟨g1, g2⟩ := f3
        obtain ⟨g3, g4⟩ := f7
        subst e1 e2 f1 f2 f5 f6 f8 f9 g1 g3
        have hv := keyD_v g2 ek
        subst hv
        have hz : (ks.zip ys).length < sizeLine := by
          rw [List.length_zip, ← l, ← lim_eq, Nat.min_self]
          exact hh
        rcases look_val q l (k := ky) with ⟨h1, h2⟩ | ⟨d0, v0, h1, h2, h3⟩
        · rw [h1] at eg
          cases eg
          refine ⟨a, _, ky, v2, rfl, rfl, e3, hz, fun v hv => ?_, fun _ => ?_⟩
          · rw [h2] at hv; cases hv
          · obtain ⟨us, m1, m2, m3⟩ := put_zip (k := ky) l q g4
            rw [m1]
            exact dk_cell (K := X.K) (F := F) (c := []) m2 m3 k
        · rw [h1] at eg
          cases eg
          refine ⟨a, _, ky, v2, rfl, rfl, e3, hz, fun v hv => ?_, fun hn => ?_⟩
          · exact k H v [a] (fun _ _ _ => rfl) ⟨a, ys, rfl, rfl, e3, l, q⟩ (by simp) (fun b hb => by simp at hb; simp [hb])
          · rw [h2] at hn; cases hn
      · cases eg
    · cases eg
  · cases eg
def setdM (d : Dc κ α) (k : κ) (v : α) : M (Dc κ α) := if d.length < lim then .ok (if (dg d k).isSome then d else dp d k v) else .bad
theorem gq_dsetd {ke : κ → Key} [Inj ke] {f : κ → D} [KeyE ke f] {t : α → D} {y : κ} {v : α} : GQ gSetd (oDk ke t) [oF f y, oF t v] (fun xs => setdM xs y v) := by
  refine ⟨fun y c e => ?_, fun x x' e => ?_⟩
  · unfold setdM at e
    dsimp only at e
    split at e <;> cases e
  · unfold setdM at e
    dsimp only at e
    split at e
    · rename_i h
      cases e
      show gSetd (.dK (x.map fun p => ke p.1) (x.map fun p => t p.2)) [.fz (f y), .fz (t v)] = _
      unfold gSetd
      dsimp only
      rw [KeyE.kd (ke := ke)]
      dsimp only
      rw [if_pos (by simpa using h), look_dg (ke := ke)]
      cases hd : dg x y with
      | none =>
        rw [putD_dp]
        rfl
      | some z => rfl
    · cases e
end
end DL
namespace DL
open PySem PySem.Spec L2
section
variable {P : Program} {w : World} {K : PySem.W.Frag} {mg : Str → Option Value} {base : Heap}
end
end DL
namespace DL
open PySem PySem.Spec L2
namespace PL
def hd (game : List Row) (a : Int) : Int := (getZ game a).1
def rk (game : List Row) (a : Int) : Int := (getZ game a).2.1
inductive Tr (R : Int → Int → Prop) (a : Int) : Int → Prop where
  | one {b : Int} : R a b → Tr R a b
  | more {b c : Int} : Tr R a b → R b c → Tr R a c
section
variable {R S : Int → Int → Prop} {a b c : Int}
theorem Tr.mono (h : ∀ x y, R x y → S x y) : ∀ {b}, Tr R a b → Tr S a b
  | _, .one r => .one (h _ _ r)
  | _, .more t r => .more (Tr.mono h t) (h _ _ r)
theorem Tr.first : ∀ {b}, Tr R a b → ∃ c, R a c
  | _, .one r => ⟨_, r⟩
  | _, .more t _ => t.first
theorem Tr.trans (t : Tr R a b) : ∀ {c}, Tr R b c → Tr R a c
  | _, .one r => .more t r
  | _, .more u r => .more (Tr.trans t u) r
end
abbrev Told := Int → Option (Int × Option Int)
section
variable {game : List Row} {P : Int → Prop} {T : Told} {h : Int}
structure Att (game : List Row) (L : Int → Prop) (i : Int) (G : Int → Prop) (dp : Int → Int) : Prop where
  ge : ∀ a, -1 ≤ dp a
  in_ : ∀ a, 0 ≤ dp a → L a
  goal : ∀ a, L a → (dp a = 0 ↔ G a)
  own : ∀ a, 0 < dp a → hd game a = i → ∃ w ∈ wy game a, 0 ≤ dp w ∧ dp w < dp a
  oth : ∀ a, 0 < dp a → hd game a ≠ i → ∀ w ∈ wy game a, L w → 0 ≤ dp w ∧ dp w < dp a
  stay1 : ∀ a, L a → dp a < 0 → hd game a = i → ∀ w ∈ wy game a, L w → dp w < 0
  stay2 : ∀ a, L a → dp a < 0 → hd game a ≠ i → (∃ w ∈ wy game a, L w) → ∃ w ∈ wy game a, L w ∧ dp w < 0
end
end PL
end DL
namespace DL
open PySem PySem.Spec L2
namespace PL
section
variable {game : List Row} {hand : Int} {part : Int → Bool} {layer : List Int} {ls : List (List Int)}
theorem Att.congr {L L' G G' : Int → Prop} {i : Int} {d : Int → Int} (A : Att game L i G d) (h : ∀ a, L a ↔ L' a) (g : ∀ a, L a → (G a ↔ G' a)) : Att game L' i G' d := by
  have e : L = L' := funext fun a => propext (h a)
  subst e
  exact ⟨A.ge, A.in_, fun a ha => (A.goal a ha).trans (g a ha), A.own, A.oth, A.stay1, A.stay2⟩
end
section
variable {κ α : Type} [DecidableEq κ]
end
end PL
end DL
namespace DL
open PySem PySem.Spec L2
namespace PL
section
variable {N : Nat} {nl : Int → List Int} {ok : Int → Bool} {V : Int → Prop} {NX : Int → M (List Int)} {OKM : Int → M Bool} {p : Int}
end
end PL
end DL
namespace DL
open PySem PySem.Spec L2
namespace PL
section
variable {game : List Row} {T : Told}
end
end PL
end DL
namespace DL
open PySem PySem.Spec L2
variable {K : PySem.W.Frag} {F F' H H' H0 F0 F1 H1 : Hp} {cs cs' : List Addr} {σ σ' : L2.St} {ρ ρ' : Rho} {α : Type}
section
variable {X : Cx} {W : WX}
@[simp] def gListD : List Ar → Rs := fun as => match as with
  | [a] => match a.d with
    | .dK ks _ => match intKs ks with
      | some ns => .ok (.ow (.lst ((ns.map D.int).map .fz)))
      | none => .bad
    | _ => .bad
  | _ => .bad
end
end DL
namespace DL
open PySem PySem.Spec L2
namespace PL
section
variable {f : Int → Int} {W : Int → Prop} {a : Int} {n : Nat}
theorem pigeon {g : Nat → Int} (h : ∀ k, k ≤ n → 0 ≤ g k ∧ g k < (n : Int)) : ∃ i j, i < j ∧ j ≤ n ∧ g i = g j := by
  refine Classical.byContradiction fun hn => ?_
  have nd : ((List.range (n + 1)).map g).Nodup := by
    unfold List.Nodup
    rw [List.pairwise_map]
    refine List.Pairwise.imp_of_mem (R := fun a b => a < b) (fun {i j} hi hj hlt e => hn ⟨i, j, hlt, ?_, e⟩) List.pairwise_lt_range
    have := List.mem_range.mp hj
    omega
  have := nodup_len (n := n) nd fun x hx => by
    obtain ⟨k, hk, rfl⟩ := List.mem_map.mp hx
    have := List.mem_range.mp hk
    exact h k (by omega)
  rw [List.length_map, List.length_range] at this
  omega
end
section
variable {game : List Row} {T : Told}
end
end PL
end DL
namespace DL
open PySem PySem.Spec L2
namespace PL
def Chn (E : Int → Int → Prop) (l : List Int) : Prop := ∀ i (h : i + 1 < l.length), E (l[i]'(by omega)) l[i + 1]
section
variable {E : Int → Int → Prop}
theorem Chn.take {l : List Int} (h : Chn E l) (n : Nat) : Chn E (l.take n) := fun i hi => by
  rw [List.length_take] at hi
  rw [List.getElem_take, List.getElem_take]
  exact h i (by omega)
theorem Chn.drop {l : List Int} (h : Chn E l) (n : Nat) : Chn E (l.drop n) := fun i hi => by
  rw [List.length_drop] at hi
  rw [List.getElem_drop, List.getElem_drop]
  exact h (n + i) (by omega)
theorem Chn.snoc {l : List Int} {x : Int} (h : Chn E l) (hx : ∀ h : 0 < l.length, E (l[l.length - 1]'(by omega)) x) : Chn E (l ++ [x]) := fun i hi => by
  rw [List.length_append, List.length_singleton] at hi
  by_cases hc : i + 1 < l.length
  · rw [List.getElem_append_left (by omega), List.getElem_append_left hc]
    exact h i hc
  · have : i + 1 = l.length := by omega
    have e1 : (l ++ [x])[i + 1]'(by simp; omega) = x := by
      rw [List.getElem_append_right (by omega)]
      simp
    rw [e1, List.getElem_append_left (by omega)]
    have := hx (by omega)
    have e2 : i = l.length - 1 := by omega
    subst e2
    exact this
end
end PL
end DL
namespace DL
open PySem PySem.Spec L2 PyProof.Rows
section
variable {X : Cx} {W : WX} {e : Expr} {te : TE} {fe : DE} {p apos cpos pos : Pos}
theorem tups_laid {pins : List (Addr × Obj)} {σ : L2.St} {H : Hp} {s : Shared} {h' : Heap} {tk : Nat} {kvs : List (Key × V)} {vs : List (Key × Value)} {as : List Addr} (I : Inv X pins σ H s) (kv : KV kvs vs)
    (hk : ∀ b o, s.heap.get? b = some o → h'.get? b = some o) (hl : as.length = vs.length) (hG : PySem.W.KdxG (mixKind X.prog X.w) vs s.heap.objs.size h' as) :
    (∀ b o, H b = some o → LiI.putT H as kvs b = some o) ∧ (∀ t ∈ as, H t = none) ∧ Paired (fun (t : Addr) (q : Key × V) => LiI.putT H as kvs t = some (.tup [kV q.1, q.2])) as kvs ∧ Inv X pins σ (LiI.putT H as kvs) { s with heap := h', toks := tk } := by
  have lk : kvs.length = vs.length := Paired.length kv
  have nd : as.Nodup := List.Pairwise.imp (fun {a b} (h : a < b) => Nat.ne_of_lt h) hG.rise
  have new : ∀ t ∈ as, H t = none := fun t ht => I.hok.fresh (Nat.le_of_lt (hG.above t ht))
  have atP := LiI.putT_at as kvs H (by omega) nd
  have off : ∀ b, b ∉ as → LiI.putT H as kvs b = H b := fun b h1 => LiI.putT_off as kvs _ h1
  have low : ∀ b o, s.heap.get? b = some o → b ∉ as := fun b o e z => absurd (Heap.lt_size e) (Nat.not_lt.mpr (Nat.le_of_lt (hG.above b z)))
  have kp : ∀ b u, H b = some u → LiI.putT H as kvs b = some u := fun b u e => by
    rw [off b (fun z => by rw [new b z] at e; cases e)]
    exact e
  refine ⟨kp, new, atP, ?_⟩
  refine I.call' (ch := []) rfl ⟨fun b o q _ _ _ => hk b o q, fun b o q _ _ _ => ⟨o.slots, hk b o q⟩, fun b o q n _ => ?_, fun b o q _ => ⟨o, hk b o q⟩, fun b xs q => kp b _ q, fun b o u q => kp b _ q, fun b ps q => ⟨#[], by rw [kp b _ q]; simp⟩⟩ (fun b u q => ?_) I.bare fun b z => by simp at z
  · rw [off b (low b o q)]
    exact n
  · by_cases hb : b ∈ as
    · obtain ⟨j, pk, e1, e2, e3⟩ := LiI.paired_ix atP hb
      rw [e3] at q
      cases q
      obtain ⟨key, k, x, f1, f2, f3⟩ := hG.pairs j b e1
      obtain ⟨qv, g1, g2, g3⟩ := LiI.paired_get kv e2
      rw [f1] at g1
      cases g1
      have rk : RelV (kV pk.1) key := by
        rw [g2]
        exact relV_key (show keyIs k key = true from f2)
      exact ⟨by show 2 ≤ sizeLine; decide, [key, x], .cons rk (.cons g3 .nil), ⟨_, f3, rfl, _, rfl⟩⟩
    · rw [off b hb] at q
      exact (I.hok b u q).stay (fun d v _ y => hk d v y) (fun d y => kp d _ y) fun d xs y => kp d _ y
def itK (ps : List (Int × Int)) : List (Key × V) := ps.map fun p => (Sum.inl p.1, V.int p.2)
def rSortItems : V → Hp → VK → Prop := fun x H Q => ∃ (d : Addr) (ps : List (Int × Int)), x = .ref d ∧ Rd H d (.dK (itK ps)) ∧
  ∀ (H' : Hp) (B : Addr) (ts : List Addr) (ys : List V), (∀ b o, H b = some o → H' b = some o) → H B = none → (∀ t ∈ ts, H t = none) → B ∉ ts → H' B = some (.lst ys) →
    Paired (fun (y : V) (q : Int × Int) => ∃ t ∈ ts, y = .ref t ∧ H' t = some (.tup [.int q.1, .int q.2])) ys (sortP ps) → Q (.ref B) H'
def tSortItems (te : TE) : TE := fun σ H Q => te σ H fun x H1 => rSortItems x H1 Q
open Classical in
theorem pe_sortItems (hc : X.calm = true) (he : PE X e te) (hg : Gl X "sorted") (hm : X.mg "sorted" = none) (hv : bootBuiltins "sorted" = some (.builtin "sorted")) (hbase : attributeBase e "items" X.env (eval e X.env) = eval e X.env := by rfl) (hline : (apos.endLine == cpos.line) = true := by rfl)
    (hs : starEach [.Call (.Attribute e "items" apos) [] [] cpos] X.env = (false, eval (.Call (.Attribute e "items" apos) [] [] cpos) X.env) :: starEach [] X.env := by rfl) :
    PE X (.Call (.Name "sorted" p) [.Call (.Attribute e "items" apos) [] [] cpos] [] pos) (tSortItems te) := by
  refine ⟨fun pins s σ H Q I hq => ?_⟩
  refine wpAny_Call_Name_kw (ld_blt I hg hm hv ?_)
  rw [hs]
  refine Calls.callWith_builtin rfl (Calls.evalArgs_plain ?_)
  show wpAny _ _ (spliced ((false, eval (.Call (.Attribute e "items" apos) [] [] cpos) X.env) :: backTo pos (starEach [] X.env))) _ _ s
  refine Calls.spliced_cons ?_
  refine wpAny_Call_method (T := "dict") (id := "dict.items") hbase rfl hline F.plainAttrs_dict F.slot_dict_items F.type_dict_items (thn (he.run pins s σ H _ I hq) fun u s1 ⟨x, H1, I1, rx, d, ps, ex, hd, q⟩ => ?_)
  subst ex
  obtain rfl : u = Value.ref d := rx
  obtain ⟨hz, hs0, vs, kv, hdo⟩ := dk_rd I1.hok hd
  obtain ⟨ep, hat⟩ := hdo.dictAt
  have lk : (itK ps).length = vs.length := Paired.length kv
  have lp : (itK ps).length = ps.length := List.length_map ..
  have I2 : Inv X pins σ H1 { s1 with heap := s1.heap.push { cls := .type "dict_items", data := .fields #[.ref d] } } := I1.kept (t' := s1.toks) fun b ob q => Heap.get?_push_of_some _ q
  refine ⟨hdo.typeIs, hdo.mapOf.noDict, ?_⟩
  show wpAny _ _ (callWith cpos (.builtin "dict.items") [.ref d] [] []) _ X.xe s1
  refine method_meetsIn F.slot_dict_items F.entry_dict_items rfl (PySem.evalArgs_none ⟨rfl, hdo.typeIs, F.args_dict_items_1 _, _, meets_dict_items (mixKind X.prog X.w) d hs0, ⟨vs, hdo⟩, ?_⟩)
  refine Calls.spliced_nil ?_
  refine Calls.call_function_entry kind_sorted plain_sorted entry_sorted (args_sorted1 _) ?_
  unfold Builtin.«sorted»
  refine wpAny_bind (m := checkCount "sorted" 1 1 _) (wpAny_pure ?_)
  refine wpAny_bind (PySem.W.kdx_collect (A := X.A.in1) (knd := mixKind X.prog X.w) (kvs := vs) (ep := ep) (I1.ok.hd hc) ⟨_, Heap.get?_push_size _ rfl, rfl, rfl⟩ (hat.push _) (by omega) fun h' tk as hk hl hG => ?_)
  obtain ⟨k1, k2, k3, J⟩ := tups_laid (tk := tk) I2 kv hk hl hG
  have vline : (as.map Value.ref).length ≤ sizeLine := by rw [List.length_map, hl]; omega
  refine wpAny_bind (wpAny_newList ?_ vline)
  have hoL : (h'.push (seqObj "list" (as.map Value.ref).toArray 0)).get? h'.objs.size = some (seqObj "list" (as.map Value.ref).toArray 0) := Heap.get?_push_size _ rfl
  have isp : ∀ v ∈ as.map Value.ref, ∃ i j, Srt.IsPair h' v i j := fun v hv => by
    obtain ⟨a, ha, rfl⟩ := List.mem_map.mp hv
    obtain ⟨j, pk, e1, e2, e3⟩ := LiI.paired_ix k3 ha
    obtain ⟨key, k, x, f1, f2, f3⟩ := hG.pairs j a e1
    obtain ⟨qv, g1, g2, g3⟩ := LiI.paired_get kv e2
    rw [f1] at g1
    cases g1
    obtain ⟨q0, hq0, rfl⟩ : ∃ q0 : Int × Int, ps[j]? = some q0 ∧ pk = (Sum.inl q0.1, V.int q0.2) := by
      unfold itK at e2
      rw [List.getElem?_map] at e2
      cases hp : ps[j]? with
      | none => rw [hp] at e2; cases e2
      | some q0 => rw [hp] at e2; exact ⟨q0, rfl, (Option.some.inj e2).symm⟩
    have rk : RelV (kV (Sum.inl q0.1)) key := by
      rw [show (Sum.inl q0.1 : Key) = k from g2]
      exact relV_key (show keyIs k key = true from f2)
    obtain ⟨t1, rfl⟩ := rk
    obtain ⟨t2, rfl⟩ := (g3 : RelV (V.int q0.2) x)
    exact ⟨q0.1, q0.2, a, _, t1, t2, _, rfl, f3, rfl, rfl⟩
  let k : Value → Int × Int := fun v => if h : ∃ q : Int × Int, Srt.IsPair h' v q.1 q.2 then h.choose else (0, 0)
  have hkp : ∀ v ∈ as.map Value.ref, Srt.IsPair h' v (k v).1 (k v).2 := fun v hv => by
    obtain ⟨i, j, hp⟩ := isp v hv
    have h2 : ∃ q : Int × Int, Srt.IsPair h' v q.1 q.2 := ⟨(i, j), hp⟩
    show Srt.IsPair h' v (if h : ∃ q : Int × Int, Srt.IsPair h' v q.1 q.2 then h.choose else (0, 0)).1 (if h : ∃ q : Int × Int, Srt.IsPair h' v q.1 q.2 then h.choose else (0, 0)).2
    rw [dif_pos h2]
    exact h2.choose_spec
  have uniq : ∀ {v i j i' j'}, Srt.IsPair h' v i j → Srt.IsPair h' v i' j' → i = i' ∧ j = j' := fun p1 p2 => by
    obtain ⟨a, o, t, u, n, rfl, ho, hc, hd⟩ := p1
    obtain ⟨a', o', t', u', n', e', ho', hc', hd'⟩ := p2
    cases e'
    rw [ho] at ho'
    cases ho'
    rw [hd] at hd'
    injection hd' with h1 h2
    have := congrArg Array.toList h1
    injection this with h3 h4
    injection h4 with h4 h5
    injection h3 with h3 h6
    injection h4 with h4 h7
    exact ⟨h3, h4⟩
  have ksOf : (as.map Value.ref).map k = ps := by
    refine List.ext_getElem? fun j => ?_
    rw [List.getElem?_map, List.getElem?_map]
    cases ea : as[j]? with
    | none =>
      have : as.length ≤ j := List.getElem?_eq_none_iff.mp ea
      have : ps[j]? = none := List.getElem?_eq_none_iff.mpr (by omega)
      rw [this]
      rfl
    | some a =>
      obtain ⟨pk, e2, e3⟩ := LiI.paired_get k3 ea
      unfold itK at e2
      rw [List.getElem?_map] at e2
      cases hp : ps[j]? with
      | none => rw [hp] at e2; cases e2
      | some q0 =>
        rw [hp] at e2
        obtain rfl : pk = (Sum.inl q0.1, V.int q0.2) := (Option.some.inj e2).symm
        obtain ⟨key, k', x, f1, f2, f3⟩ := hG.pairs j a ea
        have e4 : (itK ps)[j]? = some (Sum.inl q0.1, V.int q0.2) := by unfold itK; rw [List.getElem?_map, hp]; rfl
        obtain ⟨qv, g1, g2, g3⟩ := LiI.paired_get kv e4
        rw [f1] at g1
        cases g1
        have rk : RelV (kV (Sum.inl q0.1)) key := by
          rw [show (Sum.inl q0.1 : Key) = k' from g2]
          exact relV_key (show keyIs k' key = true from f2)
        obtain ⟨t1, rfl⟩ := rk
        obtain ⟨t2, rfl⟩ := (g3 : RelV (V.int q0.2) x)
        have hm : Value.ref a ∈ as.map Value.ref := List.mem_map.mpr ⟨a, List.mem_of_getElem? ea, rfl⟩
        obtain ⟨u1, u2⟩ := uniq (hkp _ hm) ⟨a, _, t1, t2, _, rfl, f3, rfl, rfl⟩
        show some (k (.ref a)) = some q0
        rw [show k (.ref a) = q0 from Prod.ext u1 u2]
  have keep1 : ∀ b o, h'.get? b = some o → (h'.push (seqObj "list" (as.map Value.ref).toArray 0)).get? b = some o := fun b o q => Heap.get?_push_of_some _ q
  refine wpAny_bind (wpAny_holding (wpAny_call_entry slot_list_sort ⟨_, hoL, rfl⟩ entry_list_sort (SrtO.list_sort_ord (SrtO.swo_lex k) hoL vline (fun two => SrtO.pairs_sortableO (k := k) (by omega) (fun v hv => (hkp v hv).keeps fun b o e _ => keep1 b o e) fun o e => ?_) fun out s1' s2' => ⟨_, rfl, ?_⟩) (args_list_sort _)))
  · rw [hoL] at e
    cases e
    exact fun c => absurd (Value.type.inj c) (by decide)
  · obtain ⟨c, hcc⟩ := sortedHeap_at (vs := as.map Value.ref) (out := out.toArray) hoL
    have pm := s2'.perm
    have old : ∀ b u, h'.get? b = some u → (sortedHeap (h'.push (seqObj "list" (as.map Value.ref).toArray 0)) h'.objs.size (as.map Value.ref) out.toArray).get? b = some u := fun b u e => by
      have lt := Heap.lt_size e
      rw [sortedHeap_old (Nat.ne_of_lt lt) (by rw [size_push']; exact Nat.lt_succ_of_lt lt)]
      exact Heap.get?_push_of_some _ e
    have outr : ∀ v ∈ out, ∃ a ∈ as, v = .ref a := fun v hv => by
      obtain ⟨a, ha, e⟩ := List.mem_map.mp (pm.mem_iff.mp hv)
      exact ⟨a, ha, e.symm⟩
    have room : (out.map backV).length ≤ sizeLine := by rw [List.length_map, pm.length_eq]; exact vline
    have free : LiI.putT H1 as (itK ps) h'.objs.size = none := J.hok.fresh (Nat.le_refl _)
    have I3 := J.laid (t' := tk) old (Nat.le_refl _) (show ObjOk X.prog X.w _ _ _ (.lst (out.map backV)) from ⟨room, out.toArray.toList, c, vals_back (fun v hv => let ⟨a, _, e⟩ := outr v hv; ⟨a, e⟩), by rw [Array.toArray_toList]; exact hcc⟩)
    refine wpAny_pure ⟨_, rfl, .ref h'.objs.size, _, I3, rfl, q _ _ as (out.map backV) (fun b o e => ?_) ?_ k2 ?_ upd_same ?_⟩
    · have := k1 b o e
      rw [upd_ne (fun z => by rw [z, free] at this; cases this)]
      exact this
    · cases z : H1 h'.objs.size with
      | none => rfl
      | some o => have := k1 _ o z; rw [free] at this; cases this
    · intro hB
      obtain ⟨j, pk, e1, e2, e3⟩ := LiI.paired_ix k3 hB
      rw [free] at e3
      cases e3
    · have e1 : sortP ps = out.map k := by
        refine (sortP_uniq ?_ ?_ (sortP_sorted ps)).symm
        · have := pm.map k
          rw [ksOf] at this
          exact this.trans (sortP_perm ps).symm
        · refine List.pairwise_map.mpr (s1'.imp fun {x y} h => ?_)
          have := SrtO.lexB_no.mp h
          unfold leP
          omega
      rw [e1]
      have mk : ∀ xs : List Value, (∀ v ∈ xs, v ∈ out) → Paired (fun (y : V) (q : Int × Int) => ∃ t ∈ as, y = .ref t ∧ upd (LiI.putT H1 as (itK ps)) h'.objs.size (.lst (out.map backV)) t = some (.tup [.int q.1, .int q.2])) (xs.map backV) (xs.map k) := by
        intro xs
        induction xs with
        | nil => intro _; exact .nil
        | cons v xs ih =>
          intro hsub
          refine .cons ?_ (ih fun u hu => hsub u (List.mem_cons_of_mem _ hu))
          obtain ⟨a, ha, rfl⟩ := outr v (hsub v List.mem_cons_self)
          refine ⟨a, ha, rfl, ?_⟩
          obtain ⟨j, pk, e1, e2, e3⟩ := LiI.paired_ix k3 ha
          rw [upd_ne (fun z => by rw [z, free] at e3; cases e3), e3]
          unfold itK at e2
          rw [List.getElem?_map] at e2
          cases hp : ps[j]? with
          | none => rw [hp] at e2; cases e2
          | some q0 =>
            rw [hp] at e2
            obtain rfl : pk = (Sum.inl q0.1, V.int q0.2) := (Option.some.inj e2).symm
            have : k (.ref a) = q0 := by
              have h1 : ((as.map Value.ref).map k)[j]? = some (k (.ref a)) := by rw [List.getElem?_map, List.getElem?_map, e1]; rfl
              rw [ksOf, hp] at h1
              exact (Option.some.inj h1).symm
            rw [this]
            rfl
      exact mk out fun v hv => hv
variable {K : PySem.W.Frag} {F F' H H' H0 F0 F1 H1 : Hp} {cs cs' : List Addr} {σ σ' : L2.St} {ρ ρ' : Rho}
def intsV : List D → Option (List Int)
  | [] => some []
  | .int i :: ds => match intsV ds with
    | some is => some (i :: is)
    | none => none
  | _ :: _ => none
theorem intsV_map : ∀ ns : List Int, intsV (ns.map D.int) = some ns
  | [] => rfl
  | n :: ns => by rw [List.map_cons, intsV, intsV_map ns]
theorem intsV_eq : ∀ {ds : List D} {ns : List Int}, intsV ds = some ns → ds = ns.map D.int
  | [], ns, h => by cases h; rfl
  | .int i :: ds, ns, h => by
    unfold intsV at h
    cases q : intsV ds with
    | none => rw [q] at h; cases h
    | some is => rw [q] at h; cases h; rw [List.map_cons, ← intsV_eq q]
  | .non :: _, _, h => by cases h
  | .bl _ :: _, _, h => by cases h
  | .str _ :: _, _, h => by cases h
  | .lst _ :: _, _, h => by cases h
  | .tup _ :: _, _, h => by cases h
  | .dK _ _ :: _, _, h => by cases h
  | .dT _ _ :: _, _, h => by cases h
  | .exc _ :: _, _, h => by cases h
  | .at _ :: _, _, h => by cases h
def gSortIt (a : Ar) : Rs := match a.d with
  | .dK ks vs => match intKs ks, intsV vs with
    | some ns, some ms => if ns.length = ms.length then .ok (.ow (.lst (((sortP (ns.zip ms)).map pD).map .fz))) else .bad
    | _, _ => .bad
  | _ => .bad
theorem itK_zip : ∀ {ns ms : List Int}, itK (ns.zip ms) = (ns.map (Sum.inl : Int → Key)).zip (ms.map V.int)
  | [], _ => rfl
  | _ :: _, [] => rfl
  | n :: ns, m :: ms => by
    rw [List.zip_cons_cons, List.map_cons, List.map_cons, List.zip_cons_cons, ← itK_zip]
    rfl
theorem reps_pairs {ts : List Addr} {F' : Hp} : ∀ {ys : List V} {qs : List (Int × Int)}, Paired (fun (y : V) (q : Int × Int) => ∃ t ∈ ts, y = .ref t ∧ F' t = some (.tup [.int q.1, .int q.2])) ys qs → Reps K F' (qs.map pD) ys
  | _, _, .nil => rfl
  | _, _, .cons ⟨t, _, e, h⟩ r => ⟨_, _, rfl, by subst e; exact ⟨t, _, rfl, h, _, _, rfl, rfl, _, _, rfl, rfl, rfl⟩, reps_pairs r⟩
theorem paired_mono {α β : Type} {R S : α → β → Prop} (h : ∀ x y, R x y → S x y) : ∀ {xs : List α} {ys : List β}, Paired R xs ys → Paired S xs ys
  | _, _, .nil => .nil
  | _, _, .cons r t => .cons (h _ _ r) (paired_mono h t)
theorem ge_sortItems (hc : X.calm = true) (hm : X.mg "sorted" = none) (he : GE X W e fe) (hg : Gl X "sorted" := by rfl) (hbase : attributeBase e "items" X.env (eval e X.env) = eval e X.env := by rfl) (hline : (apos.endLine == cpos.line) = true := by rfl)
    (hs : starEach [.Call (.Attribute e "items" apos) [] [] cpos] X.env = (false, eval (.Call (.Attribute e "items" apos) [] [] cpos) X.env) :: starEach [] X.env := by rfl) :
    GE X W (.Call (.Name "sorted" p) [.Call (.Attribute e "items" apos) [] [] cpos] [] pos) (un gSortIt fe) := by
  refine PE.imp (pe_sortItems hc he hg hm (by decide +kernel) hbase hline hs) fun σ H Q ⟨F0, H0, ρ, F, cs, R, q⟩ => ?_
  have p1 := post_bind R.fh q
  refine ⟨F0, H0, ρ, F, cs, R, ?_⟩
  cases qa : fe ρ with
  | bad => rw [qa] at p1; exact p1.elim
  | ex c => rw [qa] at p1; exact p1
  | ok a =>
    intro F1 H1 v c1 e1 r1 n1
    have p2 : post X W (gSortIt a) σ F1 H1 Q := post_ext e1 (by have := q; unfold un at this; rw [qa] at this; exact this)
    have rv := r1.view e1.fh
    unfold gSortIt at p2
    split at p2
    · rename_i ks vs ed
      rw [ed] at rv
      obtain ⟨u, ws, rfl, h1, h2, h3⟩ := rv
      split at p2
      · rename_i ns ms en em
        split at p2
        · rename_i hl
          rw [intsV_eq em] at h3
          have hw := Reps.ints.mp h3
          subst hw
          have hk := intKs_eq en
          subst hk
          rw [← itK_zip] at h1
          refine ⟨u, ns.zip ms, rfl, h1, fun H' B ts ys k1 k2 k3 k4 k5 k6 => ?_⟩
          have f0 : ∀ t ∈ ts, F1 t = none := fun t ht => e1.fh.free (k3 t ht)
          have same : Same F1 (DL.shut F1 H' ts) := same_shut f0
          have hh : Same H1 H' := fun a o q => k1 a o q
          refine p2 (DL.shut F1 H' ts) H' (.ref B) [B] ⟨hh, same, shut_same (e1.fh.trans hh), fun a h => shut_out fun hc => h (k3 a hc)⟩ ⟨B, ys, [], rfl, rfl, k5, OReps.fz (reps_pairs (ts := ts) (paired_mono (fun y q ⟨t, ht, e, g⟩ => ⟨t, ht, e, by rw [shut_in ht]; exact g⟩) k6))⟩ ⟨by simp, fun b hb => ?_⟩
          obtain rfl : b = B := by simpa using hb
          exact ⟨k2, by rw [shut_out k4]; exact e1.fh.free k2⟩
        · exact p2.elim
      · exact p2.elim
    · exact p2.elim
theorem zip_back : ∀ d : List (Int × Int), (d.map (·.1)).zip (d.map (·.2)) = d
  | [] => rfl
  | x :: d => by rw [List.map_cons, List.map_cons, List.zip_cons_cons, zip_back d]
def sortIt (d : Dc Int Int) : List (Int × Int) := sortP d
theorem o_sortIt {a : Ar} {d : Dc Int Int} (hb : a.d = eDk kI eI d) : gSortIt a = .ok (.ow (oL (oF (eT2 eI eI)) (sortIt d))) := by
  unfold gSortIt
  rw [hb]
  unfold eDk
  dsimp only
  have e1 : (d.map fun p => kI p.1) = (d.map (·.1)).map Sum.inl := by rw [List.map_map]; rfl
  have e2 : (d.map fun p => eI p.2) = (d.map (·.2)).map D.int := by rw [List.map_map]; rfl
  rw [e1, e2, intKs_map, intsV_map]
  dsimp only
  rw [if_pos (by rw [List.length_map, List.length_map])]
  rw [zip_back]
  unfold oL sortIt
  rw [List.map_map]
  rfl
end
end DL
namespace DL
open PySem PySem.Spec L2
namespace PL
theorem forF_ck {γ δ : Type} {step : γ → Unit → M (Fl Unit δ)} {a : δ} {p : γ → Bool} : ∀ {xs : List γ}, (∀ x ∈ xs, step x () = .ok (if p x then .nx () else .rt a)) → forF step xs () = .ok (if xs.all p then .nx () else .rt a)
  | [], _ => rfl
  | x :: xs, h => by
    unfold forF
    rw [h x List.mem_cons_self, List.all_cons]
    cases q : p x with
    | true => exact forF_ck fun y hy => h y (List.mem_cons_of_mem _ hy)
    | false => rfl
theorem enum_mem {α : Type} {xs : List α} {q : Int × α} : q ∈ enumL xs ↔ ∃ (i : Nat) (h : i < xs.length), q = ((i : Int), xs[i]) := by
  unfold enumL
  rw [List.mem_map]
  constructor
  · rintro ⟨⟨x, i⟩, h, rfl⟩
    obtain ⟨h1, h2, h3⟩ := List.mem_zipIdx h
    simp at h2 h3
    exact ⟨i, h2, by rw [h3]⟩
  · rintro ⟨i, h, rfl⟩
    refine ⟨(xs[i], i), ?_, rfl⟩
    rw [List.mem_zipIdx_iff_getElem?]
    exact List.getElem?_eq_getElem h
theorem zip_mem {α β : Type} {xs : List α} {ys : List β} (hl : xs.length = ys.length) {q : α × β} : q ∈ xs.zip ys ↔ ∃ (i : Nat) (h : i < xs.length), q = (xs[i], ys[i]'(by omega)) := by
  constructor
  · intro h
    obtain ⟨i, hi, e⟩ := List.getElem_of_mem h
    rw [List.length_zip] at hi
    rw [List.getElem_zip] at e
    exact ⟨i, by omega, e.symm⟩
  · rintro ⟨i, h, rfl⟩
    have : (xs.zip ys)[i]'(by rw [List.length_zip]; omega) = (xs[i], ys[i]'(by omega)) := List.getElem_zip
    rw [← this]
    exact List.getElem_mem _
theorem sz_nn {k : Nat} {i : Int} (h : Sz k i) (d : Int) (hd : 0 < d) : Sz (k + 5) (i / d) := by
  unfold Sz at *
  have : (i / d).natAbs ≤ i.natAbs + 1 := by
    rcases Int.lt_or_le i 0 with hn | hn
    · have h1 : i ≤ i / d := by
        have := Int.mul_ediv_add_emod i d
        have h2 := Int.emod_nonneg i (show d ≠ 0 by omega)
        have h3 := Int.emod_lt_of_pos i hd
        rcases Int.lt_or_le (i / d) i with h4 | h4
        · exfalso
          have h5 : d * (i / d) ≤ d * (i - 1) := Int.mul_le_mul_of_nonneg_left (by omega) (by omega)
          have h6 : d * (i - 1) = d * i - d := by rw [Int.mul_sub, Int.mul_one]
          have h7 : d * i ≤ 1 * i := Int.mul_le_mul_of_nonpos_right (by omega) (by omega)
          omega
        · exact h4
      have h2 : i / d ≤ 0 := Int.ediv_nonpos_of_nonpos_of_neg (by omega) (by omega)
      omega
    · have h1 := Int.ediv_le_self d hn
      have h2 := Int.ediv_nonneg hn (show 0 ≤ d by omega)
      omega
  have p := Nat.two_pow_pos k
  rw [Nat.pow_add]
  show (i / d).natAbs < 2 ^ k * 32
  omega
def nd (t : List (Option Int)) (p a : Int) : Option Int := (getZ t p).map fun x => if x - a > 0 then x - a else 0
theorem sortIt_lt {d : Dc Int Int} (h : (d.map (·.1)).Nodup) : (sortIt d).Pairwise fun p q => p.1 < q.1 := by
  have pm := sortP_perm d
  have nd : ((sortIt d).map (·.1)).Nodup := ((pm.map (·.1)).nodup_iff).mpr h
  have s := sortP_sorted d
  have nd2 : (sortIt d).Pairwise fun p q => p.1 ≠ q.1 := List.pairwise_map.mp nd
  exact (List.Pairwise.and s nd2).imp fun {p q} ⟨h1, h2⟩ => by
    unfold leP at h1
    omega
theorem sortIt_mem {d : Dc Int Int} {q : Int × Int} : q ∈ sortIt d ↔ q ∈ d := (sortP_perm d).mem_iff
theorem sortIt_len {d : Dc Int Int} : (sortIt d).length = d.length := (sortP_perm d).length_eq
theorem mem_dp2 {d : Dc Int Int} {k v : Int} {q : Int × Int} (h : q ∈ dp d k v) : q = (k, v) ∨ q ∈ d := by
  unfold dp at h
  split at h
  · obtain ⟨p, hp, e⟩ := List.mem_map.mp h
    split at e
    · rename_i e1
      rw [← e, e1]
      exact .inl rfl
    · rw [← e]
      exact .inr hp
  · rcases List.mem_append.mp h with h | h
    · exact .inr h
    · exact .inl (List.mem_singleton.mp h)
end PL
end DL
namespace DL
open PySem PySem.Spec L2
namespace PL
abbrev Edg := Int → Int → Int → Prop
def Wk (E : Edg) (v x : Int) : Nat → Int → Int → Prop
  | 0, u, y => 0 ≤ x ∧ u = v ∧ y = x
  | k + 1, u, y => ∃ m z, Wk E v x k m z ∧ E m u (y - z) ∧ 0 ≤ y
section
variable {E E2 : Edg} {n : Nat} {v x u y : Int} {k j : Nat}
theorem wk_end : ∀ {k u y}, Wk E v x k u y → 0 ≤ x ∧ 0 ≤ y
  | 0, _, _, ⟨h, _, e⟩ => ⟨h, by omega⟩
  | _ + 1, _, _, ⟨_, _, w, _, h⟩ => ⟨(wk_end w).1, h⟩
theorem wk_trans {m z : Int} (w : Wk E v x k m z) : ∀ {j u y}, Wk E m z j u y → Wk E v x (k + j) u y
  | 0, _, _, ⟨_, e1, e2⟩ => by rw [e1, e2]; exact w
  | _ + 1, _, _, ⟨m2, z2, w2, e, h⟩ => ⟨m2, z2, wk_trans w w2, e, h⟩
theorem wk_one {a : Int} (e : E v u a) (h0 : 0 ≤ x) (h1 : 0 ≤ x + a) : Wk E v x 1 u (x + a) := ⟨v, x, ⟨h0, rfl, rfl⟩, by rw [show x + a - x = a by omega]; exact e, h1⟩
theorem wk_cons {a : Int} (e : E v u a) (h0 : 0 ≤ x) {w z : Int} (t : Wk E u (x + a) k w z) : Wk E v x (k + 1) w z := by
  have := wk_trans (wk_one e h0 (wk_end t).1) t
  rw [show 1 + k = k + 1 by omega] at this
  exact this
theorem wk_first : ∀ {k u y}, Wk E v x (k + 1) u y → ∃ m a, E v m a ∧ 0 ≤ x + a ∧ Wk E m (x + a) k u y
  | 0, u, y, ⟨m, z, ⟨h0, e1, e2⟩, e, h⟩ => by
    subst e1; subst e2
    exact ⟨u, y - z, e, by omega, by show 0 ≤ z + (y - z) ∧ u = u ∧ y = z + (y - z); omega⟩
  | k + 1, u, y, ⟨m, z, w, e, h⟩ => by
    obtain ⟨m2, a, e2, h2, w2⟩ := wk_first w
    exact ⟨m2, a, e2, h2, m, z, w2, e, h⟩
theorem wk_up {d : Int} (hd : 0 ≤ d) : ∀ {k u y}, Wk E v x k u y → Wk E v (x + d) k u (y + d)
  | 0, _, _, ⟨h, e1, e2⟩ => ⟨by omega, e1, by omega⟩
  | _ + 1, _, _, ⟨m, z, w, e, h⟩ => ⟨m, z + d, wk_up hd w, by rw [show ∀ y : Int, y + d - (z + d) = y - z from fun y => by omega]; exact e, by omega⟩
theorem wk_fun {f g : Nat → Int} : ∀ {k : Nat}, (∀ i, i < k → E (f i) (f (i + 1)) (g (i + 1) - g i)) → (∀ i, i ≤ k → 0 ≤ g i) → Wk E (f 0) (g 0) k (f k) (g k)
  | 0, _, h => ⟨h 0 (Nat.le_refl _), rfl, rfl⟩
  | k + 1, he, h => ⟨f k, g k, wk_fun (fun i hi => he i (by omega)) fun i hi => h i (by omega), he k (by omega), h _ (Nat.le_refl _)⟩
theorem wk_funs : ∀ {k : Nat} {u y : Int}, Wk E v x k u y → ∃ f g : Nat → Int, f 0 = v ∧ g 0 = x ∧ f k = u ∧ g k = y ∧ (∀ i, i < k → E (f i) (f (i + 1)) (g (i + 1) - g i)) ∧ ∀ i, i ≤ k → 0 ≤ g i
  | 0, u, y, ⟨h, e1, e2⟩ => ⟨fun _ => v, fun _ => x, rfl, rfl, e1.symm, e2.symm, fun i hi => absurd hi (by omega), fun _ _ => h⟩
  | k + 1, u, y, ⟨m, z, w, e, h⟩ => by
    obtain ⟨f, g, f0, g0, fk, gk, he, hg⟩ := wk_funs w
    refine ⟨fun i => if i ≤ k then f i else u, fun i => if i ≤ k then g i else y, ?_, ?_, ?_, ?_, fun i hi => ?_, fun i hi => ?_⟩
    · exact (if_pos (Nat.zero_le k)).trans f0
    · exact (if_pos (Nat.zero_le k)).trans g0
    · exact if_neg (Nat.not_succ_le_self k)
    · exact if_neg (Nat.not_succ_le_self k)
    · dsimp only
      rw [if_pos (show i ≤ k by omega), if_pos (show i ≤ k by omega)]
      by_cases c : i + 1 ≤ k
      · rw [if_pos c, if_pos c]; exact he i (by omega)
      · rw [if_neg c, if_neg c]
        have : i = k := by omega
        subst this
        rw [fk, gk]
        exact e
    · dsimp only
      split
      · exact hg i (by assumption)
      · exact h
def Rest (E : Edg) (n : Nat) (s : Int) : Prop := ∃ k y, 1 ≤ k ∧ k ≤ n ∧ Wk E s 0 k s y
def Rc (E : Edg) (n : Nat) (v x : Int) : Prop := ∃ k u y, Wk E v x k u y ∧ Rest E n u
theorem rc_nn (h : Rc E n v x) : 0 ≤ x := let ⟨_, _, _, w, _⟩ := h; (wk_end w).1
theorem rc_up (h : Rc E n v x) {x2 : Int} (hx : x ≤ x2) : Rc E n v x2 := by
  obtain ⟨k, u, y, w, r⟩ := h
  have := wk_up (d := x2 - x) (by omega) w
  rw [show x + (x2 - x) = x2 by omega] at this
  exact ⟨k, u, _, this, r⟩
theorem rc_rest (h : Rest E n v) (hx : 0 ≤ x) : Rc E n v x := ⟨0, v, x, ⟨hx, rfl, rfl⟩, h⟩
theorem rc_cons {a : Int} (e : E v u a) (h0 : 0 ≤ x) (h : Rc E n u (x + a)) : Rc E n v x := by
  obtain ⟨k, w, z, t, r⟩ := h
  exact ⟨k + 1, w, z, wk_cons e h0 t, r⟩
theorem rc_next (h : Rc E n v x) : ∃ m a, E v m a ∧ Rc E n m (x + a) := by
  obtain ⟨k, u, y, w, r⟩ := h
  have go : ∀ {j : Nat} {z : Int} {u y}, 0 ≤ z → z ≤ x → Wk E v z (j + 1) u y → Rest E n u → ∃ m a, E v m a ∧ Rc E n m (x + a) := fun {j z u y} z0 zx w r => by
    obtain ⟨m, a, e, _, w2⟩ := wk_first w
    exact ⟨m, a, e, rc_up ⟨j, u, y, w2, r⟩ (by omega)⟩
  cases k with
  | zero =>
    obtain ⟨h0, e, _⟩ := w
    rw [e] at r
    obtain ⟨k2, y2, k1, _, w2⟩ := id r
    obtain ⟨j, rfl⟩ : ∃ j, k2 = j + 1 := ⟨k2 - 1, by omega⟩
    exact go (Int.le_refl _) h0 w2 r
  | succ j => exact go (wk_end w).1 (Int.le_refl _) w r
theorem ring_rest {f g : Nat → Int} {k : Nat} (k1 : 1 ≤ k) (kn : k ≤ n) (he : ∀ i, i < k → E (f i) (f (i + 1)) (g (i + 1) - g i)) (hf : f k = f 0) (hg : g 0 ≤ g k) : ∃ m, m < k ∧ Rest E n (f m) := by
  have mn : ∀ j : Nat, 1 ≤ j → ∃ m, m < j ∧ ∀ i, i < j → g m ≤ g i := by
    intro j
    induction j with
    | zero => intro h; omega
    | succ j ih =>
      intro _
      rcases Nat.eq_zero_or_pos j with rfl | hp
      · exact ⟨0, by omega, fun i hi => by rw [show i = 0 by omega]; exact Int.le_refl _⟩
      · obtain ⟨m, h1, h2⟩ := ih hp
        by_cases c : g m ≤ g j
        · refine ⟨m, by omega, fun i hi => ?_⟩
          rcases Nat.lt_or_ge i j with h | h
          · exact h2 i h
          · rw [show i = j by omega]; exact c
        · refine ⟨j, by omega, fun i hi => ?_⟩
          rcases Nat.lt_or_ge i j with h | h
          · have := h2 i h; omega
          · rw [show i = j by omega]; exact Int.le_refl _
  obtain ⟨m, hm, hmin⟩ := mn k k1
  refine ⟨m, hm, k, g k - g 0, k1, kn, ?_⟩
  let F : Nat → Int := fun i => if m + i ≤ k then f (m + i) else f (m + i - k)
  let G : Nat → Int := fun i => if m + i ≤ k then g (m + i) - g m else g (m + i - k) + (g k - g 0) - g m
  have key := wk_fun (E := E) (f := F) (g := G) (k := k) (fun i hi => ?_) (fun i hi => ?_)
  · have F0 : F 0 = f m := if_pos (by omega)
    have G0 : G 0 = 0 := by
      show (if m + 0 ≤ k then g (m + 0) - g m else _) = 0
      rw [if_pos (by omega), Nat.add_zero, Int.sub_self]
    have Fk : F k = f m := by
      show (if m + k ≤ k then f (m + k) else f (m + k - k)) = f m
      rw [Nat.add_sub_cancel]
      by_cases c : m + k ≤ k
      · rw [if_pos c, show m = 0 by omega, Nat.zero_add, hf]
      · rw [if_neg c]
    have Gk : G k = g k - g 0 := by
      show (if m + k ≤ k then g (m + k) - g m else g (m + k - k) + (g k - g 0) - g m) = _
      rw [Nat.add_sub_cancel]
      by_cases c : m + k ≤ k
      · rw [if_pos c, show m = 0 by omega, Nat.zero_add]
      · rw [if_neg c]; omega
    rw [F0, G0, Fk, Gk] at key
    exact key
  · show E (if m + i ≤ k then f (m + i) else f (m + i - k)) (if m + (i + 1) ≤ k then f (m + (i + 1)) else f (m + (i + 1) - k)) ((if m + (i + 1) ≤ k then g (m + (i + 1)) - g m else g (m + (i + 1) - k) + (g k - g 0) - g m) - (if m + i ≤ k then g (m + i) - g m else g (m + i - k) + (g k - g 0) - g m))
    by_cases c1 : m + (i + 1) ≤ k
    · rw [if_pos c1, if_pos c1, if_pos (show m + i ≤ k by omega), if_pos (show m + i ≤ k by omega)]
      have := he (m + i) (by omega)
      rw [show g (m + (i + 1)) - g m - (g (m + i) - g m) = g (m + i + 1) - g (m + i) by rw [show m + (i + 1) = m + i + 1 by omega]; omega]
      exact this
    · rw [if_neg c1, if_neg c1]
      by_cases c2 : m + i ≤ k
      · have ek : m + i = k := by omega
        rw [if_pos c2, if_pos c2, ek, show m + (i + 1) - k = 0 + 1 by omega, hf]
        have := he 0 (by omega)
        rw [show g (0 + 1) + (g k - g 0) - g m - (g k - g m) = g (0 + 1) - g 0 by omega]
        exact this
      · rw [if_neg c2, if_neg c2, show m + (i + 1) - k = m + i - k + 1 by omega]
        have := he (m + i - k) (by omega)
        rw [show g (m + i - k + 1) + (g k - g 0) - g m - (g (m + i - k) + (g k - g 0) - g m) = g (m + i - k + 1) - g (m + i - k) by omega]
        exact this
  · show 0 ≤ (if m + i ≤ k then g (m + i) - g m else g (m + i - k) + (g k - g 0) - g m)
    by_cases c : m + i ≤ k
    · rw [if_pos c]
      rcases Nat.lt_or_ge (m + i) k with h | h
      · have := hmin (m + i) h; omega
      · rw [show m + i = k by omega]
        have := hmin 0 (by omega)
        omega
    · rw [if_neg c]
      have := hmin (m + i - k) (by omega)
      omega
theorem wk_short (hE : ∀ p q a, E p q a → (0 ≤ p ∧ p < (n : Int)) ∧ 0 ≤ q ∧ q < (n : Int)) : ∀ (k : Nat) {u y : Int}, Wk E v x k u y → Rest E n u → ∃ j u2 y2, j < max 1 n ∧ Wk E v x j u2 y2 ∧ Rest E n u2 := by
  intro k
  induction k using Nat.strongRecOn with
  | _ k ih =>
    intro u y w r
    by_cases hk : k < max 1 n
    · exact ⟨k, u, y, hk, w, r⟩
    · have hk : 1 ≤ k ∧ n ≤ k := ⟨by have := Nat.le_max_left 1 n; omega, by have := Nat.le_max_right 1 n; omega⟩
      obtain ⟨f, g, f0, g0, fk, gk, he, hg⟩ := wk_funs w
      have inb : ∀ i, i ≤ k → 0 ≤ f i ∧ f i < (n : Int) := fun i hi => by
        rcases Nat.lt_or_ge i k with h | h
        · exact (hE _ _ _ (he i h)).1
        · have := (hE _ _ _ (he (k - 1) (by omega))).2
          rw [show k - 1 + 1 = i by omega] at this
          exact this
      obtain ⟨i, j, hij, hj, e⟩ := pigeon (g := f) (n := n) fun i hi => inb i (by omega)
      by_cases c : g j ≤ g i
      ·
        let F : Nat → Int := fun t => if t ≤ i then f t else f (t + (j - i))
        let G : Nat → Int := fun t => if t ≤ i then g t else g (t + (j - i)) + (g i - g j)
        have key := wk_fun (E := E) (f := F) (g := G) (k := k - (j - i)) (fun t ht => ?_) (fun t ht => ?_)
        · have F0 : F 0 = v := by show (if 0 ≤ i then f 0 else _) = v; rw [if_pos (by omega), f0]
          have G0 : G 0 = x := by show (if 0 ≤ i then g 0 else _) = x; rw [if_pos (by omega), g0]
          have Fk : F (k - (j - i)) = u := by
            show (if k - (j - i) ≤ i then f (k - (j - i)) else f (k - (j - i) + (j - i))) = u
            by_cases c2 : k - (j - i) ≤ i
            · rw [if_pos c2, show k - (j - i) = i by omega, e, show j = k by omega, fk]
            · rw [if_neg c2, show k - (j - i) + (j - i) = k by omega, fk]
          rw [F0, G0, Fk] at key
          exact ih _ (by omega) key r
        · show E (if t ≤ i then f t else f (t + (j - i))) (if t + 1 ≤ i then f (t + 1) else f (t + 1 + (j - i))) ((if t + 1 ≤ i then g (t + 1) else g (t + 1 + (j - i)) + (g i - g j)) - (if t ≤ i then g t else g (t + (j - i)) + (g i - g j)))
          by_cases c1 : t + 1 ≤ i
          · rw [if_pos c1, if_pos c1, if_pos (show t ≤ i by omega), if_pos (show t ≤ i by omega)]
            exact he t (by omega)
          · rw [if_neg c1, if_neg c1]
            by_cases c2 : t ≤ i
            · have : t = i := by omega
              subst this
              rw [if_pos c2, if_pos c2, e, show t + 1 + (j - t) = j + 1 by omega, show g (j + 1) + (g t - g j) - g t = g (j + 1) - g j by omega]
              exact he j (by omega)
            · rw [if_neg c2, if_neg c2, show t + 1 + (j - i) = t + (j - i) + 1 by omega, show g (t + (j - i) + 1) + (g i - g j) - (g (t + (j - i)) + (g i - g j)) = g (t + (j - i) + 1) - g (t + (j - i)) by omega]
              exact he _ (by omega)
        · show 0 ≤ (if t ≤ i then g t else g (t + (j - i)) + (g i - g j))
          split
          · exact hg t (by omega)
          · have := hg (t + (j - i)) (by omega)
            omega
      ·
        obtain ⟨m, hm, hr⟩ := ring_rest (E := E) (n := n) (f := fun t => f (i + t)) (g := fun t => g (i + t)) (k := j - i) (by omega) (by omega) (fun t ht => he (i + t) (by omega)) (by
          show f (i + (j - i)) = f (i + 0)
          rw [show i + (j - i) = j by omega, Nat.add_zero, e]) (by
          show g (i + 0) ≤ g (i + (j - i))
          rw [show i + (j - i) = j by omega, Nat.add_zero]
          omega)
        have key := wk_fun (E := E) (f := f) (g := g) (k := i + m) (fun t ht => he t (by omega)) (fun t ht => hg t (by omega))
        rw [f0, g0] at key
        exact ⟨i + m, _, _, by have := Nat.le_max_right 1 n; omega, key, hr⟩
theorem rc_better (hE : ∀ v p a, E2 v p a → E v p a ∨ ∃ q, Rc E n v q ∧ (∀ x, Rc E n v x → q ≤ x) ∧ ¬ Rc E n p (q + a)) {v x : Int} (h : Rc E2 n v x) : Rc E n v x := by
  refine Classical.byContradiction fun hn => ?_
  have step : ∀ {v p a x : Int}, E2 v p a → 0 ≤ x → ¬ Rc E n v x → ¬ Rc E n p (x + a) := fun {v p a x} e h0 hn hp => by
    rcases hE v p a e with e | ⟨q, r1, r2, r3⟩
    · exact hn (rc_cons e h0 hp)
    · have : x < q := by
        rcases Int.lt_or_le x q with h | h
        · exact h
        · exact absurd (rc_up r1 h) hn
      exact r3 (rc_up hp (by omega))
  have walk : ∀ {v x : Int} {k u y}, Wk E2 v x k u y → ¬ Rc E n v x → ¬ Rc E n u y := by
    intro v x k
    induction k with
    | zero => rintro u y ⟨_, e1, e2⟩ hn; rw [e1, e2]; exact hn
    | succ k ih =>
      rintro u y ⟨m, z, w, e, h⟩ hn
      have := step e (wk_end w).2 (ih w hn)
      rw [show z + (y - z) = y by omega] at this
      exact this
  obtain ⟨k, u, y, w, r⟩ := h
  have hu := walk w hn
  have y0 := (wk_end w).2
  obtain ⟨j, y2, j1, jn, w2⟩ := r
  obtain ⟨f, g, f0, g0, fk, gk, he, hg⟩ := wk_funs w2
  have along : ∀ (c : Int), (0 ≤ c) → ∀ i t : Nat, i + t ≤ j → ¬ Rc E n (f i) (g i + c) → ¬ Rc E n (f (i + t)) (g (i + t) + c) := by
    intro c hc i t
    induction t with
    | zero => intro _ h; exact h
    | succ t ih =>
      intro ht h
      have h1 := ih (by omega) h
      have h2 := hg (i + t) (by omega)
      have := step (he (i + t) (by omega)) (show 0 ≤ g (i + t) + c by omega) h1
      rw [show g (i + t) + c + (g (i + t + 1) - g (i + t)) = g (i + t + 1) + c by omega] at this
      exact this
  have old : (∀ i, i < j → E (f i) (f (i + 1)) (g (i + 1) - g i)) → False := fun ho => by
    have := wk_fun ho hg
    rw [f0, g0, fk, gk] at this
    exact hu (rc_rest ⟨j, y2, j1, jn, this⟩ y0)
  by_cases hz : ∀ z, ¬ Rc E n u z
  · refine old fun i hi => ?_
    rcases hE _ _ _ (he i hi) with e | ⟨q, r1, _, _⟩
    · exact e
    · exfalso
      have q0 := rc_nn r1
      have := along q q0 0 i (by omega) (by rw [f0]; exact hz _)
      rw [Nat.zero_add] at this
      exact this (rc_up r1 (by have := hg i (by omega); omega))
  · obtain ⟨z, hz⟩ := Classical.not_forall.mp hz
    have hz := Classical.not_not.mp hz
    have least : ∃ q, Rc E n u q ∧ ¬ Rc E n u (q - 1) ∧ y < q := by
      have : ∀ t : Nat, ∀ z : Int, z - y ≤ t → Rc E n u z → ∃ q, Rc E n u q ∧ ¬ Rc E n u (q - 1) ∧ y < q := by
        intro t
        induction t with
        | zero => intro z h1 h2; exact absurd (rc_up h2 (by omega)) hu
        | succ t ih =>
          intro z h1 h2
          by_cases c : Rc E n u (z - 1)
          · exact ih (z - 1) (by omega) c
          · refine ⟨z, h2, c, ?_⟩
            rcases Int.lt_or_le y z with h | h
            · exact h
            · exact absurd (rc_up h2 h) hu
      exact this (z - y).toNat z (by omega) hz
    obtain ⟨q, q1, q2, q3⟩ := least
    refine old fun i hi => ?_
    rcases hE _ _ _ (he i hi) with e | ⟨qi, r1, r2, r3⟩
    · exact e
    · exfalso
      have h1 := along (q - 1) (by omega) 0 i (by omega) (by rw [f0, g0, Int.zero_add]; exact q2)
      rw [Nat.zero_add] at h1
      have h2 : g i + (q - 1) < qi := by
        rcases Int.lt_or_le (g i + (q - 1)) qi with h | h
        · exact h
        · exact absurd (rc_up r1 h) h1
      have h3 : ¬ Rc E n (f (i + 1)) (g (i + 1) + q) := fun hp => r3 (rc_up hp (by omega))
      have h4 := along q (by omega) (i + 1) (j - (i + 1)) (by omega) h3
      rw [show i + 1 + (j - (i + 1)) = j by omega, fk, gk] at h4
      exact h4 (rc_up q1 (by have := (wk_end w2).2; omega))
theorem rc_more (hE : ∀ v p a, E2 v p a → E v p a ∨ ∃ q, Rc E n v q ∧ (∀ x, Rc E n v x → q ≤ x) ∧ ¬ Rc E n p (q + a)) {v p a q : Int} (one : ∀ p2 a2, E2 v p2 a2 → p2 = p ∧ a2 = a) (hq : ¬ Rc E n p (q + a)) : ¬ Rc E2 n v q := fun h => by
  obtain ⟨m, b, e, hr⟩ := rc_next h
  obtain ⟨rfl, rfl⟩ := one m b e
  exact hq (rc_better hE hr)
end
end PL
end DL
namespace DL
open PySem PySem.Spec L2
namespace PL
abbrev Tb := List (Option Int)
abbrev Lf := List (List (Int × Int))
def Ti {α : Type} (t : List α) (v : Int) : Prop := 0 ≤ v ∧ v < t.length
def EL (left : Lf) : Edg := fun v p a => Ti left v ∧ (p, a) ∈ getZ left v
structure LfOk (left : Lf) : Prop where
  n : left.length ≤ 16
  len : ∀ ws ∈ left, ws.length ≤ 16
  in_ : ∀ ws ∈ left, ∀ w ∈ ws, Ti left w.1
section
variable {left : Lf} {t b best : Tb} {C C2 : Int → Int → Prop} {s : Int} {k : Nat}
theorem LfOk.edge (L : LfOk left) {v p a : Int} (e : EL left v p a) : Ti left p := L.in_ _ (getZ_mem e.1.1 e.1.2) _ e.2
theorem LfOk.rng (L : LfOk left) : ∀ p q a, EL left p q a → (0 ≤ p ∧ p < (left.length : Int)) ∧ 0 ≤ q ∧ q < (left.length : Int) := fun p q a e => ⟨e.1, L.edge e⟩
structure Mx (best : Tb) (C : Int → Int → Prop) (b : Tb) : Prop where
  len : b.length = best.length
  old : ∀ u, Ti best u → ∀ y, getZ best u = some y → ∃ z, getZ b u = some z ∧ y ≤ z
  new : ∀ u, Ti best u → ∀ c, C u c → ∃ z, getZ b u = some z ∧ c ≤ z
  src : ∀ u, Ti best u → ∀ z, getZ b u = some z → getZ best u = some z ∨ C u z
theorem mx_start : Mx best (fun _ _ => False) best := ⟨rfl, fun _ _ y h => ⟨y, h, Int.le_refl _⟩, fun _ _ _ h => h.elim, fun _ _ _ h => .inl h⟩
theorem Mx.congr (h : Mx best C b) (e : ∀ u c, C u c ↔ C2 u c) : Mx best C2 b := ⟨h.len, h.old, fun u hu c hc => h.new u hu c ((e u c).mpr hc), fun u hu z hz => (h.src u hu z hz).imp id (e u z).mp⟩
theorem mx_set (h : Mx best C b) {p c : Int} (hp : Ti best p) (hc : ∀ z, getZ b p = some z → z < c) : Mx best (fun u d => C u d ∨ (u = p ∧ d = c)) (b.set p.toNat (some c)) := by
  have hl := h.len
  have gs : ∀ {u}, Ti best u → getZ (b.set p.toNat (some c)) u = if u = p then some c else getZ b u := fun {u} hu => getZ_set hp.1 (by have := hp.2; omega) hu.1 (by have := hu.2; omega)
  refine ⟨by rw [List.length_set]; exact hl, fun u hu y hy => ?_, fun u hu d hd => ?_, fun u hu z hz => ?_⟩
  · rw [gs hu]
    obtain ⟨z, e, hz⟩ := h.old u hu y hy
    by_cases q : u = p
    · subst q
      rw [if_pos rfl]
      exact ⟨c, rfl, by have := hc z e; omega⟩
    · rw [if_neg q]; exact ⟨z, e, hz⟩
  · rw [gs hu]
    by_cases q : u = p
    · subst q
      rw [if_pos rfl]
      refine ⟨c, rfl, ?_⟩
      rcases hd with hd | ⟨_, rfl⟩
      · obtain ⟨z, e, hz⟩ := h.new u hu d hd
        have := hc z e
        omega
      · exact Int.le_refl _
    · rw [if_neg q]
      exact h.new u hu d (hd.resolve_right fun r => q r.1)
  · rw [gs hu] at hz
    by_cases q : u = p
    · rw [if_pos q] at hz
      cases hz
      exact .inr (.inr ⟨q, rfl⟩)
    · rw [if_neg q] at hz
      exact (h.src u hu z hz).imp id .inl
theorem mx_skip (h : Mx best C b) {p c z : Int} (e : getZ b p = some z) (hz : c ≤ z) : Mx best (fun u d => C u d ∨ (u = p ∧ d = c)) b := by
  refine ⟨h.len, h.old, fun u hu d hd => ?_, fun u hu z hz => (h.src u hu z hz).imp id .inl⟩
  rcases hd with hd | ⟨rfl, rfl⟩
  · exact h.new u hu d hd
  · exact ⟨z, e, hz⟩
def Cd (left : Lf) (best : Tb) (u c : Int) : Prop := ∃ v z, getZ best v = some z ∧ EL left v u (c - z) ∧ 0 ≤ c
theorem cd_zip (hl : best.length = left.length) {u c : Int} : (∃ q ∈ best.zip left, ∃ z, q.1 = some z ∧ ∃ a, (u, a) ∈ q.2 ∧ c = z + a ∧ 0 ≤ c) ↔ Cd left best u c := by
  constructor
  · rintro ⟨q, hq, z, ez, a, ha, rfl, h0⟩
    obtain ⟨i, hi, rfl⟩ := (zip_mem hl).mp hq
    refine ⟨i, z, by rw [getZ_nat hi]; exact ez, ⟨⟨by omega, by omega⟩, ?_⟩, h0⟩
    rw [getZ_nat (by omega), show z + a - z = a by omega]
    exact ha
  · rintro ⟨v, z, ez, ⟨hv, he⟩, h0⟩
    obtain ⟨i, rfl⟩ : ∃ i : Nat, v = (i : Int) := ⟨v.toNat, by have := hv.1; omega⟩
    have hi : i < left.length := by have := hv.2; omega
    rw [getZ_nat (by omega)] at ez
    rw [getZ_nat hi] at he
    exact ⟨_, (zip_mem hl).mpr ⟨i, by omega, rfl⟩, z, ez, c - z, he, by omega, h0⟩
structure Bst (left : Lf) (s : Int) (k : Nat) (best : Tb) : Prop where
  len : best.length = left.length
  snd : ∀ u, Ti left u → ∀ y, getZ best u = some y → ∃ j, j ≤ k ∧ Wk (EL left) s 0 j u y
  cpl : ∀ u, Ti left u → ∀ j y, j ≤ k → Wk (EL left) s 0 j u y → ∃ z, getZ best u = some z ∧ y ≤ z
theorem bst_step (L : LfOk left) (hs : Ti left s) (B : Bst left s k best) (h : Mx best (Cd left best) b) : Bst left s (k + 1) b := by
  have hl := B.len
  have ti : ∀ {u}, Ti left u → Ti best u := fun h => ⟨h.1, by have := h.2; omega⟩
  refine ⟨h.len.trans hl, fun u hu y hy => ?_, fun u hu j y hj w => ?_⟩
  · rcases h.src u (ti hu) y hy with e | ⟨v, z, ez, e, h0⟩
    · obtain ⟨j, hj, w⟩ := B.snd u hu y e
      exact ⟨j, by omega, w⟩
    · obtain ⟨j, hj, w⟩ := B.snd v e.1 z ez
      exact ⟨j + 1, by omega, v, z, w, e, h0⟩
  · rcases Nat.lt_or_ge k j with c | c
    · obtain rfl : j = k + 1 := by omega
      obtain ⟨m, z, w, e, h0⟩ := w
      obtain ⟨z2, ez, hz⟩ := B.cpl m e.1 k z (Nat.le_refl _) w
      obtain ⟨z3, e3, h3⟩ := h.new u (ti hu) (z2 + (y - z)) ⟨m, z2, ez, by rw [show z2 + (y - z) - z2 = y - z by omega]; exact e, by omega⟩
      exact ⟨z3, e3, by omega⟩
    · obtain ⟨z, e, hz⟩ := B.cpl u hu j y c w
      obtain ⟨z2, e2, h2⟩ := h.old u (ti hu) z e
      exact ⟨z2, e2, by omega⟩
theorem bst_start (hs : Ti left s) (hl : best.length = left.length) (hb : ∀ u, Ti left u → getZ best u = if u = s then some 0 else none) : Bst left s 0 best := by
  refine ⟨hl, fun u hu y hy => ?_, fun u hu j y hj w => ?_⟩
  · rw [hb u hu] at hy
    by_cases c : u = s
    · rw [if_pos c] at hy
      cases hy
      exact ⟨0, Nat.le_refl _, Int.le_refl _, c, rfl⟩
    · rw [if_neg c] at hy
      cases hy
  · obtain rfl : j = 0 := by omega
    obtain ⟨_, e1, e2⟩ := w
    rw [hb u hu, if_pos e1]
    exact ⟨0, rfl, by omega⟩
def bk (s : Int) (q : Option Int × List (Int × Int)) (w : Int × Int) : Bool := decide (w.1 = s) && (match q.1 with | none => false | some z => decide (0 ≤ z + w.2))
theorem bk_any (B : Bst left s k best) : ((best.zip left).any fun q => q.2.any (bk s q)) = true ↔ ∃ v z a, getZ best v = some z ∧ EL left v s a ∧ 0 ≤ z + a := by
  have hl := B.len
  rw [List.any_eq_true]
  constructor
  · rintro ⟨q, hq, h⟩
    obtain ⟨w, hw, h2⟩ := List.any_eq_true.mp h
    obtain ⟨i, hi, rfl⟩ := (zip_mem hl).mp hq
    unfold bk at h2
    rw [Bool.and_eq_true, decide_eq_true_iff] at h2
    obtain ⟨es, h3⟩ := h2
    cases ez : best[i] with
    | none => dsimp only at h3; rw [ez] at h3; cases h3
    | some z =>
      dsimp only at h3
      rw [ez] at h3
      exact ⟨i, z, w.2, by rw [getZ_nat hi]; exact ez, ⟨⟨by omega, by omega⟩, by rw [getZ_nat (by omega), ← es]; exact hw⟩, of_decide_eq_true h3⟩
  · rintro ⟨v, z, a, ez, ⟨hv, he⟩, h0⟩
    obtain ⟨i, rfl⟩ : ∃ i : Nat, v = (i : Int) := ⟨v.toNat, by have := hv.1; omega⟩
    have hi : i < left.length := by have := hv.2; omega
    rw [getZ_nat (by omega)] at ez
    rw [getZ_nat hi] at he
    refine ⟨_, (zip_mem hl).mpr ⟨i, by omega, rfl⟩, List.any_eq_true.mpr ⟨(s, a), he, ?_⟩⟩
    unfold bk
    dsimp only
    rw [ez, decide_eq_true rfl]
    exact decide_eq_true h0
theorem bk_rest (B : Bst left s k best) (hk : k + 1 ≤ left.length) (h : ∃ v z a, getZ best v = some z ∧ EL left v s a ∧ 0 ≤ z + a) : Rest (EL left) left.length s := by
  obtain ⟨v, z, a, ez, e, h0⟩ := h
  obtain ⟨j, hj, w⟩ := B.snd v e.1 z ez
  exact ⟨j + 1, z + a, by omega, by omega, v, z, w, by rw [show z + a - z = a by omega]; exact e, h0⟩
theorem bk_none (B : Bst left s k best) (h : ¬ ∃ v z a, getZ best v = some z ∧ EL left v s a ∧ 0 ≤ z + a) {j : Nat} {y : Int} (hj : j ≤ k) : ¬ Wk (EL left) s 0 (j + 1) s y := by
  rintro ⟨m, z, w, e, h0⟩
  obtain ⟨z2, ez, hz⟩ := B.cpl m e.1 j z hj w
  exact h ⟨m, z2, y - z, ez, e, by omega⟩
theorem bst_fix (L : LfOk left) (hs : Ti left s) (B : Bst left s k best) (h : Mx best (Cd left best) best) : ∀ j, k ≤ j → Bst left s j best := by
  intro j hj
  induction j with
  | zero => rw [show 0 = k by omega]; exact B
  | succ j ih =>
    rcases Nat.lt_or_ge j k with c | c
    · rw [show j + 1 = k by omega]; exact B
    · exact bst_step L hs (ih c) h
theorem not_rest (h : ∀ j y, ¬ Wk (EL left) s 0 (j + 1) s y) : ¬ Rest (EL left) left.length s := by
  rintro ⟨k, y, k1, _, w⟩
  obtain ⟨j, rfl⟩ : ∃ j, k = j + 1 := ⟨k - 1, by omega⟩
  exact h j y w
def St (t : Tb) (v x : Int) : Prop := ∃ q, getZ t v = some q ∧ q ≤ x
structure Mn (t : Tb) (C : Int → Int → Prop) (b : Tb) : Prop where
  len : b.length = t.length
  st : ∀ v, Ti t v → ∀ x, St b v x ↔ St t v x ∨ C v x
theorem mn_start : Mn t (fun _ _ => False) t := ⟨rfl, fun _ _ _ => ⟨.inl, fun h => h.resolve_right id⟩⟩
theorem Mn.congr (h : Mn t C b) (e : ∀ u c, C u c ↔ C2 u c) : Mn t C2 b := ⟨h.len, fun v hv x => (h.st v hv x).trans (or_congr Iff.rfl (e v x))⟩
def moreO (one other : Option Int) : Bool := match other with
  | none => false
  | some y => match one with
    | none => true
    | some x => decide (y < x)
theorem mn_set (h : Mn t C b) {i : Int} (hi : Ti t i) {o : Option Int} (hm : moreO (getZ b i) o = true) : Mn t (fun v x => C v x ∨ (v = i ∧ ∃ z, o = some z ∧ z ≤ x)) (b.set i.toNat o) := by
  have hl := h.len
  refine ⟨by rw [List.length_set]; exact hl, fun v hv x => ?_⟩
  have gs : getZ (b.set i.toNat o) v = if v = i then o else getZ b v := getZ_set hi.1 (by have := hi.2; omega) hv.1 (by have := hv.2; omega)
  have hst := h.st v hv x
  unfold St at hst ⊢
  rw [gs]
  by_cases c : v = i
  · subst c
    rw [if_pos rfl]
    constructor
    · rintro ⟨q, e, hq⟩
      exact .inr (.inr ⟨rfl, q, e, hq⟩)
    · intro r
      have : (∃ q, getZ b v = some q ∧ q ≤ x) → ∃ q, o = some q ∧ q ≤ x := by
        rintro ⟨q, e, hq⟩
        rw [e] at hm
        cases o with
        | none => cases hm
        | some y => exact ⟨y, rfl, by have := of_decide_eq_true hm; omega⟩
      rcases r with r | r | ⟨_, r⟩
      · exact this (hst.mpr (.inl r))
      · exact this (hst.mpr (.inr r))
      · exact r
  · rw [if_neg c, hst]
    exact or_congr Iff.rfl ⟨.inl, fun r => r.resolve_right fun q => c q.1⟩
theorem mn_skip (h : Mn t C b) {i : Int} {o : Option Int} (hm : moreO (getZ b i) o = false) : Mn t (fun v x => C v x ∨ (v = i ∧ ∃ z, o = some z ∧ z ≤ x)) b := by
  refine ⟨h.len, fun v hv x => ?_⟩
  have hst := h.st v hv x
  rw [hst]
  constructor
  · rintro (r | r)
    · exact .inl r
    · exact .inr (.inl r)
  · rintro (r | r | ⟨rfl, z, rfl, hz⟩)
    · exact .inl r
    · exact .inr r
    · refine hst.mp ?_
      unfold St
      cases e : getZ b v with
      | none => rw [e] at hm; cases hm
      | some y =>
        rw [e] at hm
        have := of_decide_eq_false hm
        exact ⟨y, rfl, by omega⟩
theorem nd_st {p a x : Int} : (∃ z, nd t p a = some z ∧ z ≤ x) ↔ 0 ≤ x ∧ St t p (x + a) := by
  unfold nd St
  cases e : getZ t p with
  | none => simp
  | some q =>
    show (∃ z, some (if q - a > 0 then q - a else 0) = some z ∧ z ≤ x) ↔ _
    constructor
    · rintro ⟨z, h, hz⟩
      have := Option.some.inj h
      split at this
      · exact ⟨by omega, q, rfl, by omega⟩
      · exact ⟨by omega, q, rfl, by omega⟩
    · rintro ⟨h0, q2, h, hq⟩
      cases h
      refine ⟨_, rfl, ?_⟩
      split <;> omega
structure Tk (left : Lf) (k : Nat) (t : Tb) : Prop where
  len : t.length = left.length
  st : ∀ v, Ti left v → ∀ x, St t v x ↔ ∃ j u y, j ≤ k ∧ Wk (EL left) v x j u y ∧ Rest (EL left) left.length u
theorem tk_start (hl : t.length = left.length) (h0 : ∀ v, Ti left v → (getZ t v = some 0 ∧ Rest (EL left) left.length v) ∨ (getZ t v = none ∧ ¬ Rest (EL left) left.length v)) : Tk left 0 t := by
  refine ⟨hl, fun v hv x => ?_⟩
  unfold St
  rcases h0 v hv with ⟨e, r⟩ | ⟨e, r⟩
  · rw [e]
    constructor
    · rintro ⟨q, hq, hx⟩
      cases hq
      exact ⟨0, v, x, Nat.le_refl _, ⟨hx, rfl, rfl⟩, r⟩
    · rintro ⟨j, u, y, _, w, _⟩
      exact ⟨0, rfl, (wk_end w).1⟩
  · rw [e]
    constructor
    · rintro ⟨q, hq, _⟩
      cases hq
    · rintro ⟨j, u, y, hj, w, hr⟩
      obtain rfl : j = 0 := by omega
      obtain ⟨_, e1, _⟩ := w
      rw [e1] at hr
      exact absurd hr r
theorem tk_step (L : LfOk left) (T : Tk left k t) (h : Mn t (fun v x => Ti left v ∧ ∃ w ∈ getZ left v, ∃ z, nd t w.1 w.2 = some z ∧ z ≤ x) b) : Tk left (k + 1) b := by
  have hl := T.len
  refine ⟨h.len.trans hl, fun v hv x => ?_⟩
  rw [h.st v ⟨hv.1, by have := hv.2; omega⟩ x, T.st v hv x]
  constructor
  · rintro (⟨j, u, y, hj, w, r⟩ | ⟨_, w, hw, hn⟩)
    · exact ⟨j, u, y, by omega, w, r⟩
    · obtain ⟨h0, hs⟩ := nd_st.mp hn
      have e : EL left v w.1 w.2 := ⟨hv, hw⟩
      obtain ⟨j, u, y, hj, wk, r⟩ := (T.st w.1 (L.edge e) _).mp hs
      exact ⟨j + 1, u, y, by omega, wk_cons e h0 wk, r⟩
  · rintro ⟨j, u, y, hj, w, r⟩
    cases j with
    | zero => exact .inl ⟨0, u, y, by omega, w, r⟩
    | succ j =>
      obtain ⟨m, a, e, h0, w2⟩ := wk_first w
      exact .inr ⟨hv, (m, a), e.2, nd_st.mpr ⟨(wk_end w).1, (T.st m (L.edge e) _).mpr ⟨j, u, y, by omega, w2, r⟩⟩⟩
structure IsNeed (left : Lf) (t : Tb) : Prop where
  len : t.length = left.length
  st : ∀ v, Ti left v → ∀ x, St t v x ↔ Rc (EL left) left.length v x
theorem tk_end (L : LfOk left) (T : Tk left left.length t) : IsNeed left t := by
  refine ⟨T.len, fun v hv x => ?_⟩
  rw [T.st v hv x]
  constructor
  · rintro ⟨j, u, y, _, w, r⟩
    exact ⟨j, u, y, w, r⟩
  · rintro ⟨j, u, y, w, r⟩
    obtain ⟨j2, u2, y2, hj, w2, r2⟩ := wk_short L.rng j w r
    have := hv.1
    have := hv.2
    exact ⟨j2, u2, y2, by rw [Nat.max_eq_right (by omega)] at hj; omega, w2, r2⟩
theorem IsNeed.some (I : IsNeed left t) {v q : Int} (hv : Ti left v) (e : getZ t v = some q) : Rc (EL left) left.length v q ∧ ∀ x, Rc (EL left) left.length v x → q ≤ x := by
  refine ⟨(I.st v hv q).mp ⟨q, e, Int.le_refl _⟩, fun x h => ?_⟩
  obtain ⟨q2, e2, h2⟩ := (I.st v hv x).mpr h
  rw [e] at e2
  cases e2
  exact h2
theorem IsNeed.none (I : IsNeed left t) {v : Int} (hv : Ti left v) (e : getZ t v = none) (x : Int) : ¬ Rc (EL left) left.length v x := fun h => by
  obtain ⟨q2, e2, h2⟩ := (I.st v hv x).mpr h
  rw [e] at e2
  cases e2
theorem IsNeed.nn (I : IsNeed left t) {v q : Int} (hv : Ti left v) (e : getZ t v = Option.some q) : 0 ≤ q := rc_nn (I.some hv e).1
end
end PL
end DL
namespace DL
open PySem PySem.Spec L2
namespace PL
structure Pg (game : List PRow) : Prop where
  n : game.length ≤ 16
  hand : ∀ r ∈ game, r.1 = 0 ∨ r.1 = 1
  ne : ∀ r ∈ game, r.2 ≠ []
  len : ∀ r ∈ game, r.2.length ≤ 16
  lt : ∀ r ∈ game, r.2.Pairwise fun p q => p.1 < q.1
  in_ : ∀ r ∈ game, ∀ w ∈ r.2, 0 ≤ w.1 ∧ w.1 < game.length
structure RuleOk (game : List PRow) (rule : Tb) : Prop where
  len : rule.length = game.length
  keep : ∀ v, Ti game v → (getZ game v).1 ≠ 1 → getZ rule v = none
  own : ∀ v, Ti game v → (getZ game v).1 = 1 → ∃ w ∈ (getZ game v).2, getZ rule v = some w.1
def lfR (p : PRow × Option Int) : List (Int × Int) := if p.1.1 = 1 then p.1.2.filter (fun w => decide (some w.1 = p.2)) else p.1.2
def leftOf (game : List PRow) (rule : Tb) : Lf := (game.zip rule).map lfR
theorem Pg.row {game : List PRow} (G : Pg game) {v : Int} (h : Ti game v) : getZ game v ∈ game := getZ_mem h.1 h.2
theorem Pg.uniq {game : List PRow} (G : Pg game) {r : PRow} (hr : r ∈ game) {p a b : Int} (h1 : (p, a) ∈ r.2) (h2 : (p, b) ∈ r.2) : a = b := by
  have key : ∀ ws : List (Int × Int), ws.Pairwise (fun p q => p.1 < q.1) → (p, a) ∈ ws → (p, b) ∈ ws → a = b := by
    intro ws
    induction ws with
    | nil => intro _ h; cases h
    | cons w ws ih =>
      intro pw h1 h2
      rw [List.pairwise_cons] at pw
      rcases List.mem_cons.mp h1 with e1 | m1 <;> rcases List.mem_cons.mp h2 with e2 | m2
      · rw [← e1] at e2; cases e2; rfl
      · have := pw.1 _ m2; rw [← e1] at this; exact absurd this (Int.lt_irrefl _)
      · have := pw.1 _ m1; rw [← e2] at this; exact absurd this (Int.lt_irrefl _)
      · exact ih pw.2 m1 m2
  exact key _ (G.lt r hr) h1 h2
section
variable {game : List PRow} {rule : Tb} {t : Tb}
theorem left_len (R : RuleOk game rule) : (leftOf game rule).length = game.length := by
  unfold leftOf
  rw [List.length_map, List.length_zip, R.len, Nat.min_self]
theorem left_get (R : RuleOk game rule) {v : Int} (h : Ti game v) : getZ (leftOf game rule) v = lfR (getZ game v, getZ rule v) := by
  have h0 := h.1
  have h1 := h.2
  have hl := left_len R
  have hr := R.len
  rw [getZ_at h0 (by omega), getZ_at h0 h1, getZ_at h0 (by omega)]
  unfold leftOf
  rw [List.getElem_map, List.getElem_zip]
theorem left_ti (R : RuleOk game rule) {v : Int} : Ti (leftOf game rule) v ↔ Ti game v := by unfold Ti; rw [left_len R]
theorem left_edge (R : RuleOk game rule) {v p a : Int} : EL (leftOf game rule) v p a ↔ Ti game v ∧ (p, a) ∈ (getZ game v).2 ∧ ((getZ game v).1 = 1 → getZ rule v = some p) := by
  unfold EL
  rw [left_ti R]
  refine and_congr_right fun h => ?_
  rw [left_get R h]
  unfold lfR
  dsimp only
  by_cases c : (getZ game v).1 = 1
  · rw [if_pos c, List.mem_filter, decide_eq_true_iff]
    exact and_congr_right fun _ => ⟨fun e _ => e.symm, fun e => (e c).symm⟩
  · rw [if_neg c]
    exact ⟨fun h => ⟨h, fun q => absurd q c⟩, fun h => h.1⟩
theorem left_ok (G : Pg game) (R : RuleOk game rule) : LfOk (leftOf game rule) := by
  refine ⟨by rw [left_len R]; exact G.n, fun ws hw => ?_, fun ws hw w hx => ?_⟩
  · unfold leftOf at hw
    obtain ⟨q, hq, rfl⟩ := List.mem_map.mp hw
    obtain ⟨i, hi, rfl⟩ := (zip_mem R.len.symm).mp hq
    have := G.len _ (List.getElem_mem hi)
    unfold lfR
    dsimp only
    split
    · exact Nat.le_trans (List.length_filter_le ..) this
    · exact this
  · unfold leftOf at hw
    obtain ⟨q, hq, rfl⟩ := List.mem_map.mp hw
    obtain ⟨i, hi, rfl⟩ := (zip_mem R.len.symm).mp hq
    rw [left_ti R]
    refine G.in_ _ (List.getElem_mem hi) w ?_
    unfold lfR at hx
    dsimp only at hx
    split at hx
    · exact (List.mem_filter.mp hx).1
    · exact hx
theorem left_ne (G : Pg game) (R : RuleOk game rule) {v : Int} (h : Ti game v) : lfR (getZ game v, getZ rule v) ≠ [] := by
  unfold lfR
  dsimp only
  by_cases c : (getZ game v).1 = 1
  · rw [if_pos c]
    obtain ⟨w, hw, e⟩ := R.own v h c
    exact List.ne_nil_of_mem (List.mem_filter.mpr ⟨hw, decide_eq_true e.symm⟩)
  · rw [if_neg c]
    exact G.ne _ (G.row h)
def RcR (game : List PRow) (rule : Tb) (v x : Int) : Prop := Rc (EL (leftOf game rule)) game.length v x
def NeedR (game : List PRow) (rule : Tb) (t : Tb) : Prop := IsNeed (leftOf game rule) t
theorem NeedR.len (R : RuleOk game rule) (I : NeedR game rule t) : t.length = game.length := (IsNeed.len I).trans (left_len R)
theorem NeedR.st (R : RuleOk game rule) (I : NeedR game rule t) {v : Int} (h : Ti game v) (x : Int) : St t v x ↔ RcR game rule v x := by
  unfold RcR
  rw [← left_len R]
  exact IsNeed.st I v ((left_ti R).mpr h) x
theorem NeedR.some (R : RuleOk game rule) (I : NeedR game rule t) {v q : Int} (h : Ti game v) (e : getZ t v = some q) : RcR game rule v q ∧ ∀ x, RcR game rule v x → q ≤ x := by
  unfold RcR
  rw [← left_len R]
  exact IsNeed.some I ((left_ti R).mpr h) e
theorem NeedR.nn (R : RuleOk game rule) (I : NeedR game rule t) {v q : Int} (h : Ti game v) (e : getZ t v = Option.some q) : 0 ≤ q := rc_nn (NeedR.some R I h e).1
theorem more_nd {p a q x : Int} (q0 : 0 ≤ q) (h : moreO (nd t p a) (some q) = true) : ¬ St t p (q + a) := fun s => by
  obtain ⟨z, e, hz⟩ := nd_st.mpr ⟨q0, s⟩
  rw [e] at h
  have := of_decide_eq_true h
  omega
def bwF (t : Tb) (ws : List (Int × Int)) (b : Option Int × Option Int) : Option Int × Option Int := ws.foldl (fun b w => if moreO (nd t w.1 w.2) b.2 then (some w.1, nd t w.1 w.2) else b) b
theorem moreO_trans {a b c : Option Int} (h1 : moreO a b = true) (h2 : moreO b c = true) : moreO a c = true := by
  cases c with
  | none => cases h2
  | some z =>
    cases b with
    | none => cases h1
    | some y =>
      cases a with
      | none => rfl
      | some x =>
        have h1 := of_decide_eq_true h1
        have h2 := of_decide_eq_true h2
        exact decide_eq_true (by omega)
theorem moreO_irr {a : Option Int} : moreO a a = false := by
  cases a with
  | none => rfl
  | some x => exact decide_eq_false (Int.lt_irrefl _)
theorem moreO_le {a b c : Option Int} (h1 : moreO a b = false) (h2 : moreO c b = true) : moreO a c = false := by
  cases e : moreO a c with
  | false => rfl
  | true => rw [moreO_trans e h2] at h1; cases h1
theorem bw_spec : ∀ (ws : List (Int × Int)) (b : Option Int × Option Int), ((bwF t ws b = b ∧ ∀ w ∈ ws, moreO (nd t w.1 w.2) b.2 = false) ∨ (∃ w ∈ ws, bwF t ws b = (some w.1, nd t w.1 w.2) ∧ moreO (nd t w.1 w.2) b.2 = true)) ∧ ∀ w ∈ ws, moreO (nd t w.1 w.2) (bwF t ws b).2 = false := by
  intro ws
  induction ws with
  | nil => intro b; exact ⟨.inl ⟨rfl, fun _ h => nomatch h⟩, fun _ h => nomatch h⟩
  | cons w ws ih =>
    intro b
    have e : bwF t (w :: ws) b = bwF t ws (if moreO (nd t w.1 w.2) b.2 then (some w.1, nd t w.1 w.2) else b) := rfl
    rw [e]
    cases c : moreO (nd t w.1 w.2) b.2 with
    | false =>
      rw [if_neg (by decide)]
      obtain ⟨h1, h2⟩ := ih b
      refine ⟨?_, fun v hv => ?_⟩
      · rcases h1 with ⟨h, q⟩ | ⟨v, hv, h, q⟩
        · exact .inl ⟨h, fun v hv => (List.mem_cons.mp hv).elim (fun e => e ▸ c) (q v)⟩
        · exact .inr ⟨v, List.mem_cons_of_mem _ hv, h, q⟩
      · rcases List.mem_cons.mp hv with rfl | hv
        · rcases h1 with ⟨h, _⟩ | ⟨u, _, h, q⟩
          · rw [h]; exact c
          · rw [h]; exact moreO_le c q
        · exact h2 v hv
    | true =>
      rw [if_pos rfl]
      obtain ⟨h1, h2⟩ := ih (some w.1, nd t w.1 w.2)
      refine ⟨.inr ?_, fun v hv => ?_⟩
      · rcases h1 with ⟨h, q⟩ | ⟨v, hv, h, q⟩
        · exact ⟨w, List.mem_cons_self, h, c⟩
        · exact ⟨v, List.mem_cons_of_mem _ hv, h, moreO_trans q c⟩
      · rcases List.mem_cons.mp hv with rfl | hv
        · rcases h1 with ⟨h, _⟩ | ⟨u, _, h, q⟩
          · rw [h]; exact moreO_irr
          · rw [h]; exact moreO_le moreO_irr q
        · exact h2 v hv
def betV (game : List PRow) (rule t : Tb) (v : Int) : Option Int := if (getZ game v).1 = 1 then (bwF t (getZ game v).2 (getZ rule v, getZ t v)).1 else getZ rule v
def betR (game : List PRow) (rule t : Tb) : Tb := (rng 0 (game.length : Int)).map (betV game rule t)
theorem bet_len : (betR game rule t).length = game.length := by
  unfold betR
  rw [List.length_map, rng_len]
  omega
theorem bet_get {v : Int} (h : Ti game v) : getZ (betR game rule t) v = betV game rule t v := get_map h.1 h.2
theorem bet_ok (R : RuleOk game rule) : RuleOk game (betR game rule t) := by
  refine ⟨bet_len, fun v h c => ?_, fun v h c => ?_⟩
  · rw [bet_get h, betV, if_neg c]
    exact R.keep v h c
  · rw [bet_get h, betV, if_pos c]
    rcases (bw_spec (t := t) (getZ game v).2 (getZ rule v, getZ t v)).1 with ⟨e, _⟩ | ⟨w, hw, e, _⟩
    · rw [e]; exact R.own v h c
    · rw [e]; exact ⟨w, hw, rfl⟩
theorem bet_new (G : Pg game) (R : RuleOk game rule) (I : NeedR game rule t) {v p a : Int} (h : Ti game v) (hm : moreO (nd t p a) (getZ t v) = true) (hp : Ti game p) : ∃ q, RcR game rule v q ∧ (∀ x, RcR game rule v x → q ≤ x) ∧ ¬ RcR game rule p (q + a) := by
  cases e : getZ t v with
  | none => rw [e] at hm; cases hm
  | some q =>
    rw [e] at hm
    obtain ⟨h1, h2⟩ := NeedR.some R I h e
    exact ⟨q, h1, h2, fun k => more_nd (x := 0) (rc_nn h1) hm ((NeedR.st R I hp _).mpr k)⟩
theorem bet_edge (G : Pg game) (R : RuleOk game rule) (I : NeedR game rule t) {v p a : Int} (e : EL (leftOf game (betR game rule t)) v p a) : EL (leftOf game rule) v p a ∨ ∃ q, RcR game rule v q ∧ (∀ x, RcR game rule v x → q ≤ x) ∧ ¬ RcR game rule p (q + a) := by
  obtain ⟨h, hw, hr⟩ := (left_edge (bet_ok R)).mp e
  have hp : Ti game p := G.in_ _ (G.row h) _ hw
  by_cases c : (getZ game v).1 = 1
  · have hr := hr c
    rw [bet_get h, betV, if_pos c] at hr
    rcases (bw_spec (t := t) (getZ game v).2 (getZ rule v, getZ t v)).1 with ⟨e, _⟩ | ⟨w, hw2, e, hm⟩
    · rw [e] at hr
      exact .inl ((left_edge R).mpr ⟨h, hw, fun _ => hr⟩)
    · rw [e] at hr
      have ep : w.1 = p := Option.some.inj hr
      have ea : w.2 = a := G.uniq (G.row h) (p := p) (by rw [← ep]; exact hw2) hw
      rw [ep, ea] at hm
      exact .inr (bet_new G R I h hm hp)
  · exact .inl ((left_edge R).mpr ⟨h, hw, fun q => absurd q c⟩)
theorem bet_le (G : Pg game) (R : RuleOk game rule) (I : NeedR game rule t) {v x : Int} (h : RcR game (betR game rule t) v x) : RcR game rule v x :=
  rc_better (fun _ _ _ e => bet_edge G R I e) h
def Bet (game : List PRow) (r1 r2 : Tb) : Prop := (∀ v x, RcR game r2 v x → RcR game r1 v x) ∧ ∃ v x, RcR game r1 v x ∧ ¬ RcR game r2 v x
theorem bet_bet (G : Pg game) (R : RuleOk game rule) (I : NeedR game rule t) (ne : betR game rule t ≠ rule) : Bet game rule (betR game rule t) := by
  refine ⟨fun v x h => bet_le G R I h, ?_⟩
  have : ∃ v, Ti game v ∧ betV game rule t v ≠ getZ rule v := by
    refine Classical.byContradiction fun hn => ne ?_
    have hl := R.len
    refine List.ext_getElem (by rw [bet_len, hl]) fun i h1 h2 => ?_
    have hi : Ti game (i : Int) := ⟨by omega, by omega⟩
    rw [← getZ_nat h1, ← getZ_nat h2, bet_get hi]
    exact Classical.byContradiction fun q => hn ⟨i, hi, q⟩
  obtain ⟨v, h, hv⟩ := this
  unfold betV at hv
  by_cases c : (getZ game v).1 = 1
  · rw [if_pos c] at hv
    rcases (bw_spec (t := t) (getZ game v).2 (getZ rule v, getZ t v)).1 with ⟨e, _⟩ | ⟨w, hw, e, hm⟩
    · rw [e] at hv
      exact absurd rfl hv
    · have hp := G.in_ _ (G.row h) _ hw
      obtain ⟨q, h1, h2, h3⟩ := bet_new G R I h hm hp
      refine ⟨v, q, h1, rc_more (p := w.1) (a := w.2) (fun _ _ _ e => bet_edge G R I e) (fun p2 a2 ed => ?_) h3⟩
      obtain ⟨_, hw2, hr⟩ := (left_edge (bet_ok R)).mp ed
      have hr := hr c
      rw [bet_get h, betV, if_pos c, e] at hr
      have e1 : w.1 = p2 := Option.some.inj hr
      subst e1
      exact ⟨rfl, G.uniq (G.row h) (p := w.1) hw2 hw⟩
  · rw [if_neg c] at hv
    exact absurd rfl hv
def prodL {α : Type} : List (List α) → List (List α)
  | [] => [[]]
  | c :: cs => c.flatMap fun x => (prodL cs).map (x :: ·)
theorem prodL_len {α : Type} {m : Nat} : ∀ cs : List (List α), (∀ c ∈ cs, c.length ≤ m) → (prodL cs).length ≤ m ^ cs.length
  | [], _ => by simp [prodL]
  | c :: cs, h => by
    have ih := prodL_len cs fun d hd => h d (List.mem_cons_of_mem _ hd)
    have hc := h c List.mem_cons_self
    have e : (prodL (c :: cs)).length = c.length * (prodL cs).length := by
      show (c.flatMap fun x => (prodL cs).map (x :: ·)).length = _
      rw [List.length_flatMap]
      have : (c.map fun x => ((prodL cs).map (x :: ·)).length) = c.map fun _ => (prodL cs).length := List.map_congr_left fun x _ => List.length_map ..
      rw [this, List.map_const', List.sum_replicate_nat]
    rw [e, List.length_cons, Nat.pow_succ, Nat.mul_comm (m ^ cs.length)]
    exact Nat.mul_le_mul hc ih
theorem mem_prodL {α : Type} : ∀ (cs : List (List α)) (r : List α), r.length = cs.length → (∀ i (h1 : i < r.length) (h2 : i < cs.length), r[i] ∈ cs[i]) → r ∈ prodL cs
  | [], r, hl, _ => by
    have := List.length_eq_zero_iff.mp hl
    rw [this]
    exact List.mem_singleton.mpr rfl
  | c :: cs, [], hl, _ => by simp at hl
  | c :: cs, x :: r, hl, h => by
    refine List.mem_flatMap.mpr ⟨x, h 0 (by simp) (by simp), List.mem_map.mpr ⟨r, mem_prodL cs r (by simpa using hl) fun i h1 h2 => ?_, rfl⟩⟩
    exact h (i + 1) (by simpa using h1) (by simpa using h2)
def allRules (game : List PRow) : List Tb := prodL (game.map fun r => if r.1 = 1 then r.2.map (fun w => some w.1) else [none])
theorem mem_all (R : RuleOk game rule) : rule ∈ allRules game := by
  refine mem_prodL _ _ (by rw [List.length_map, R.len]) fun i h1 h2 => ?_
  rw [List.length_map] at h2
  have hi : Ti game (i : Int) := ⟨by omega, by omega⟩
  rw [List.getElem_map, ← getZ_nat h1, ← getZ_nat h2]
  by_cases c : (getZ game (i : Int)).1 = 1
  · rw [if_pos c]
    obtain ⟨w, hw, e⟩ := R.own _ hi c
    rw [e]
    exact List.mem_map.mpr ⟨w, hw, rfl⟩
  · rw [if_neg c, R.keep _ hi c]
    exact List.mem_singleton.mpr rfl
theorem all_len {m : Nat} (m1 : 1 ≤ m) (h : ∀ r ∈ game, r.2.length ≤ m) : (allRules game).length ≤ m ^ game.length := by
  have := prodL_len (m := m) (game.map fun r => if r.1 = 1 then r.2.map (fun w => some w.1) else [none]) fun c hc => by
    obtain ⟨r, hr, rfl⟩ := List.mem_map.mp hc
    split
    · rw [List.length_map]; exact h r hr
    · exact m1
  rw [List.length_map] at this
  exact this
theorem filter_less {α : Type} {p q : α → Bool} : ∀ {l : List α}, (∀ x ∈ l, p x = true → q x = true) → (∃ x ∈ l, q x = true ∧ p x = false) → (l.filter p).length < (l.filter q).length
  | [], _, ⟨x, h, _⟩ => nomatch h
  | y :: l, h, ⟨x, hx, hq, hp⟩ => by
    have mono : (l.filter p).length ≤ (l.filter q).length := by
      have : ∀ l : List α, (∀ x ∈ l, p x = true → q x = true) → (l.filter p).length ≤ (l.filter q).length := by
        intro l
        induction l with
        | nil => intro _; exact Nat.le_refl _
        | cons z l ih =>
          intro h
          have := ih fun x hx => h x (List.mem_cons_of_mem _ hx)
          rw [List.filter_cons, List.filter_cons]
          have hz := h z List.mem_cons_self
          cases e1 : p z with
          | false => cases q z <;> simp <;> omega
          | true => rw [hz e1]; simp; exact this
      exact this l fun x hx => h x (List.mem_cons_of_mem _ hx)
    rw [List.filter_cons, List.filter_cons]
    rcases List.mem_cons.mp hx with rfl | hx
    · rw [hq, hp]
      simp
      omega
    · have := filter_less (fun x hx => h x (List.mem_cons_of_mem _ hx)) ⟨x, hx, hq, hp⟩
      have hy := h y List.mem_cons_self
      cases e1 : p y with
      | false => cases q y <;> simp <;> omega
      | true => rw [hy e1]; simp; exact this
open Classical in
noncomputable def mu (game : List PRow) (r : Tb) : Nat := ((allRules game).filter fun r2 => decide (Bet game r r2)).length
open Classical in
theorem mu_lt {r1 r2 : Tb} (R2 : RuleOk game r2) (h : Bet game r1 r2) : mu game r2 < mu game r1 := by
  unfold mu
  refine filter_less (fun x _ hx => ?_) ⟨r2, mem_all R2, decide_eq_true h, decide_eq_false ?_⟩
  · have hx := of_decide_eq_true hx
    refine decide_eq_true ⟨fun v y k => h.1 v y (hx.1 v y k), ?_⟩
    obtain ⟨v, y, a, b⟩ := h.2
    exact ⟨v, y, a, fun k => b (hx.1 v y k)⟩
  · rintro ⟨_, v, y, a, b⟩
    exact b a
open Classical in
theorem mu_le (r : Tb) : mu game r ≤ (allRules game).length := List.length_filter_le ..
end
end PL
end DL
namespace DL
open PySem PySem.Spec L2
namespace PL
section
variable {game game2 : List PRow} {rule rule2 t t2 : Tb}
end
end PL
end DL
namespace DL
open PySem PySem.Spec L2
namespace PL
structure Enough (game : List PRow) (V : Int → Option Int) : Prop where
  nn : ∀ v, Ti game v → ∀ q, V v = some q → 0 ≤ q
  keep : ∀ v, Ti game v → (getZ game v).1 ≠ 1 → ∀ q, V v = some q → ∃ p a, (p, a) ∈ (getZ game v).2 ∧ ∃ q2, V p = some q2 ∧ q2 ≤ q + a
  all : ∀ v, Ti game v → (getZ game v).1 = 1 → ∀ q, V v = some q → ∀ p a, (p, a) ∈ (getZ game v).2 → ∃ q2, V p = some q2 ∧ q2 ≤ q + a
section
variable {game : List PRow} {rule t : Tb} {V : Int → Option Int}
theorem st_ext {t2 : Tb} {v : Int} (h : ∀ x, St t v x ↔ St t2 v x) : getZ t v = getZ t2 v := by
  unfold St at h
  cases e : getZ t v with
  | none =>
    cases e2 : getZ t2 v with
    | none => rfl
    | some y =>
      obtain ⟨z, ez, _⟩ := (h y).mpr ⟨y, e2, Int.le_refl _⟩
      rw [e] at ez
      cases ez
  | some x =>
    obtain ⟨y, ey, hy⟩ := (h x).mp ⟨x, e, Int.le_refl _⟩
    obtain ⟨z, ez, hz⟩ := (h y).mpr ⟨y, ey, Int.le_refl _⟩
    rw [e] at ez
    cases ez
    rw [ey, show x = y by omega]
end
end PL
end DL
namespace DL
open PySem PySem.Spec L2
namespace PL
structure Lp (game : List PRow) (t : Tb) : Prop where
  len : t.length = game.length
  en : Enough game (getZ t)
  le : ∀ V : Int → Option Int, Enough game V → ∀ v q, Ti game v → V v = some q → ∃ q2, getZ t v = some q2 ∧ q2 ≤ q
  bd : ∀ A : Int, 0 ≤ A → (∀ r ∈ game, ∀ w ∈ r.2, -A ≤ w.2) → ∀ v q, Ti game v → getZ t v = some q → q ≤ game.length * A
theorem tb_ext {game : List PRow} {t t2 : Tb} (l1 : t.length = game.length) (l2 : t2.length = game.length) (h : ∀ v, Ti game v → ∀ x, St t v x ↔ St t2 v x) : t = t2 := by
  refine List.ext_getElem (by omega) fun i h1 h2 => ?_
  rw [← getZ_nat h1, ← getZ_nat h2]
  exact st_ext (h i ⟨by omega, by omega⟩)
end PL
end DL
namespace DL
open PySem PySem.Spec L2
end DL
namespace DL
open PySem PySem.Spec L2
variable {K : PySem.W.Frag} {F F' H H' H0 F0 F1 H1 : Hp} {cs cs' : List Addr} {σ : L2.St} {ρ : Rho}
section
variable {X : Cx} {W : WX} {pos : Pos} {a b : Expr} {fa fb : DE}
end
variable {α β γ δ : Type}
@[simp] def gZip3 : List D → Ri
  | [a, b, c] => match lstD a, lstD b, lstD c with
    | some xs, some ys, some zs => .ok ((xs.zip (ys.zip zs)).map fun p => .tup [p.1, p.2.1, p.2.2])
    | _, _, _ => .bad
  | _ => .bad
section
variable {X : Cx} {W : WX} {pos : Pos} {a b c : Expr}
end
end DL
namespace DL
open PySem PySem.Spec L2
variable {K : PySem.W.Frag} {F F' H H' H0 F0 F1 H1 : Hp} {cs cs' : List Addr} {σ : L2.St} {ρ : Rho}
section
variable {X : Cx} {W : WX} {pos : Pos} {e : Expr} {fe : DE}
end
variable {α : Type} {s : α → O} {m : M α}
end DL
namespace DL
open PySem PySem.Spec L2
variable {K : PySem.W.Frag} {F F' H H' H0 F0 F1 H1 : Hp} {cs cs' : List Addr} {σ : L2.St} {ρ : Rho}
section
variable {X : Cx} {W : WX} {pos apos cpos p1 p2 p3 spos : Pos} {e : Expr} {f : DS} {x y : Str}
end
variable {α β γ δ : Type} {e : α → D} {tb : DB} {f : DS} {is : List Nat}
end DL
namespace DL
open PySem PySem.Spec L2
variable {K : PySem.W.Frag} {F F' H H' H0 F0 F1 H1 : Hp} {cs cs' : List Addr} {σ : L2.St} {ρ : Rho}
section
variable {X : Cx} {W : WX} {pos p q : Pos} {x : Str}
end
end DL
namespace DL
open PySem PySem.Spec L2
section
variable {A α β γ δ : Type} {ρ ρ' : Rho} {i : Nat} {sA : A → O} {s : α → O} {fp : DP} {fb : DE}
end
end DL
namespace DL
open PySem PySem.Spec L2
variable {K : PySem.W.Frag} {F F' H H' H0 F0 F1 H1 : Hp} {cs cs' : List Addr} {σ σ' : L2.St} {ρ ρ' : Rho}
section
variable {X : Cx} {W : WX} {pos : Pos} {a b c e : Expr} {fa fb fc fe : DE} {f g : DS} {k : Nat} {t : Nat} {st : Stmt} {rest : List Stmt}
end
section
variable {α γ : Type}
end
end DL
namespace DL
open PySem PySem.Spec L2
variable {X : Cx} {W : WX}
@[simp] def gIsBl : Ar → Ar → Rs := fun x y => match x.d, y.d with
  | .bl a, .bl b => okB (decide (a = b))
  | _, _ => .bad
end DL
namespace DL
open PySem PySem.Spec L2
section
variable {α β γ δ : Type}
def eH1 (e : α → D) : α → D := fun p => .lst [e p]
def eH2 (e : α → D) (f : β → D) : α × β → D := fun p => .lst [e p.1, f p.2]
def eH3 (e : α → D) (f : β → D) (g : γ → D) : α × β × γ → D := fun p => .lst [e p.1, f p.2.1, g p.2.2]
def oH1 (s : α → O) : α → O := fun p => .lst [s p]
def oH2 (s : α → O) (t : β → O) : α × β → O := fun p => .lst [s p.1, t p.2]
def oH3 (s : α → O) (t : β → O) (u : γ → O) : α × β × γ → O := fun p => .lst [s p.1, t p.2.1, u p.2.2]
instance {s : α → O} {e : α → D} [ToD s e] : ToD (oH1 s) (eH1 e) := ⟨fun p => by simp [oH1, eH1, ToD.td (s := s)]⟩
instance {s : α → O} {e : α → D} {t : β → O} {f : β → D} [ToD s e] [ToD t f] : ToD (oH2 s t) (eH2 e f) := ⟨fun p => by simp [oH2, eH2, ToD.td (s := s), ToD.td (s := t)]⟩
instance {s : α → O} {e : α → D} {t : β → O} {f : β → D} {u : γ → O} {g : γ → D} [ToD s e] [ToD t f] [ToD u g] : ToD (oH3 s t u) (eH3 e f g) := ⟨fun p => by simp [oH3, eH3, ToD.td (s := s), ToD.td (s := t), ToD.td (s := u)]⟩
instance {e : α → D} {f : β → D} {g : γ → D} : NnE (eH3 e f g) := ⟨fun _ h => nomatch h⟩
instance {e : α → D} {f : β → D} {n m : Nat} [EqE e n] [EqE f m] : EqE (eH2 e f) (max n m + 1) := ⟨fun p => Sh.lst fun d hd => by
  simp at hd
  rcases hd with rfl | rfl
  · exact (EqE.sh (e := e) _).mono (by omega)
  · exact (EqE.sh (e := f) _).mono (by omega), fun a b => by
  have h1 := EqE.eq (e := e) a.1 b.1
  have h2 := EqE.eq (e := f) a.2 b.2
  unfold eqD at h1 h2 ⊢
  simp [eH2, toPy, toPys, PyData.eqv, PyData.eqvAll, h1, h2, Prod.ext_iff]⟩
instance {e : α → D} {f : β → D} {g : γ → D} {n m k : Nat} [EqE e n] [EqE f m] [EqE g k] : EqE (eH3 e f g) (max n (max m k) + 1) := ⟨fun p => Sh.lst fun d hd => by
  simp at hd
  rcases hd with rfl | rfl | rfl
  · exact (EqE.sh (e := e) _).mono (by omega)
  · exact (EqE.sh (e := f) _).mono (by omega)
  · exact (EqE.sh (e := g) _).mono (by omega), fun a b => by
  have h1 := EqE.eq (e := e) a.1 b.1
  have h2 := EqE.eq (e := f) a.2.1 b.2.1
  have h3 := EqE.eq (e := g) a.2.2 b.2.2
  unfold eqD at h1 h2 h3 ⊢
  simp [eH3, toPy, toPys, PyData.eqv, PyData.eqvAll, h1, h2, h3, Prod.ext_iff]⟩
end
end DL
namespace DL
open PySem PySem.Spec L2
variable {K : PySem.W.Frag} {F F' H H' H0 F0 F1 H1 : Hp} {cs cs' : List Addr} {σ : L2.St} {ρ : Rho}
section
variable {κ α γ : Type}
def oLk (ke : κ → Key) (e : α → D) : Dc κ α → O := fun d => .lk (d.map fun p => ke p.1) (d.map fun p => e p.2)
instance {ke : κ → Key} {e : α → D} : ToD (oLk ke e) (eDk ke e) := ⟨fun _ => rfl⟩
end
end DL
namespace DL
open PySem PySem.Spec L2
section
variable {X : Cx} {CX : CXT} {k : Nat} {f C : Addr} {fd : FuncData} {ps : List Str} {sp : Sp} {E : L2.St → XK} {x m : Str} {p pos apos : Pos} {e o : Expr} {es : List Expr} {ta : TE} {t : TA}
structure MOk (X : Cx) (CX : CXT) (C : Addr) (m : Str) (k : Nat) (sp : Sp) : Prop where
  ex : ∃ (f : Addr) (fd : FuncData) (ps : List Str), Cls X.K C ∧ Meth X.K C m f ∧ FnOk X.prog X.w X.K X.mg X.base CX k f fd ps sp ∧ Binds X.K fd ps []
end
variable {K : PySem.W.Frag} {F F' H H' H0 F0 F1 H1 : Hp} {cs cs' : List Addr} {σ σ' : L2.St} {ρ ρ' : Rho}
@[simp] def O.insX : O → Option (Str × List Str × List O)
  | .fz (.ins c ns ds) => some (c, ns, ds.map .fz)
  | .ins c ns os => some (c, ns, os)
  | _ => none
structure ClF (K : PySem.W.Frag) (c : Str) (f : Str) : Prop where
  ok : ∀ C, PySem.W.nsIn K mainGlobals c = some (some (.ref C)) → Cls K C ∧ NoAttr K C f
inductive ClFs (K : PySem.W.Frag) (f : Str) : List Str → Prop where
  | nil : ClFs K f []
  | cons {c cl} : ClF K c f → ClFs K f cl → ClFs K f (c :: cl)
theorem ClFs.at {f : Str} : ∀ {cl : List Str}, ClFs K f cl → ∀ c ∈ cl, ClF K c f
  | _, .cons h t, c, hc => by
    rcases List.mem_cons.mp hc with rfl | hc
    · exact h
    · exact t.at c hc
section
variable {X : Cx} {W : WX} {pos : Pos} {a b c e : Expr} {fa fb fc fe : DE} {f g : DS} {k : Nat}
end
end DL
namespace DL
open PySem PySem.Spec L2
variable {K : PySem.W.Frag} {F F' H H' H0 F0 F1 H1 : Hp} {cs cs' : List Addr} {σ σ' : L2.St} {ρ ρ' : Rho}
def hide (H : Hp) (cs : List Addr) : Hp := fun a => if a ∈ cs then none else H a
abbrev Pls := List (Nat × List Nat)
@[simp] def gets (ρ : Rho) : Pls → Option (List O)
  | [] => some []
  | (i, p) :: ps => match ρ[i]? with
    | some (some o) => match O.at p o with
      | some s => match gets ρ ps with
        | some r => some (s :: r)
        | none => none
      | none => none
    | _ => none
@[simp] def puts (ρ : Rho) : Pls → List O → Rho
  | (i, p) :: ps, s :: os => puts (match ρ[i]? with
    | some (some o) => ρ.set i (some (O.put p s o))
    | _ => ρ) ps os
  | _, _ => ρ
def VsAt (K : PySem.W.Frag) (σ : L2.St) (H : Hp) : Pls → List V → Prop
  | [], us => us = []
  | (i, p) :: ps, us => ∃ v u r, us = u :: r ∧ σ[i]? = some (some v) ∧ VAt K H p v u ∧ VsAt K σ H ps r
theorem RS.takeC {i : Nat} {o : O} (R : RS K F0 H0 ρ F σ H cs) (hi : ρ[i]? = some (some o)) : ∃ v c2 cs2, σ[i]? = some (some v) ∧ ORep K F H o v c2 ∧ RS K F0 H0 (ρ.set i none) F σ H cs2 ∧ Tk H0 F c2 cs2 ∧ (∀ c ∈ cs2, c ∈ cs) ∧ ∀ c ∈ c2, c ∈ cs := by
  have hil : i < ρ.length := (List.getElem?_eq_some_iff.mp hi).1
  obtain ⟨c1, c2, c3, ob, x, e1, e4, e5, s, k⟩ := R.sl.split i hil
  rw [hi] at e4
  cases e4
  subst e1
  cases x with
  | none => exact s.elim
  | some v =>
  have nd := R.nd
  rw [List.nodup_append] at nd
  obtain ⟨n1, n23, d123⟩ := nd
  rw [List.nodup_append] at n23
  obtain ⟨n2, n3, d23⟩ := n23
  have hx : σ.set i (some v) = σ := by
    have hi2 : i < σ.length := by rw [R.sl.len]; exact hil
    have : σ[i] = some v := by
      have := List.getElem?_eq_getElem hi2
      rw [e5] at this
      exact (Option.some.inj this).symm
    rw [← this]; simp
  have z := k F H none (some v) [] (Same.refl _) (fun _ _ => rfl) (fun _ _ => rfl) rfl
  rw [hx] at z
  refine ⟨v, c2, c1 ++ ([] ++ c3), e5, s, ⟨R.fh, R.f0, R.nw, R.h0, z, ?_, fun c hc => ?_⟩, ⟨n2, fun c hc => ⟨(R.cf c (List.mem_append_right _ (List.mem_append_left _ hc))).1, (R.cf c (List.mem_append_right _ (List.mem_append_left _ hc))).2, fun h => ?_⟩⟩, fun c hc => ?_, fun c hc => List.mem_append_right _ (List.mem_append_left _ hc)⟩
  · rw [List.nil_append, List.nodup_append]
    exact ⟨n1, n3, fun a ha b hb => d123 a ha b (List.mem_append_right _ hb)⟩
  · rcases List.mem_append.mp hc with h | h
    · exact R.cf c (List.mem_append_left _ h)
    · exact R.cf c (List.mem_append_right _ (List.mem_append_right _ (by simpa using h)))
  · rcases List.mem_append.mp h with h | h
    · exact d123 c h c (List.mem_append_left _ hc) rfl
    · exact d23 c hc c (by simpa using h) rfl
  · rcases List.mem_append.mp hc with h | h
    · exact List.mem_append_left _ h
    · exact List.mem_append_right _ (List.mem_append_right _ (by simpa using h))
theorem RS.fill {i : Nat} {o : O} {v : V} {c : List Addr} (R : RS K F0 H0 ρ F σ H cs) (hi : i < ρ.length) (hv : σ[i]? = some (some v)) (r : ORep K F H o v c) (nd : c.Nodup) (hc : ∀ b ∈ c, F b = none ∧ H0 b = none ∧ b ∉ cs) :
    ∃ cs2, RS K F0 H0 (ρ.set i (some o)) F σ H cs2 ∧ ∀ b ∈ cs2, b ∈ cs ∨ b ∈ c := by
  obtain ⟨c1, c2, c3, ob, x, e1, e4, e5, s, k⟩ := R.sl.split i hi
  subst e1
  rw [hv] at e5
  cases e5
  have nd0 := R.nd
  rw [List.nodup_append] at nd0
  obtain ⟨n1, n23, d123⟩ := nd0
  rw [List.nodup_append] at n23
  obtain ⟨n2, n3, d23⟩ := n23
  have hx : σ.set i (some v) = σ := by
    have hi2 : i < σ.length := by rw [R.sl.len]; exact hi
    have : σ[i] = some v := by
      have := List.getElem?_eq_getElem hi2
      rw [hv] at this
      exact (Option.some.inj this).symm
    rw [← this]; simp
  have z := k F H (some o) (some v) c (Same.refl _) (fun _ _ => rfl) (fun _ _ => rfl) r
  rw [hx] at z
  refine ⟨c1 ++ (c ++ c3), ⟨R.fh, R.f0, R.nw, R.h0, z, ?_, fun b hb => ?_⟩, fun b hb => ?_⟩
  · rw [List.nodup_append]
    refine ⟨n1, ?_, fun a ha b hb e => ?_⟩
    · rw [List.nodup_append]
      exact ⟨nd, n3, fun a ha b hb e => by subst e; exact (hc a ha).2.2 (List.mem_append_right _ (List.mem_append_right _ hb))⟩
    · subst e
      rcases List.mem_append.mp hb with h | h
      · exact (hc a h).2.2 (List.mem_append_left _ ha)
      · exact d123 a ha a (List.mem_append_right _ h) rfl
  · rcases List.mem_append.mp hb with h | h
    · exact R.cf b (List.mem_append_left _ h)
    · rcases List.mem_append.mp h with h | h
      · exact ⟨(hc b h).1, (hc b h).2.1⟩
      · exact R.cf b (List.mem_append_right _ (List.mem_append_right _ h))
  · rcases List.mem_append.mp hb with h | h
    · exact .inl (List.mem_append_left _ h)
    · rcases List.mem_append.mp h with h | h
      · exact .inr h
      · exact .inl (List.mem_append_right _ (List.mem_append_right _ h))
theorem VsAt.fun_ : ∀ {ps : Pls} {us ws : List V}, VsAt K σ H ps us → VsAt K σ H ps ws → us = ws
  | [], _, _, e, e' => e.trans e'.symm
  | (i, p) :: ps, _, _, ⟨v, u, r, e, h1, h2, h3⟩, ⟨v', u', r', e', h1', h2', h3'⟩ => by
    subst e e'
    rw [h1] at h1'
    cases h1'
    rw [h2.fun_ h2', VsAt.fun_ h3 h3']
@[simp] def getR (ρ : Rho) : List Nat → Option (List O)
  | [] => some []
  | j :: js => match ρ[j]? with
    | some (some o) => match getR ρ js with
      | some r => some (o :: r)
      | none => none
    | _ => none
@[simp] def nms : List Addr → List O → List O
  | a :: as, o :: os => .nm a o :: nms as os
  | _, _ => []
end DL
namespace DL
open PySem PySem.Spec L2
variable {K : PySem.W.Frag} {F F' H H' H0 F0 F1 H1 : Hp} {cs cs' : List Addr} {σ σ' : L2.St} {ρ ρ' : Rho}
inductive RX where
  | ok (o : O) (ρ : Rho) | ex (c : Str) (ρ : Rho) | bad
  deriving Inhabited
inductive RbX where
  | ok (b : Bool) (ρ : Rho) | ex (c : Str) (ρ : Rho) | bad
  deriving Inhabited
abbrev DX := Rho → RX
abbrev DTX := Rho → RbX
section
variable (X : Cx) (W : WX)
def postTX (r : RbX) (F0 H0 : Hp) (σ : L2.St) (F H : Hp) (Q : Bool → Hp → Prop) : Prop := match r with
  | .ok b ρ' => ∀ F' H' cs, Same F F' → RS X.K F0 H0 ρ' F' σ H' cs → Q b H'
  | .ex c ρ' => ∀ F' H' cs C, Same F F' → RS X.K F0 H0 ρ' F' σ H' cs → X.mg c = some (.ref C) → W (.ref C) none σ H'
  | .bad => False
def tTX (f : DTX) : TT := fun σ H Q => ∃ F0 H0 ρ F cs, RS X.K F0 H0 ρ F σ H cs ∧ postTX X W (f ρ) F0 H0 σ F H Q
def GTX (e : Expr) (f : DTX) : Prop := PT X e (tTX X W f)
def GWX (e : Expr) (f : DTX) : Prop := PW X e (tTX X W f)
end
section
variable {X : Cx} {W : WX} {pos : Pos} {a b c e : Expr} {fa fb fc fe : DE} {f g : DS}
variable {t u : DTX} {rest : List Expr}
theorem GWX.pt (h : GWX X W a t) : GTX X W a t := PW.pt h
def join (H0 H1 : Hp) (c1 : List Addr) : Hp := fun a => if a ∈ c1 then H1 a else H0 a
theorem join_in {a : Addr} {c1 : List Addr} (h : a ∈ c1) : join H0 H1 c1 a = H1 a := if_pos h
theorem join_out {a : Addr} {c1 : List Addr} (h : a ∉ c1) : join H0 H1 c1 a = H0 a := if_neg h
theorem RS.join {c1 : List Addr} (R : RS K F0 H0 ρ F σ H cs) (t : Tk H0 F c1 cs) : RS K F (DL.join H0 H c1) ρ F σ H cs where
  fh := R.fh
  f0 := Same.refl _
  nw := fun _ _ => rfl
  h0 := fun a u q => by
    by_cases z : a ∈ c1
    · rw [join_in z] at q; exact q
    · rw [join_out z] at q; exact R.h0 a u q
  sl := R.sl
  nd := R.nd
  cf := fun c hc => ⟨(R.cf c hc).1, by
    rw [join_out fun h => (t.fr c h).2.2 hc]
    exact (R.cf c hc).2⟩
theorem RS.kept {c1 cs1 cs2 : List Addr} {F2 H2 : Hp} {ρ2 : Rho} (th : ∀ b ∈ c1, H1 b ≠ none) (t : Tk H0 F1 c1 cs1) (R2 : RS K F1 (DL.join H0 H1 c1) ρ2 F2 σ' H2 cs2) : ∀ b ∈ c1, H2 b = H1 b ∧ F2 b = none ∧ b ∉ cs2 := fun b hb => by
  have nb : DL.join H0 H1 c1 b ≠ none := by rw [join_in hb]; exact th b hb
  refine ⟨?_, by rw [R2.nw b nb]; exact (t.fr b hb).1, fun z => nb (R2.cf b z).2⟩
  cases q : H1 b with
  | none => exact absurd q (th b hb)
  | some u => exact R2.h0 b u (by rw [join_in hb]; exact q)
end
end DL
namespace DL
open PySem PySem.Spec L2
variable {K : PySem.W.Frag} {F F' H H' H0 F0 F1 H1 : Hp} {cs cs' : List Addr} {σ σ' : L2.St} {ρ ρ' : Rho}
inductive Aa where
  | fr (d : D) | mv (o : O) | pl (i : Nat) (p : List Nat)
  deriving Inhabited
inductive Rio where
  | ok (as : List Aa) (ρ : Rho) | ex (c : Str) (ρ : Rho) | bad
  deriving Inhabited
abbrev DIO := Rho → Rio
def AaRep (K : PySem.W.Frag) (F H : Hp) (σ : L2.St) : Aa → V → List Addr → Prop
  | .fr d, v, cs => cs = [] ∧ Rep K F d v
  | .mv o, v, cs => ORep K F H o v cs
  | .pl i p, v, cs => cs = [] ∧ ∃ w, σ[i]? = some (some w) ∧ VAt K H p w v
def AaReps (K : PySem.W.Frag) (F H : Hp) (σ : L2.St) : List Aa → List V → List Addr → Prop
  | [], vs, cs => vs = [] ∧ cs = []
  | a :: as, vs, cs => ∃ v r c1 c2, vs = v :: r ∧ cs = c1 ++ c2 ∧ AaRep K F H σ a v c1 ∧ AaReps K F H σ as r c2
theorem AaRep.there {a : Aa} {v : V} (h : AaRep K F H σ a v cs) : ∀ c ∈ cs, H c ≠ none := by
  cases a with
  | fr d => intro c hc; rw [h.1] at hc; cases hc
  | mv o => exact ORep.there (o := o) h
  | pl i p => intro c hc; rw [h.1] at hc; cases hc
theorem AaReps.there : ∀ {as : List Aa} {vs : List V} {cs}, AaReps K F H σ as vs cs → ∀ c ∈ cs, H c ≠ none
  | [], _, _, ⟨_, e⟩, c, hc => by rw [e] at hc; cases hc
  | a :: as, _, _, ⟨v, r, c1, c2, e1, e2, p, q⟩, c, hc => by
    rw [e2] at hc
    rcases List.mem_append.mp hc with h | h
    · exact p.there c h
    · exact AaReps.there q c h
theorem AaReps.len : ∀ {as : List Aa} {vs : List V} {cs}, AaReps K F H σ as vs cs → as.length = vs.length
  | [], _, _, ⟨e, _⟩ => by rw [e]; rfl
  | a :: as, _, _, ⟨v, r, c1, c2, e1, e2, p, q⟩ => by rw [e1]; simp [AaReps.len q]
theorem AaRep.ext {a : Aa} {v : V} (e : Ext F H F' H') (h : AaRep K F H σ a v cs) : AaRep K F' H' σ a v cs := by
  cases a with
  | fr d => exact ⟨h.1, h.2.mono e.ff⟩
  | mv o => exact ORep.ext (o := o) e h
  | pl i p =>
    obtain ⟨h1, w, h2, h3⟩ := h
    exact ⟨h1, w, h2, h3.same e.hh⟩
theorem AaReps.ext (e : Ext F H F' H') : ∀ {as : List Aa} {vs : List V} {cs}, AaReps K F H σ as vs cs → AaReps K F' H' σ as vs cs
  | [], _, _, h => h
  | a :: as, _, _, ⟨v, r, c1, c2, e1, e2, p, q⟩ => ⟨v, r, c1, c2, e1, e2, p.ext e, AaReps.ext e q⟩
inductive Ro1 where
  | ok (a : Aa) (ρ : Rho) | ex (c : Str) | bad
  deriving Inhabited
abbrev DA1 := Rho → Ro1
section
variable {X : Cx} {W : WX} {pos : Pos} {a b c e : Expr} {fa fb fc fe : DE} {es : List Expr}
theorem RS.has {i : Nat} {o : O} (R : RS K F0 H0 ρ F σ H cs) (hi : ρ[i]? = some (some o)) : ∃ v, σ[i]? = some (some v) := by
  obtain ⟨v, _, _, e, _⟩ := R.takeC hi
  exact ⟨v, e⟩
end
@[simp] def isPl : Aa → Bool
  | .pl _ _ => true
  | _ => false
@[simp] def plsOf : List Aa → Pls
  | [] => []
  | .pl i p :: as => (i, p) :: plsOf as
  | _ :: as => plsOf as
@[simp] def mix : List Aa → List O → List O
  | [], _ => []
  | .fr d :: as, los => .fz d :: mix as los
  | .mv o :: as, los => o :: mix as los
  | .pl _ _ :: as, s :: los => s :: mix as los
  | .pl _ _ :: _, [] => []
@[simp] def pick {α : Type} : List Bool → List α → List α
  | true :: io, x :: xs => x :: pick io xs
  | false :: io, _ :: xs => pick io xs
  | _, _ => []
inductive IOr where
  | ok (o : O) (os : List O) | ex (c : Str) (os : List O) | bad
  deriving Inhabited
def postIOr (K : PySem.W.Frag) (mg : Str → Option Value) (r : IOr) (F H : Hp) (us : List V) (Q : VK) (E : XK) : Prop := match r with
  | .ok o os => ∀ F' H' v cs', Ext F H F' H' → OReps K F' H' (o :: os) (v :: us) cs' → New H F' cs' → Q v H'
  | .ex c os => ∀ F' H' cs' C, Ext F H F' H' → OReps K F' H' os us cs' → New H F' cs' → mg c = some (.ref C) → E (.ref C) none H'
  | .bad => False
def spX (K : PySem.W.Frag) (mg : Str → Option Value) (io : List Bool) (sem : List O → IOr) : Sp := fun vs H Q E =>
  ∃ F os cs, vs.length = io.length ∧ Same F H ∧ OReps K F H os vs cs ∧ cs.Nodup ∧ (∀ c ∈ cs, F c = none) ∧ postIOr K mg (sem os) F (hide H cs) (pick io vs) Q E
theorem VsAt.pick : ∀ {as : List Aa} {vs : List V} {c}, AaReps K F H σ as vs c → VsAt K σ H (plsOf as) (DL.pick (as.map isPl) vs)
  | [], _, _, _ => rfl
  | .fr d :: as, _, _, ⟨v, r, c1, c2, e1, e2, p, q⟩ => by subst e1; have z := VsAt.pick q; exact z
  | .mv o :: as, _, _, ⟨v, r, c1, c2, e1, e2, p, q⟩ => by subst e1; have z := VsAt.pick q; exact z
  | .pl i pp :: as, _, _, ⟨v, r, c1, c2, e1, e2, ⟨_, w, h1, h2⟩, q⟩ => by subst e1; exact ⟨w, v, _, rfl, h1, h2, VsAt.pick q⟩
theorem OReps.split : ∀ {xs ys : List O} {vs us : List V} {c}, xs.length = vs.length → OReps K F H (xs ++ ys) (vs ++ us) c → ∃ c1 c2, c = c1 ++ c2 ∧ OReps K F H xs vs c1 ∧ OReps K F H ys us c2
  | [], _, [], _, c, _, r => ⟨[], c, rfl, ⟨rfl, rfl⟩, r⟩
  | [], _, _ :: _, _, _, l, _ => nomatch l
  | _ :: _, _, [], _, _, l, _ => nomatch l
  | x :: xs, ys, v :: vs, us, _, l, ⟨w, r, c1, c2, e1, e2, p, q⟩ => by
    cases e1
    obtain ⟨d1, d2, h1, h2, h3⟩ := OReps.split (by simpa using l) q
    subst e2 h1
    exact ⟨c1 ++ d1, d2, by simp, ⟨v, vs, c1, d1, rfl, rfl, p, h2⟩, h3⟩
section
variable {X : Cx} {W : WX} {pos : Pos} {a b c e : Expr} {fa fb fc fe : DE} {es : List Expr}
structure DOkX (P : Program) (w : World) (K : PySem.W.Frag) (mg : Str → Option Value) (base : Heap) (k : Nat) (x : Str) (io : List Bool) (sem : List O → IOr) : Prop where
  ex : ∃ (f : Addr) (fd : FuncData) (ps : List Str), FnOk P w K mg base (L2.CX P w) k f fd ps (spX K mg io sem) ∧ mg x = some (.ref f) ∧ PySem.W.keepIn K (.ref f) = true ∧ Binds K fd ps []
theorem DOkX.mono {P : Program} {w : World} {mg : Str → Option Value} {base : Heap} {k j : Nat} {x : Str} {io : List Bool} {sem : List O → IOr} (h : DOkX P w K mg base k x io sem) (l : k ≤ j) : DOkX P w K mg base j x io sem := by
  obtain ⟨f, fd, ps, F, r⟩ := h.ex
  exact ⟨f, fd, ps, F.mono l, r⟩
structure MthX (X : Cx) (k : Nat) (m c : Str) (sp : Sp) : Prop where
  ok : ∀ C, PySem.W.nsIn X.K mainGlobals c = some (some (.ref C)) → MOk X (L2.CX X.prog X.w) C m k sp
abbrev Sems := List (Str × List Bool × (List O → IOr))
inductive MthsX (X : Cx) (k : Nat) (m : Str) : Sems → Prop where
  | nil : MthsX X k m []
  | cons {c io sem l} : MthX X k m c (spX X.K X.mg io sem) → MthsX X k m l → MthsX X k m ((c, io, sem) :: l)
theorem MthsX.at {k : Nat} {m : Str} : ∀ {l : Sems}, MthsX X k m l → ∀ {c io sem}, l.lookup c = some (io, sem) → MthX X k m c (spX X.K X.mg io sem)
  | _, .nil, _, _, _, h => nomatch h
  | (c', io', sem') :: l, .cons h t, c, io, sem, e => by
    unfold List.lookup at e
    split at e
    · rename_i q
      cases e
      have : c = c' := by simpa using q
      subst this
      exact h
    · exact t.at e
theorem MOk.mono {C : Addr} {m : Str} {k j : Nat} {sp : Sp} {CX : CXT} (h : MOk X CX C m k sp) (l : k ≤ j) : MOk X CX C m j sp := by
  obtain ⟨f, fd, ps, a, b, F, r⟩ := h.ex
  exact ⟨f, fd, ps, a, b, F.mono l, r⟩
end
end DL
namespace DL
open PySem PySem.Spec L2
structure CFn (K : PySem.W.Frag) (C : Addr) (m : Str) (f : Addr) : Prop where
  rd : ∃ mc, ClX.CRead K C mc ∧ ClX.CVal K C mc m (.ref f) (.ref f)
  kp : PySem.W.keepIn K (.ref f) = true
section
variable {X : Cx} {CX : CXT} {k : Nat} {f C : Addr} {fd : FuncData} {ps : List Str} {sp : Sp} {E : L2.St → XK} {x m : Str} {p pos apos : Pos} {e o : Expr} {es : List Expr} {ta : TE} {t : TA}
end
variable {K : PySem.W.Frag} {F F' H H' H0 F0 F1 H1 : Hp} {cs cs' : List Addr} {σ σ' : L2.St} {ρ ρ' : Rho}
section
variable {X : Cx} {W : WX} {pos : Pos} {a b c e : Expr} {fa fb fc fe : DE} {es : List Expr}
structure CFnX (X : Cx) (k : Nat) (x m : Str) (io : List Bool) (sem : List O → IOr) : Prop where
  ex : ∃ (C f : Addr) (fd : FuncData) (ps : List Str), X.mg x = some (.ref C) ∧ CFn X.K C m f ∧ FnOk X.prog X.w X.K X.mg X.base (L2.CX X.prog X.w) k f fd ps (spX X.K X.mg io sem) ∧ Binds X.K fd ps []
structure MkX (X : Cx) (k : Nat) (x : Str) (io : List Bool) (sem : List O → IOr) : Prop where
  ex : ∃ (C f : Addr) (fd : FuncData) (ps : List Str), Mk X.K C f ∧ FnOk X.prog X.w X.K X.mg X.base (L2.CX X.prog X.w) k f fd ps (spX X.K X.mg (true :: io) sem) ∧ X.mg x = some (.ref C) ∧ PySem.W.nsIn X.K mainGlobals x = some (some (.ref C)) ∧ Binds X.K fd ps []
abbrev SemsD := List (Str × Nat × DF)
inductive MthsD (X : Cx) (k : Nat) (m : Str) : SemsD → Prop where
  | nil : MthsD X k m []
  | cons {c n sem l} : MthX X k m c (spD X.K X.mg sem n) → MthsD X k m l → MthsD X k m ((c, n, sem) :: l)
theorem MthsD.at {k : Nat} {m : Str} : ∀ {l : SemsD}, MthsD X k m l → ∀ {c n sem}, l.lookup c = some (n, sem) → MthX X k m c (spD X.K X.mg sem n)
  | _, .nil, _, _, _, h => nomatch h
  | (c', n', sem') :: l, .cons h t, c, n, sem, e => by
    unfold List.lookup at e
    split at e
    · rename_i q
      cases e
      have : c = c' := by simpa using q
      subst this
      exact h
    · exact t.at e
end
end DL
namespace DL
open PySem PySem.Spec L2
variable {K : PySem.W.Frag} {F F' H H' H0 F0 F1 H1 : Hp} {cs cs' : List Addr} {σ σ' : L2.St} {ρ ρ' : Rho}
@[simp] def wrapN : List Bool → List Addr → List O → List O
  | true :: io, a :: as, o :: os => .nm a o :: wrapN io as os
  | false :: io, as, o :: os => o :: wrapN io as os
  | _, _, _ => []
@[simp] def cntB : List Bool → Nat
  | [] => 0
  | true :: io => cntB io + 1
  | false :: io => cntB io
@[simp] def jsFrom : Nat → List Bool → List Nat
  | _, [] => []
  | k, true :: io => k :: jsFrom (k + 1) io
  | k, false :: io => jsFrom (k + 1) io
@[simp] def D.isRef : D → Bool
  | .lst _ => true | .tup _ => true | .dK _ _ => true | .dT _ _ => true | .exc _ => true | .ins _ _ _ => true | .at _ => true
  | _ => false
@[simp] def O.isRef : O → Bool
  | .fz d => d.isRef
  | _ => true
@[simp] def refsOk : List Bool → List O → Bool
  | true :: io, o :: os => o.isRef && refsOk io os
  | false :: io, _ :: os => refsOk io os
  | [], [] => true
  | _, _ => false
theorem isRef_rep {o : O} {v : V} (h : o.isRef = true) (r : ORep K F H o v cs) : ∃ a, v = .ref a := by
  cases o with
  | fz d =>
    cases d with
    | lst xs => obtain ⟨_, a, _, e, _⟩ := r; exact ⟨a, e⟩
    | tup xs => obtain ⟨_, a, _, e, _⟩ := r; exact ⟨a, e⟩
    | dK ks ds => obtain ⟨_, a, _, e, _⟩ := r; exact ⟨a, e⟩
    | dT ks ds => obtain ⟨_, a, _, e, _⟩ := r; exact ⟨a, e⟩
    | exc c => obtain ⟨_, a, _, e, _⟩ := r; exact ⟨a, e⟩
    | ins c ns ds => obtain ⟨_, a, _, _, _, e, _⟩ := r; exact ⟨a, e⟩
    | «at» a => exact ⟨a, r.2⟩
    | _ => cases h
  | lst xs => obtain ⟨a, _, _, e, _⟩ := r; exact ⟨a, e⟩
  | tup xs => obtain ⟨a, _, _, e, _⟩ := r; exact ⟨a, e⟩
  | dK ks ds => obtain ⟨a, _, e, _⟩ := r; exact ⟨a, e⟩
  | dT ks ds => obtain ⟨a, _, e, _⟩ := r; exact ⟨a, e⟩
  | lk ks ds => obtain ⟨_, a, _, _, e, _⟩ := r; exact ⟨a, e⟩
  | ins c ns os => obtain ⟨a, _, _, _, _, e, _⟩ := r; exact ⟨a, e⟩
  | nm a o => exact ⟨a, r.1⟩
def IoIs (js : List Nat) (as : List Addr) (r : SR) : IOr → Prop
  | .ok o os => os.length = as.length ∧ (r = .rw o (nms as os) ∨ (o = .fz .non ∧ ∃ ρ, r = .nx ρ ∧ getR ρ js = some (nms as os)))
  | .ex c os => os.length = as.length ∧ ∃ ρ, r = .ex c ρ ∧ getR ρ js = some (nms as os)
  | .bad => False
theorem nms_inj : ∀ {as : List Addr} {os us : List O}, os.length = as.length → us.length = as.length → nms as os = nms as us → os = us
  | [], [], [], _, _, _ => rfl
  | [], _ :: _, _, h, _, _ => nomatch h
  | [], _, _ :: _, _, h, _ => nomatch h
  | _ :: _, [], _, h, _, _ => nomatch h
  | _ :: _, _, [], _, h, _ => nomatch h
  | a :: as, o :: os, u :: us, h1, h2, e => by
    simp only [nms] at e
    injection e with e1 e2
    injection e1 with _ e3
    rw [e3, nms_inj (by simpa using h1) (by simpa using h2) e2]
theorem IoIs.fun_ {js : List Nat} {as : List Addr} {r : SR} {x y : IOr} (h : IoIs js as r x) (g : IoIs js as r y) : x = y := by
  cases x with
  | bad => exact h.elim
  | ok o os =>
    cases y with
    | bad => exact g.elim
    | ok o' os' =>
      obtain ⟨l, h | ⟨h1, ρ, h2, h3⟩⟩ := h <;> obtain ⟨l', g | ⟨g1, ρ', g2, g3⟩⟩ := g
      · rw [h] at g
        injection g with e1 e2
        rw [e1, nms_inj l l' e2]
      · rw [h] at g2; cases g2
      · rw [h2] at g; cases g
      · rw [h2] at g2
        cases g2
        rw [h3] at g3
        rw [h1, g1, nms_inj l l' (Option.some.inj g3)]
    | ex c us =>
      obtain ⟨_, ρ, g, _⟩ := g
      obtain ⟨_, h | ⟨_, ρ', h, _⟩⟩ := h <;> rw [g] at h <;> cases h
  | ex c us =>
    cases y with
    | bad => exact g.elim
    | ok o os =>
      obtain ⟨_, ρ, g', _⟩ := h
      obtain ⟨_, h | ⟨_, ρ', h, _⟩⟩ := g <;> rw [g'] at h <;> cases h
    | ex c' us' =>
      obtain ⟨l, ρ, h1, h2⟩ := h
      obtain ⟨l', ρ', g1, g2⟩ := g
      rw [h1] at g1
      cases g1
      rw [h2] at g2
      rw [nms_inj l l' (Option.some.inj g2)]
section
variable {P : Program} {w : World} {K : PySem.W.Frag} {mg : Str → Option Value} {base : Heap}
end
end DL
namespace DL
open PySem PySem.Spec L2
def M.bind2 {α β γ : Type} (m : M (α × β)) (k : α → β → M γ) : M γ := m.bind fun p => k p.1 p.2
structure WQ {α S : Type} (r : RX) (m : M (α × S)) (so : α → O) (up : S → Rho) : Prop where
  out : match m with
    | .ok g => r = .ok (so g.1) (up g.2)
    | .ex c => ∃ ρ, r = .ex c ρ
    | .bad => True
structure TW {S : Type} (r : RbX) (m : M (Bool × S)) (up : S → Rho) : Prop where
  out : match m with
    | .ok g => r = .ok g.1 (up g.2)
    | .ex c => ∃ ρ, r = .ex c ρ
    | .bad => True
section
variable {α β γ δ S S1 S2 : Type} {ρ ρ' ρ1 ρ2 : Rho} {f g R A B K : DS} {l : List Gh} {so : α → O} {up : S → Rho} {m : M (α × S)} {fx : DX} {fe : DE} {fv : DV} {P : γ → SR → Prop}
variable {c : DTX} {mt : M (Bool × S)} {mA mB : S → M γ}
theorem TW.re {up2 : S2 → Rho} {k : S → S2} (h : TW (c ρ) mt up) (hk : ∀ s, up s = up2 (k s)) : TW (c ρ) (mt.bind2 fun b s => .ok (b, k s)) up2 := ⟨by
  have h := h.out
  cases mt with
  | ok g =>
    have h : c ρ = .ok g.1 (up g.2) := h
    show c ρ = .ok g.1 (up2 (k g.2))
    rw [h, hk]
  | ex c => exact h
  | bad => trivial⟩
theorem WQ.re {up2 : S2 → Rho} {k : S → S2} (h : WQ (fx ρ) m so up) (hk : ∀ s, up s = up2 (k s)) : WQ (fx ρ) (m.bind2 fun a s => .ok (a, k s)) so up2 := ⟨by
  have h := h.out
  cases m with
  | ok g =>
    have h : fx ρ = .ok (so g.1) (up g.2) := h
    show fx ρ = .ok (so g.1) (up2 (k g.2))
    rw [h, hk]
  | ex c => exact h
  | bad => trivial⟩
variable {fa : DA1} {ga : DIO} {a : Aa} {as : List Aa}
variable {io : List Bool} {sem : List O → IOr} {los os : List O} {pls : Pls} {ws : S → List O}
variable {mn cn : Str} {ns : List Str} {sl : Sems} {fp : DP} {i : Nat} {p : List Nat} {os0 : List O} {x1 : O}
end
end DL
namespace DL
open PySem PySem.Spec L2
variable {K : PySem.W.Frag} {F F' H H' H0 F0 F1 H1 : Hp} {cs cs' : List Addr} {σ σ' : L2.St} {ρ ρ' : Rho}
def varN (i : Nat) : DE := fun ρ => match ρ[i]? with
  | some (some (.nm _ o)) => .ok (itemAr o)
  | _ => .bad
section
variable {X : Cx} {W : WX} {pos : Pos} {a b c e : Expr} {fa fb fc fe : DE} {es : List Expr}
theorem ge_varN (i : Nat) {x : Str} (hN : X.N[i]? = some x := by rfl) (hv : Vis X.env.scope x := by first | exact Or.inl rfl | exact Or.inr (Or.inl rfl) | exact Or.inr (Or.inr rfl)) (hd : (x == ("__debug__" : Str)) = false := by decide)
    (hcd : (x == ("__classdict__" : Str)) = false := by decide) : GE X W (.Name x pos) (varN i) := by
  refine PE.imp (pe_var hN hv hd hcd) fun σ H Q ⟨F0, H0, ρ, F, cs, R, p⟩ => ?_
  unfold varN at p
  split at p
  · rename_i a o q
    obtain ⟨v, c1, c2, c3, e1, e2, r, _⟩ := R.put q
    exact ⟨v, e2, p F H v [] (Ext.refl R.fh) (itemAr_rep r.2) New.nil⟩
  · exact p.elim
theorem pq_varN {i : Nat} {a : Addr} {o : O} (h : ρ[i]? = some (some (.nm a o))) : varN i ρ = .ok (itemAr o) := by
  unfold varN
  rw [h]
end
section
variable {κ α β S : Type} [DecidableEq κ] {ke : κ → Key} {f : κ → D} {t : α → D} {d : Dc κ α} {k : κ} {v : α} {fp : DP} {fv : DVs} {i : Nat} {p : List Nat} {o : O}
class FlE (e : α → D) : Prop where
  fl : ∀ x, flatD (e x) = true
instance : FlE eI := ⟨fun _ => rfl⟩
instance : FlE eB := ⟨fun _ => rfl⟩
instance : FlE eS := ⟨fun _ => rfl⟩
def oIn (c : Str) (ns : List Str) (ws : α → List O) : α → O := fun x => .ins c ns (ws x)
def eIn (c : Str) (ns : List Str) (wd : α → List D) : α → D := fun x => .ins c ns (wd x)
class TdL (ws : α → List O) (wd : outParam (α → List D)) : Prop where
  td : ∀ x, O.toDs (ws x) = wd x
instance {c : Str} {ns : List Str} {ws : α → List O} {wd : α → List D} [TdL ws wd] : ToD (oIn c ns ws) (eIn c ns wd) := ⟨fun x => by
  show D.ins c ns (O.toDs (ws x)) = D.ins c ns (wd x)
  rw [TdL.td]⟩
instance {c : Str} {ns : List Str} {ws : α → List O} : Pl (oIn c ns ws) := Pl.of fun _ _ _ h => nomatch h
instance {c : Str} {ns : List Str} {wd : α → List D} : NnE (eIn c ns wd) := ⟨fun _ h => nomatch h⟩
end
section
variable {P : Program} {w : World} {K : PySem.W.Frag} {mg : Str → Option Value} {base : Heap}
structure MthP (P : Program) (w : World) (K : PySem.W.Frag) (mg : Str → Option Value) (base : Heap) (k : Nat) (m c : Str) (sp : Sp) : Prop where
  ok : ∀ C, PySem.W.nsIn K mainGlobals c = some (some (.ref C)) → ∃ (f : Addr) (fd : FuncData) (ps : List Str), Cls K C ∧ Meth K C m f ∧ FnOk P w K mg base (L2.CX P w) k f fd ps sp ∧ Binds K fd ps []
theorem MthP.x {X : Cx} {k : Nat} {m c : Str} {sp : Sp} (h : MthP X.prog X.w X.K X.mg X.base k m c sp) : MthX X k m c sp := ⟨fun C e => ⟨h.ok C e⟩⟩
theorem MthP.mono {k j : Nat} {m c : Str} {sp : Sp} (h : MthP P w K mg base k m c sp) (l : k ≤ j) : MthP P w K mg base j m c sp := ⟨fun C e => by
  obtain ⟨f, fd, ps, a, b, F, r⟩ := h.ok C e
  exact ⟨f, fd, ps, a, b, F.mono l, r⟩⟩
structure CFnP (P : Program) (w : World) (K : PySem.W.Frag) (mg : Str → Option Value) (base : Heap) (k : Nat) (x m : Str) (io : List Bool) (sem : List O → IOr) : Prop where
  ex : ∃ (C f : Addr) (fd : FuncData) (ps : List Str), mg x = some (.ref C) ∧ CFn K C m f ∧ FnOk P w K mg base (L2.CX P w) k f fd ps (spX K mg io sem) ∧ Binds K fd ps []
theorem CFnP.x {X : Cx} {k : Nat} {y m : Str} {io : List Bool} {sem : List O → IOr} (h : CFnP X.prog X.w X.K X.mg X.base k y m io sem) : CFnX X k y m io sem := ⟨h.ex⟩
structure MkP (P : Program) (w : World) (K : PySem.W.Frag) (mg : Str → Option Value) (base : Heap) (k : Nat) (x : Str) (io : List Bool) (sem : List O → IOr) : Prop where
  ex : ∃ (C f : Addr) (fd : FuncData) (ps : List Str), Mk K C f ∧ FnOk P w K mg base (L2.CX P w) k f fd ps (spX K mg (true :: io) sem) ∧ mg x = some (.ref C) ∧ PySem.W.nsIn K mainGlobals x = some (some (.ref C)) ∧ Binds K fd ps []
theorem MkP.x {X : Cx} {k : Nat} {y : Str} {io : List Bool} {sem : List O → IOr} (h : MkP X.prog X.w X.K X.mg X.base k y io sem) : MkX X k y io sem := ⟨h.ex⟩
structure ClP (K : PySem.W.Frag) (c : Str) (fs : List Str) : Prop where
  ok : ∃ C, PySem.W.nsIn K mainGlobals c = some (some (.ref C)) ∧ Cls K C ∧ ∀ f ∈ fs, NoAttr K C f
theorem ClP.f {c : Str} {fs : List Str} {f : Str} (h : ClP K c fs) (hf : f ∈ fs) : ClF K c f := ⟨fun C e => by
  obtain ⟨C', e', h1, h2⟩ := h.ok
  rw [e] at e'
  cases e'
  exact ⟨h1, h2 f hf⟩⟩
theorem ClP.one {c : Str} {fs : List Str} {f : Str} (h : ClP K c fs) (hf : decide (f ∈ fs) = true) : ClFs K f [c] := .cons (h.f (of_decide_eq_true hf)) .nil
end
end DL
namespace DL
open PySem PySem.Spec L2
variable {K : PySem.W.Frag} {F F' H H' H0 F0 F1 H1 : Hp} {cs cs' : List Addr} {σ σ' : L2.St} {ρ ρ' : Rho}
section
variable {X : Cx} {W : WX}
end
section
variable {κ α : Type} [DecidableEq κ] {ke : κ → Key} {f : κ → D} {e : α → D}
end
end DL
namespace DL
open PySem PySem.Spec L2
section
variable {K : PySem.W.Frag} {X : Cx} {W : WX}
end
section
variable {κ α : Type} [DecidableEq κ] {ke : κ → Key} {e : α → D}
end
end DL
namespace DL
open PySem PySem.Spec L2
variable {K : PySem.W.Frag} {F F' H H' H0 F0 F1 H1 : Hp} {cs cs' : List Addr} {σ σ' : L2.St} {ρ ρ' : Rho}
section
variable {X : Cx} {W : WX} {pos : Pos} {a b c e : Expr} {f g : DX} {rest : List Expr}
end
section
variable {α S : Type} {up : S → Rho} {f g : DX} {fv : DV} {so : α → O} {m : M (Bool × S)} {m2 : S → M (Bool × S)}
end
end DL
namespace DL
open PySem PySem.Spec L2
variable {K : PySem.W.Frag} {F F' H H' H0 F0 F1 H1 : Hp} {cs cs' : List Addr} {σ σ' : L2.St} {ρ ρ' : Rho}
theorem AReps.os : ∀ {as : List Ar} {vs : List V} {cs : List Addr}, AReps K F H as vs cs → ∃ c, OReps K F H (as.map Ar.o) vs c
  | [], _, _, ⟨e, _⟩ => ⟨[], e, rfl⟩
  | a :: as, _, _, ⟨v, r, c1, c2, e1, e2, x, y⟩ => by
    obtain ⟨d1, h1⟩ := x.some
    obtain ⟨d2, h2⟩ := AReps.os y
    exact ⟨d1 ++ d2, v, r, d1, d2, e1, rfl, h1, h2⟩
section
variable {X : Cx} {W : WX} {pos : Pos} {a b c e : Expr} {fa fb fc fe : DE} {t : Nat}
end
section
variable {A α β γ : Type} {s : α → O} {t : β → O}
end
end DL
namespace DL
end DL
namespace DL
open PySem PySem.Spec L2
abbrev Wr := Str × List Int
def eW : Wr → D := fun r => .tup (.str r.1 :: r.2.map .int)
end DL
namespace DL
open PySem PySem.Spec L2
variable {K : PySem.W.Frag} {F F' H H' H0 F0 F1 H1 : Hp} {cs cs' : List Addr} {σ σ' : L2.St} {ρ ρ' : Rho}
section
variable {X : Cx} {W : WX} {pos apos : Pos} {a b c e : Expr} {fa fb fc fe : DE}
end
section
variable {fa fb : DE} {ma mb : M Str}
end
section
variable {X : Cx} {W : WX} {pos apos : Pos} {a b c e : Expr} {fa fb fc fe : DE}
end
end DL
namespace DL
open PySem PySem.Spec L2 TL
section
variable {β : Type} {Q : β → Prop}
end
def isLow (c : Nat) : Bool := decide (97 ≤ c) && decide (c ≤ 122)
def isNm (x : Str) : Bool := (tl x).all isLow && (decide (1 ≤ (tl x).length) && decide ((tl x).length ≤ 8))
def pos : List Str → Str → Option Int
  | [], _ => none
  | n :: ns, x => if n = x then some 0 else (pos ns x).map (· + 1)
theorem pos_at {ns : List Str} (h : ns.Nodup) {i : Nat} (hi : i < ns.length) : pos ns ns[i] = some (i : Int) := by
  induction ns generalizing i with
  | nil => simp at hi
  | cons n ns ih =>
    obtain ⟨h1, h2⟩ := List.nodup_cons.mp h
    cases i with
    | zero =>
      show pos (n :: ns) n = _
      unfold pos
      rw [if_pos rfl]
      rfl
    | succ i =>
      have hi' : i < ns.length := by simpa using hi
      show pos (n :: ns) ns[i] = _
      unfold pos
      have hne : n ≠ ns[i] := fun e => h1 (by rw [e]; exact List.getElem_mem hi')
      rw [if_neg hne, ih h2 hi']
      show some ((i : Int) + 1) = _
      rfl
end DL
namespace DL
open PySem PySem.Spec L2 TL
def allP {α β : Type} (f : α → Option β) : List α → Option (List β)
  | [] => some []
  | x :: xs => match f x with
    | none => none
    | some y => match allP f xs with
      | none => none
      | some ys => some (y :: ys)
theorem allP_map {α β γ : Type} {f : α → Option β} {g : γ → α} {h : γ → β} : ∀ {xs : List γ}, (∀ x ∈ xs, f (g x) = some (h x)) → allP f (xs.map g) = some (xs.map h)
  | [], _ => rfl
  | x :: xs, hx => by
    rw [List.map_cons]
    unfold allP
    rw [hx x List.mem_cons_self]
    dsimp only
    rw [allP_map fun y hy => hx y (List.mem_cons_of_mem _ hy)]
    rfl
section
variable {names : List Str} {rows : List (Int × Int × List Int)}
theorem zip_mem {p : Str × (Int × Int × List Int)} (h : p ∈ names.zip rows) : p.1 ∈ names ∧ p.2 ∈ rows := ⟨(List.of_mem_zip h).1, (List.of_mem_zip h).2⟩
theorem pos_getZ (hn : names.Nodup) {w : Int} (h0 : 0 ≤ w) (h1 : w < names.length) : pos names (getZ names w) = some w := by
  have hi : w.toNat < names.length := by omega
  have e : getZ names w = names[w.toNat] := getZ_at h0 h1
  rw [e, pos_at hn hi]
  congr 1
  omega
end
end DL
set_option maxHeartbeats 2000000
namespace DL
open PySem PySem.Spec PyProof.Rows L2
open Sem (wp)
section
variable {X : Cx} {pins : List (Addr × Obj)} {σ : L2.St} {H : Hp} {s t : Shared} {W : WX} {E : XK}
end
end DL
set_option maxHeartbeats 2000000
namespace DL
open PySem PySem.Spec L2
section
variable {X : Cx} {W : WX}
end
variable {K : PySem.W.Frag} {F F' H H' H0 F0 F1 H1 : Hp} {cs cs' : List Addr} {σ σ' : L2.St} {ρ ρ' : Rho}
section
variable {X : Cx} {W : WX} {pos : Pos}
variable {fe : DE}
end
section
variable {α β γ : Type}
end
end DL
set_option maxHeartbeats 1000000
namespace DL
open PySem PySem.Spec L2 TL
def exO {α : Type} (E : Str) : Option α → M α
  | none => .ex E
  | some y => .ok y
abbrev PR := Int × List (Int × Int)
def rowQ (names : List Str) (r : (Str × Int × Str) × List (Str × Int)) : Option PR := (allP (fun w : Str × Int => (pos names w.1).map fun i => (i, w.2)) r.2).map fun ws => (r.1.2.1, ws)
structure Px (names : List Str) (rows : List PR) : Prop where
  len : names.length = rows.length
  lim : names.length ≤ 200
  nm : ∀ x ∈ names, isNm x = true
  nd : names.Nodup
  hand : ∀ r ∈ rows, r.1 = 0 ∨ r.1 = 1
  wl : ∀ r ∈ rows, r.2.length ≤ 200
  in_ : ∀ r ∈ rows, ∀ w ∈ r.2, 0 ≤ w.1 ∧ w.1 < names.length
  a0 : ∀ r ∈ rows, ∀ w ∈ r.2, -(10 ^ 60) < w.2
  a1 : ∀ r ∈ rows, ∀ w ∈ r.2, w.2 < 10 ^ 60
section
variable {names : List Str} {rows : List PR}
theorem zipP_mem {p : Str × PR} (h : p ∈ names.zip rows) : p.1 ∈ names ∧ p.2 ∈ rows := ⟨(List.of_mem_zip h).1, (List.of_mem_zip h).2⟩
theorem Px.rows_ok (G : Px names rows) : allP (rowQ names) ((names.zip rows).map fun p => ((p.1, p.2.1, Str.empty), p.2.2.map fun w => (getZ names w.1, w.2))) = some rows := by
  have h := allP_map (f := rowQ names) (g := fun p : Str × PR => ((p.1, p.2.1, Str.empty), p.2.2.map fun w => (getZ names w.1, w.2))) (h := fun p => p.2) (xs := names.zip rows) fun p hp => by
    obtain ⟨p1, p2⟩ := zipP_mem hp
    unfold rowQ
    rw [allP_map (h := fun w : Int × Int => w) fun w hw => ?_]
    · rw [List.map_id']
      rfl
    · obtain ⟨i0, i1⟩ := G.in_ _ p2 w hw
      rw [pos_getZ G.nd i0 i1]
      rfl
  rw [h, List.map_snd_zip (Nat.le_of_eq G.len.symm)]
end
end DL
namespace DL
open PySem PySem.Spec PyProof.Rows L2
inductive KVl where
  | s (x : Str) | i (n : Int)
def KVl.d : KVl → D
  | .s x => .str x
  | .i n => .int n
def KVl.v : KVl → V
  | .s x => .str x
  | .i n => .int n
def KVl.u : KVl → Tok → Value
  | .s x, t => .str x t
  | .i n, t => .int n t
theorem KVl.rep {K : PySem.W.Frag} {F : Hp} : ∀ a : KVl, Rep K F a.d a.v
  | .s _ => rfl
  | .i _ => rfl
abbrev KE4 := Str × Tok × KVl × Tok
section
variable {P : Program} {w : World} {K : PySem.W.Frag} {h : Heap} {g : Addr} {l : List KE4} {ep : Nat}
end
variable {K : PySem.W.Frag} {F F' H H' H0 F0 F1 H1 : Hp} {cs cs' : List Addr} {σ σ' : L2.St} {ρ ρ' : Rho}
section
variable {X : Cx} {W : WX} {pos p : Pos} {a : Expr} {fa : DE} {x : Str} {kvs : List (Str × KVl)}
end
section
variable {fe : DE} {x : Str} {kvs : List (Str × KVl)} {m : M Str}
end
end DL
set_option maxHeartbeats 1000000
namespace DL
open PySem PySem.Spec PyProof.Rows L2
variable {K : PySem.W.Frag} {F F' H H' H0 F0 F1 H1 : Hp} {cs cs' : List Addr} {σ σ' : L2.St} {ρ ρ' : Rho}
section
variable {X : Cx} {W : WX} {pos : Pos} {a b : Expr}
end
end DL
namespace DL
open PySem PySem.Spec L2
variable {K : PySem.W.Frag} {F F' H H' H0 F0 F1 H1 : Hp} {cs cs' : List Addr} {σ σ' : L2.St} {ρ ρ' : Rho}
section
variable {X : Cx} {W : WX} {pos : Pos} {e : Expr} {es : List Expr} {fa : DA}
end
section
variable {α β γ δ S : Type} {fe : DE} {fa : DA}
end
abbrev Wi := Str × Str × Int × Int × List Int
def wiNs : List Int → List Str
  | [] => ["word", "one", "two"]
  | _ => ["word", "one", "two", "most"]
def eWi : Wi → D := fun x => .ins x.1 (wiNs x.2.2.2.2) (.str x.2.1 :: .int x.2.2.1 :: .int x.2.2.2.1 :: x.2.2.2.2.map .int)
section
variable {fe : DE} {fa : DA} {β : Type} {mn : Str} {so : β → O}
end
instance : NnE eWi := ⟨fun _ h => nomatch h⟩
end DL
namespace DL
open PySem PySem.Spec L2
variable {K : PySem.W.Frag} {F F' H H' H0 F0 F1 H1 : Hp} {cs cs' : List Addr} {σ σ' : L2.St} {ρ ρ' : Rho}
section
variable {X : Cx} {W : WX} {pos : Pos} {a : Expr} {fa fe : DE}
end
def eIt : List Int → D := fun xs => .tup (xs.map .int)
instance : NnE eIt := ⟨fun _ h => nomatch h⟩
instance : NnE eW := ⟨fun _ h => nomatch h⟩
section
variable {fe : DE}
end
theorem ClP.two {K : PySem.W.Frag} {c : Str} {cl fs : List Str} {f : Str} (h : ClP K c fs) (hf : decide (f ∈ fs) = true) (r : ClFs K f cl) : ClFs K f (c :: cl) := .cons (h.f (of_decide_eq_true hf)) r
section
variable {α β γ : Type} {fa : DA} {e : α → D} {so : α → O}
end
end DL
set_option maxHeartbeats 4000000
namespace DL
open PySem PySem.Spec L2 TL PL
abbrev Tik := Int × Int
section
variable (f g : Tik → Bool)
theorem rng_snoc {lo hi : Int} (h : lo ≤ hi) : rng lo (hi + 1) = rng lo hi ++ [hi] := by
  unfold rng
  rw [show (hi + 1 - lo).toNat = (hi - lo).toNat + 1 by omega, List.range_succ, List.map_append]
  congr 1
  show [lo + ((hi - lo).toNat : Nat)] = [hi]
  congr 1
  omega
end
inductive Wsh where
  | answer (a d : Int) | often (d : Int) | within (a d n : Int) | never (d e : Int) | not_ (a d : Int) | only (a d : Int) | hope (a : Int) | calm (a : Int)
def Wsh.row : Wsh → Wr
  | .answer a d => ("answer", [a, d])
  | .often d => ("often", [d])
  | .within a d n => ("within", [a, d, n])
  | .never d e => ("never", [d, e])
  | .not_ a d => ("not", [a, d])
  | .only a d => ("only", [a, d])
  | .hope a => ("hope", [a])
  | .calm a => ("calm", [a])
def inB (x A : Int) : Prop := 0 ≤ x ∧ x < A
def Wsh.In (A D : Int) : Wsh → Prop
  | .answer a d => inB a A ∧ inB d D
  | .often d => inB d D
  | .within a d n => inB a A ∧ inB d D ∧ inB n 7
  | .never d e => inB d D ∧ inB e D
  | .not_ a d => inB a A ∧ inB d D
  | .only a d => inB a A ∧ inB d D
  | .hope a => inB a A
  | .calm a => inB a A
end DL
namespace DL
open PySem PySem.Spec L2
section
variable {P : Program} {w : World} {K : PySem.W.Frag} {mg : Str → Option Value} {base : Heap}
end
variable {ρ ρ' : Rho}
class InE {α : Type} [DecidableEq α] (e : α → D) : Prop where
  fl : ∀ a, flatD (e a) = true
  eq : ∀ a b, eqV (vOf (e a)) (vOf (e b)) = decide (a = b)
instance : InE eS := ⟨fun _ => rfl, fun a b => by
  show (a == b) = _
  by_cases h : a = b
  · subst h; simp
  · rw [decide_eq_false h, beq_eq_false_iff_ne.mpr h]⟩
instance : InE eI := ⟨fun _ => rfl, fun a b => by
  show (a == b) = _
  by_cases h : a = b
  · subst h; simp
  · rw [decide_eq_false h, beq_eq_false_iff_ne.mpr h]⟩
instance : InE (eO eI) := ⟨fun a => by cases a <;> rfl, fun a b => by
  cases a with
  | none => cases b <;> first | rfl | (simp; rfl)
  | some a =>
    cases b with
    | none => first | rfl | (simp; rfl)
    | some b =>
      show (a == b) = _
      by_cases h : a = b
      · subst h; simp
      · rw [decide_eq_false (fun q => h (Option.some.inj q)), beq_eq_false_iff_ne.mpr h]⟩
instance : InE (eO eS) := ⟨fun a => by cases a <;> rfl, fun a b => by
  cases a with
  | none => cases b <;> first | rfl | (simp; rfl)
  | some a =>
    cases b with
    | none => first | rfl | (simp; rfl)
    | some b =>
      show (a == b) = _
      by_cases h : a = b
      · subst h; simp
      · rw [decide_eq_false (fun q => h (Option.some.inj q)), beq_eq_false_iff_ne.mpr h]⟩
end DL
namespace DL
open PySem PySem.Spec L2
variable {K : PySem.W.Frag} {F F' H H' H0 F0 F1 H1 : Hp} {cs cs' : List Addr} {σ σ' : L2.St} {ρ ρ' : Rho}
section
variable {X : Cx} {W : WX}
end
instance : NnE eI := inferInstance
section
variable {α : Type} {r : Rs}
end
end DL
set_option maxHeartbeats 4000000
namespace DL
open PySem PySem.Spec L2 TL PL
abbrev tb {β : Type} (n : Int) (f : Int → β) : List β := (rng 0 n).map f
def Wsh.many : Wsh → Int
  | .answer _ _ => 2
  | .often _ => 2
  | .within _ _ n => n + 1
  | .never _ _ => 1
  | .not_ _ _ => 1
  | .only _ _ => 2
  | .hope _ => 2
  | .calm _ => 2
def InSt : List Int → List Wsh → Prop
  | [], [] => True
  | s :: ss, k :: ks => (0 ≤ s ∧ s < k.many) ∧ InSt ss ks
  | _, _ => False
instance : Inhabited Wsh := ⟨.often 0⟩
theorem InSt.len : ∀ {ss : List Int} {ks : List Wsh}, InSt ss ks → ss.length = ks.length
  | [], [], _ => rfl
  | _ :: _, _ :: _, h => by rw [List.length_cons, List.length_cons, h.2.len]
  | [], _ :: _, h => h.elim
  | _ :: _, [], h => h.elim
end DL
namespace DL
open PySem PySem.Spec L2
variable {K : PySem.W.Frag} {F F' H H' H0 F0 F1 H1 : Hp} {cs cs' : List Addr} {σ σ' : L2.St} {ρ ρ' : Rho}
section
variable {X : Cx} {W : WX}
end
end DL
namespace DL
open PySem PySem.Spec L2
section
variable {α β γ κ : Type}
def eTl (e : α → D) : List α → D := fun xs => .tup (xs.map e)
instance {e : α → D} : NnE (eTl e) := ⟨fun _ h => nomatch h⟩
instance {e : α → D} {n : Nat} [EqE e n] : EqE (eTl e) (n + 1) := ⟨fun xs => Sh.tup fun d hd => by
  obtain ⟨x, hx, rfl⟩ := List.mem_map.mp hd
  exact EqE.sh x, fun xs ys => by
  have := eqDs (e := e) EqE.eq xs ys
  unfold eqD at this ⊢
  simpa [eTl, toPy, PyData.eqv] using this⟩
def nI : Int → NestedKey := .num
def nOI : Option Int → NestedKey := fun o => optC o .none .num
def nT2 (a : α → NestedKey) (b : β → NestedKey) : α × β → NestedKey := fun p => .tup [a p.1, b p.2]
def nT3 (a : α → NestedKey) (b : β → NestedKey) (c : γ → NestedKey) : α × β × γ → NestedKey := fun p => .tup [a p.1, b p.2.1, c p.2.2]
def nTl (a : α → NestedKey) : List α → NestedKey := fun l => .tup (l.map a)
class CompN (c : α → NestedKey) (f : outParam (α → D)) : Prop where
  kd : ∀ a, nkD (f a) = some (c a)
  pl : ∀ a, plainN (c a) = true
  inj : ∀ a b, c a = c b → a = b
class DepN (c : α → NestedKey) (n : outParam Nat) : Prop where
  dp : ∀ a, (c a).depth ≤ n
instance : CompN nI eI := ⟨fun a => by show nkD (.int a) = _; unfold nkD; rfl, fun _ => by unfold nI plainN; rfl, fun a b h => by unfold nI at h; injection h⟩
instance : DepN nI 0 := ⟨fun a => by unfold nI; simp [NestedKey.depth]⟩
instance : CompN nOI (eO eI) := ⟨fun a => by
  cases a with
  | none => show nkD .non = _; unfold nkD; rfl
  | some a => show nkD (.int a) = _; unfold nkD; rfl, fun a => by cases a <;> (show plainN _ = true; unfold nOI; simp only [optC]; unfold plainN; rfl), fun a b h => by
  cases a with
  | none => cases b with
    | none => rfl
    | some b => exact nomatch (show NestedKey.none = NestedKey.num b from h)
  | some a => cases b with
    | none => exact nomatch (show NestedKey.num a = NestedKey.none from h)
    | some b => have h : NestedKey.num a = NestedKey.num b := h; injection h with h; rw [h]⟩
instance : DepN nOI 0 := ⟨fun a => by cases a <;> (show NestedKey.depth _ ≤ 0; unfold nOI; simp [optC, NestedKey.depth])⟩
theorem nkDs_map {c : α → NestedKey} {f : α → D} [CompN c f] : ∀ l : List α, nkDs (l.map f) = some (l.map c)
  | [] => by show nkDs [] = _; unfold nkDs; rfl
  | x :: l => by
    show nkDs (f x :: l.map f) = _
    unfold nkDs
    rw [CompN.kd (c := c), nkDs_map (c := c) l]
    rfl
theorem plainNs_map {c : α → NestedKey} {f : α → D} [CompN c f] : ∀ l : List α, plainNs (l.map c) = true
  | [] => by show plainNs [] = _; unfold plainNs; rfl
  | x :: l => by
    show plainNs (c x :: l.map c) = _
    unfold plainNs
    rw [CompN.pl (c := c), plainNs_map (c := c) l]
    rfl
theorem map_injN {c : α → NestedKey} {f : α → D} [CompN c f] : ∀ l m : List α, l.map c = m.map c → l = m
  | [], [], _ => rfl
  | [], _ :: _, h => by simp at h
  | _ :: _, [], h => by simp at h
  | x :: l, y :: m, h => by
    rw [List.map_cons, List.map_cons] at h
    injection h with h1 h2
    rw [CompN.inj (c := c) _ _ h1, map_injN l m h2]
theorem depths_map {c : α → NestedKey} {n : Nat} [DepN c n] : ∀ l : List α, NestedKey.depthAll (l.map c) ≤ n
  | [] => by show NestedKey.depthAll [] ≤ n; unfold NestedKey.depthAll; omega
  | x :: l => by
    show NestedKey.depthAll (c x :: l.map c) ≤ n
    unfold NestedKey.depthAll
    have := DepN.dp (c := c) x
    have := depths_map (c := c) l
    omega
instance {c : α → NestedKey} {f : α → D} [CompN c f] : CompN (nTl c) (eTl f) := ⟨fun a => by
  show nkD (.tup (a.map f)) = _
  unfold nkD
  rw [nkDs_map (c := c)]
  rfl, fun a => by
  show plainN (.tup (a.map c)) = true
  unfold plainN
  exact plainNs_map a, fun a b h => by
  have h : NestedKey.tup (a.map c) = .tup (b.map c) := h
  injection h with h
  exact map_injN a b h⟩
instance {c : α → NestedKey} {n : Nat} [DepN c n] : DepN (nTl c) (n + 1) := ⟨fun a => by
  show NestedKey.depth (.tup (a.map c)) ≤ n + 1
  unfold NestedKey.depth
  have := depths_map (c := c) a
  omega⟩
instance {a : α → NestedKey} {b : β → NestedKey} {f : α → D} {g : β → D} [CompN a f] [CompN b g] : CompN (nT2 a b) (eT2 f g) := ⟨fun p => by
  show nkD (.tup [f p.1, g p.2]) = _
  unfold nkD
  unfold nkDs
  unfold nkDs
  unfold nkDs
  rw [CompN.kd (c := a), CompN.kd (c := b)]
  rfl, fun p => by
  show plainN (.tup [a p.1, b p.2]) = true
  unfold plainN
  unfold plainNs
  unfold plainNs
  unfold plainNs
  rw [CompN.pl (c := a), CompN.pl (c := b)]
  rfl, fun p q h => by
  have h : NestedKey.tup [a p.1, b p.2] = .tup [a q.1, b q.2] := h
  injection h with h
  injection h with h1 h
  injection h with h2 h
  exact Prod.ext (CompN.inj (c := a) _ _ h1) (CompN.inj (c := b) _ _ h2)⟩
instance {a : α → NestedKey} {b : β → NestedKey} {n m : Nat} [DepN a n] [DepN b m] : DepN (nT2 a b) (max n m + 1) := ⟨fun p => by
  show NestedKey.depth (.tup [a p.1, b p.2]) ≤ _
  simp only [NestedKey.depth, NestedKey.depthAll]
  have := DepN.dp (c := a) p.1
  have := DepN.dp (c := b) p.2
  omega⟩
instance {a : α → NestedKey} {b : β → NestedKey} {c : γ → NestedKey} {f : α → D} {g : β → D} {h : γ → D} [CompN a f] [CompN b g] [CompN c h] : CompN (nT3 a b c) (eT3 f g h) := ⟨fun p => by
  show nkD (.tup [f p.1, g p.2.1, h p.2.2]) = _
  unfold nkD
  unfold nkDs
  unfold nkDs
  unfold nkDs
  unfold nkDs
  rw [CompN.kd (c := a), CompN.kd (c := b), CompN.kd (c := c)]
  rfl, fun p => by
  show plainN (.tup [a p.1, b p.2.1, c p.2.2]) = true
  unfold plainN
  unfold plainNs
  unfold plainNs
  unfold plainNs
  unfold plainNs
  rw [CompN.pl (c := a), CompN.pl (c := b), CompN.pl (c := c)]
  rfl, fun p q h => by
  have h : NestedKey.tup [a p.1, b p.2.1, c p.2.2] = .tup [a q.1, b q.2.1, c q.2.2] := h
  injection h with h
  injection h with h1 h
  injection h with h2 h
  injection h with h3 h
  exact Prod.ext (CompN.inj (c := a) _ _ h1) (Prod.ext (CompN.inj (c := b) _ _ h2) (CompN.inj (c := c) _ _ h3))⟩
instance {a : α → NestedKey} {b : β → NestedKey} {c : γ → NestedKey} {n m k : Nat} [DepN a n] [DepN b m] [DepN c k] : DepN (nT3 a b c) (max n (max m k) + 1) := ⟨fun p => by
  show NestedKey.depth (.tup [a p.1, b p.2.1, c p.2.2]) ≤ _
  simp only [NestedKey.depth, NestedKey.depthAll]
  have := DepN.dp (c := a) p.1
  have := DepN.dp (c := b) p.2.1
  have := DepN.dp (c := c) p.2.2
  omega⟩
class KeyN (kn : κ → NestedKey) (f : outParam (κ → D)) : Prop where
  kd : ∀ k, nkey (f k) = some (kn k)
  inj : ∀ a b, kn a = kn b → a = b
theorem keyN_of {kn : κ → NestedKey} {f : κ → D} {n : Nat} [c : CompN kn f] [d : DepN kn n] (ht : ∀ k, ∃ zs, f k = .tup zs) (h : decide (n ≤ 8) = true) : KeyN kn f := ⟨fun k => by
  obtain ⟨zs, e⟩ := ht k
  have q := CompN.kd (c := kn) k
  rw [e] at q ⊢
  unfold nkey
  dsimp only
  rw [q]
  dsimp only
  have : okN (kn k) = true := by
    unfold okN
    rw [Bool.and_eq_true]
    exact ⟨CompN.pl k, decide_eq_true (Nat.le_trans (DepN.dp k) (of_decide_eq_true h))⟩
  rw [if_pos this], CompN.inj⟩
instance : KeyN (nT2 nI nI) (eT2 eI eI) := keyN_of (fun _ => ⟨_, rfl⟩) (by decide)
instance : KeyN (nT3 nI nI nI) (eT3 eI eI eI) := keyN_of (fun _ => ⟨_, rfl⟩) (by decide)
instance : KeyN (nTl nI) (eTl eI) := keyN_of (fun _ => ⟨_, rfl⟩) (by decide)
instance : KeyN (nTl (nT2 nI nI)) (eTl (eT2 eI eI)) := keyN_of (fun _ => ⟨_, rfl⟩) (by decide)
instance : KeyN (nT2 nI (nTl nI)) (eT2 eI (eTl eI)) := keyN_of (fun _ => ⟨_, rfl⟩) (by decide)
instance : KeyN (nT2 nI (nTl nOI)) (eT2 eI (eTl (eO eI))) := keyN_of (fun _ => ⟨_, rfl⟩) (by decide)
instance : KeyN (nT3 nI nI (nTl nI)) (eT3 eI eI (eTl eI)) := keyN_of (fun _ => ⟨_, rfl⟩) (by decide)
instance : KeyN (nT3 nI nI (nTl nOI)) (eT3 eI eI (eTl (eO eI))) := keyN_of (fun _ => ⟨_, rfl⟩) (by decide)
end
section
variable {α β γ δ κ : Type} [DecidableEq κ] {ρ ρ' : Rho} {fa fb fk fv : DE}
def eDn (kn : κ → NestedKey) (e : α → D) : Dc κ α → D := fun d => .dT (d.map fun p => kn p.1) (d.map fun p => e p.2)
def oDn (kn : κ → NestedKey) (e : α → D) : Dc κ α → O := fun d => .dT (d.map fun p => kn p.1) (d.map fun p => e p.2)
instance {kn : κ → NestedKey} {e : α → D} : Pl (oDn kn e) := Pl.of fun _ _ _ h => nomatch h
instance {kn : κ → NestedKey} {e : α → D} : ToD (oDn kn e) (eDn kn e) := ⟨fun _ => rfl⟩
instance {kn : κ → NestedKey} {e : α → D} : NnE (eDn kn e) := ⟨fun _ h => nomatch h⟩
instance {kn : κ → NestedKey} {e : α → D} : Nft (oDn kn e) := ⟨fun _ => rfl⟩
end
section
variable {A α β δ : Type} {ρ ρ' : Rho} {fp : DP} {fb : DE} {i : Nat} {s : α → O} {sA : A → O}
end
end DL
namespace DL
open PySem PySem.Spec L2
theorem NRel.get {ms : NM} {xs : List (NKey × Addr × Value)} (r : NRel ms xs) : ∀ {i : Nat} {m : NKey × Addr × V}, ms[i]? = some m → ∃ y, xs[i]? = some y ∧ m.2.1 = y.2.1 := by
  induction r with
  | nil => intro i m e; simp at e
  | @cons p q ps qs h t ih =>
    intro i m e
    cases i with
    | zero => simp at e; subst e; exact ⟨q, rfl, h.2.1⟩
    | succ j => exact ih (by simpa using e)
section
variable {P : Program} {w : World} {K : PySem.W.Frag} {tg : Expr} {d : Addr} {od : Obj} {es : Array DictEntry} {ep : Nat}
end
mutual
def nD : NKey → D
  | .none => .non
  | .num i => .int i
  | .text x => .str x
  | .tup ks => .tup (nDs ks)
def nDs : List NKey → List D
  | [] => []
  | k :: ks => nD k :: nDs ks
end
theorem nDs_map : ∀ ks : List NKey, nDs ks = ks.map nD
  | [] => by unfold nDs; rfl
  | k :: ks => by unfold nDs; rw [nDs_map ks]; rfl
section
variable {K : PySem.W.Frag} {F : Hp}
end
section
variable {X : Cx} {W : WX} {tg e : Expr} {fe : DE}
end
class KnD {κ : Type} (kn : κ → NestedKey) (f : outParam (κ → D)) : Prop where
  kd : ∀ k, nD (kn k) = f k
section
variable {α β γ κ : Type} {ρ : Rho} {fe : DE}
instance : KnD nI eI := ⟨fun _ => by unfold nI nD; rfl⟩
instance : KnD nOI (eO eI) := ⟨fun o => by cases o <;> (unfold nOI; simp only [optC]; unfold nD; rfl)⟩
instance {a : α → NestedKey} {b : β → NestedKey} {f : α → D} {g : β → D} [KnD a f] [KnD b g] : KnD (nT2 a b) (eT2 f g) := ⟨fun p => by
  unfold nT2 nD
  simp only [nDs_map, List.map, KnD.kd]
  rfl⟩
instance {a : α → NestedKey} {b : β → NestedKey} {c : γ → NestedKey} {f : α → D} {g : β → D} {h : γ → D} [KnD a f] [KnD b g] [KnD c h] : KnD (nT3 a b c) (eT3 f g h) := ⟨fun p => by
  unfold nT3 nD
  simp only [nDs_map, List.map, KnD.kd]
  rfl⟩
instance {a : α → NestedKey} {f : α → D} [KnD a f] : KnD (nTl a) (eTl f) := ⟨fun p => by
  unfold nTl nD
  rw [nDs_map, List.map_map]
  show D.tup _ = D.tup _
  congr 1
  exact List.map_congr_left fun x _ => KnD.kd x⟩
end
end DL
namespace PySem
open Sem (wp)
open Builtin
end PySem
namespace DL
open PySem PySem.Spec L2
section
variable {X : Cx} {W : WX} {a b : Expr} {fa fb : DE} {pos : Pos}
end
section
variable {α : Type} {ρ : Rho}
end
end DL
namespace DL
open PySem PySem.Spec L2
variable {K : PySem.W.Frag} {F F' H H' H0 F0 F1 H1 : Hp} {cs cs' : List Addr} {σ σ' : L2.St} {ρ ρ' : Rho}
section
variable {X : Cx} {W : WX} {pos : Pos}
end
section
variable {α β : Type} {e : α → D} {fe : DE} {m : α → M β} {s : β → Ar} {i t : Nat}
end
end DL
namespace DL
open PySem PySem.Spec L2
section
variable {X : Cx} {W : WX} {pos np pos' : Pos} {f g : DS} {body suite : List Stmt} {b₀ : Stmt} {x n : Str}
end
def tryC {α β : Type} (xs : List Str) (m : M α) (u : α → β) (h : Str → M β) : M β := match m with
  | .ok a => .ok (u a)
  | .ex c => if decide (c ∈ xs) then (match h c with
    | .ok b => .ok b
    | _ => .bad) else .bad
  | .bad => .bad
@[simp] theorem tryC_ok {α β : Type} {xs : List Str} {a : α} {u : α → β} {h : Str → M β} : tryC xs (.ok a) u h = .ok (u a) := Eq.symm (Eq.symm rfl)
section
variable {α β : Type} {ρ : Rho}
end
end DL
namespace DL
open PySem PySem.Spec L2
section
variable {ρ : Rho}
end
end DL
namespace DL
open PySem PySem.Spec L2
section
variable {X : Cx} {W : WX} {pos : Pos} {e : Expr}
end
section
variable {α β S : Type} {ρ : Rho} {fx : DX} {so : α → O} {up : S → Rho} {m : M (α × S)} {e : β → D} {g : α → β}
end
section
variable {X : Cx} {W : WX} {pos : Pos} {a : Expr}
end
section
variable {S : Type} {ρ : Rho} {fx : DX} {up : S → Rho} {m : M (Bool × S)}
end
end DL
namespace DL
open PySem PySem.Spec L2
section
variable {α β γ δ S : Type} {ρ ρ1 : Rho} {as : List Aa} {io : List Bool} {los os : List O} {sem : List O → IOr} {ws : S → List O} {up : S → Rho}
end
end DL
namespace DL
open PySem PySem.Spec L2
section
variable {α β γ δ S : Type} {ρ ρ1 : Rho} {f g A B : DS} {c : DT} {p : Bool} {mc : M Bool} {mA mB m : M α} {P : α → SR → Prop}
end
section
variable {α β S : Type} {ρ ρ1 : Rho} {as : List Aa} {io : List Bool} {los los' os : List O} {sem : List O → IOr} {ws : S → List O} {so : α → O} {up : S → Rho} {m : M (α × S)} {E : Str} {gm : M Bool} {pls : List (Nat × List Nat)}
variable {mn cn : Str} {ns : List Str} {sl : Sems} {fp : DP} {i : Nat} {p : List Nat} {os0 : List O} {x1 : O}
end
section
variable {ρ ρ1 ρ2 ρx : Rho} {s R : DS} {l : List Gh} {c : Str} {α : Type} {m : M α} {P : α → SR → Prop}
end
section
variable {α β γ : Type} {c : Str}
end
end DL
set_option maxHeartbeats 2000000
namespace DL
open PySem PySem.Spec L2
variable {K : PySem.W.Frag} {F F' H H' H0 F0 F1 H1 : Hp} {cs cs' : List Addr} {σ σ' : L2.St} {ρ ρ' : Rho}
section
variable {X : Cx} {W : WX} {pos : Pos}
variable {fe : DE}
end
end DL
namespace DL
open PySem PySem.Spec L2
variable {K : PySem.W.Frag} {F F' H H' H0 F0 F1 H1 : Hp} {cs cs' : List Addr} {σ σ' : L2.St} {ρ ρ' : Rho}
def atE (i : Nat) : DE := fun ρ => match ρ[i]? with
  | some (some (.nm a _)) => .ok (.ow (.fz (.at a)))
  | _ => .bad
section
variable {X : Cx} {W : WX} {pos : Pos}
theorem ge_at (i : Nat) {x : Str} (hN : X.N[i]? = some x := by rfl) (hv : Vis X.env.scope x := by first | exact Or.inl rfl | exact Or.inr (Or.inl rfl) | exact Or.inr (Or.inr rfl)) (hd : (x == ("__debug__" : Str)) = false := by decide)
    (hcd : (x == ("__classdict__" : Str)) = false := by decide) : GE X W (.Name x pos) (atE i) := by
  refine PE.imp (pe_var hN hv hd hcd) fun σ H Q ⟨F0, H0, ρ, F, cs, R, p⟩ => ?_
  unfold atE at p
  split at p
  · rename_i a o e
    obtain ⟨c1, c2, c3, ob, x, e1, e2, e3, s, _⟩ := R.sl.split i (List.getElem?_eq_some_iff.mp e).1
    rw [e] at e2; cases e2
    cases x with
    | none => exact s.elim
    | some v => exact ⟨v, e3, p F H v [] (Ext.refl R.fh) ⟨rfl, s.1⟩ New.nil⟩
  · exact p.elim
end
theorem RS.name {i : Nat} {o : O} (R : RS K F0 H0 ρ F σ H cs) (hi : ρ[i]? = some (some o)) (hr : o.isRef = true) : ∃ a cs2, RS K F0 H0 (ρ.set i (some (.nm a o))) F σ H cs2 := by
  have hil := (List.getElem?_eq_some_iff.mp hi).1
  obtain ⟨v, c2, cs2, h1, h2, R2, ⟨t1, t2⟩, h4, h5⟩ := R.takeC hi
  obtain ⟨a, rfl⟩ := isRef_rep hr h2
  obtain ⟨cs3, R3, _⟩ := R2.fill (o := .nm a o) (by rw [List.length_set]; exact hil) h1 ⟨rfl, h2⟩ t1 (fun b hb => t2 b hb)
  rw [List.set_set] at R3
  exact ⟨a, cs3, R3⟩
section
variable {X : Cx} {W : WX} {pos : Pos} {sts : List Stmt} {D1 g f : DS} {i j : Nat}
theorem seqS_a {f g h : DS} : seqS (seqS f g) h = seqS f (seqS g h) := by
  funext ρ
  unfold seqS
  cases f ρ <;> rfl
variable {d1 d2 d3 d4 d5 d6 : DS} {l1 l2 l3 l4 l5 l6 : List Gh}
end
section
variable {X : Cx} {W : WX} {pos : Pos}
end
section
variable {α β γ : Type} {D1 g f : DS} {i j : Nat}
end
end DL
namespace DL
open PySem PySem.Spec L2
variable {K : PySem.W.Frag} {F F' H H' H0 F0 F1 H1 : Hp} {cs cs' : List Addr} {σ σ' : L2.St} {ρ ρ' : Rho}
theorem RS.strip {j : Nat} {b : Addr} {o : O} (R : RS K F0 H0 ρ F σ H cs) (hj : ρ[j]? = some (some (.nm b o))) : σ[j]? = some (some (.ref b)) ∧ ∃ cs2, RS K F0 H0 (ρ.set j (some o)) F σ H cs2 := by
  have hjl := (List.getElem?_eq_some_iff.mp hj).1
  obtain ⟨v, c2, cs2, h1, ⟨hv, h2⟩, R2, ⟨t1, t2⟩, h4, h5⟩ := R.takeC hj
  subst hv
  obtain ⟨cs3, R3, _⟩ := R2.fill (o := o) (by rw [List.length_set]; exact hjl) h1 h2 t1 (fun b hb => t2 b hb)
  rw [List.set_set] at R3
  exact ⟨h1, cs3, R3⟩
theorem RS.nameB {j : Nat} {b : Addr} {o : O} (R : RS K F0 H0 ρ F σ H cs) (hj : ρ[j]? = some (some o)) (hv : σ[j]? = some (some (.ref b))) : ∃ cs2, RS K F0 H0 (ρ.set j (some (.nm b o))) F σ H cs2 := by
  have hjl := (List.getElem?_eq_some_iff.mp hj).1
  obtain ⟨v, c2, cs2, h1, h2, R2, ⟨t1, t2⟩, h4, h5⟩ := R.takeC hj
  rw [hv] at h1
  cases h1
  obtain ⟨cs3, R3, _⟩ := R2.fill (o := .nm b o) (by rw [List.length_set]; exact hjl) hv ⟨rfl, h2⟩ t1 (fun b hb => t2 b hb)
  rw [List.set_set] at R3
  exact ⟨cs3, R3⟩
section
variable {X : Cx} {W : WX} {pos : Pos} {rest : List Stmt} {D1 g f : DS} {i j : Nat} {e : Expr} {fb : DE}
end
section
variable {X : Cx} {W : WX} {sts : List Stmt} {g d1 d2 d3 d4 d5 : DS} {l1 l2 l3 l4 : List Gh}
end
section
variable {α β γ : Type} {D1 g f : DS} {i j : Nat} {fb : DE}
end
section
variable {X : Cx} {W : WX} {a b : Expr} {fa fb : DE} {pos : Pos}
end
section
variable {α γ S : Type} {j : Nat} {fb : DE}
end
end DL
namespace DL
open PySem PySem.Spec L2
variable {K : PySem.W.Frag} {F F' H H' H0 F0 F1 H1 : Hp} {cs cs' : List Addr} {σ σ' : L2.St} {ρ ρ' : Rho}
def unplugD (i j : Nat) (fp : DP) (a : Addr) (ρ : Rho) : Option Rho := match fp ρ with
  | .ok j' p => match ρ[j]? with
    | some (some o0) => match O.at p o0 with
      | some o => if j' = j ∧ o.isRef = true ∧ i ≠ j ∧ i < ρ.length then some ((ρ.set j (some (O.put p (.fz (.at a)) o0))).set i (some (.nm a o))) else none
      | none => none
    | _ => none
  | _ => none
theorem RS.unplugD {i j : Nat} {p : List Nat} {o0 o : O} {v0 u : V} (R : RS K F0 H0 ρ F σ H cs) (hij : i ≠ j) (hi : i < ρ.length) (ej : ρ[j]? = some (some o0)) (eo : O.at p o0 = some o) (hr : o.isRef = true) (hv : σ[j]? = some (some v0)) (hat : VAt K H p v0 u) :
    ∃ a cs2, u = .ref a ∧ RS K F0 H0 ((ρ.set j (some (O.put p (.fz (.at a)) o0))).set i (some (.nm a o))) F (σ.set i (some u)) H cs2 := by
  obtain ⟨cs1, R1⟩ := R.forget [i]
  have R1 : RS K F0 H0 (ρ.set i none) F σ H cs1 := R1
  have R2 := R1.setNone (t := i) (x := some u) (by rw [List.getElem?_set_self hi])
  have ej2 : (ρ.set i none)[j]? = some (some o0) := by rw [List.getElem?_set_ne hij]; exact ej
  obtain ⟨v, u', c1, c2, c3, e1, g2, g3, g4, k⟩ := R2.putAt (p := p) (s := o) ej2 eo
  rw [List.getElem?_set_ne hij, hv] at g2
  cases g2
  have : u' = u := g3.fun_ hat
  subst this
  obtain ⟨a, rfl⟩ := isRef_rep hr g4
  subst e1
  have R3 := k H (.fz (.at a)) [] (fun _ _ _ => rfl) ⟨rfl, rfl⟩ List.nodup_nil (fun c hc => nomatch hc)
  have nd := R2.nd
  have il : i < σ.length := by
    have h1 := R.sl.split i hi
    obtain ⟨c1, c2, c3, ob, x, e1, e4, e5, s, k⟩ := h1
    exact (List.getElem?_eq_some_iff.mp e5).1
  rw [List.nodup_append] at nd
  obtain ⟨n1, n23, d123⟩ := nd
  rw [List.nodup_append] at n23
  obtain ⟨n2, n3, d23⟩ := n23
  obtain ⟨cs2, R4, _⟩ := R3.fill (i := i) (o := .nm a o) (v := .ref a) (c := c2) (by rw [List.length_set, List.length_set]; exact hi) (by rw [List.getElem?_set_self il]) ⟨rfl, g4⟩ n2 (fun b hb => by
    have q := R2.cf b (List.mem_append_right _ (List.mem_append_left _ hb))
    refine ⟨q.1, q.2, fun h => ?_⟩
    rcases List.mem_append.mp h with h | h
    · exact d123 b h b (List.mem_append_left _ hb) rfl
    · exact d23 b hb b (by simpa using h) rfl)
  refine ⟨a, cs2, rfl, ?_⟩
  have er : ((ρ.set i none).set j (some (O.put p (.fz (.at a)) o0))).set i (some (.nm a o)) = (ρ.set j (some (O.put p (.fz (.at a)) o0))).set i (some (.nm a o)) := by
    rw [List.set_comm _ _ hij, List.set_set]
  rw [er] at R4
  exact R4
section
variable {X : Cx} {W : WX} {pos : Pos} {rest : List Stmt} {D1 g f : DS} {i j : Nat} {e : Expr} {fp : DP}
end
section
variable {α β γ δ ε : Type} {s : α → O} {t : β → O} {u : γ → O}
variable {D1 g f : DS} {i j : Nat} {fb : DE}
end
end DL
namespace DL
open PySem PySem.Spec L2
variable {K : PySem.W.Frag} {F F' H H' H0 F0 F1 H1 : Hp} {cs cs' : List Addr} {σ σ' : L2.St} {ρ ρ' : Rho} {i j : Nat}
def lastP (j : Nat) (ρ : Rho) : Option (List Nat) := match ρ[j]? with
  | some (some (.lst os)) => if 0 < os.length then some [os.length - 1, 0] else none
  | _ => none
structure ASt (K : PySem.W.Frag) (i j : Nat) (F0 H0 : Hp) (ρ : Rho) (F : Hp) (σ : L2.St) (H : Hp) (cs : List Addr) : Prop where
  rs : RS K F0 H0 ρ F σ H cs
  nil : ρ[i]? = some none
  al : ∃ p v0 v, lastP j ρ = some p ∧ σ[j]? = some (some v0) ∧ σ[i]? = some (some v) ∧ VAt K H p v0 v
theorem ASt.ext (A : ASt K i j F0 H0 ρ F σ H cs) (e : Ext F H F' H') : ASt K i j F0 H0 ρ F' σ H' cs := by
  obtain ⟨p, v0, v, h1, h2, h3, h4⟩ := A.al
  exact ⟨A.rs.ext e, A.nil, p, v0, v, h1, h2, h3, h4.same e.hh⟩
def nameL (i j : Nat) (a : Addr) (ρ : Rho) : Option Rho := match lastP j ρ, ρ[j]? with
  | some p, some (some o0) => match O.at p o0 with
    | some o => if o.isRef = true ∧ i ≠ j ∧ i < ρ.length then some ((ρ.set j (some (O.put p (.fz (.at a)) o0))).set i (some (.nm a o))) else none
    | none => none
  | _, _ => none
theorem ASt.name (A : ASt K i j F0 H0 ρ F σ H cs) (hx : (nameL i j 0 ρ).isSome = true) : ∃ a cs2 ρa, nameL i j a ρ = some ρa ∧ RS K F0 H0 ρa F σ H cs2 := by
  obtain ⟨p, v0, v, h1, h2, h3, h4⟩ := A.al
  unfold nameL at hx ⊢
  rw [h1] at hx ⊢
  split at hx
  · rename_i p' o0 ep e0
    cases ep
    split at hx
    · rename_i o eo
      split at hx
      · rename_i hc
        obtain ⟨hr, hij, hil⟩ := hc
        obtain ⟨w, u', c1, c2, c3, e1, g2, g3, g4, k⟩ := A.rs.putAt e0 eo
        rw [h2] at g2
        cases g2
        have : u' = v := g3.fun_ h4
        subst this
        obtain ⟨a, rfl⟩ := isRef_rep hr g4
        subst e1
        have R3 := k H (.fz (.at a)) [] (fun _ _ _ => rfl) ⟨rfl, rfl⟩ List.nodup_nil (fun c hc => nomatch hc)
        have nd := A.rs.nd
        rw [List.nodup_append] at nd
        obtain ⟨n1, n23, d123⟩ := nd
        rw [List.nodup_append] at n23
        obtain ⟨n2, n3, d23⟩ := n23
        obtain ⟨cs2, R4, _⟩ := R3.fill (i := i) (o := .nm a o) (v := .ref a) (c := c2) (by rw [List.length_set]; exact hil) h3 ⟨rfl, g4⟩ n2 (fun b hb => by
          have q := A.rs.cf b (List.mem_append_right _ (List.mem_append_left _ hb))
          refine ⟨q.1, q.2, fun h => ?_⟩
          rcases List.mem_append.mp h with h | h
          · exact d123 b h b (List.mem_append_left _ hb) rfl
          · exact d23 b hb b (by simpa using h) rfl)
        refine ⟨a, cs2, _, ?_, R4⟩
        rw [if_pos ⟨hr, hij, hil⟩]
      · cases hx
    · cases hx
  · cases hx
def plugL (i j : Nat) (ρ : Rho) : Option Rho := match ρ[i]?, lastP j ρ, ρ[j]? with
  | some (some (.nm a s)), some p, some (some o0) => match O.at p o0 with
    | some (.fz (.at b)) => if i ≠ j ∧ b = a then some ((ρ.set i none).set j (some (O.put p s o0))) else none
    | _ => none
  | _, _, _ => none
theorem RS.plugL {ρ2 : Rho} (R : RS K F0 H0 ρ F σ H cs) (h : plugL i j ρ = some ρ2) : ∃ cs2, ASt K i j F0 H0 ρ2 F σ H cs2 := by
  unfold DL.plugL at h
  split at h
  · rename_i a s p o0 ei ep ej
    split at h
    · rename_i b eat
      split at h
      · rename_i hc
        obtain ⟨hij, rfl⟩ := hc
        cases h
        have hil := (List.getElem?_eq_some_iff.mp ei).1
        have hjl := (List.getElem?_eq_some_iff.mp ej).1
        obtain ⟨v, c2, cs2, h1, ⟨hv, h2⟩, R2, ⟨t1, t2⟩, h4, h5⟩ := R.takeC ei
        subst hv
        have ej2 : (ρ.set i none)[j]? = some (some o0) := by rw [List.getElem?_set_ne hij]; exact ej
        obtain ⟨v, u, d1, d2, d3, e1, g2, g3, ⟨z1, z2⟩, k⟩ := R2.putAt ej2 eat
        subst z1
        subst e1
        have z2 : u = .ref b := z2
        subst z2
        refine ⟨_, k H s c2 (fun _ _ _ => rfl) h2 t1 (fun c hc => ⟨(t2 c hc).1, (t2 c hc).2.1, fun h => (t2 c hc).2.2 (List.mem_append_left _ h), fun h => (t2 c hc).2.2 (List.mem_append_right _ (List.mem_append_right _ h))⟩), ?_, p, v, .ref b, ?_, g2, h1, g3⟩
        · rw [List.getElem?_set_ne (Ne.symm hij), List.getElem?_set_self hil]
        · unfold lastP at ep ⊢
          rw [ej] at ep
          rw [List.getElem?_set_self (by rw [List.length_set]; exact hjl)]
          split at ep
          · rename_i os eo
            cases eo
            split at ep
            · rename_i hlen
              cases ep
              have eo1 : os[os.length - 1]? = some os[os.length - 1] := List.getElem?_eq_getElem (by omega)
              have eput : O.put [os.length - 1, 0] s (.lst os) = .lst (os.set (os.length - 1) (O.put0 [0] s os[os.length - 1])) := by
                show O.put0 [os.length - 1, 0] s (.lst os) = _
                conv => lhs; unfold O.put0
                show (match os[os.length - 1]? with | some x => O.withKids (.lst os) (os.set (os.length - 1) (O.put0 [0] s x)) | none => _) = _
                rw [eo1]
                rfl
              rw [eput]
              dsimp only
              rw [List.length_set, if_pos hlen]
            · cases ep
          · cases ep
      · cases h
    · cases h
  · cases h
section
variable {X : Cx} {W : WX} {pos : Pos} {sts rest : List Stmt} {st : Stmt} {D1 g f : DS}
def GSsA (X : Cx) (W : WX) (i j : Nat) (sts : List Stmt) (g : DS) : Prop := PSs X sts (fun D σ H => ∃ F0 H0 ρ F cs, ASt X.K i j F0 H0 ρ F σ H cs ∧ postS X W (g ρ) F0 H0 F D)
def postE (X : Cx) (W : WX) (i j : Nat) (r : SR) (F0 H0 F : Hp) (D : Ends) : Prop := match r with
  | .nx ρ => ∀ F' H' σ' cs', Same F F' → ASt X.K i j F0 H0 ρ F' σ' H' cs' → D.nx σ' H'
  | .ex c ρ => ∀ F' H' σ' cs' C, Same F F' → RS X.K F0 H0 ρ F' σ' H' cs' → X.mg c = some (.ref C) → W (.ref C) none σ' H'
  | _ => False
def GSsE (X : Cx) (W : WX) (i j : Nat) (sts : List Stmt) (f : DS) : Prop := PSs X sts (fun D σ H => ∃ F0 H0 ρ F cs, RS X.K F0 H0 ρ F σ H cs ∧ postE X W i j (f ρ) F0 H0 F D)
theorem postE_same {r : SR} {D : Ends} (s : Same F F') (h : postE X W i j r F0 H0 F D) : postE X W i j r F0 H0 F' D := by
  cases r with
  | nx ρ => exact fun F2 H2 σ2 cs2 e R => h F2 H2 σ2 cs2 (s.trans e) R
  | ex c ρ => exact fun F2 H2 σ2 cs2 C e R => h F2 H2 σ2 cs2 C (s.trans e) R
  | _ => exact h.elim
theorem gssA_drop (h : GSs X W sts g) : GSsA X W i j sts g := PSs.imp h fun D σ H ⟨F0, H0, ρ, F, cs, A, p⟩ => ⟨F0, H0, ρ, F, cs, A.rs, p⟩
def plugLS (i j : Nat) (g : DS) : DS := fun ρ => match plugL i j ρ with
  | some ρ' => g ρ'
  | none => .bad
theorem gss_plugLA (h : GSsA X W i j sts g) : GSs X W sts (plugLS i j g) := PSs.imp h fun D σ H ⟨F0, H0, ρ, F, cs, R, p⟩ => by
  unfold plugLS at p
  split at p
  · rename_i ρ' e
    obtain ⟨cs2, A⟩ := R.plugL e
    exact ⟨F0, H0, ρ', F, cs2, A, p⟩
  · exact p.elim
open Classical in
noncomputable def alL (i j : Nat) (D1 g : DS) : DS := fun ρ => match ρ[i]? with
  | some (some o) => if o.isRef = true then (if h : ∃ ρ', ∀ a, ∃ ρ1, D1 (ρ.set i (some (.nm a o))) = .nx ρ1 ∧ plugL i j ρ1 = some ρ' then g (choose h) else .bad) else .bad
  | _ => .bad
theorem gss_alL (h : GSs X W sts (seqS D1 (plugLS i j g))) : GSs X W sts (alL i j D1 g) := PSs.imp h fun D σ H ⟨F0, H0, ρ, F, cs, R, p⟩ => by
  unfold alL at p
  split at p
  · rename_i o eo
    split at p
    · rename_i hr
      split at p
      · rename_i hx
        obtain ⟨a, cs2, R2⟩ := R.name eo hr
        obtain ⟨ρ1, e1, e2⟩ := Classical.choose_spec hx a
        refine ⟨F0, H0, _, F, cs2, R2, ?_⟩
        unfold seqS
        rw [e1]
        dsimp only
        unfold plugLS
        rw [e2]
        exact p
      · exact p.elim
    · exact p.elim
  · exact p.elim
def plugE (i j : Nat) : DS := plugLS i j nilS
theorem gssE_plug : GSsE X W i j [] (plugE i j) := PSs.imp pss_nil fun D σ H ⟨F0, H0, ρ, F, cs, R, p⟩ => by
  unfold plugE plugLS at p
  split at p
  · rename_i ρ' e
    obtain ⟨cs2, A⟩ := R.plugL e
    exact p F H σ cs2 (Same.refl _) A
  · exact p.elim
theorem gssE_cons (h : GS X W st f) (h2 : GSsE X W i j rest g) : GSsE X W i j (st :: rest) (seqS f g) := by
  refine PSs.imp (pss_cons h h2) fun D σ H ⟨F0, H0, ρ, F, cs, R, p⟩ => ?_
  refine ⟨F0, H0, ρ, F, cs, R, ?_⟩
  unfold seqS at p
  cases q : f ρ with
  | nx ρ' =>
    rw [q] at p
    exact fun F2 H2 σ2 cs2 e R2 => ⟨F0, H0, ρ', F2, cs2, R2, postE_same e p⟩
  | bk ρ' => rw [q] at p; exact p.elim
  | ct ρ' => rw [q] at p; exact p.elim
  | rt o => rw [q] at p; exact p.elim
  | rw o ps => rw [q] at p; exact p.elim
  | ex c ρ' => rw [q] at p; exact p
  | bad => rw [q] at p; exact p.elim
theorem gssE_alL (h : GSsE X W i j sts (seqS D1 (plugE i j))) : GSsE X W i j sts (alL i j D1 nilS) := PSs.imp h fun D σ H ⟨F0, H0, ρ, F, cs, R, p⟩ => by
  unfold alL at p
  split at p
  · rename_i o eo
    split at p
    · rename_i hr
      split at p
      · rename_i hx
        obtain ⟨a, cs2, R2⟩ := R.name eo hr
        obtain ⟨ρ1, e1, e2⟩ := Classical.choose_spec hx a
        refine ⟨F0, H0, _, F, cs2, R2, ?_⟩
        unfold seqS
        rw [e1]
        dsimp only
        unfold plugE plugLS
        rw [e2]
        exact p
      · exact p.elim
    · exact p.elim
  · exact p.elim
open Classical in
noncomputable def cU (i j : Nat) (ct : DT) (ρ : Rho) : Option Bool := if h : ∃ z, ∀ a, ∃ ρa, nameL i j a ρ = some ρa ∧ ct ρa = .ok z then some (choose h) else none
noncomputable def whAl (i j : Nat) (ct : DT) (B : DS) : Nat → DS
  | 0, _ => .bad
  | n + 1, ρ => match cU i j ct ρ with
    | some true => (match B ρ with
      | .nx ρ' => whAl i j ct B n ρ'
      | _ => .bad)
    | some false => .nx ρ
    | none => .bad
theorem whAl_or {ct : DT} {B : DS} : ∀ (n : Nat) (ρ : Rho), whAl i j ct B n ρ = .bad ∨ ∃ ρ', whAl i j ct B n ρ = .nx ρ'
  | 0, ρ => .inl rfl
  | n + 1, ρ => by
    unfold whAl
    split
    · split
      · exact whAl_or n _
      · exact .inl rfl
    · exact .inr ⟨_, rfl⟩
    · exact .inl rfl
theorem gssA_while {c : Expr} {body : List Stmt} {ct : DT} {B : DS} (n : Nat) (hp : PassesOwn (model X.prog X.w) X.A X.env X.xe) (hc : GT X W c ct) (hb : GSsE X W i j body B) (hr : GSsA X W i j rest g) : GSsA X W i j (.While c body [] pos :: rest) (seqS (whAl i j ct B n) g) := by
  refine PSs.imp (pss_cons (ps_while hp hc hb) hr) fun D σ H ⟨F0, H0, ρ, F, cs, A, p⟩ => ?_
  refine ⟨fun m σ H => ∃ ρ F cs, ASt X.K i j F0 H0 ρ F σ H cs ∧ ∃ ρ', whAl i j ct B m ρ = .nx ρ' ∧ postS X W (g ρ') F0 H0 F D, ⟨n, ρ, F, cs, A, ?_⟩, ?_⟩
  · unfold seqS at p
    rcases whAl_or (i := i) (j := j) (ct := ct) (B := B) n ρ with q | ⟨ρ', q⟩
    · rw [q] at p
      exact p.elim
    · rw [q] at p
      exact ⟨ρ', q, p⟩
  rintro m σ2 H2 ⟨ρ2, F2, cs2, A2, ρ', e2, p2⟩
  cases m with
  | zero => cases e2
  | succ m =>
    unfold whAl at e2
    unfold cU at e2
    split at e2
    ·
      rename_i hcu
      split at hcu
      · rename_i hx
        have hz := Option.some.inj hcu
        have hsp := Classical.choose_spec hx
        rw [hz] at hsp
        obtain ⟨ρa0, ea0, _⟩ := hsp 0
        obtain ⟨a, cs3, ρa, ea, R3⟩ := A2.name (by rw [ea0]; rfl)
        obtain ⟨ρb, eb, ec⟩ := hsp a
        rw [ea] at eb
        cases eb
        refine ⟨F0, H0, ρa, F2, cs3, R3, ?_⟩
        rw [ec]
        intro F3 H3 e3
        have A3 := A2.ext e3
        refine iteT ⟨fun σ4 H4 => ∃ ρ F cs, ASt X.K i j F0 H0 ρ F σ4 H4 cs ∧ ∃ ρ', whAl i j ct B m ρ = .nx ρ' ∧ postS X W (g ρ') F0 H0 F D, fun σ' H' h => ⟨m, Nat.lt_succ_self _, h⟩, F0, H0, ρ2, F3, cs2, A3.rs, ?_⟩
        split at e2
        · rename_i ρ4 eB
          rw [eB]
          intro F5 H5 σ5 cs5 s5 A5
          exact ⟨ρ4, F5, cs5, A5, ρ', e2, postS_same (e3.ff.trans s5) p2⟩
        · cases e2
      · cases hcu
    · rename_i hcu
      split at hcu
      · rename_i hx
        have hz := Option.some.inj hcu
        have hsp := Classical.choose_spec hx
        rw [hz] at hsp
        obtain ⟨ρa0, ea0, _⟩ := hsp 0
        obtain ⟨a, cs3, ρa, ea, R3⟩ := A2.name (by rw [ea0]; rfl)
        obtain ⟨ρb, eb, ec⟩ := hsp a
        rw [ea] at eb
        cases eb
        cases e2
        refine ⟨F0, H0, ρa, F2, cs3, R3, ?_⟩
        rw [ec]
        intro F3 H3 e3
        exact iteF ⟨F0, H0, ρ2, F3, cs2, A2.ext e3, postS_same e3.ff p2⟩
      · cases hcu
    · cases e2
end
section
variable {α β γ : Type} {D1 g f B : DS} {ct : DT}
theorem sim_alL {o : O} {m1 : M α} {m2 : α → M β} {upA : Addr → α → Rho} {up : α → Rho} {P : β → SR → Prop} (hi : ρ[i]? = some (some o)) (hr : o.isRef = true)
    (hB : ∀ a, Sim (D1 (ρ.set i (some (.nm a o)))) m1 (Np (upA a))) (hp : ∀ a b, plugL i j (upA a b) = some (up b)) (hK : ∀ b, Sim (g (up b)) (m2 b) P) : Sim (alL i j D1 g ρ) (m1.nox.bind m2) P := by
  cases q : m1 with
  | bad => simp only [Sim_eq]; trivial
  | ex c => simp only [Sim_eq]; trivial
  | ok b =>
    have hx : ∀ a, D1 (ρ.set i (some (.nm a o))) = .nx (upA a b) := fun a => by
      have := hB a
      rw [q] at this
      simp only [Sim_eq] at this
      exact this
    unfold alL
    rw [hi]
    dsimp only
    rw [if_pos hr]
    have h : ∃ ρ', ∀ a, ∃ ρ1, D1 (ρ.set i (some (.nm a o))) = .nx ρ1 ∧ plugL i j ρ1 = some ρ' := ⟨up b, fun a => ⟨_, hx a, hp a b⟩⟩
    rw [dif_pos h]
    have e : Classical.choose h = up b := by
      obtain ⟨ρ1, e1, e2⟩ := Classical.choose_spec h 0
      rw [hx 0] at e1
      cases e1
      rw [hp] at e2
      exact (Option.some.inj e2).symm
    rw [e]
    exact hK b
theorem sim_whAl {upb : β → Rho} {upN : Addr → β → Rho} {mc : β → M Bool} {step : β → M β} (hn : ∀ a b, nameL i j a (upb b) = some (upN a b)) (hc : ∀ a b, TQ (ct (upN a b)) (mc b)) (hs : ∀ b, Sim (B (upb b)) (step b) (Np upb)) : ∀ (n : Nat) (b : β), Sim (whAl i j ct B n (upb b)) (whileM (fun b => (mc b).nox) (fun b => (step b).nox) n b) (Np upb)
  | 0, b => by simp only [Sim_eq]; trivial
  | n + 1, b => by
    show Sim _ (((mc b).nox).bind fun z => if z then ((step b).nox).bind fun b => whileM (fun b => (mc b).nox) (fun b => (step b).nox) n b else .ok b) _
    cases qc : mc b with
    | bad => simp only [Sim_eq]; trivial
    | ex c => simp only [Sim_eq]; trivial
    | ok z =>
      have hz : ∀ a, ct (upN a b) = .ok z := fun a => by
        have := hc a b
        rw [qc, TQ_eq] at this
        exact this
      have hu : cU i j ct (upb b) = some z := by
        unfold cU
        have h : ∃ z, ∀ a, ∃ ρa, nameL i j a (upb b) = some ρa ∧ ct ρa = .ok z := ⟨z, fun a => ⟨_, hn a b, hz a⟩⟩
        rw [dif_pos h]
        obtain ⟨ρa, e1, e2⟩ := Classical.choose_spec h 0
        rw [hn] at e1
        cases e1
        rw [hz] at e2
        cases e2
        rfl
      show Sim _ ((M.ok z).bind _) _
      rw [M.bind_ok]
      unfold whAl
      rw [hu]
      cases z with
      | false => simp only [Sim_eq]; exact rfl
      | true =>
        rw [if_pos rfl]
        dsimp only
        have hsb := hs b
        cases qs : step b with
        | bad => simp only [Sim_eq]; trivial
        | ex c => simp only [Sim_eq]; trivial
        | ok b' =>
          rw [qs] at hsb
          simp only [Sim_eq] at hsb
          have hsb : B (upb b) = .nx (upb b') := hsb
          rw [hsb]
          exact sim_whAl hn hc hs n b'
end
end DL
namespace DL
open PySem PySem.Spec L2
variable {K : PySem.W.Frag} {F F' H H' H0 F0 F1 H1 : Hp} {cs cs' : List Addr} {σ σ' : L2.St} {ρ ρ' : Rho} {i j : Nat}
def mvS (i j : Nat) : DS := fun ρ => match ρ[j]? with
  | some (some o) => if i ≠ j ∧ i < ρ.length then .nx ((ρ.set j none).set i (some o)) else .bad
  | _ => .bad
theorem RS.move {i j : Nat} {o : O} (R : RS K F0 H0 ρ F σ H cs) (hj : ρ[j]? = some (some o)) (hij : i ≠ j) (hi : i < ρ.length) : ∃ v cs2, σ[j]? = some (some v) ∧ RS K F0 H0 ((ρ.set j none).set i (some o)) F (σ.set i (some v)) H cs2 := by
  have il : i < σ.length := by
    obtain ⟨c1, c2, c3, ob, x, e1, e4, e5, s, k⟩ := R.sl.split i hi
    exact (List.getElem?_eq_some_iff.mp e5).1
  obtain ⟨v, c2, cs2, h1, h2, R2, ⟨t1, t2⟩, h4, h5⟩ := R.takeC hj
  obtain ⟨cs3, R3, f1, f2⟩ : ∃ cs3, RS K F0 H0 ((ρ.set j none).set i none) F σ H cs3 ∧ (∀ c ∈ cs3, c ∈ cs2) ∧ True := by
    cases q : (ρ.set j none)[i]? with
    | none =>
      rw [List.getElem?_eq_none_iff, List.length_set] at q
      omega
    | some x =>
      cases x with
      | none =>
        refine ⟨cs2, ?_, fun c h => h, trivial⟩
        have e : (ρ.set j none).set i none = ρ.set j none := by
          have hi2 := (List.getElem?_eq_some_iff.mp q)
          obtain ⟨hl, e⟩ := hi2
          exact List.ext_getElem (by rw [List.length_set]) fun n h1 h2 => by
            rw [List.getElem_set]
            split
            · rename_i he
              subst he
              exact e.symm
            · rfl
        rw [e]
        exact R2
      | some o2 =>
        obtain ⟨v2, c3, cs3, g1, g2, R3, _, g4, g5⟩ := R2.takeC q
        exact ⟨cs3, R3, g4, trivial⟩
  have R4 := R3.setNone (t := i) (x := some v) (by rw [List.getElem?_set_self (by rw [List.length_set]; exact hi)])
  obtain ⟨cs4, R5, _⟩ := R4.fill (i := i) (o := o) (v := v) (c := c2) (by rw [List.length_set, List.length_set]; exact hi) (by rw [List.getElem?_set_self il]) h2 t1 (fun b hb => ⟨(t2 b hb).1, (t2 b hb).2.1, fun h => (t2 b hb).2.2 (f1 b h)⟩)
  rw [List.set_set] at R5
  exact ⟨v, cs4, h1, R5⟩
section
variable {X : Cx} {W : WX} {pos : Pos}
theorem gs_mv {x y : Str} {pos' p2 : Pos} {k : Nat} (i j : Nat) (C : Cc X W k) (hN : X.N[j]? = some y := by rfl) (hv : Vis X.env.scope y := by first | exact Or.inl rfl | exact Or.inr (Or.inl rfl) | exact Or.inr (Or.inr rfl)) (hd : (y == ("__debug__" : Str)) = false := by decide)
    (hcd : (y == ("__classdict__" : Str)) = false := by decide) (hi : X.N[i]? = some x := by rfl) (hx : Loc X.env.scope x := by first | exact Or.inl rfl | exact Or.inr rfl) (hs : swapsWith (.Name y p2) (some (.Name x pos')) pos.line X.env = pure false := by rfl)
    (hf : X.fn x = true ∨ X.env.scope.names.lookup x = some .local := by first | exact .inl rfl | exact .inr rfl) : GS X W (.Assign [.Name x pos'] (.Name y p2) pos) (mvS i j) :=
  PS.imp (ps_set C.nd hi hx (pe_var hN hv hd hcd) hs hf) fun D σ H ⟨F0, H0, ρ, F, cs, R, p⟩ => by
    unfold mvS at p
    split at p
    · rename_i o e
      split at p
      · rename_i hc
        obtain ⟨v, cs2, h1, R2⟩ := R.move e hc.1 hc.2
        exact ⟨v, h1, p F H _ cs2 (Same.refl _) R2⟩
      · exact p.elim
    · exact p.elim
end
def holeT {α β : Type} (s : α → O) (t : β → O) (xs : List (α × β)) (a : Addr) (y : β) : O := .lst (xs.map (oT2 s t) ++ [.tup [.fz (.at a), t y]])
def pairH {β : Type} (t : β → O) (a : Addr) (y : β) : O := .tup [.fz (.at a), t y]
theorem pq_at {a : Addr} {o : O} (h : ρ[i]? = some (some (.nm a o))) : atE i ρ = .ok (.ow (.fz (.at a))) := by
  unfold atE
  rw [h]
theorem atI_last {α : Type} {xs : List α} {x : α} : L2.atI (xs ++ [x]) (-1) = some x := by
  have : ixN (xs ++ [x]).length (-1) = some xs.length := by
    unfold ixN
    rw [List.length_append, if_neg (by decide), if_pos (by simp; omega)]
    congr 1
    simp
    omega
  unfold L2.atI
  rw [this]
  simp
section
variable {α β γ : Type} {s : α → O} {t : β → O}
theorem lastP_of {os : List O} {o : O} (hj : ρ[j]? = some (some (.lst (os ++ [o])))) : lastP j ρ = some [os.length, 0] := by
  unfold lastP
  rw [hj]
  dsimp only
  rw [if_pos (by simp), List.length_append]
  rfl
theorem at_hole {os : List O} {x y : O} : O.at [os.length, 0] (.lst (os ++ [.tup [x, y]])) = some x := by
  show O.at0 [os.length, 0] (.lst (os ++ [.tup [x, y]])) = some x
  unfold O.at0
  show (match (os ++ [O.tup [x, y]])[os.length]? with | some x => O.at0 [0] x | none => none) = _
  rw [List.getElem?_append_right (Nat.le_refl _), Nat.sub_self]
  rfl
theorem put_hole {os : List O} {x y z : O} : O.put [os.length, 0] z (.lst (os ++ [.tup [x, y]])) = .lst (os ++ [.tup [z, y]]) := by
  show O.put0 [os.length, 0] z (.lst (os ++ [.tup [x, y]])) = _
  conv => lhs; unfold O.put0
  show (match (os ++ [O.tup [x, y]])[os.length]? with | some w => O.withKids (.lst (os ++ [O.tup [x, y]])) ((os ++ [O.tup [x, y]]).set os.length (O.put0 [0] z w)) | none => _) = _
  rw [List.getElem?_append_right (Nat.le_refl _), Nat.sub_self]
  show O.lst ((os ++ [O.tup [x, y]]).set os.length (.tup [z, y])) = _
  rw [List.set_append_right _ _ (Nat.le_refl _), Nat.sub_self]
  rfl
theorem oL_snoc {xs : List (α × β)} {x : α} {y : β} : oL (oT2 s t) (xs ++ [(x, y)]) = .lst (xs.map (oT2 s t) ++ [.tup [s x, t y]]) := by
  unfold oL
  rw [List.map_append]
  rfl
theorem plugL_at {xs : List (α × β)} {x : α} {y : β} {a : Addr} {ρ1 : Rho} (hij : decide (i ≠ j) = true) (hi : ρ[i]? = some (some (.nm a (s x)))) (hj : ρ[j]? = some (some (holeT s t xs a y))) (hu : (ρ.set i none).set j (some (oL (oT2 s t) (xs ++ [(x, y)]))) = ρ1) : plugL i j ρ = some ρ1 := by
  subst hu
  have hij := of_decide_eq_true hij
  unfold plugL
  rw [hi, lastP_of hj, hj]
  unfold holeT
  dsimp only
  rw [at_hole]
  dsimp only
  rw [if_pos ⟨hij, rfl⟩, put_hole, oL_snoc]
theorem nameL_at {xs : List (α × β)} {x : α} {y : β} {a : Addr} {ρ1 : Rho} (hij : decide (i ≠ j) = true) (hr : (s x).isRef = true) (hi : decide (i < ρ.length) = true) (hj : ρ[j]? = some (some (oL (oT2 s t) (xs ++ [(x, y)])))) (hu : (ρ.set j (some (holeT s t xs a y))).set i (some (.nm a (s x))) = ρ1) : nameL i j a ρ = some ρ1 := by
  subst hu
  have hij := of_decide_eq_true hij
  have hi := of_decide_eq_true hi
  rw [oL_snoc] at hj
  unfold nameL
  rw [lastP_of hj, hj]
  dsimp only
  rw [at_hole]
  dsimp only
  rw [if_pos ⟨hr, hij, hi⟩, put_hole]
  rfl
theorem pq_ixk {l : Bool} {os : List O} {o : O} {a : Ar} {e1 e2 : DE} {k : Int} (h1 : e1 ρ = .ok a) (ha : a.o.seq = some (l, os)) (h2 : e2 ρ = .ok (dI k)) (hk : L2.atI os k = some o) : bin gIx e1 e2 ρ = .ok (itemAr o) := by
  unfold bin
  rw [h1, h2]
  show gIx a (dI k) = _
  unfold gIx
  rw [ha]
  show (match L2.atI os k with | some o => Rs.ok (itemAr o) | none => .bad) = _
  rw [hk]
theorem rq_idB {r : Rs} {m : M α} {s : α → Ar} (h : RQ r (m.bind fun y => .ok y) s) : RQ r m s := by
  have e : (m.bind fun y => M.ok y) = m := by cases m <;> rfl
  rw [e] at h
  exact h
theorem sim_appT {fv : DE} {xs : List (α × β)} {x : α} {a : Addr} {m : M β} {ρ1 : β → Rho} (hj : ρ[j]? = some (some (oL (oT2 s t) xs))) (hv : RQ (fv ρ) m (rO (pairH t a))) (hu : ∀ y, ρ.set j (some (holeT s t xs a y)) = ρ1 y) :
    Sim (methS "list" (varP j) (consV (owV fv) nilV) gAppend ρ) (m.bind fun y => (appM xs (x, y)).bind fun _ => .ok y) (Np ρ1) := by
  rw [RQ_eq] at hv
  simp only [Sim_eq]
  cases q : m with
  | bad => trivial
  | ex c =>
    rw [q] at hv
    have hv : fv ρ = .ex c := hv
    have k : kindAt ρ j [] = "list" := by unfold kindAt; rw [hj]; rfl
    have v : consV (owV fv) nilV ρ = .ex c := by unfold consV owV; rw [hv]
    have v2 : varP j ρ = .ok j [] := by unfold varP; rw [hj]
    refine ⟨ρ, ?_⟩
    unfold methS
    rw [v2]
    dsimp only
    rw [if_pos k, v]
  | ok y =>
    rw [q] at hv
    have hv : fv ρ = .ok (.ow (pairH t a y)) := hv
    show Sim0 _ ((appM xs (x, y)).bind fun _ => .ok y) _
    unfold appM
    by_cases h : xs.length < lim
    · rw [if_pos h]
      show methS "list" (varP j) (consV (owV fv) nilV) gAppend ρ = .nx _
      have k : kindAt ρ j [] = "list" := by unfold kindAt; rw [hj]; rfl
      have v : consV (owV fv) nilV ρ = .ok [pairH t a y] ρ := by unfold consV owV; rw [hv]; rfl
      have v2 : varP j ρ = .ok j [] := by unfold varP; rw [hj]
      unfold methS
      rw [v2]
      dsimp only
      rw [if_pos k, v]
      dsimp only
      rw [hj]
      show (match gAppend (.lst (xs.map (oT2 s t))) [pairH t a y] with | some s' => SR.nx (ρ.set j (some (O.put [] s' (.lst (xs.map (oT2 s t)))))) | none => .bad) = _
      have g : gAppend (.lst (xs.map (oT2 s t))) [pairH t a y] = some (.lst (xs.map (oT2 s t) ++ [pairH t a y])) := by
        show (if (xs.map (oT2 s t)).length < lim then some (O.lst (xs.map (oT2 s t) ++ [pairH t a y])) else none) = _
        rw [if_pos (by rw [List.length_map]; exact h)]
      rw [g]
      exact congrArg SR.nx (hu y)
    · rw [if_neg h]
      trivial
theorem sim_pE {f g : DS} {P : γ → SR → Prop} {m : M γ} {ρ1 : Rho} (hf : f ρ = .nx ρ1) (hR : Sim (g ρ1) m P) : Sim (seqS f g ρ) m P := by
  have : seqS f g ρ = g ρ1 := by unfold seqS; rw [hf]
  rw [this]
  exact hR
theorem sim_sE0 {f g : DS} {P : γ → SR → Prop} {m : M α} {mR : α → M γ} {up : α → Rho} (hf : Sim (f ρ) m (Np up)) (hR : ∀ a, Sim (g (up a)) (mR a) P) : Sim (seqS f g ρ) (m.bind mR) P := sim_s (l := []) (R := g) hf (fun _ => rfl) hR
theorem sim_setP {fe : DE} {m : M α} {v : β} {up : β × α → Rho} (h : RQ (fe ρ) m (rO s)) (hi : decide (i < ρ.length) = true) (hu : ∀ a, ρ.set i (some (s a)) = up (v, a)) : Sim (setS i fe ρ) (m.bind fun a => .ok (v, a)) (Np up) := by
  have k := set_m h hi
  simp only [Sim_eq] at *
  cases q : m with
  | bad => trivial
  | ex c => rw [q] at k; exact k
  | ok a =>
    rw [q] at k
    have k : setS i fe ρ = .nx _ := k
    show setS i fe ρ = .nx _
    rw [k]
    exact congrArg SR.nx (hu a)
theorem gssE_asc {X : Cx} {W : WX} {sts : List Stmt} {d1 d2 g : DS} (h : GSsE X W i j sts (seqS d1 (seqS d2 g))) : GSsE X W i j sts (seqS (seqS d1 d2) g) := by
  simpa only [seqS_a] using h
theorem gss_asc {X : Cx} {W : WX} {sts : List Stmt} {d1 d2 g : DS} (h : GSs X W sts (seqS d1 (seqS d2 g))) : GSs X W sts (seqS (seqS d1 d2) g) := by
  simpa only [seqS_a] using h
end
end DL
namespace DL
open PySem PySem.Spec L2
variable {K : PySem.W.Frag} {F F' H H' H0 F0 F1 H1 : Hp} {cs cs' : List Addr} {σ σ' : L2.St} {ρ ρ' : Rho}
def plugP (p : List Nat) (i j : Nat) (ρ : Rho) : Option Rho := match ρ[i]?, ρ[j]? with
  | some (some (.nm a s)), some (some o0) => match O.at p o0 with
    | some (.fz (.at b)) => if i ≠ j ∧ b = a then some ((ρ.set i none).set j (some (O.put p s o0))) else none
    | _ => none
  | _, _ => none
theorem RS.plugP {p : List Nat} {i j : Nat} {ρ2 : Rho} (R : RS K F0 H0 ρ F σ H cs) (h : plugP p i j ρ = some ρ2) : ∃ cs2, RS K F0 H0 ρ2 F σ H cs2 := by
  unfold DL.plugP at h
  split at h
  · rename_i a s o0 ei ej
    split at h
    · rename_i b eat
      split at h
      · rename_i hc
        obtain ⟨hij, rfl⟩ := hc
        cases h
        obtain ⟨v, c2, cs2, h1, ⟨hv, h2⟩, R2, ⟨t1, t2⟩, h4, h5⟩ := R.takeC ei
        subst hv
        have ej2 : (ρ.set i none)[j]? = some (some o0) := by rw [List.getElem?_set_ne hij]; exact ej
        obtain ⟨v, u, d1, d2, d3, e1, g2, g3, ⟨z1, z2⟩, k⟩ := R2.putAt ej2 eat
        subst z1
        subst e1
        have z2 : u = .ref b := z2
        subst z2
        exact ⟨_, k H s c2 (fun _ _ _ => rfl) h2 t1 fun c hc => ⟨(t2 c hc).1, (t2 c hc).2.1, fun h => (t2 c hc).2.2 (List.mem_append_left _ h), fun h => (t2 c hc).2.2 (List.mem_append_right _ (List.mem_append_right _ h))⟩⟩
      · cases h
    · cases h
  · cases h
def nameT (i ta t j : Nat) (q a b : Addr) (ρ : Rho) : Option Rho := match ρ[i]? with
  | some (some (.lst os)) => match os[j]? with
    | some (.tup [o1, o2]) => if o1.isRef = true ∧ o2.isRef = true then some (((ρ.set i (some (.nm q (.lst (os.set j (.tup [.fz (.at a), .fz (.at b)])))))).set ta (some (.nm a o1))).set t (some (.nm b o2))) else none
    | _ => none
  | _ => none
def plugT (i ta t j : Nat) (ρ : Rho) : Option Rho := match ρ[i]? with
  | some (some (.nm q (.lst os))) => (plugP [j, 0] ta i (ρ.set i (some (.lst os)))).bind (plugP [j, 1] t i)
  | _ => none
open Classical in
noncomputable def loopT (body : DS) (i ta t N : Nat) : Nat → Nat → DS
  | 0, _, ρ => if lenAt ρ i [] = some N then .nx ρ else .bad
  | n + 1, j, ρ => if noneAt ρ ta = true ∧ noneAt ρ t = true ∧ lenAt ρ i [] = some N then
      (if h : ∃ ρ', ∀ q a b, ∃ ρu ρ1, nameT i ta t j q a b ρ = some ρu ∧ body ρu = .nx ρ1 ∧ plugT i ta t j ρ1 = some ρ' ∧ ∃ os, ρ1[i]? = some (some (.nm q (.lst os))) then loopT body i ta t N n (j + 1) (choose h) else .bad) else .bad
noncomputable def forT (i ta t : Nat) (body : DS) : DS := fun ρ => if i = ta ∨ i = t ∨ ta = t ∨ ρ.length ≤ ta ∨ ρ.length ≤ t then .bad else (match lenAt ρ i [] with
  | some N => loopT body i ta t N N 0 ((ρ.set ta none).set t none)
  | none => .bad)
theorem set5 {α : Type} {l : List α} {i ta t : Nat} {x1 x2 x3 y z : α} (hi : i ≠ ta) (hit : i ≠ t) : ((((l.set i x1).set ta y).set i x2).set t z).set i x3 = ((l.set i x3).set ta y).set t z := by
  rw [List.set_comm x1 y hi, List.set_set, List.set_comm x2 z hit, List.set_set, List.set_comm x3 y hi]
  exact List.set_comm _ _ hit.symm
theorem RS.nameT {i ta t j : Nat} {q : Addr} {vs : List V} {w1 w2 : V} {za : Addr} {ρ0 : Rho} {a0 b0 : Addr} (R : RS K F0 H0 ρ F σ H cs) (hi : i ≠ ta) (hit : i ≠ t) (htt : ta ≠ t) (hta : ta < ρ.length) (ht : t < ρ.length) (h : nameT i ta t j q a0 b0 ρ = some ρ0)
    (hv : σ[i]? = some (some (.ref q))) (hq : H q = some (.lst vs)) (hj : vs[j]? = some (.ref za)) (hz : H za = some (.tup [w1, w2])) :
    ∃ a b ρu cs2, nameT i ta t j q a b ρ = some ρu ∧ RS K F0 H0 ρu F ((σ.set ta (some w1)).set t (some w2)) H cs2 := by
  unfold DL.nameT at h ⊢
  split at h
  · rename_i os ei
    split at h
    · rename_i o1 o2 ej
      split at h
      · rename_i hr
        obtain ⟨r1, r2⟩ := hr
        have hat0 : VAt K H [] (.ref q) (.ref q) := rfl
        have hva := hat0.snoc rfl (.inl (.inl hq)) hj
        have hv0 : VAt K H [j, 0] (.ref q) w1 := hva.snoc rfl (.inl (.inr hz)) rfl
        have hv1 : VAt K H [j, 1] (.ref q) w2 := hva.snoc rfl (.inl (.inr hz)) rfl
        have hjl : j < os.length := (List.getElem?_eq_some_iff.mp ej).1
        have eat : O.at [j, 0] (.lst os) = some o1 := by
          show O.at0 [j, 0] (.lst os) = some o1
          unfold O.at0
          show (match os[j]? with | some x => O.at0 [0] x | none => none) = _
          rw [ej]
          rfl
        obtain ⟨a, cs1, rfl, R1⟩ := R.unplugD (Ne.symm hi) hta ei eat r1 hv hv0
        have ep : O.put [j, 0] (.fz (.at a)) (.lst os) = .lst (os.set j (.tup [.fz (.at a), o2])) := by
          show O.put0 [j, 0] (.fz (.at a)) (.lst os) = _
          conv => lhs; unfold O.put0
          show (match os[j]? with | some w => O.withKids (.lst os) (os.set j (O.put0 [0] (.fz (.at a)) w)) | none => _) = _
          rw [ej]
          rfl
        rw [ep] at R1
        have hil : i < ρ.length := (List.getElem?_eq_some_iff.mp ei).1
        have ei1 : ((ρ.set i (some (.lst (os.set j (.tup [.fz (.at a), o2]))))).set ta (some (.nm a o1)))[i]? = some (some (.lst (os.set j (.tup [.fz (.at a), o2])))) := by
          rw [List.getElem?_set_ne (Ne.symm hi), List.getElem?_set_self hil]
        have eat1 : O.at [j, 1] (.lst (os.set j (.tup [.fz (.at a), o2]))) = some o2 := by
          show O.at0 [j, 1] (.lst (os.set j (.tup [.fz (.at a), o2]))) = some o2
          unfold O.at0
          show (match (os.set j (O.tup [.fz (.at a), o2]))[j]? with | some x => O.at0 [1] x | none => none) = _
          rw [List.getElem?_set_self hjl]
          rfl
        obtain ⟨b, cs2, rfl, R2⟩ := R1.unplugD (i := t) (Ne.symm hit) (by simpa using ht) ei1 eat1 r2 (by rw [List.getElem?_set_ne (Ne.symm hi)]; exact hv) hv1
        have ep1 : O.put [j, 1] (.fz (.at b)) (.lst (os.set j (.tup [.fz (.at a), o2]))) = .lst (os.set j (.tup [.fz (.at a), .fz (.at b)])) := by
          show O.put0 [j, 1] (.fz (.at b)) (.lst (os.set j (.tup [.fz (.at a), o2]))) = _
          conv => lhs; unfold O.put0
          show (match (os.set j (O.tup [.fz (.at a), o2]))[j]? with | some w => O.withKids (.lst (os.set j (O.tup [.fz (.at a), o2]))) ((os.set j (O.tup [.fz (.at a), o2])).set j (O.put0 [1] (.fz (.at b)) w)) | none => _) = _
          rw [List.getElem?_set_self hjl]
          show O.lst ((os.set j (O.tup [.fz (.at a), o2])).set j (.tup [.fz (.at a), .fz (.at b)])) = _
          rw [List.set_set]
        rw [ep1] at R2
        have ei2 : ((((ρ.set i (some (.lst (os.set j (.tup [.fz (.at a), o2]))))).set ta (some (.nm a o1))).set i (some (.lst (os.set j (.tup [.fz (.at a), .fz (.at b)]))))).set t (some (.nm b o2)))[i]? = some (some (.lst (os.set j (.tup [.fz (.at a), .fz (.at b)])))) := by
          rw [List.getElem?_set_ne (Ne.symm hit), List.getElem?_set_self (by simpa using hil)]
        obtain ⟨cs3, R3⟩ := R2.nameB (j := i) (b := q) ei2 (by rw [List.getElem?_set_ne (Ne.symm hit), List.getElem?_set_ne (Ne.symm hi)]; exact hv)
        refine ⟨a, b, _, cs3, ?_, R3⟩
        rw [if_pos ⟨r1, r2⟩]
        exact congrArg some (set5 hi hit).symm
      · cases h
    · cases h
  · cases h
section
variable {X : Cx} {W : WX} {pos : Pos} {e : Expr}
theorem gs_forT {x y z : Str} {p1 p2 p3 p4 : Pos} {kk : Nat} {body : List Stmt} {bd : DS} {k : Nat} (i ta t : Nat) (hp : PassesOwn (model X.prog X.w) X.A X.env X.xe) (C : Cc X W k) (hb : GSs X W body bd)
    (hN : X.N[i]? = some z := by rfl) (hv : Vis X.env.scope z := by first | exact Or.inl rfl | exact Or.inr (Or.inl rfl) | exact Or.inr (Or.inr rfl)) (hd : (z == ("__debug__" : Str)) = false := by decide) (hcd : (z == ("__classdict__" : Str)) = false := by decide)
    (hia : X.N[ta]? = some x := by rfl) (hxa : Loc X.env.scope x := by first | exact Or.inl rfl | exact Or.inr rfl) (hfa : X.fn x = true ∨ X.env.scope.names.lookup x = some .local := by first | exact .inl rfl | exact .inr rfl)
    (hi : X.N[t]? = some y := by rfl) (hx : Loc X.env.scope y := by first | exact Or.inl rfl | exact Or.inr rfl) (hf : X.fn y = true ∨ X.env.scope.names.lookup y = some .local := by first | exact .inl rfl | exact .inr rfl)
    (hn : (assignEach [Expr.Name x p1, Expr.Name y p2] X.env).length = 2 := by rfl) (hst : (assignEach [Expr.Name x p1, Expr.Name y p2] X.env).findIdx? (·.1) = none := by rfl)
    (hs : ∀ w, foldedSetIterable (.Name z p4) X.env w = pure w := by intro _; rfl) : GS X W (.For (.Tuple [.Name x p1, .Name y p2] kk p3) (.Name z p4) body [] pos) (forT i ta t bd) := by
  refine PS.imp (ps_for hp C.calm (pi_list (pe_var hN hv hd hcd)) (pg_tup C.calm (pgs_cons (pg_name C.nd hia hxa hfa) (pgs_cons (pg_name C.nd hi hx hf) pgs_nil)) hn hst) hb hs) fun D σ H ⟨F0, H0, ρ, F, cs, R, p⟩ => ?_
  unfold forT at p
  split at p
  · exact p.elim
  · rename_i hit
    have hne : i ≠ t := fun e => hit (.inr (.inl e))
    have hna : i ≠ ta := fun e => hit (.inl e)
    have hat' : ta ≠ t := fun e => hit (.inr (.inr (.inl e)))
    have hal : ta < ρ.length := Nat.lt_of_not_le fun h => hit (.inr (.inr (.inr (.inl h))))
    have htl : t < ρ.length := Nat.lt_of_not_le fun h => hit (.inr (.inr (.inr (.inr h))))
    split at p
    · rename_i N eN
      have hsv : ∃ v, σ[i]? = some (some v) := by
        unfold lenAt at eN
        split at eN
        · rename_i o eo
          obtain ⟨v, c2, cs2, h1, _⟩ := R.takeC eo
          exact ⟨v, h1⟩
        · cases eN
      obtain ⟨v, hv⟩ := hsv
      obtain ⟨q, vs, rfl, hq, hl⟩ := lenAt_rep R eN hv rfl
      show ∃ v, σ[i]? = some (some v) ∧ _
      refine ⟨.ref q, hv, q, rfl, ⟨vs, SqL.of hq⟩, ?_⟩
      obtain ⟨cs0, R1b⟩ := R.drop hal
      obtain ⟨cs1, R2⟩ := R1b.drop (show t < (ρ.set ta none).length by simpa using htl)
      refine ⟨fun j m σ H => m = N - j ∧ j ≤ N ∧ ∃ ρ F cs, RS X.K F0 H0 ρ F σ H cs ∧ σ[i]? = some (some (.ref q)) ∧ postS X W (loopT bd i ta t N (N - j) j ρ) F0 H0 F D,
        ⟨N, by simp, Nat.zero_le _, (ρ.set ta none).set t none, F, cs1, R2, hv, p⟩, ?_⟩
      rintro j m σ2 H2 ⟨rfl, hj, ρ2, F2, cs2, R3, hv2, p2⟩
      by_cases hlt : j < N
      · obtain ⟨n, hn⟩ : ∃ n, N - j = n + 1 := ⟨N - j - 1, by omega⟩
        rw [hn] at p2
        unfold loopT at p2
        split at p2
        · rename_i hc
          obtain ⟨hca, hcb, hcl⟩ := hc
          split at p2
          · rename_i hx
            obtain ⟨q', vs2, eq', hvs2, hl2⟩ := lenAt_rep R3 hcl hv2 rfl
            cases eq'
            have hjv : j < vs2.length := by omega
            refine .inr ⟨⟨vs2, vs2[j], SqL.of hvs2, List.getElem?_eq_getElem hjv⟩, fun σ3 H3 => ∃ ρ F cs, RS X.K F0 H0 ρ F σ3 H3 cs ∧ σ3[i]? = some (some (.ref q)) ∧ postS X W (loopT bd i ta t N (N - (j + 1)) (j + 1) ρ) F0 H0 F D, fun σ' H' h => ⟨N - (j + 1), by omega, rfl, hlt, h⟩, fun z H' yz => ?_⟩
            obtain ⟨e, yz⟩ := yz
            subst e
            have ez := yz vs2 (SqL.of hvs2)
            have none_of : ∀ t', noneAt ρ2 t' = true → ρ2[t']? = some none := fun t' h => by
              unfold noneAt at h
              split at h
              · rename_i h2; exact h2
              · cases h
            have hta2 : ta < ρ2.length := (List.getElem?_eq_some_iff.mp (none_of ta hca)).1
            have ht2 : t < ρ2.length := (List.getElem?_eq_some_iff.mp (none_of t hcb)).1
            have hsp := Classical.choose_spec hx
            obtain ⟨ρu0, ρ10, eu0, _⟩ := hsp q 0 0
            have htup : tupAt ρ2 i ([] ++ [j]) = true := by
              unfold DL.nameT at eu0
              unfold tupAt
              split at eu0
              · rename_i os ei
                split at eu0
                · rename_i o1 o2 ej
                  rw [ei]
                  dsimp only
                  have : O.at ([] ++ [j]) (.lst os) = some (.tup [o1, o2]) := by
                    show O.at0 [j] (.lst os) = _
                    unfold O.at0
                    show (match os[j]? with | some x => O.at0 [] x | none => none) = _
                    rw [ej]
                    rfl
                  rw [this]
                · cases eu0
              · cases eu0
            have hat0 : VAt X.K H' [] (.ref q) (.ref q) := rfl
            have hva := hat0.snoc rfl (.inl (.inl hvs2)) ez
            obtain ⟨za, w1, w2, ezz, hz⟩ := tupAt_rep R3 htup hv2 hva
            subst ezz
            obtain ⟨a, b, ρu, cs3, eu, R4⟩ := R3.nameT hna hne hat' hta2 ht2 eu0 hv2 hvs2 ez hz
            obtain ⟨ρu', ρ1, eu', eb, epl, os', eos⟩ := hsp q a b
            rw [eu] at eu'
            cases eu'
            refine ⟨za, [w1, w2], rfl, SqT.of hz, rfl, w1, [w2], rfl, w2, [], rfl, rfl, ?_⟩
            refine ⟨F0, H0, ρu, F2, cs3, R4, ?_⟩
            rw [eb]
            intro F5 H5 σ5 cs5 s5 R5
            obtain ⟨hv5, cs6, R6⟩ := R5.strip eos
            unfold plugT at epl
            rw [eos] at epl
            dsimp only at epl
            obtain ⟨ρm, em1, em2⟩ := Option.bind_eq_some_iff.mp epl
            obtain ⟨cs7, R7⟩ := R6.plugP em1
            obtain ⟨cs8, R8⟩ := R7.plugP em2
            have hnn : N - (j + 1) = n := by omega
            rw [hnn]
            exact ⟨_, F5, cs8, R8, hv5, postS_same s5 p2⟩
          · exact p2.elim
        · exact p2.elim
      · have e : j = N := by omega
        subst e
        rw [Nat.sub_self] at p2
        unfold loopT at p2
        split at p2
        · rename_i hc
          obtain ⟨q', vs2, eq', hvs2, hl2⟩ := lenAt_rep R3 hc hv2 rfl
          cases eq'
          exact .inl ⟨⟨vs2, SqL.of hvs2, by omega⟩, p2 F2 H2 σ2 cs2 (Same.refl _) R3⟩
        · exact p2.elim
    · exact p.elim
end
theorem setA {α : Type} {l : List α} {i ta t : Nat} {n1 n2 x y a b : α} (_ : i ≠ ta) (_ : i ≠ t) (_ : ta ≠ t) : (((((l.set ta n1).set t n2).set i x).set i y).set ta a).set t b = ((l.set i y).set ta a).set t b := by
  apply List.ext_getElem?
  intro n
  simp only [List.getElem?_set, List.length_set]
  grind
theorem setB {α : Type} {l : List α} {i ta t : Nat} {n1 n2 x y a b x2 x3 : α} (_ : i ≠ ta) (_ : i ≠ t) (_ : ta ≠ t) : (((((((l.set i y).set ta a).set t b).set i x).set ta n1).set i x2).set t n2).set i x3 = ((l.set ta n1).set t n2).set i x3 := by
  apply List.ext_getElem?
  intro n
  simp only [List.getElem?_set, List.length_set]
  grind
theorem put_pair0 {os : List O} {j : Nat} {z x y : O} (e : os[j]? = some (.tup [x, y])) : O.put [j, 0] z (.lst os) = .lst (os.set j (.tup [z, y])) := by
  show O.put0 [j, 0] z (.lst os) = _
  conv => lhs; unfold O.put0
  show (match os[j]? with | some w => O.withKids (.lst os) (os.set j (O.put0 [0] z w)) | none => _) = _
  rw [e]
  rfl
theorem put_pair1 {os : List O} {j : Nat} {z x y : O} (e : os[j]? = some (.tup [x, y])) : O.put [j, 1] z (.lst os) = .lst (os.set j (.tup [x, z])) := by
  show O.put0 [j, 1] z (.lst os) = _
  conv => lhs; unfold O.put0
  show (match os[j]? with | some w => O.withKids (.lst os) (os.set j (O.put0 [1] z w)) | none => _) = _
  rw [e]
  rfl
theorem at_pair0 {os : List O} {j : Nat} {x y : O} (e : os[j]? = some (.tup [x, y])) : O.at [j, 0] (.lst os) = some x := by
  show O.at0 [j, 0] (.lst os) = some x
  unfold O.at0
  show (match os[j]? with | some x => O.at0 [0] x | none => none) = _
  rw [e]
  rfl
theorem at_pair1 {os : List O} {j : Nat} {x y : O} (e : os[j]? = some (.tup [x, y])) : O.at [j, 1] (.lst os) = some y := by
  show O.at0 [j, 1] (.lst os) = some y
  unfold O.at0
  show (match os[j]? with | some x => O.at0 [1] x | none => none) = _
  rw [e]
  rfl
section
variable {α β : Type} {s : α → O} {u : β → O} {i ta t : Nat} {bd : DS} {F : α × β → M (α × β)}
def tupN (ρ : Rho) (s : α → O) (u : β → O) (i ta t : Nat) (q a b : Addr) (os : List O) (x : α × β) : Rho := ((ρ.set i (some (.nm q (.lst os)))).set ta (some (.nm a (s x.1)))).set t (some (.nm b (u x.2)))
def tupU (ρ : Rho) (s : α → O) (u : β → O) (i ta t : Nat) (xs : List (α × β)) : Rho := ((ρ.set ta none).set t none).set i (some (oL (oT2 s u) xs))
theorem plugT_of (hi : i ≠ ta) (hit : i ≠ t) (htt : ta ≠ t) (hil : i < ρ.length) (hal : ta < ρ.length) (htl : t < ρ.length) {j : Nat} {q a b : Addr} {os os2 : List O} {y : α × β} (hj : os[j]? = some (.tup [.fz (.at a), .fz (.at b)])) (h2 : os.set j (.tup [s y.1, u y.2]) = os2) :
    plugT i ta t j (tupN ρ s u i ta t q a b os y) = some (((ρ.set ta none).set t none).set i (some (.lst os2))) := by
  have hjl : j < os.length := (List.getElem?_eq_some_iff.mp hj).1
  unfold plugT tupN
  have e0 : (((ρ.set i (some (.nm q (.lst os)))).set ta (some (.nm a (s y.1)))).set t (some (.nm b (u y.2))))[i]? = some (some (.nm q (.lst os))) := by
    rw [List.getElem?_set_ne hit.symm, List.getElem?_set_ne hi.symm, List.getElem?_set_self hil]
  rw [e0]
  dsimp only
  have e1 : plugP [j, 0] ta i ((((ρ.set i (some (.nm q (.lst os)))).set ta (some (.nm a (s y.1)))).set t (some (.nm b (u y.2)))).set i (some (.lst os))) = some ((((((ρ.set i (some (.nm q (.lst os)))).set ta (some (.nm a (s y.1)))).set t (some (.nm b (u y.2)))).set i (some (.lst os))).set ta none).set i (some (.lst (os.set j (.tup [s y.1, .fz (.at b)]))))) := by
    unfold plugP
    rw [List.getElem?_set_ne hi, List.getElem?_set_ne htt.symm, List.getElem?_set_self (by simpa using hal), List.getElem?_set_self (by simpa using hil)]
    dsimp only
    rw [at_pair0 hj]
    dsimp only
    rw [if_pos ⟨hi.symm, rfl⟩, put_pair0 hj]
  rw [e1]
  show plugP [j, 1] t i _ = _
  unfold plugP
  have f1 : ((((((ρ.set i (some (.nm q (.lst os)))).set ta (some (.nm a (s y.1)))).set t (some (.nm b (u y.2)))).set i (some (.lst os))).set ta none).set i (some (.lst (os.set j (.tup [s y.1, .fz (.at b)])))))[t]? = some (some (.nm b (u y.2))) := by
    rw [List.getElem?_set_ne hit, List.getElem?_set_ne htt, List.getElem?_set_ne hit, List.getElem?_set_self (by simpa using htl)]
  rw [f1, List.getElem?_set_self (by simpa using hil)]
  dsimp only
  have hj2 : (os.set j (O.tup [s y.1, .fz (.at b)]))[j]? = some (.tup [s y.1, .fz (.at b)]) := List.getElem?_set_self hjl
  rw [at_pair1 hj2]
  dsimp only
  rw [if_pos ⟨hit.symm, rfl⟩, put_pair1 hj2, List.set_set, h2]
  exact congrArg some (setB hi hit htt)
theorem loopT_ok (hi : i ≠ ta) (hit : i ≠ t) (htt : ta ≠ t) (hil : i < ρ.length) (hal : ta < ρ.length) (htl : t < ρ.length) (hrs : ∀ x, (s x).isRef = true) (hru : ∀ x, (u x).isRef = true)
    (hB : ∀ q a b os x, Sim (bd (tupN ρ s u i ta t q a b os x)) (F x) (Np fun y => tupN ρ s u i ta t q a b os y)) : ∀ (xs zs pre : List (α × β)) (N : Nat), pre.length + xs.length = N → mapM (fun x => (F x).nox) xs = .ok zs →
    loopT bd i ta t N xs.length pre.length (tupU ρ s u i ta t (pre ++ xs)) = .nx (tupU ρ s u i ta t (pre ++ zs))
  | [], zs, pre, N, hN, hm => by
    cases hm
    show loopT bd i ta t N 0 pre.length _ = _
    unfold loopT
    have : lenAt (tupU ρ s u i ta t (pre ++ [])) i [] = some N := by
      unfold lenAt tupU
      rw [List.getElem?_set_self (by simpa using hil)]
      show some ((pre ++ []).map (oT2 s u)).length = some N
      rw [List.length_map]
      simpa using hN
    rw [if_pos this]
  | x :: xs, zs, pre, N, hN, hm => by
    unfold mapM at hm
    cases q0 : F x with
    | bad => rw [q0] at hm; cases hm
    | ex c => rw [q0] at hm; cases hm
    | ok y =>
      rw [q0] at hm
      have hm : (mapM (fun x => (F x).nox) xs).bind (fun zs => .ok (y :: zs)) = .ok zs := hm
      cases q2 : mapM (fun x => (F x).nox) xs with
      | bad => rw [q2] at hm; cases hm
      | ex c => rw [q2] at hm; cases hm
      | ok zs' =>
        rw [q2] at hm
        simp only [M.bind_ok] at hm
        cases hm
        have h1 : lenAt (tupU ρ s u i ta t (pre ++ x :: xs)) i [] = some N := by
          unfold lenAt tupU
          rw [List.getElem?_set_self (by simpa using hil)]
          show some ((pre ++ x :: xs).map (oT2 s u)).length = some N
          rw [List.length_map, List.length_append]
          exact congrArg some hN
        have h2 : noneAt (tupU ρ s u i ta t (pre ++ x :: xs)) ta = true := by
          unfold noneAt tupU
          rw [List.getElem?_set_ne hi, List.getElem?_set_ne htt.symm, List.getElem?_set_self hal]
        have h3 : noneAt (tupU ρ s u i ta t (pre ++ x :: xs)) t = true := by
          unfold noneAt tupU
          rw [List.getElem?_set_ne hit, List.getElem?_set_self (by simpa using htl)]
        have hx : ((pre ++ x :: xs).map (oT2 s u))[pre.length]? = some (.tup [s x.1, u x.2]) := by
          simp
          rfl
        have hjl : pre.length < ((pre ++ x :: xs).map (oT2 s u)).length := (List.getElem?_eq_some_iff.mp hx).1
        have nx : ∀ q a b, ∃ ρu ρ1, nameT i ta t pre.length q a b (tupU ρ s u i ta t (pre ++ x :: xs)) = some ρu ∧ bd ρu = .nx ρ1 ∧ plugT i ta t pre.length ρ1 = some (tupU ρ s u i ta t ((pre ++ [y]) ++ xs)) ∧ ∃ os, ρ1[i]? = some (some (.nm q (.lst os))) := fun q a b => by
          have hb := hB q a b (((pre ++ x :: xs).map (oT2 s u)).set pre.length (.tup [.fz (.at a), .fz (.at b)])) x
          rw [q0] at hb
          simp only [Sim_eq] at hb
          refine ⟨_, _, ?_, hb, ?_, ?_⟩
          · unfold nameT tupU
            rw [List.getElem?_set_self (by simpa using hil)]
            show (match ((pre ++ x :: xs).map (oT2 s u))[pre.length]? with | some (.tup [o1, o2]) => _ | _ => none) = _
            rw [hx]
            dsimp only
            rw [if_pos ⟨hrs _, hru _⟩]
            unfold tupN
            exact congrArg some (setA hi hit htt)
          · refine plugT_of hi hit htt hil hal htl (List.getElem?_set_self hjl) ?_
            rw [List.set_set]
            simp
            rfl
          · unfold tupN
            exact ⟨_, by rw [List.getElem?_set_ne hit.symm, List.getElem?_set_ne hi.symm, List.getElem?_set_self hil]⟩
        have ih := loopT_ok hi hit htt hil hal htl hrs hru hB xs zs' (pre ++ [y]) N (by simp at hN ⊢; omega) q2
        show loopT bd i ta t N (xs.length + 1) pre.length _ = _
        unfold loopT
        rw [if_pos ⟨h2, h3, h1⟩]
        have hex : ∃ ρ', ∀ q a b, ∃ ρu ρ1, nameT i ta t pre.length q a b (tupU ρ s u i ta t (pre ++ x :: xs)) = some ρu ∧ bd ρu = .nx ρ1 ∧ plugT i ta t pre.length ρ1 = some ρ' ∧ ∃ os, ρ1[i]? = some (some (.nm q (.lst os))) := ⟨_, nx⟩
        rw [dif_pos hex]
        have e : Classical.choose hex = tupU ρ s u i ta t ((pre ++ [y]) ++ xs) := by
          obtain ⟨ρu, ρ1, e1, e2, e3, _⟩ := Classical.choose_spec hex 0 0 0
          obtain ⟨ρv, ρ2, f1, f2, f3, _⟩ := nx 0 0 0
          rw [f1] at e1
          cases e1
          rw [f2] at e2
          cases e2
          rw [f3] at e3
          exact (Option.some.inj e3).symm
        rw [e]
        simpa using ih
theorem sim_JN {γ : Type} {r : SR} {m : M γ} {up : γ → Rho} (h : Sim r m (Jp [] up)) : Sim r m (Np up) := by
  simp only [Sim_eq] at *
  cases m with
  | bad => trivial
  | ex c => exact h
  | ok a =>
    obtain ⟨ρ1, e1, e2⟩ := h
    show r = .nx _
    rw [e1]
    exact congrArg SR.nx e2
theorem sim_forT {xs : List (α × β)} (hx : ρ[i]? = some (some (oL (oT2 s u) xs))) (hc : (decide (i ≠ t) && (decide (i ≠ ta) && (decide (ta ≠ t) && (decide (t < ρ.length) && decide (ta < ρ.length))))) = true) (hrs : ∀ x, (s x).isRef = true) (hru : ∀ x, (u x).isRef = true)
    {up : Addr → Addr → Addr → List O → α × β → Rho} (hn : ∀ q a b os x, tupN ρ s u i ta t q a b os x = up q a b os x) (hB : ∀ q a b os x, Sim (bd (up q a b os x)) (F x) (Np fun y => up q a b os y)) {upd : List (α × β) → Rho} (hu : ∀ ys, tupU ρ s u i ta t ys = upd ys) : Sim (forT i ta t bd ρ) (mapM (fun x => (F x).nox) xs) (Np upd) := by
  have e : (fun ys => tupU ρ s u i ta t ys) = upd := funext hu
  rw [← e]
  have e2 : (fun q a b os x => tupN ρ s u i ta t q a b os x) = up := by
    funext q a b os x
    exact hn q a b os x
  subst e2
  simp only [Bool.and_eq_true, decide_eq_true_eq] at hc
  obtain ⟨hit, hi, htt, htl, hal⟩ := hc
  have hil : i < ρ.length := (List.getElem?_eq_some_iff.mp hx).1
  simp only [Sim_eq] at *
  cases q : mapM (fun x => (F x).nox) xs with
  | bad => trivial
  | ex c => exact (mapM_nex (fun x c => by cases F x <;> exact fun h => by cases h) xs c q).elim
  | ok zs =>
    have := loopT_ok (ρ := ρ) (bd := bd) (F := F) hi hit htt hil hal htl hrs hru (fun q a b os x => by rw [Sim_eq]; exact hB q a b os x) xs zs [] xs.length (by simp) q
    show forT i ta t bd ρ = .nx _
    unfold forT
    rw [if_neg (by omega)]
    have hl : lenAt ρ i [] = some xs.length := by
      unfold lenAt
      rw [hx]
      show some (xs.map (oT2 s u)).length = _
      rw [List.length_map]
    rw [hl]
    dsimp only
    have e0 : tupU ρ s u i ta t ([] ++ xs) = (ρ.set ta none).set t none := by
      unfold tupU
      rw [List.nil_append]
      have e1 : ((ρ.set ta none).set t none)[i]? = some (some (oL (oT2 s u) xs)) := by rw [List.getElem?_set_ne hit.symm, List.getElem?_set_ne hi.symm]; exact hx
      apply List.ext_getElem?
      intro n
      by_cases hni : i = n
      · subst hni
        rw [List.getElem?_set_self (by simpa using hil), e1]
      · rw [List.getElem?_set_ne hni]
    rw [e0] at this
    exact this
end
end DL
namespace DL
open PySem PySem.Spec L2
section
variable {α β γ S : Type} {ρ ρ1 : Rho} {so : α → O} {ws : S → List O} {js : List Nat} {as : List Addr} {os : List O} {io : List Bool} {m : M ((α ⊕ Str) × S)} {f K : DS} {P : γ → SR → Prop}
end
section
variable {α β γ S : Type} {ρ ρ1 : Rho} {f g A B : DS} {c : DT} {p : Bool} {mc : M Bool} {mA mB : M (Option Str × S)} {upd : S → Rho}
end
section
variable {α β S : Type} {ρ ρ1 : Rho} {as : List Aa} {io : List Bool} {los os : List O} {sem : List O → IOr} {ws : S → List O} {so : α → O} {up : S → Rho} {pls : List (Nat × List Nat)}
variable {mn cn : Str} {ns : List Str} {sl : Sems} {fp : DP} {i : Nat} {p : List Nat} {os0 : List O} {x1 : O}
end
end DL
namespace DL
open PySem PySem.Spec L2
section
variable {α γ : Type} {ρ : Rho} {f R : DS} {l : List Gh} {m : M α} {mR : α → M γ} {mx : Str → M γ} {P : γ → SR → Prop} {upd up : α → Rho}
end
@[simp] def unlB (n : Nat) (bs : DBs) : DB := fun d ρ => match d with
  | .lst ds => if ds.length = n then bs ds ρ else none
  | _ => none
section
variable {X : Cx} {pos : Pos}
end
end DL
namespace DL
open PySem PySem.Spec L2
def hookX (as : List Addr) (fa : List He.Fa) (fn : List He.DefD) (β : Type) (ox : PySem.W.Frag → β) (vx : World → β) : PySem.W.Hook where
  α := He.AlD × β
  obs := fun s => (He.obsD fa fn (He.frG s.heap.get? as), ox (He.frG s.heap.get? as))
  val := fun w => (He.valD fn, vx w)
  says := fun w h => ∃ K : PySem.W.Frag, K.In h ∧ He.SaysD fa fn K ∧ ox K = vx w
  of := fun w s e => ⟨_, He.frG_in, congrArg Prod.fst e, congrArg Prod.snd e⟩
  keeps := fun w h h' ⟨K, i, c, x⟩ hk => ⟨K, fun a o q => hk _ _ (i a o q), c, x⟩
def obX (as : List Addr) (fa : List He.Fa) (fn : List He.DefD) {β : Type} (ox : PySem.W.Frag → β) (g : Addr → Option Obj) : He.AlD × β :=
  (He.obsD fa fn (He.frG g as), ox (He.frG g as))
theorem obX_eq {as : List Addr} {fa : List He.Fa} {fn : List He.DefD} {β : Type} {ox : PySem.W.Frag → β} {vx : World → β} (s : PySem.W.SharedT) : obX as fa fn ox (HandSHeadRun.getT s) = (hookX as fa fn β ox vx).obs s.abs := by
  have e : HandSHeadRun.getT s = s.abs.heap.get? := funext (HandSHeadRun.getT_eq s)
  unfold obX
  rw [e]
  rfl
noncomputable def enR (r : PySem.W.OpenRow) (M : Nat) (w : World) (os : OsState) : Option PySem.W.SharedT := HandSHeadRun.endF (HandSHeadRun.stepQ (HandSHeadRun.denQ HandSHeadRun.tabQ) r.prog w) M r.prog w os
theorem run_parts {r : PySem.W.OpenRow} {q : Program} {as : List Addr} {fa : List He.Fa} {fn : List He.DefD} {β : Type} {ox : PySem.W.Frag → β} {vx : World → β} {M : Nat} {loose : List Str} {w : World}
    (h1 : ∀ os, (enR r M w os).map (fun s => (HandSHeadRun.looksF r.prog (PySem.W.boot_heap w.params) s.abs, HandSHeadRun.seenQ q loose (importedModules r.prog.main.body) (fun s => PySem.W.xlAt q [] s && PySem.W.recOk r.toRowW.records s) s.abs)) = some (true, PySem.W.openGood q loose))
    (h2 : ∀ os, (enR r M w os).map (fun s => He.obsD fa fn (He.frG (HandSHeadRun.getT s) as)) = some (He.valD fn))
    (h3 : ∀ os, (enR r M w os).map (fun s => ox (He.frG (HandSHeadRun.getT s) as)) = some (vx w)) :
    HandSHeadRun.RunEq r q (hookX as fa fn β ox vx) (fun s => obX as fa fn ox (HandSHeadRun.getT s)) M loose w := by
  intro os
  have h1 := h1 os
  have h2 := h2 os
  have h3 := h3 os
  show (enR r M w os).map _ = _
  cases e : enR r M w os with
  | none => rw [e] at h1; cases h1
  | some s =>
    rw [e] at h1 h2 h3
    have h1 := Option.some.inj h1
    have h2 := Option.some.inj h2
    have h3 := Option.some.inj h3
    have a1 := congrArg Prod.fst h1
    have a2 := congrArg Prod.snd h1
    dsimp only at a1 a2 h2 h3
    refine congrArg some ?_
    refine Prod.ext a1 (Prod.ext a2 ?_)
    exact Prod.ext h2 h3
theorem fun_of {K : PySem.W.Frag} {x q : Str} {st : Stmt} {f : Addr} {fd : FuncData} (h : FunD K x q (defArgs st) (defBody st) (defScope st) [] [] f fd) : Fun K x q st f fd := by
  obtain ⟨oc, od, dV, kV, doc, pm, an, cdv, ct, osl, e1, e2, e3, e4, e5⟩ := h.ex
  rcases e4 with ⟨_, rfl⟩ | ⟨n, _⟩
  · exact ⟨⟨oc, od, kV, doc, pm, an, cdv, ct, osl, e1, e2, e3⟩, h.kp⟩
  · exact absurd rfl n
theorem bl_at {bs : List Bool} {n : Nat} (h : bs = List.replicate n true) (i : Nat) {b : Bool} (hi : bs[i]? = some b := by rfl) : b = true := by
  have := List.mem_of_getElem? hi
  rw [h] at this
  exact List.eq_of_mem_replicate this
def obB (a b : Option Bool) : Bool := match a, b with
  | some x, some y => x == y
  | _, _ => false
theorem obB_ok {a b : Option Bool} (h : obB a b = true) : a = b := by
  unfold obB at h
  split at h
  · rw [eq_of_beq h]
  · cases h
end DL
namespace DL
open PySem PySem.Spec L2
theorem walk_anyB {l : PySem.W.OpenLaw} {q : Program} {loose : List Str} {XP : (Str → Option Value) → Heap → Prop} {YP : World → Heap → Prop} {d : DefRec} {k : Nat} {x : Str} (hn : l.most = some 63) (hdf : d.params.defaults = []) (hr : Room k callerA)
    (F : ∀ (w : World) (mg : Str → Option Value) (fa : Addr) (h : Heap), YP w h → h.Ns mainGlobals mg → mg d.name = some (.ref fa) →
      ∃ K : PySem.W.Frag, K.In h ∧ ∃ fd : FuncData, (∀ (s : Shared) (u : Value), BindsTo s fd ⟨[u], []⟩ [(x, u)]) ∧ ∀ base : Heap, K.In base → base.Ns mainGlobals mg → FnOk l.prog w K mg base (L2.CX l.prog w) k fa fd [x] (spScrB K)) :
    PySem.W.WalkO q loose XP YP l.row.toRowW d [] (fun f vs => PySem.call f vs) := by
  refine Att.attach_callB hn hdf fun w s₀ s₁ mg mb fa o pm cd doc a vs ns G Y ho hd hcd hmg hobj hints hlen hbits hg => ?_
  obtain ⟨K, KX, fd, hb, hF⟩ := F w mg fa _ Y G.T.g hmg
  exact law_call KX G.T.g G.T.b G.T.builtins G.T.nolimit hg hobj hints (Nat.le_trans hlen (by decide)) hr hF hb (fun H hO hS => ⟨a, ns, rfl, hS, hlen, hbits, fun _ => rfl⟩) fun _ _ _ c => cx_no c
end DL
namespace K
open PySem PySem.Spec L2 DL
def top (i : Nat) : Stmt := PySem.Challenge.pw_rankgarth_k30_betterings.main.body.getD i (.Pass ⟨0, 0, 0, 0⟩)
structure Txt (K : PySem.W.Frag) (mg : Str → Option Value) : Prop where
 g_max : mg "max" = none
 g_len : mg "len" = none
 g_zip : mg "zip" = none
 g_list : mg "list" = none
 g_range : mg "range" = none
 g_enumerate : mg "enumerate" = none
 g_isinstance : mg "isinstance" = none
 g_int : mg "int" = none
 g_bool : mg "bool" = none
 g_sorted : mg "sorted" = none
 g_tuple : mg "tuple" = none
 g_min : mg "min" = none
 x_NoRule : XOk K mg "NoRule"
abbrev s_need_by : Stmt := top 4
def N_need_by : List Str := ["purses", "place", "amount"]
theorem sc_need_by : FnScope N_need_by ["purses", "place", "amount"] (defScope s_need_by) := ⟨rfl, rfl, rfl, by decide +kernel, rfl, by decide +kernel, by decide +kernel⟩
def d_need_by : DS :=
 (seqS (ifS (testE (bin gIsN (bin gIx (varE 0) (varE 1)) (cE .non)))
 (retS (owV (cE .non)))
 nilS)
 (ghS [] (retS (owV (callB (g2I fun i j => if j > i then j else i) (consA (cE (.int 0)) (consA (bin gSub (bin gIx (varE 0) (varE 1)) (varE 2)) nilA)))))))
def m_need_by : DF := semOf 3 d_need_by
abbrev s_is_more : Stmt := top 5
def N_is_more : List Str := ["one", "other"]
theorem sc_is_more : FnScope N_is_more ["one", "other"] (defScope s_is_more) := ⟨rfl, rfl, rfl, by decide +kernel, rfl, by decide +kernel, by decide +kernel⟩
def d_is_more : DS :=
 (seqS (ifS (testE (bin gIsN (varE 1) (cE .non)))
 (retS (owV (cE (.bl false))))
 nilS)
 (ghS [] (retS (owV (orV (bin gIsN (varE 0) (cE .non)) (bin gGt (varE 0) (varE 1)))))))
def m_is_more : DF := semOf 2 d_is_more
abbrev s_steered : Stmt := top 7
def N_steered : List Str := ["game", "rule", "left", "ways", "hand", "way", "row", "one"]
theorem sc_steered : FnScope N_steered ["game", "rule"] (defScope s_steered) := ⟨rfl, rfl, rfl, by decide +kernel, rfl, by decide +kernel, by decide +kernel⟩
def d_steered : DS :=
 (seqS (ifS (testE (bin gNe (callB gLen (consA (varE 1) nilA)) (callB gLen (consA (varE 0) nilA))))
 (raiseS "NoRule")
 nilS)
 (ghS [] (seqS (setS 2 (lstE nilA))
 (ghS [] (seqS (forS (argsI gZip (consA (varE 0) (consA (varE 1) nilA))) (tupB 2 (consB (nameB 6) (consB (nameB 5) nilB)))
 (seqS (unpS (varE 6) (tupB 2 (consB (nameB 4) (consB (nameB 3) nilB))))
 (ghS [] (seqS (ifS (andT (testE (bin gEq (varE 4) (cE (.int 0)))) (testE (bin gNotN (varE 5) (cE .non))))
 (raiseS "NoRule")
 nilS)
 (ghS [] (seqS (ifS (testE (bin gEq (varE 4) (cE (.int 1))))
 (seqS (setS 3 (compE (listI (varE 3)) (nameB 7) (testE (bin gEq (bin gIx (varE 7) (cE (.int 0))) (varE 5))) (varE 7) [7]))
 (ghS [] nilS))
 nilS)
 (ghS [.frz 3] (seqS (ifS (testE (bin gEq (callB gLen (consA (varE 3) nilA)) (cE (.int 0))))
 (raiseS "NoRule")
 nilS)
 (ghS [] (seqS (methS "list" (varP 2) (consV (mvV 3) nilV) gAppend)
 (ghS [] nilS)))))))))) [3, 4, 5, 6])
 (ghS [] (retS (mvV 2))))))))
def m_steered : DF := semOf 8 d_steered
abbrev s_farther : Stmt := top 8
def N_farther : List Str := ["left", "best", "after", "amount", "place", "ways", "purse"]
theorem sc_farther : FnScope N_farther ["left", "best"] (defScope s_farther) := ⟨rfl, rfl, rfl, by decide +kernel, rfl, by decide +kernel, by decide +kernel⟩
def d_farther : DS :=
 (seqS (setS 2 (callB gList (consA (varE 1) nilA)))
 (ghS [] (seqS (forS (argsI gZip (consA (varE 1) (consA (varE 0) nilA))) (tupB 2 (consB (nameB 6) (consB (nameB 5) nilB)))
 (ifS (testE (bin gNotN (varE 6) (cE .non)))
 (seqS (forS (listI (varE 5)) (tupB 2 (consB (nameB 4) (consB (nameB 3) nilB)))
 (ifS (andT (testE (bin gGe (bin gAdd (varE 6) (varE 3)) (cE (.int 0)))) (orT (testE (bin gIsN (bin gIx (varE 2) (varE 4)) (cE .non))) (testE (bin gLt (bin gIx (varE 2) (varE 4)) (bin gAdd (varE 6) (varE 3))))))
 (seqS (storeS (owV (bin gAdd (varE 6) (varE 3))) (varP 2) (varE 4))
 (ghS [] nilS))
 nilS) [3, 4])
 (ghS [] nilS))
 nilS) [3, 4, 5, 6])
 (ghS [] (retS (mvV 2))))))
def m_farther : DF := semOf 7 d_farther
abbrev s_is_rest : Stmt := top 9
def N_is_rest : List Str := ["left", "start", "best", "after", "amount", "place", "ways", "purse", "turn"]
theorem sc_is_rest : FnScope N_is_rest ["left", "start"] (defScope s_is_rest) := ⟨rfl, rfl, rfl, by decide +kernel, rfl, by decide +kernel, by decide +kernel⟩
def d_is_rest : DS :=
 (seqS (setS 2 (bin gMul (lstE (consA (cE .non) nilA)) (callB gLen (consA (varE 0) nilA))))
 (ghS [] (seqS (storeS (owV (cE (.int 0))) (varP 2) (varE 1))
 (ghS [.frz 2] (seqS (forS (argsI gRange1 (consA (callB gLen (consA (varE 0) nilA)) nilA)) (nameB 8)
 (seqS (forS (argsI gZip (consA (varE 2) (consA (varE 0) nilA))) (tupB 2 (consB (nameB 7) (consB (nameB 6) nilB)))
 (seqS (forS (listI (varE 6)) (tupB 2 (consB (nameB 5) (consB (nameB 4) nilB)))
 (ifS (andT (testE (bin gEq (varE 5) (varE 1))) (andT (testE (bin gNotN (varE 7) (cE .non))) (testE (bin gGe (bin gAdd (varE 7) (varE 4)) (cE (.int 0))))))
 (retS (owV (cE (.bl true))))
 nilS) [4, 5])
 (ghS [] nilS)) [4, 5, 6, 7])
 (ghS [] (seqS (setS 3 (callF m_farther 2 (consA (varE 0) (consA (varE 2) nilA))))
 (ghS [] (seqS (ifS (testE (bin gEq (varE 3) (varE 2)))
 (retS (owV (cE (.bl false))))
 nilS)
 (ghS [.frz 3] (seqS (setS 2 (varE 3))
 (ghS [] nilS)))))))) [3, 4, 5, 6, 7, 8])
 (ghS [] (retS (owV (cE (.bl false))))))))))
def m_is_rest : DF := semOf 9 d_is_rest
abbrev s_nearer : Stmt := top 10
def N_nearer : List Str := ["left", "table", "after", "need", "amount", "place", "ways", "start"]
theorem sc_nearer : FnScope N_nearer ["left", "table"] (defScope s_nearer) := ⟨rfl, rfl, rfl, by decide +kernel, rfl, by decide +kernel, by decide +kernel⟩
def d_nearer : DS :=
 (seqS (setS 2 (callB gList (consA (varE 1) nilA)))
 (ghS [] (seqS (forS (argsI gEnum (consA (varE 0) nilA)) (tupB 2 (consB (nameB 7) (consB (nameB 6) nilB)))
 (seqS (forS (listI (varE 6)) (tupB 2 (consB (nameB 5) (consB (nameB 4) nilB)))
 (seqS (setS 3 (callF m_need_by 3 (consA (varE 1) (consA (varE 5) (consA (varE 4) nilA)))))
 (ghS [] (ifS (testE (callF m_is_more 2 (consA (bin gIx (varE 2) (varE 7)) (consA (varE 3) nilA))))
 (seqS (storeS (mvV 3) (varP 2) (varE 7))
 (ghS [] nilS))
 nilS))) [3, 4, 5])
 (ghS [] nilS)) [3, 4, 5, 6, 7])
 (ghS [] (retS (mvV 2))))))
def m_nearer : DF := semOf 8 d_nearer
abbrev s_needs : Stmt := top 11
def N_needs : List Str := ["game", "rule", "left", "table", "place", "turn"]
theorem sc_needs : FnScope N_needs ["game", "rule"] (defScope s_needs) := ⟨rfl, rfl, rfl, by decide +kernel, rfl, by decide +kernel, by decide +kernel⟩
def d_needs : DS :=
 (seqS (setS 2 (callF m_steered 2 (consA (varE 0) (consA (varE 1) nilA))))
 (ghS [] (seqS (setS 3 (bin gMul (lstE (consA (cE .non) nilA)) (callB gLen (consA (varE 2) nilA))))
 (ghS [] (seqS (forS (argsI gRange1 (consA (callB gLen (consA (varE 2) nilA)) nilA)) (nameB 4)
 (ifS (testE (callF m_is_rest 2 (consA (varE 2) (consA (varE 4) nilA))))
 (seqS (storeS (owV (cE (.int 0))) (varP 3) (varE 4))
 (ghS [] nilS))
 nilS) [4])
 (ghS [] (seqS (forS (argsI gRange1 (consA (callB gLen (consA (varE 2) nilA)) nilA)) (nameB 5)
 (seqS (setS 3 (callF m_nearer 2 (consA (varE 2) (consA (varE 3) nilA))))
 (ghS [] nilS)) [5])
 (ghS [] (retS (mvV 3))))))))))
def m_needs : DF := semOf 6 d_needs
abbrev s_first_rule : Stmt := top 12
def N_first_rule : List Str := ["game", "rule", "ways", "hand"]
theorem sc_first_rule : FnScope N_first_rule ["game"] (defScope s_first_rule) := ⟨rfl, rfl, rfl, by decide +kernel, rfl, by decide +kernel, by decide +kernel⟩
def d_first_rule : DS :=
 (seqS (setS 1 (lstE nilA))
 (ghS [] (seqS (forS (listI (varE 0)) (tupB 2 (consB (nameB 3) (consB (nameB 2) nilB)))
 (ifS (testE (bin gEq (varE 3) (cE (.int 1))))
 (seqS (methS "list" (varP 1) (consV (owV (bin gIx (bin gIx (varE 2) (cE (.int 0))) (cE (.int 0)))) nilV) gAppend)
 (ghS [] nilS))
 (seqS (methS "list" (varP 1) (consV (owV (cE .non)) nilV) gAppend)
 (ghS [] nilS))) [2, 3])
 (ghS [] (retS (mvV 1))))))
def m_first_rule : DF := semOf 4 d_first_rule
abbrev s_bettered : Stmt := top 13
def N_bettered : List Str := ["game", "rule", "table", "after", "most", "need", "amount", "place", "ways", "hand", "row", "start"]
theorem sc_bettered : FnScope N_bettered ["game", "rule", "table"] (defScope s_bettered) := ⟨rfl, rfl, rfl, by decide +kernel, rfl, by decide +kernel, by decide +kernel⟩
def d_bettered : DS :=
 (seqS (setS 3 (callB gList (consA (varE 1) nilA)))
 (ghS [] (seqS (forS (argsI gEnum (consA (varE 0) nilA)) (tupB 2 (consB (nameB 11) (consB (nameB 10) nilB)))
 (seqS (unpS (varE 10) (tupB 2 (consB (nameB 9) (consB (nameB 8) nilB))))
 (ghS [] (ifS (testE (bin gEq (varE 9) (cE (.int 1))))
 (seqS (setS 4 (bin gIx (varE 2) (varE 11)))
 (ghS [] (seqS (forS (listI (varE 8)) (tupB 2 (consB (nameB 7) (consB (nameB 6) nilB)))
 (seqS (setS 5 (callF m_need_by 3 (consA (varE 2) (consA (varE 7) (consA (varE 6) nilA)))))
 (ghS [] (ifS (testE (callF m_is_more 2 (consA (varE 5) (consA (varE 4) nilA))))
 (seqS (setS 4 (varE 5))
 (ghS [] (seqS (storeS (mvV 7) (varP 3) (varE 11))
 (ghS [] nilS))))
 nilS))) [5, 6, 7])
 (ghS [] nilS))))
 nilS))) [4, 5, 6, 7, 8, 9, 10, 11])
 (ghS [] (retS (mvV 3))))))
def m_bettered : DF := semOf 12 d_bettered
abbrev s_betterings : Stmt := top 14
def N_betterings : List Str := ["game", "rule", "rows", "after"]
theorem sc_betterings : FnScope N_betterings ["game"] (defScope s_betterings) := ⟨rfl, rfl, rfl, by decide +kernel, rfl, by decide +kernel, by decide +kernel⟩
noncomputable def d_betterings : DS :=
 (seqS (setS 1 (callF m_first_rule 1 (consA (varE 0) nilA)))
 (ghS [] (alL 1 2 (seqS (setS 2 (lstE (consA (tupE (consA (atE 1) (consA (callF m_needs 2 (consA (varE 0) (consA (varN 1) nilA))) nilA))) nilA))) (setS 3 (callF m_bettered 3 (consA (varE 0) (consA (varN 1) (consA (bin gIx (bin gIx (varE 2) (cE (.int 0))) (cE (.int 1))) nilA))))))
 (seqS (whAl 1 2 (testE (bin gNe (varE 3) (varN 1)))
 (seqS (mvS 1 3) (alL 1 2 (seqS (methS "list" (varP 2) (consV (owV (tupE (consA (atE 1) (consA (callF m_needs 2 (consA (varE 0) (consA (varN 1) nilA))) nilA)))) nilV) gAppend) (setS 3 (callF m_bettered 3 (consA (varE 0) (consA (varN 1) (consA (bin gIx (bin gIx (varE 2) (un gNeg (cE (.int 1)))) (cE (.int 1))) nilA)))))) nilS)) fuel)
 (ghS [] (retS (mvV 2)))))))
noncomputable def m_betterings : DF := semOf 4 d_betterings
abbrev s__law_at : Stmt := top 16
def N__law_at : List Str := ["_law_script", "_law_k", "_law_mixed"]
theorem sc__law_at : FnScope N__law_at ["_law_script", "_law_k"] (defScope s__law_at) := ⟨rfl, rfl, rfl, by decide +kernel, rfl, by decide +kernel, by decide +kernel⟩
def d__law_at : DS :=
 (seqS (ifS (testE (bin gLt (varE 1) (callB gLen (consA (varE 0) nilA))))
 (retS (owV (bin gIx (varE 0) (varE 1))))
 nilS)
 (ghS [] (seqS (setS 2 (bin gAdd (bin gMul (cE (.int 7)) (varE 1)) (cE (.int 3))))
 (ghS [] (seqS (ifS (testE (bin gGt (callB gLen (consA (varE 0) nilA)) (cE (.int 0))))
 (seqS (setS 2 (bin gAdd (varE 2) (bin gMul (bin gMod (bin gIx (varE 0) (bin gMod (varE 1) (callB gLen (consA (varE 0) nilA)))) (cE (.int 1000003))) (bin gAdd (varE 1) (cE (.int 1))))))
 (ghS [] nilS))
 nilS)
 (ghS [] (retS (owV (bin gAdd (bin gMod (bin gMul (varE 2) (varE 2)) (cE (.int 999979))) (bin gMod (varE 2) (cE (.int 101))))))))))))
def m__law_at : DF := semOf 3 d__law_at
abbrev s__law_whole : Stmt := top 17
def N__law_whole : List Str := ["_law_found"]
theorem sc__law_whole : FnScope N__law_whole ["_law_found"] (defScope s__law_whole) := ⟨rfl, rfl, rfl, by decide +kernel, rfl, by decide +kernel, by decide +kernel⟩
def d__law_whole : DS :=
 (retS (owV (andV (isiE "int" (varE 0)) (notV (isiE "bool" (varE 0))))))
def m__law_whole : DF := semOf 1 d__law_whole
abbrev s__law_amount : Stmt := top 18
def N__law_amount : List Str := ["_law_style", "_law_heights", "_law_start", "_law_goal", "_law_cell"]
theorem sc__law_amount : FnScope N__law_amount ["_law_style", "_law_heights", "_law_start", "_law_goal", "_law_cell"] (defScope s__law_amount) := ⟨rfl, rfl, rfl, by decide +kernel, rfl, by decide +kernel, by decide +kernel⟩
def d__law_amount : DS :=
 (seqS (ifS (testE (bin gEq (varE 0) (cE (.int 0))))
 (retS (owV (bin gSub (bin gMod (varE 4) (cE (.int 7))) (cE (.int 3)))))
 nilS)
 (ghS [] (seqS (ifS (testE (bin gEq (varE 0) (cE (.int 1))))
 (retS (owV (bin gSub (bin gAdd (bin gSub (bin gIx (varE 1) (varE 2)) (bin gIx (varE 1) (varE 3))) (bin gMod (varE 4) (cE (.int 3)))) (cE (.int 1)))))
 nilS)
 (ghS [] (seqS (ifS (testE (bin gEq (varE 0) (cE (.int 2))))
 (retS (owV (bin gSub (bin gAdd (bin gMul (bin gSub (bin gIx (varE 1) (varE 2)) (bin gIx (varE 1) (varE 3))) (bin gPow (cE (.int 10)) (cE (.int 57)))) (bin gMod (varE 4) (cE (.int 3)))) (cE (.int 1)))))
 nilS)
 (ghS [] (seqS (ifS (testE (bin gEq (varE 0) (cE (.int 3))))
 (retS (owV (bin gSub (bin gAdd (bin gSub (bin gFdiv (callB gLen (consA (varE 1) nilA)) (cE (.int 2))) (varE 3)) (bin gMod (varE 4) (cE (.int 3)))) (cE (.int 1)))))
 nilS)
 (ghS [] (retS (owV (bin gSub (bin gMod (bin gMul (varE 4) (bin gPow (cE (.int 31)) (cE (.int 41)))) (bin gSub (bin gMul (cE (.int 2)) (bin gPow (cE (.int 10)) (cE (.int 60)))) (cE (.int 1)))) (bin gSub (bin gPow (cE (.int 10)) (cE (.int 60))) (cE (.int 1))))))))))))))
def m__law_amount : DF := semOf 5 d__law_amount
abbrev s__law_game : Stmt := top 19
def N__law_game : List Str := ["_law_script", "_law_head", "_law_many", "_law_most", "_law_style", "_law_heights", "_law_game_here", "_law_by", "_law_j", "_law_ways", "_law_cell", "_law_k"]
theorem sc__law_game : FnScope N__law_game ["_law_script"] (defScope s__law_game) := ⟨rfl, rfl, rfl, by decide +kernel, rfl, by decide +kernel, by decide +kernel⟩
def d__law_game : DS :=
 (seqS (setS 1 (callF m__law_at 2 (consA (varE 0) (consA (cE (.int 0)) nilA))))
 (ghS [] (seqS (setS 2 (bin gAdd (cE (.int 1)) (bin gMod (varE 1) (cE (.int 6)))))
 (ghS [] (seqS (setS 3 (cE (.int 3)))
 (ghS [] (seqS (ifS (testE (bin gEq (bin gMod (bin gFdiv (varE 1) (cE (.int 6))) (cE (.int 6))) (cE (.int 1))))
 (seqS (setS 2 (bin gAdd (cE (.int 1)) (bin gMod (bin gFdiv (varE 1) (cE (.int 36))) (cE (.int 16)))))
 (ghS [] (seqS (setS 3 (cE (.int 2)))
 (ghS [] nilS))))
 nilS)
 (ghS [] (seqS (ifS (testE (bin gEq (bin gMod (bin gFdiv (varE 1) (cE (.int 6))) (cE (.int 6))) (cE (.int 3))))
 (seqS (setS 2 (bin gAdd (cE (.int 7)) (bin gMod (bin gFdiv (varE 1) (cE (.int 36))) (cE (.int 4)))))
 (ghS [] nilS))
 nilS)
 (ghS [] (seqS (setS 4 (bin gMod (callF m__law_at 2 (consA (varE 0) (consA (cE (.int 1)) nilA))) (cE (.int 5))))
 (ghS [] (seqS (setS 5 (compE (argsI gRange1 (consA (varE 2) nilA)) (nameB 11) yesT (bin gMod (bin gFdiv (callF m__law_at 2 (consA (varE 0) (consA (bin gAdd (cE (.int 2)) (bin gMul (cE (.int 4)) (varE 11))) nilA))) (cE (.int 6))) (cE (.int 30))) [11]))
 (ghS [] (seqS (setS 6 (lstE nilA))
 (ghS [] (seqS (forS (argsI gRange1 (consA (varE 2) nilA)) (nameB 11)
 (seqS (setS 10 (callF m__law_at 2 (consA (varE 0) (consA (bin gAdd (cE (.int 2)) (bin gMul (cE (.int 4)) (varE 11))) nilA))))
 (ghS [] (seqS (setS 9 (newE (.dK [] [])))
 (ghS [] (seqS (forS (argsI gRange1 (consA (bin gAdd (cE (.int 1)) (bin gMod (bin gFdiv (varE 10) (cE (.int 2))) (varE 3))) nilA)) (nameB 8)
 (seqS (setS 7 (callF m__law_at 2 (consA (varE 0) (consA (bin gAdd (bin gAdd (cE (.int 3)) (bin gMul (cE (.int 4)) (varE 11))) (varE 8)) nilA))))
 (ghS [] (seqS (methS "dict" (varP 9) (consV (owV (bin gMod (varE 7) (varE 2))) (consV (owV (callF m__law_amount 5 (consA (varE 4) (consA (varE 5) (consA (varE 11) (consA (bin gMod (varE 7) (varE 2)) (consA (bin gFdiv (varE 7) (varE 2)) nilA))))))) nilV)) gSetd)
 (ghS [] nilS)))) [7, 8])
 (ghS [] (seqS (methS "list" (varP 6) (consV (owV (tupE (consA (bin gMod (varE 10) (cE (.int 2))) (consA (un gSortIt (varE 9)) nilA)))) nilV) gAppend)
 (ghS [] nilS)))))))) [7, 8, 9, 10, 11])
 (ghS [] (retS (mvV 6))))))))))))))))))))
def m__law_game : DF := semOf 12 d__law_game
abbrev s__law_copied : Stmt := top 20
def N__law_copied : List Str := ["_law_game_here", "_law_hand", "_law_ways"]
theorem sc__law_copied : FnScope N__law_copied ["_law_game_here"] (defScope s__law_copied) := ⟨rfl, rfl, rfl, by decide +kernel, rfl, by decide +kernel, by decide +kernel⟩
def d__law_copied : DS :=
 (retS (owV (compE (listI (varE 0)) (tupB 2 (consB (nameB 1) (consB (nameB 2) nilB))) yesT (tupE (consA (varE 1) (consA (callB gList (consA (varE 2) nilA)) nilA))) [1, 2])))
def m__law_copied : DF := semOf 3 d__law_copied
abbrev s__law_more : Stmt := top 21
def N__law_more : List Str := ["_law_one", "_law_other"]
theorem sc__law_more : FnScope N__law_more ["_law_one", "_law_other"] (defScope s__law_more) := ⟨rfl, rfl, rfl, by decide +kernel, rfl, by decide +kernel, by decide +kernel⟩
def d__law_more : DS :=
 (seqS (ifS (testE (bin gIsN (varE 1) (cE .non)))
 (retS (owV (cE (.bl false))))
 nilS)
 (ghS [] (seqS (ifS (testE (bin gIsN (varE 0) (cE .non)))
 (retS (owV (cE (.bl true))))
 nilS)
 (ghS [] (retS (owV (bin gGt (varE 0) (varE 1))))))))
def m__law_more : DF := semOf 2 d__law_more
abbrev s__law_need : Stmt := top 22
def N__law_need : List Str := ["_law_table", "_law_way"]
theorem sc__law_need : FnScope N__law_need ["_law_table", "_law_way"] (defScope s__law_need) := ⟨rfl, rfl, rfl, by decide +kernel, rfl, by decide +kernel, by decide +kernel⟩
def d__law_need : DS :=
 (seqS (ifS (testE (bin gIsN (bin gIx (varE 0) (bin gIx (varE 1) (cE (.int 0)))) (cE .non)))
 (retS (owV (cE .non)))
 nilS)
 (ghS [] (retS (owV (callB (g2I fun i j => if j > i then j else i) (consA (cE (.int 0)) (consA (bin gSub (bin gIx (varE 0) (bin gIx (varE 1) (cE (.int 0)))) (bin gIx (varE 1) (cE (.int 1)))) nilA)))))))
def m__law_need : DF := semOf 2 d__law_need
abbrev s__law_next : Stmt := top 23
def N__law_next : List Str := ["_law_game_here", "_law_rule", "_law_table", "_law_after", "_law_best", "_law_most", "_law_way", "_law_row", "_law_k"]
theorem sc__law_next : FnScope N__law_next ["_law_game_here", "_law_rule", "_law_table"] (defScope s__law_next) := ⟨rfl, rfl, rfl, by decide +kernel, rfl, by decide +kernel, by decide +kernel⟩
def d__law_next : DS :=
 (seqS (setS 3 (lstE nilA))
 (ghS [] (seqS (forS (argsI gEnum (consA (varE 0) nilA)) (tupB 2 (consB (nameB 8) (consB (nameB 7) nilB)))
 (seqS (setS 4 (bin gIx (varE 1) (varE 8)))
 (ghS [] (seqS (setS 5 (bin gIx (varE 2) (varE 8)))
 (ghS [] (seqS (ifS (testE (bin gEq (bin gIx (varE 7) (cE (.int 0))) (cE (.int 1))))
 (seqS (forS (listI (bin gIx (varE 7) (cE (.int 1)))) (nameB 6)
 (ifS (testE (callF m__law_more 2 (consA (callF m__law_need 2 (consA (varE 2) (consA (varE 6) nilA))) (consA (varE 5) nilA))))
 (seqS (setS 5 (callF m__law_need 2 (consA (varE 2) (consA (varE 6) nilA))))
 (ghS [] (seqS (setS 4 (bin gIx (varE 6) (cE (.int 0))))
 (ghS [] nilS))))
 nilS) [6])
 (ghS [] nilS))
 nilS)
 (ghS [.fgt 5] (seqS (methS "list" (varP 3) (consV (mvV 4) nilV) gAppend)
 (ghS [] nilS)))))))) [4, 5, 6, 7, 8])
 (ghS [] (retS (mvV 3))))))
def m__law_next : DF := semOf 9 d__law_next
abbrev s__law_is_rule : Stmt := top 24
def N__law_is_rule : List Str := ["_law_rule", "_law_game_here", "_law_row", "_law_place", "_law_way"]
theorem sc__law_is_rule : FnScope N__law_is_rule ["_law_rule", "_law_game_here"] (defScope s__law_is_rule) := ⟨rfl, rfl, rfl, by decide +kernel, rfl, by decide +kernel, by decide +kernel⟩
def d__law_is_rule : DS :=
 (seqS (ifS (orT (notT (testE (isiE "list" (varE 0)))) (testE (bin gNe (callB gLen (consA (varE 0) nilA)) (callB gLen (consA (varE 1) nilA)))))
 (retS (owV (cE (.bl false))))
 nilS)
 (ghS [] (seqS (forS (argsI gZip (consA (varE 0) (consA (varE 1) nilA))) (tupB 2 (consB (nameB 3) (consB (nameB 2) nilB)))
 (seqS (ifS (andT (testE (bin gEq (bin gIx (varE 2) (cE (.int 0))) (cE (.int 0)))) (testE (bin gNotN (varE 3) (cE .non))))
 (retS (owV (cE (.bl false))))
 nilS)
 (ghS [] (ifS (andT (testE (bin gEq (bin gIx (varE 2) (cE (.int 0))) (cE (.int 1)))) (orT (notT (testE (callF m__law_whole 1 (consA (varE 3) nilA)))) (testE (bin (gIn true) (varE 3) (compE (listI (bin gIx (varE 2) (cE (.int 1)))) (nameB 4) yesT (bin gIx (varE 4) (cE (.int 0))) [4])))))
 (retS (owV (cE (.bl false))))
 nilS))) [2, 3])
 (ghS [] (retS (owV (cE (.bl true))))))))
def m__law_is_rule : DF := semOf 5 d__law_is_rule
abbrev s__law_is_table : Stmt := top 25
def N__law_is_table : List Str := ["_law_table", "_law_game_here", "_law_one"]
theorem sc__law_is_table : FnScope N__law_is_table ["_law_table", "_law_game_here"] (defScope s__law_is_table) := ⟨rfl, rfl, rfl, by decide +kernel, rfl, by decide +kernel, by decide +kernel⟩
def d__law_is_table : DS :=
 (seqS (ifS (orT (notT (testE (isiE "list" (varE 0)))) (testE (bin gNe (callB gLen (consA (varE 0) nilA)) (callB gLen (consA (varE 1) nilA)))))
 (retS (owV (cE (.bl false))))
 nilS)
 (ghS [] (seqS (forS (listI (varE 0)) (nameB 2)
 (ifS (andT (testE (bin gNotN (varE 2) (cE .non))) (orT (notT (testE (callF m__law_whole 1 (consA (varE 2) nilA)))) (testE (bin gLt (varE 2) (cE (.int 0))))))
 (retS (owV (cE (.bl false))))
 nilS) [2])
 (ghS [] (retS (owV (cE (.bl true))))))))
def m__law_is_table : DF := semOf 3 d__law_is_table
abbrev s__law_is_pair : Stmt := top 26
def N__law_is_pair : List Str := ["_law_pair", "_law_game_here"]
theorem sc__law_is_pair : FnScope N__law_is_pair ["_law_pair", "_law_game_here"] (defScope s__law_is_pair) := ⟨rfl, rfl, rfl, by decide +kernel, rfl, by decide +kernel, by decide +kernel⟩
def d__law_is_pair : DS :=
 (seqS (ifS (orT (notT (testE (isiE "tuple" (varE 0)))) (testE (bin gNe (callB gLen (consA (varE 0) nilA)) (cE (.int 2)))))
 (retS (owV (cE (.bl false))))
 nilS)
 (ghS [] (retS (owV (andV (callF m__law_is_rule 2 (consA (bin gIx (varE 0) (cE (.int 0))) (consA (varE 1) nilA))) (callF m__law_is_table 2 (consA (bin gIx (varE 0) (cE (.int 1))) (consA (varE 1) nilA))))))))
def m__law_is_pair : DF := semOf 2 d__law_is_pair
abbrev s__law_first : Stmt := top 27
def N__law_first : List Str := ["_law_game_here", "_law_first_here", "_law_ways", "_law_hand", "_law_way"]
theorem sc__law_first : FnScope N__law_first ["_law_game_here"] (defScope s__law_first) := ⟨rfl, rfl, rfl, by decide +kernel, rfl, by decide +kernel, by decide +kernel⟩
def d__law_first : DS :=
 (seqS (setS 1 (lstE nilA))
 (ghS [] (seqS (forS (listI (varE 0)) (tupB 2 (consB (nameB 3) (consB (nameB 2) nilB)))
 (ifS (testE (bin gEq (varE 3) (cE (.int 1))))
 (seqS (methS "list" (varP 1) (consV (owV (callB (gL1 minI) (consA (compE (listI (varE 2)) (nameB 4) yesT (bin gIx (varE 4) (cE (.int 0))) [4]) nilA))) nilV) gAppend)
 (ghS [] nilS))
 (seqS (methS "list" (varP 1) (consV (owV (cE .non)) nilV) gAppend)
 (ghS [] nilS))) [2, 3])
 (ghS [] (retS (mvV 1))))))
def m__law_first : DF := semOf 5 d__law_first
abbrev s__law_rows_hold : Stmt := top 28
def N__law_rows_hold : List Str := ["_law_game_here", "_law_pairs", "_law_due", "_law_ahead", "_law_other", "_law_one", "_law_pair"]
theorem sc__law_rows_hold : FnScope N__law_rows_hold ["_law_game_here", "_law_pairs"] (defScope s__law_rows_hold) := ⟨rfl, rfl, rfl, by decide +kernel, rfl, by decide +kernel, by decide +kernel⟩
def d__law_rows_hold : DS :=
 (seqS (setS 2 (callF m__law_first 1 (consA (varE 0) nilA)))
 (ghS [] (seqS (setS 3 (bin gMul (lstE (consA (cE (.int 0)) nilA)) (callB gLen (consA (varE 0) nilA))))
 (ghS [.frz 3] (seqS (forS (listI (varE 1)) (nameB 6)
 (seqS (ifS (orT (notT (testE (callF m__law_is_pair 2 (consA (varE 6) (consA (varE 0) nilA))))) (orT (testE (bin gNe (bin gIx (varE 6) (cE (.int 0))) (varE 2))) (testE (bin gNe (bin gIx (varE 6) (cE (.int 1))) (callF m_needs 2 (consA (varE 0) (consA (callB gList (consA (varE 2) nilA)) nilA)))))))
 (retS (owV (cE (.bl false))))
 nilS)
 (ghS [] (seqS (forS (argsI gZip (consA (varE 3) (consA (bin gIx (varE 6) (cE (.int 1))) nilA))) (tupB 2 (consB (nameB 5) (consB (nameB 4) nilB)))
 (ifS (testE (callF m__law_more 2 (consA (varE 5) (consA (varE 4) nilA))))
 (retS (owV (cE (.bl false))))
 nilS) [4, 5])
 (ghS [] (seqS (setS 3 (bin gIx (varE 6) (cE (.int 1))))
 (ghS [] (seqS (setS 2 (callF m__law_next 3 (consA (varE 0) (consA (bin gIx (varE 6) (cE (.int 0))) (consA (bin gIx (varE 6) (cE (.int 1))) nilA)))))
 (ghS [] nilS)))))))) [4, 5, 6])
 (ghS [] (retS (owV (bin gEq (varE 2) (bin gIx (bin gIx (varE 1) (un gNeg (cE (.int 1)))) (cE (.int 0))))))))))))
def m__law_rows_hold : DF := semOf 7 d__law_rows_hold
abbrev s_law : Stmt := top 29
def N_law : List Str := ["_law_script", "_law_game_here", "_law_handed", "_law_found", "_law_again", "_law_table", "_law_rule"]
theorem sc_law : FnScope N_law ["_law_script"] (defScope s_law) := ⟨rfl, rfl, rfl, by decide +kernel, rfl, by decide +kernel, by decide +kernel⟩
noncomputable def d_law : DS :=
 (seqS (setS 1 (callF m__law_game 1 (consA (varE 0) nilA)))
 (ghS [] (seqS (setS 2 (callV m__law_copied 1 (consA (varE 1) nilA)))
 (ghS [] (seqS (setS 3 (callF m_betterings 1 (consA (varE 2) nilA)))
 (ghS [] (seqS (ifS (orT (notT (testE (isiE "list" (varE 3)))) (orT (testE (bin gEq (callB gLen (consA (varE 3) nilA)) (cE (.int 0)))) (notT (testE (callF m__law_rows_hold 2 (consA (varE 1) (consA (varE 3) nilA)))))))
 (retS (owV (cE (.bl false))))
 nilS)
 (ghS [] (seqS (setS 4 (viewE (compE (listI (varE 3)) (tupB 2 (consB (nameB 6) (consB (nameB 5) nilB))) yesT (tupE (consA (callB gList (consA (varE 6) nilA)) (consA (callB gList (consA (varE 5) nilA)) nilA))) [6, 5])))
 (ghS [] (seqS (forT 3 6 5
 (seqS (methS "list" (varP 6) (consV (owV (cE (.int 0))) nilV) gAppend)
 (ghS [] (seqS (meth0S "list" (varP 5) gClear)
 (ghS [] nilS)))))
 (ghS [] (seqS (meth0S "list" (varP 3) gClear)
 (ghS [] (retS (owV (andV (bin gEq (callF m_betterings 1 (consA (varE 2) nilA)) (varE 4)) (andV (bin gEq (varE 2) (varE 1)) (bin gEq (callF m_betterings 1 (consA (lstE nilA) nilA)) (lstE (consA (tupE (consA (lstE nilA) (consA (lstE nilA) nilA))) nilA)))))))))))))))))))))
noncomputable def m_law : DF := semOf 7 d_law
section
variable {P : Program} {w : World} {K : PySem.W.Frag} {mg : Str → Option Value} {base : Heap}
abbrev X_need_by (P : Program) (w : World) (K : PySem.W.Frag) (mg : Str → Option Value) (base : Heap) (f : Addr) (cdv : Value) (A : Around) (outer : List Env) (s : Shared) (H : Hp) (E : XK) : Cx := cxOf (L2.CX P w) P w K mg base N_need_by "need_by" (defScope s_need_by) f cdv A outer s H E
theorem b_need_by (T : Txt K mg)  {f : Addr} {cdv : Value} {A : Around} {outer : List Env} {s : Shared} {H : Hp} {E : XK} (C : Cb (X_need_by P w K mg base f cdv A outer s H E) (WEx E) 0) : GSs (X_need_by P w K mg base f cdv A outer s H E) (WEx E) (defBody s_need_by) d_need_by :=
 (gss_cons (gs_if (gt_cmp op_isN ok_isN (ge_ix C.cc.hu (ge_var 0) (ge_var 1)) ge_non rfl)
 (gss_one (gs_ret (gv_ge ge_non)))
 gss_nil)
 (gss_gh [] (gss_one (gs_ret (gv_ge (ge_callB (call_max2 C.cc.calm) vc_2I T.g_max (ga_cons ge_int (ga_cons (ge_sub (ge_ix C.cc.hu (ge_var 0) (ge_var 1)) (ge_var 2)) ga_nil))))))))
theorem ok_need_by (T : Txt K mg)  {f : Addr} {fd : FuncData} (F : Fun K "need_by" "need_by" s_need_by f fd) (hm : mg "need_by" = some (.ref f)) (hb : Binds K fd ["purses", "place", "amount"] []) : DOk P w K mg base 1 "need_by" m_need_by 3 :=
 dok_of F sc_need_by hm hb fun cdv A outer s H E C => b_need_by T  C
abbrev X_is_more (P : Program) (w : World) (K : PySem.W.Frag) (mg : Str → Option Value) (base : Heap) (f : Addr) (cdv : Value) (A : Around) (outer : List Env) (s : Shared) (H : Hp) (E : XK) : Cx := cxOf (L2.CX P w) P w K mg base N_is_more "is_more" (defScope s_is_more) f cdv A outer s H E
theorem b_is_more (T : Txt K mg)  {f : Addr} {cdv : Value} {A : Around} {outer : List Env} {s : Shared} {H : Hp} {E : XK} (C : Cb (X_is_more P w K mg base f cdv A outer s H E) (WEx E) 0) : GSs (X_is_more P w K mg base f cdv A outer s H E) (WEx E) (defBody s_is_more) d_is_more :=
 (gss_cons (gs_if (gt_cmp op_isN ok_isN (ge_var 1) ge_non rfl)
 (gss_one (gs_ret (gv_ge ge_bl)))
 gss_nil)
 (gss_gh [] (gss_one (gs_ret (gv_ge (ge_or (ge_cmp op_isN ok_isN (ge_var 0) ge_non rfl) (ge_one (ge_cmp op_gt ok_cmpI (ge_var 0) (ge_var 1) rfl))))))))
theorem ok_is_more (T : Txt K mg)  {f : Addr} {fd : FuncData} (F : Fun K "is_more" "is_more" s_is_more f fd) (hm : mg "is_more" = some (.ref f)) (hb : Binds K fd ["one", "other"] []) : DOk P w K mg base 1 "is_more" m_is_more 2 :=
 dok_of F sc_is_more hm hb fun cdv A outer s H E C => b_is_more T  C
abbrev X_steered (P : Program) (w : World) (K : PySem.W.Frag) (mg : Str → Option Value) (base : Heap) (f : Addr) (cdv : Value) (A : Around) (outer : List Env) (s : Shared) (H : Hp) (E : XK) : Cx := cxOf (L2.CX P w) P w K mg base N_steered "steered" (defScope s_steered) f cdv A outer s H E
theorem b_steered (T : Txt K mg)  {f : Addr} {cdv : Value} {A : Around} {outer : List Env} {s : Shared} {H : Hp} {E : XK} (C : Cb (X_steered P w K mg base f cdv A outer s H E) (WEx E) 0) : GSs (X_steered P w K mg base f cdv A outer s H E) (WEx E) (defBody s_steered) d_steered :=
 (gss_cons (gs_if (gt_cmp (op_neD C.cc.hu) ok_ne (ge_callB call_lenX vc_len T.g_len (ga_cons (ge_var 1) ga_nil)) (ge_callB call_lenX vc_len T.g_len (ga_cons (ge_var 0) ga_nil)) rfl)
 (gss_one (gs_raise C T.x_NoRule))
 gss_nil)
 (gss_gh [] (gss_cons (gs_set C.cc (ge_lst ga_nil))
 (gss_gh [] (gss_cons (gs_for [3, 4, 5, 6] C.own C.cc (gi_zip T.g_zip (ga_cons (ge_var 0) (ga_cons (ge_var 1) ga_nil))) (gg_tup C.cc.calm (ggs_cons (gg_name C.cc.nd) (ggs_cons (gg_name C.cc.nd) ggs_nil)))
 (gss_cons (gs_unp (ge_var 6) (gg_tup C.cc.calm (ggs_cons (gg_name C.cc.nd) (ggs_cons (gg_name C.cc.nd) ggs_nil))))
 (gss_gh [] (gss_cons (gs_if (GW.pt (gw_and (gt_cmp (op_eqD C.cc.hu) ok_eq (ge_var 4) ge_int rfl) (gw_and1 (gt_cmp op_notN ok_notN (ge_var 5) ge_non rfl))))
 (gss_one (gs_raise C T.x_NoRule))
 gss_nil)
 (gss_gh [] (gss_cons (gs_if (gt_cmp (op_eqD C.cc.hu) ok_eq (ge_var 4) ge_int rfl)
 (gss_cons (gs_setLc C.cc (gi_list (ge_var 3)) (own := [("one", 7)]) (blk_of (N := N_steered) (sc := defScope s_steered) rfl rfl (by decide +kernel)) (by rintro _ ⟨_, _, _, _, _, rfl⟩ C'; exact ⟨(gc_name C'.nd), (gts_one (gt_cmp (op_eqD C'.hu) ok_eq (ge_ix C'.hu (ge_var 7) ge_int) (ge_var 5) rfl)), (ge_var 7)⟩))
 (gss_gh [] gss_nil))
 gss_nil)
 (gss_gh [.frz 3] (gss_cons (gs_if (gt_cmp (op_eqD C.cc.hu) ok_eq (ge_callB call_lenX vc_len T.g_len (ga_cons (ge_var 3) ga_nil)) ge_int rfl)
 (gss_one (gs_raise C T.x_NoRule))
 gss_nil)
 (gss_gh [] (gss_cons (gs_append (gp_var 2) (gvs_cons (gv_var 3) gvs_nil))
 (gss_gh [] gss_nil)))))))))))
 (gss_gh [] (gss_one (gs_ret (gv_var 2)))))))))
theorem ok_steered (T : Txt K mg)  {f : Addr} {fd : FuncData} (F : Fun K "steered" "steered" s_steered f fd) (hm : mg "steered" = some (.ref f)) (hb : Binds K fd ["game", "rule"] []) : DOk P w K mg base 1 "steered" m_steered 2 :=
 dok_of F sc_steered hm hb fun cdv A outer s H E C => b_steered T  C
abbrev X_farther (P : Program) (w : World) (K : PySem.W.Frag) (mg : Str → Option Value) (base : Heap) (f : Addr) (cdv : Value) (A : Around) (outer : List Env) (s : Shared) (H : Hp) (E : XK) : Cx := cxOf (L2.CX P w) P w K mg base N_farther "farther" (defScope s_farther) f cdv A outer s H E
theorem b_farther (T : Txt K mg)  {f : Addr} {cdv : Value} {A : Around} {outer : List Env} {s : Shared} {H : Hp} {E : XK} (C : Cb (X_farther P w K mg base f cdv A outer s H E) (WEx E) 0) : GSs (X_farther P w K mg base f cdv A outer s H E) (WEx E) (defBody s_farther) d_farther :=
 (gss_cons (gs_set C.cc (ge_callTy call_list_of vc_list T.g_list (ga_cons (ge_var 1) ga_nil)))
 (gss_gh [] (gss_cons (gs_for [3, 4, 5, 6] C.own C.cc (gi_zip T.g_zip (ga_cons (ge_var 1) (ga_cons (ge_var 0) ga_nil))) (gg_tup C.cc.calm (ggs_cons (gg_name C.cc.nd) (ggs_cons (gg_name C.cc.nd) ggs_nil)))
 (gss_one (gs_if (gt_cmp op_notN ok_notN (ge_var 6) ge_non rfl)
 (gss_cons (gs_for [3, 4] C.own C.cc (gi_list (ge_var 5)) (gg_tup C.cc.calm (ggs_cons (gg_name C.cc.nd) (ggs_cons (gg_name C.cc.nd) ggs_nil)))
 (gss_one (gs_if (GW.pt (gw_and (gt_cmp op_ge ok_cmpI (ge_add (ge_var 6) (ge_var 3)) ge_int rfl) (gw_and1 (GW.pt (gw_or (gt_cmp op_isN ok_isN (ge_ix C.cc.hu (ge_var 2) (ge_var 4)) ge_non rfl) (gw_or1 (gt_cmp op_lt ok_cmpI (ge_ix C.cc.hu (ge_var 2) (ge_var 4)) (ge_add (ge_var 6) (ge_var 3)) rfl)))))))
 (gss_cons (gs_store C.cc (gv_ge (ge_add (ge_var 6) (ge_var 3))) (gp_var 2) (ge_var 4))
 (gss_gh [] gss_nil))
 gss_nil)))
 (gss_gh [] gss_nil))
 gss_nil)))
 (gss_gh [] (gss_one (gs_ret (gv_var 2)))))))
theorem ok_farther (T : Txt K mg)  {f : Addr} {fd : FuncData} (F : Fun K "farther" "farther" s_farther f fd) (hm : mg "farther" = some (.ref f)) (hb : Binds K fd ["left", "best"] []) : DOk P w K mg base 1 "farther" m_farther 2 :=
 dok_of F sc_farther hm hb fun cdv A outer s H E C => b_farther T  C
abbrev X_is_rest (P : Program) (w : World) (K : PySem.W.Frag) (mg : Str → Option Value) (base : Heap) (f : Addr) (cdv : Value) (A : Around) (outer : List Env) (s : Shared) (H : Hp) (E : XK) : Cx := cxOf (L2.CX P w) P w K mg base N_is_rest "is_rest" (defScope s_is_rest) f cdv A outer s H E
theorem b_is_rest (T : Txt K mg) (D_farther : DOk P w K mg base 1 "farther" m_farther 2) {f : Addr} {cdv : Value} {A : Around} {outer : List Env} {s : Shared} {H : Hp} {E : XK} (C : Cb (X_is_rest P w K mg base f cdv A outer s H E) (WEx E) 1) : GSs (X_is_rest P w K mg base f cdv A outer s H E) (WEx E) (defBody s_is_rest) d_is_rest :=
 (gss_cons (gs_set C.cc (ge_mul (ge_lst (ga_cons ge_non ga_nil)) (ge_callB call_lenX vc_len T.g_len (ga_cons (ge_var 0) ga_nil))))
 (gss_gh [] (gss_cons (gs_store C.cc (gv_ge ge_int) (gp_var 2) (ge_var 1))
 (gss_gh [.frz 2] (gss_cons (gs_for [3, 4, 5, 6, 7, 8] C.own C.cc (gi_range1 T.g_range (ga_cons (ge_callB call_lenX vc_len T.g_len (ga_cons (ge_var 0) ga_nil)) ga_nil)) (gg_name C.cc.nd)
 (gss_cons (gs_for [4, 5, 6, 7] C.own C.cc (gi_zip T.g_zip (ga_cons (ge_var 2) (ga_cons (ge_var 0) ga_nil))) (gg_tup C.cc.calm (ggs_cons (gg_name C.cc.nd) (ggs_cons (gg_name C.cc.nd) ggs_nil)))
 (gss_cons (gs_for [4, 5] C.own C.cc (gi_list (ge_var 6)) (gg_tup C.cc.calm (ggs_cons (gg_name C.cc.nd) (ggs_cons (gg_name C.cc.nd) ggs_nil)))
 (gss_one (gs_if (GW.pt (gw_and (gt_cmp (op_eqD C.cc.hu) ok_eq (ge_var 5) (ge_var 1) rfl) (gw_and (gt_cmp op_notN ok_notN (ge_var 7) ge_non rfl) (gw_and1 (gt_cmp op_ge ok_cmpI (ge_add (ge_var 7) (ge_var 4)) ge_int rfl)))))
 (gss_one (gs_ret (gv_ge ge_bl)))
 gss_nil)))
 (gss_gh [] gss_nil)))
 (gss_gh [] (gss_cons (gs_set C.cc (ge_call C.cc D_farther (by decide) (ga_cons (ge_var 0) (ga_cons (ge_var 2) ga_nil))))
 (gss_gh [] (gss_cons (gs_if (gt_cmp (op_eqD C.cc.hu) ok_eq (ge_var 3) (ge_var 2) rfl)
 (gss_one (gs_ret (gv_ge ge_bl)))
 gss_nil)
 (gss_gh [.frz 3] (gss_cons (gs_set C.cc (ge_var 3))
 (gss_gh [] gss_nil)))))))))
 (gss_gh [] (gss_one (gs_ret (gv_ge ge_bl)))))))))
theorem ok_is_rest (T : Txt K mg) (D_farther : DOk P w K mg base 1 "farther" m_farther 2) {f : Addr} {fd : FuncData} (F : Fun K "is_rest" "is_rest" s_is_rest f fd) (hm : mg "is_rest" = some (.ref f)) (hb : Binds K fd ["left", "start"] []) : DOk P w K mg base 2 "is_rest" m_is_rest 2 :=
 dok_of F sc_is_rest hm hb fun cdv A outer s H E C => b_is_rest T D_farther C
abbrev X_nearer (P : Program) (w : World) (K : PySem.W.Frag) (mg : Str → Option Value) (base : Heap) (f : Addr) (cdv : Value) (A : Around) (outer : List Env) (s : Shared) (H : Hp) (E : XK) : Cx := cxOf (L2.CX P w) P w K mg base N_nearer "nearer" (defScope s_nearer) f cdv A outer s H E
theorem b_nearer (T : Txt K mg) (D_need_by : DOk P w K mg base 1 "need_by" m_need_by 3) (D_is_more : DOk P w K mg base 1 "is_more" m_is_more 2) {f : Addr} {cdv : Value} {A : Around} {outer : List Env} {s : Shared} {H : Hp} {E : XK} (C : Cb (X_nearer P w K mg base f cdv A outer s H E) (WEx E) 1) : GSs (X_nearer P w K mg base f cdv A outer s H E) (WEx E) (defBody s_nearer) d_nearer :=
 (gss_cons (gs_set C.cc (ge_callTy call_list_of vc_list T.g_list (ga_cons (ge_var 1) ga_nil)))
 (gss_gh [] (gss_cons (gs_for [3, 4, 5, 6, 7] C.own C.cc (gi_enum T.g_enumerate (ga_cons (ge_var 0) ga_nil)) (gg_tup C.cc.calm (ggs_cons (gg_name C.cc.nd) (ggs_cons (gg_name C.cc.nd) ggs_nil)))
 (gss_cons (gs_for [3, 4, 5] C.own C.cc (gi_list (ge_var 6)) (gg_tup C.cc.calm (ggs_cons (gg_name C.cc.nd) (ggs_cons (gg_name C.cc.nd) ggs_nil)))
 (gss_cons (gs_set C.cc (ge_call C.cc D_need_by (by decide) (ga_cons (ge_var 1) (ga_cons (ge_var 5) (ga_cons (ge_var 4) ga_nil)))))
 (gss_gh [] (gss_one (gs_if (gt_val (ge_call C.cc D_is_more (by decide) (ga_cons (ge_ix C.cc.hu (ge_var 2) (ge_var 7)) (ga_cons (ge_var 3) ga_nil))))
 (gss_cons (gs_store C.cc (gv_var 3) (gp_var 2) (ge_var 7))
 (gss_gh [] gss_nil))
 gss_nil)))))
 (gss_gh [] gss_nil)))
 (gss_gh [] (gss_one (gs_ret (gv_var 2)))))))
theorem ok_nearer (T : Txt K mg) (D_need_by : DOk P w K mg base 1 "need_by" m_need_by 3) (D_is_more : DOk P w K mg base 1 "is_more" m_is_more 2) {f : Addr} {fd : FuncData} (F : Fun K "nearer" "nearer" s_nearer f fd) (hm : mg "nearer" = some (.ref f)) (hb : Binds K fd ["left", "table"] []) : DOk P w K mg base 2 "nearer" m_nearer 2 :=
 dok_of F sc_nearer hm hb fun cdv A outer s H E C => b_nearer T D_need_by D_is_more C
abbrev X_needs (P : Program) (w : World) (K : PySem.W.Frag) (mg : Str → Option Value) (base : Heap) (f : Addr) (cdv : Value) (A : Around) (outer : List Env) (s : Shared) (H : Hp) (E : XK) : Cx := cxOf (L2.CX P w) P w K mg base N_needs "needs" (defScope s_needs) f cdv A outer s H E
theorem b_needs (T : Txt K mg) (D_steered : DOk P w K mg base 1 "steered" m_steered 2) (D_is_rest : DOk P w K mg base 2 "is_rest" m_is_rest 2) (D_nearer : DOk P w K mg base 2 "nearer" m_nearer 2) {f : Addr} {cdv : Value} {A : Around} {outer : List Env} {s : Shared} {H : Hp} {E : XK} (C : Cb (X_needs P w K mg base f cdv A outer s H E) (WEx E) 2) : GSs (X_needs P w K mg base f cdv A outer s H E) (WEx E) (defBody s_needs) d_needs :=
 (gss_cons (gs_set C.cc (ge_call C.cc D_steered (by decide) (ga_cons (ge_var 0) (ga_cons (ge_var 1) ga_nil))))
 (gss_gh [] (gss_cons (gs_set C.cc (ge_mul (ge_lst (ga_cons ge_non ga_nil)) (ge_callB call_lenX vc_len T.g_len (ga_cons (ge_var 2) ga_nil))))
 (gss_gh [] (gss_cons (gs_for [4] C.own C.cc (gi_range1 T.g_range (ga_cons (ge_callB call_lenX vc_len T.g_len (ga_cons (ge_var 2) ga_nil)) ga_nil)) (gg_name C.cc.nd)
 (gss_one (gs_if (gt_val (ge_call C.cc D_is_rest (by decide) (ga_cons (ge_var 2) (ga_cons (ge_var 4) ga_nil))))
 (gss_cons (gs_store C.cc (gv_ge ge_int) (gp_var 3) (ge_var 4))
 (gss_gh [] gss_nil))
 gss_nil)))
 (gss_gh [] (gss_cons (gs_for [5] C.own C.cc (gi_range1 T.g_range (ga_cons (ge_callB call_lenX vc_len T.g_len (ga_cons (ge_var 2) ga_nil)) ga_nil)) (gg_name C.cc.nd)
 (gss_cons (gs_set C.cc (ge_call C.cc D_nearer (by decide) (ga_cons (ge_var 2) (ga_cons (ge_var 3) ga_nil))))
 (gss_gh [] gss_nil)))
 (gss_gh [] (gss_one (gs_ret (gv_var 3)))))))))))
theorem ok_needs (T : Txt K mg) (D_steered : DOk P w K mg base 1 "steered" m_steered 2) (D_is_rest : DOk P w K mg base 2 "is_rest" m_is_rest 2) (D_nearer : DOk P w K mg base 2 "nearer" m_nearer 2) {f : Addr} {fd : FuncData} (F : Fun K "needs" "needs" s_needs f fd) (hm : mg "needs" = some (.ref f)) (hb : Binds K fd ["game", "rule"] []) : DOk P w K mg base 3 "needs" m_needs 2 :=
 dok_of F sc_needs hm hb fun cdv A outer s H E C => b_needs T D_steered D_is_rest D_nearer C
abbrev X_first_rule (P : Program) (w : World) (K : PySem.W.Frag) (mg : Str → Option Value) (base : Heap) (f : Addr) (cdv : Value) (A : Around) (outer : List Env) (s : Shared) (H : Hp) (E : XK) : Cx := cxOf (L2.CX P w) P w K mg base N_first_rule "first_rule" (defScope s_first_rule) f cdv A outer s H E
theorem b_first_rule (T : Txt K mg)  {f : Addr} {cdv : Value} {A : Around} {outer : List Env} {s : Shared} {H : Hp} {E : XK} (C : Cb (X_first_rule P w K mg base f cdv A outer s H E) (WEx E) 0) : GSs (X_first_rule P w K mg base f cdv A outer s H E) (WEx E) (defBody s_first_rule) d_first_rule :=
 (gss_cons (gs_set C.cc (ge_lst ga_nil))
 (gss_gh [] (gss_cons (gs_for [2, 3] C.own C.cc (gi_list (ge_var 0)) (gg_tup C.cc.calm (ggs_cons (gg_name C.cc.nd) (ggs_cons (gg_name C.cc.nd) ggs_nil)))
 (gss_one (gs_if (gt_cmp (op_eqD C.cc.hu) ok_eq (ge_var 3) ge_int rfl)
 (gss_cons (gs_append (gp_var 1) (gvs_cons (gv_ge (ge_ix C.cc.hu (ge_ix C.cc.hu (ge_var 2) ge_int) ge_int)) gvs_nil))
 (gss_gh [] gss_nil))
 (gss_cons (gs_append (gp_var 1) (gvs_cons (gv_ge ge_non) gvs_nil))
 (gss_gh [] gss_nil)))))
 (gss_gh [] (gss_one (gs_ret (gv_var 1)))))))
theorem ok_first_rule (T : Txt K mg)  {f : Addr} {fd : FuncData} (F : Fun K "first_rule" "first_rule" s_first_rule f fd) (hm : mg "first_rule" = some (.ref f)) (hb : Binds K fd ["game"] []) : DOk P w K mg base 1 "first_rule" m_first_rule 1 :=
 dok_of F sc_first_rule hm hb fun cdv A outer s H E C => b_first_rule T  C
abbrev X_bettered (P : Program) (w : World) (K : PySem.W.Frag) (mg : Str → Option Value) (base : Heap) (f : Addr) (cdv : Value) (A : Around) (outer : List Env) (s : Shared) (H : Hp) (E : XK) : Cx := cxOf (L2.CX P w) P w K mg base N_bettered "bettered" (defScope s_bettered) f cdv A outer s H E
theorem b_bettered (T : Txt K mg) (D_need_by : DOk P w K mg base 1 "need_by" m_need_by 3) (D_is_more : DOk P w K mg base 1 "is_more" m_is_more 2) {f : Addr} {cdv : Value} {A : Around} {outer : List Env} {s : Shared} {H : Hp} {E : XK} (C : Cb (X_bettered P w K mg base f cdv A outer s H E) (WEx E) 1) : GSs (X_bettered P w K mg base f cdv A outer s H E) (WEx E) (defBody s_bettered) d_bettered :=
 (gss_cons (gs_set C.cc (ge_callTy call_list_of vc_list T.g_list (ga_cons (ge_var 1) ga_nil)))
 (gss_gh [] (gss_cons (gs_for [4, 5, 6, 7, 8, 9, 10, 11] C.own C.cc (gi_enum T.g_enumerate (ga_cons (ge_var 0) ga_nil)) (gg_tup C.cc.calm (ggs_cons (gg_name C.cc.nd) (ggs_cons (gg_name C.cc.nd) ggs_nil)))
 (gss_cons (gs_unp (ge_var 10) (gg_tup C.cc.calm (ggs_cons (gg_name C.cc.nd) (ggs_cons (gg_name C.cc.nd) ggs_nil))))
 (gss_gh [] (gss_one (gs_if (gt_cmp (op_eqD C.cc.hu) ok_eq (ge_var 9) ge_int rfl)
 (gss_cons (gs_set C.cc (ge_ix C.cc.hu (ge_var 2) (ge_var 11)))
 (gss_gh [] (gss_cons (gs_for [5, 6, 7] C.own C.cc (gi_list (ge_var 8)) (gg_tup C.cc.calm (ggs_cons (gg_name C.cc.nd) (ggs_cons (gg_name C.cc.nd) ggs_nil)))
 (gss_cons (gs_set C.cc (ge_call C.cc D_need_by (by decide) (ga_cons (ge_var 2) (ga_cons (ge_var 7) (ga_cons (ge_var 6) ga_nil)))))
 (gss_gh [] (gss_one (gs_if (gt_val (ge_call C.cc D_is_more (by decide) (ga_cons (ge_var 5) (ga_cons (ge_var 4) ga_nil))))
 (gss_cons (gs_set C.cc (ge_var 5))
 (gss_gh [] (gss_cons (gs_store C.cc (gv_var 7) (gp_var 3) (ge_var 11))
 (gss_gh [] gss_nil))))
 gss_nil)))))
 (gss_gh [] gss_nil))))
 gss_nil)))))
 (gss_gh [] (gss_one (gs_ret (gv_var 3)))))))
theorem ok_bettered (T : Txt K mg) (D_need_by : DOk P w K mg base 1 "need_by" m_need_by 3) (D_is_more : DOk P w K mg base 1 "is_more" m_is_more 2) {f : Addr} {fd : FuncData} (F : Fun K "bettered" "bettered" s_bettered f fd) (hm : mg "bettered" = some (.ref f)) (hb : Binds K fd ["game", "rule", "table"] []) : DOk P w K mg base 2 "bettered" m_bettered 3 :=
 dok_of F sc_bettered hm hb fun cdv A outer s H E C => b_bettered T D_need_by D_is_more C
abbrev X_betterings (P : Program) (w : World) (K : PySem.W.Frag) (mg : Str → Option Value) (base : Heap) (f : Addr) (cdv : Value) (A : Around) (outer : List Env) (s : Shared) (H : Hp) (E : XK) : Cx := cxOf (L2.CX P w) P w K mg base N_betterings "betterings" (defScope s_betterings) f cdv A outer s H E
theorem b_betterings (T : Txt K mg) (D_first_rule : DOk P w K mg base 1 "first_rule" m_first_rule 1) (D_needs : DOk P w K mg base 3 "needs" m_needs 2) (D_bettered : DOk P w K mg base 2 "bettered" m_bettered 3) {f : Addr} {cdv : Value} {A : Around} {outer : List Env} {s : Shared} {H : Hp} {E : XK} (C : Cb (X_betterings P w K mg base f cdv A outer s H E) (WEx E) 3) : GSs (X_betterings P w K mg base f cdv A outer s H E) (WEx E) (defBody s_betterings) d_betterings :=
 (gss_cons (gs_set C.cc (ge_call C.cc D_first_rule (by decide) (ga_cons (ge_var 0) ga_nil)))
 (gss_gh [] (gss_alL (gss_asc (gss_cons (gs_set C.cc (ge_lst (ga_cons (ge_tup (ga_cons (ge_at 1) (ga_cons (ge_call C.cc D_needs (by decide) (ga_cons (ge_var 0) (ga_cons (ge_varN 1) ga_nil))) ga_nil))) ga_nil)))
 (gss_cons (gs_set C.cc (ge_call C.cc D_bettered (by decide) (ga_cons (ge_var 0) (ga_cons (ge_varN 1) (ga_cons (ge_ix C.cc.hu (ge_ix C.cc.hu (ge_var 2) ge_int) ge_int) ga_nil)))))
 (gss_plugLA (gssA_while fuel C.own (gt_cmp (op_neD C.cc.hu) ok_ne (ge_var 3) (ge_varN 1) rfl)
 (gssE_cons (gs_mv 1 3 C.cc) (gssE_alL (gssE_asc (gssE_cons (gs_append (gp_var 2) (gvs_cons (gv_ge (ge_tup (ga_cons (ge_at 1) (ga_cons (ge_call C.cc D_needs (by decide) (ga_cons (ge_var 0) (ga_cons (ge_varN 1) ga_nil))) ga_nil)))) gvs_nil))
 (gssE_cons (gs_set C.cc (ge_call C.cc D_bettered (by decide) (ga_cons (ge_var 0) (ga_cons (ge_varN 1) (ga_cons (ge_ix C.cc.hu (ge_ix C.cc.hu (ge_var 2) (ge_neg ge_int)) ge_int) ga_nil))))) gssE_plug)))))
 (gssA_drop (gss_gh [] (gss_one (gs_ret (gv_var 2)))))))))))))
theorem ok_betterings (T : Txt K mg) (D_first_rule : DOk P w K mg base 1 "first_rule" m_first_rule 1) (D_needs : DOk P w K mg base 3 "needs" m_needs 2) (D_bettered : DOk P w K mg base 2 "bettered" m_bettered 3) {f : Addr} {fd : FuncData} (F : Fun K "betterings" "betterings" s_betterings f fd) (hm : mg "betterings" = some (.ref f)) (hb : Binds K fd ["game"] []) : DOk P w K mg base 4 "betterings" m_betterings 1 :=
 dok_of F sc_betterings hm hb fun cdv A outer s H E C => b_betterings T D_first_rule D_needs D_bettered C
abbrev X__law_at (P : Program) (w : World) (K : PySem.W.Frag) (mg : Str → Option Value) (base : Heap) (f : Addr) (cdv : Value) (A : Around) (outer : List Env) (s : Shared) (H : Hp) (E : XK) : Cx := cxOf (L2.CX P w) P w K mg base N__law_at "_law_at" (defScope s__law_at) f cdv A outer s H E
theorem b__law_at (T : Txt K mg)  {f : Addr} {cdv : Value} {A : Around} {outer : List Env} {s : Shared} {H : Hp} {E : XK} (C : Cb (X__law_at P w K mg base f cdv A outer s H E) (WEx E) 0) : GSs (X__law_at P w K mg base f cdv A outer s H E) (WEx E) (defBody s__law_at) d__law_at :=
 (gss_cons (gs_if (gt_cmp op_lt ok_cmpI (ge_var 1) (ge_callB call_lenX vc_len T.g_len (ga_cons (ge_var 0) ga_nil)) rfl)
 (gss_one (gs_ret (gv_ge (ge_ix C.cc.hu (ge_var 0) (ge_var 1)))))
 gss_nil)
 (gss_gh [] (gss_cons (gs_set C.cc (ge_add (ge_mul ge_int (ge_var 1)) ge_int))
 (gss_gh [] (gss_cons (gs_if (gt_cmp op_gt ok_cmpI (ge_callB call_lenX vc_len T.g_len (ga_cons (ge_var 0) ga_nil)) ge_int rfl)
 (gss_cons (gs_set C.cc (ge_add (ge_var 2) (ge_mul (ge_mod (ge_ix C.cc.hu (ge_var 0) (ge_mod (ge_var 1) (ge_callB call_lenX vc_len T.g_len (ga_cons (ge_var 0) ga_nil)))) ge_int) (ge_add (ge_var 1) ge_int))))
 (gss_gh [] gss_nil))
 gss_nil)
 (gss_gh [] (gss_one (gs_ret (gv_ge (ge_add (ge_mod (ge_mul (ge_var 2) (ge_var 2)) ge_int) (ge_mod (ge_var 2) ge_int)))))))))))
theorem ok__law_at (T : Txt K mg)  {f : Addr} {fd : FuncData} (F : Fun K "_law_at" "_law_at" s__law_at f fd) (hm : mg "_law_at" = some (.ref f)) (hb : Binds K fd ["_law_script", "_law_k"] []) : DOk P w K mg base 1 "_law_at" m__law_at 2 :=
 dok_of F sc__law_at hm hb fun cdv A outer s H E C => b__law_at T  C
abbrev X__law_whole (P : Program) (w : World) (K : PySem.W.Frag) (mg : Str → Option Value) (base : Heap) (f : Addr) (cdv : Value) (A : Around) (outer : List Env) (s : Shared) (H : Hp) (E : XK) : Cx := cxOf (L2.CX P w) P w K mg base N__law_whole "_law_whole" (defScope s__law_whole) f cdv A outer s H E
theorem b__law_whole (T : Txt K mg)  {f : Addr} {cdv : Value} {A : Around} {outer : List Env} {s : Shared} {H : Hp} {E : XK} (C : Cb (X__law_whole P w K mg base f cdv A outer s H E) (WEx E) 0) : GSs (X__law_whole P w K mg base f cdv A outer s H E) (WEx E) (defBody s__law_whole) d__law_whole :=
 (gss_one (gs_ret (gv_ge (ge_and (ge_isi T.g_isinstance T.g_int (ge_var 0)) (ge_one (ge_not (ge_isi T.g_isinstance T.g_bool (ge_var 0))))))))
theorem ok__law_whole (T : Txt K mg)  {f : Addr} {fd : FuncData} (F : Fun K "_law_whole" "_law_whole" s__law_whole f fd) (hm : mg "_law_whole" = some (.ref f)) (hb : Binds K fd ["_law_found"] []) : DOk P w K mg base 1 "_law_whole" m__law_whole 1 :=
 dok_of F sc__law_whole hm hb fun cdv A outer s H E C => b__law_whole T  C
abbrev X__law_amount (P : Program) (w : World) (K : PySem.W.Frag) (mg : Str → Option Value) (base : Heap) (f : Addr) (cdv : Value) (A : Around) (outer : List Env) (s : Shared) (H : Hp) (E : XK) : Cx := cxOf (L2.CX P w) P w K mg base N__law_amount "_law_amount" (defScope s__law_amount) f cdv A outer s H E
theorem b__law_amount (T : Txt K mg)  {f : Addr} {cdv : Value} {A : Around} {outer : List Env} {s : Shared} {H : Hp} {E : XK} (C : Cb (X__law_amount P w K mg base f cdv A outer s H E) (WEx E) 0) : GSs (X__law_amount P w K mg base f cdv A outer s H E) (WEx E) (defBody s__law_amount) d__law_amount :=
 (gss_cons (gs_if (gt_cmp (op_eqD C.cc.hu) ok_eq (ge_var 0) ge_int rfl)
 (gss_one (gs_ret (gv_ge (ge_sub (ge_mod (ge_var 4) ge_int) ge_int))))
 gss_nil)
 (gss_gh [] (gss_cons (gs_if (gt_cmp (op_eqD C.cc.hu) ok_eq (ge_var 0) ge_int rfl)
 (gss_one (gs_ret (gv_ge (ge_sub (ge_add (ge_sub (ge_ix C.cc.hu (ge_var 1) (ge_var 2)) (ge_ix C.cc.hu (ge_var 1) (ge_var 3))) (ge_mod (ge_var 4) ge_int)) ge_int))))
 gss_nil)
 (gss_gh [] (gss_cons (gs_if (gt_cmp (op_eqD C.cc.hu) ok_eq (ge_var 0) ge_int rfl)
 (gss_one (gs_ret (gv_ge (ge_sub (ge_add (ge_mul (ge_sub (ge_ix C.cc.hu (ge_var 1) (ge_var 2)) (ge_ix C.cc.hu (ge_var 1) (ge_var 3))) (ge_pow ge_int ge_int)) (ge_mod (ge_var 4) ge_int)) ge_int))))
 gss_nil)
 (gss_gh [] (gss_cons (gs_if (gt_cmp (op_eqD C.cc.hu) ok_eq (ge_var 0) ge_int rfl)
 (gss_one (gs_ret (gv_ge (ge_sub (ge_add (ge_sub (ge_fdiv (ge_callB call_lenX vc_len T.g_len (ga_cons (ge_var 1) ga_nil)) ge_int) (ge_var 3)) (ge_mod (ge_var 4) ge_int)) ge_int))))
 gss_nil)
 (gss_gh [] (gss_one (gs_ret (gv_ge (ge_sub (ge_mod (ge_mul (ge_var 4) (ge_pow ge_int ge_int)) (ge_sub (ge_mul ge_int (ge_pow ge_int ge_int)) ge_int)) (ge_sub (ge_pow ge_int ge_int) ge_int)))))))))))))
theorem ok__law_amount (T : Txt K mg)  {f : Addr} {fd : FuncData} (F : Fun K "_law_amount" "_law_amount" s__law_amount f fd) (hm : mg "_law_amount" = some (.ref f)) (hb : Binds K fd ["_law_style", "_law_heights", "_law_start", "_law_goal", "_law_cell"] []) : DOk P w K mg base 1 "_law_amount" m__law_amount 5 :=
 dok_of F sc__law_amount hm hb fun cdv A outer s H E C => b__law_amount T  C
abbrev X__law_game (P : Program) (w : World) (K : PySem.W.Frag) (mg : Str → Option Value) (base : Heap) (f : Addr) (cdv : Value) (A : Around) (outer : List Env) (s : Shared) (H : Hp) (E : XK) : Cx := cxOf (L2.CX P w) P w K mg base N__law_game "_law_game" (defScope s__law_game) f cdv A outer s H E
theorem b__law_game (T : Txt K mg) (D__law_at : DOk P w K mg base 1 "_law_at" m__law_at 2) (D__law_amount : DOk P w K mg base 1 "_law_amount" m__law_amount 5) {f : Addr} {cdv : Value} {A : Around} {outer : List Env} {s : Shared} {H : Hp} {E : XK} (C : Cb (X__law_game P w K mg base f cdv A outer s H E) (WEx E) 1) : GSs (X__law_game P w K mg base f cdv A outer s H E) (WEx E) (defBody s__law_game) d__law_game :=
 (gss_cons (gs_set C.cc (ge_call C.cc D__law_at (by decide) (ga_cons (ge_var 0) (ga_cons ge_int ga_nil))))
 (gss_gh [] (gss_cons (gs_set C.cc (ge_add ge_int (ge_mod (ge_var 1) ge_int)))
 (gss_gh [] (gss_cons (gs_set C.cc ge_int)
 (gss_gh [] (gss_cons (gs_if (gt_cmp (op_eqD C.cc.hu) ok_eq (ge_mod (ge_fdiv (ge_var 1) ge_int) ge_int) ge_int rfl)
 (gss_cons (gs_set C.cc (ge_add ge_int (ge_mod (ge_fdiv (ge_var 1) ge_int) ge_int)))
 (gss_gh [] (gss_cons (gs_set C.cc ge_int)
 (gss_gh [] gss_nil))))
 gss_nil)
 (gss_gh [] (gss_cons (gs_if (gt_cmp (op_eqD C.cc.hu) ok_eq (ge_mod (ge_fdiv (ge_var 1) ge_int) ge_int) ge_int rfl)
 (gss_cons (gs_set C.cc (ge_add ge_int (ge_mod (ge_fdiv (ge_var 1) ge_int) ge_int)))
 (gss_gh [] gss_nil))
 gss_nil)
 (gss_gh [] (gss_cons (gs_set C.cc (ge_mod (ge_call C.cc D__law_at (by decide) (ga_cons (ge_var 0) (ga_cons ge_int ga_nil))) ge_int))
 (gss_gh [] (gss_cons (gs_setLc C.cc (gi_range1 T.g_range (ga_cons (ge_var 2) ga_nil)) (own := [("_law_k", 11)]) (blk_of (N := N__law_game) (sc := defScope s__law_game) rfl rfl (by decide +kernel)) (by rintro _ ⟨_, _, _, _, _, rfl⟩ C'; exact ⟨(gc_name C'.nd), gts_nil, (ge_mod (ge_fdiv (ge_call C' D__law_at (by decide) (ga_cons (ge_var 0) (ga_cons (ge_add ge_int (ge_mul ge_int (ge_var 11))) ga_nil))) ge_int) ge_int)⟩))
 (gss_gh [] (gss_cons (gs_set C.cc (ge_lst ga_nil))
 (gss_gh [] (gss_cons (gs_for [7, 8, 9, 10, 11] C.own C.cc (gi_range1 T.g_range (ga_cons (ge_var 2) ga_nil)) (gg_name C.cc.nd)
 (gss_cons (gs_set C.cc (ge_call C.cc D__law_at (by decide) (ga_cons (ge_var 0) (ga_cons (ge_add ge_int (ge_mul ge_int (ge_var 11))) ga_nil))))
 (gss_gh [] (gss_cons (gs_set C.cc ge_dK)
 (gss_gh [] (gss_cons (gs_for [7, 8] C.own C.cc (gi_range1 T.g_range (ga_cons (ge_add ge_int (ge_mod (ge_fdiv (ge_var 10) ge_int) (ge_var 3))) ga_nil)) (gg_name C.cc.nd)
 (gss_cons (gs_set C.cc (ge_call C.cc D__law_at (by decide) (ga_cons (ge_var 0) (ga_cons (ge_add (ge_add ge_int (ge_mul ge_int (ge_var 11))) (ge_var 8)) ga_nil))))
 (gss_gh [] (gss_cons (gs_meth PySem.F.plainAttrs_dict PySem.F.slot_dict_setdefault PySem.F.type_dict_setdefault mt_dsetd mtt_dsetd (by decide) (gp_var 9) (gvs_cons (gv_ge (ge_mod (ge_var 7) (ge_var 2))) (gvs_cons (gv_ge (ge_call C.cc D__law_amount (by decide) (ga_cons (ge_var 4) (ga_cons (ge_var 5) (ga_cons (ge_var 11) (ga_cons (ge_mod (ge_var 7) (ge_var 2)) (ga_cons (ge_fdiv (ge_var 7) (ge_var 2)) ga_nil))))))) gvs_nil)))
 (gss_gh [] gss_nil)))))
 (gss_gh [] (gss_cons (gs_append (gp_var 6) (gvs_cons (gv_ge (ge_tup (ga_cons (ge_mod (ge_var 10) ge_int) (ga_cons (ge_sortItems C.cc.calm T.g_sorted (ge_var 9)) ga_nil)))) gvs_nil))
 (gss_gh [] gss_nil)))))))))
 (gss_gh [] (gss_one (gs_ret (gv_var 6)))))))))))))))))))))
theorem ok__law_game (T : Txt K mg) (D__law_at : DOk P w K mg base 1 "_law_at" m__law_at 2) (D__law_amount : DOk P w K mg base 1 "_law_amount" m__law_amount 5) {f : Addr} {fd : FuncData} (F : Fun K "_law_game" "_law_game" s__law_game f fd) (hm : mg "_law_game" = some (.ref f)) (hb : Binds K fd ["_law_script"] []) : DOk P w K mg base 2 "_law_game" m__law_game 1 :=
 dok_of F sc__law_game hm hb fun cdv A outer s H E C => b__law_game T D__law_at D__law_amount C
abbrev X__law_copied (P : Program) (w : World) (K : PySem.W.Frag) (mg : Str → Option Value) (base : Heap) (f : Addr) (cdv : Value) (A : Around) (outer : List Env) (s : Shared) (H : Hp) (E : XK) : Cx := cxOf (L2.CX P w) P w K mg base N__law_copied "_law_copied" (defScope s__law_copied) f cdv A outer s H E
theorem b__law_copied (T : Txt K mg)  {f : Addr} {cdv : Value} {A : Around} {outer : List Env} {s : Shared} {H : Hp} {E : XK} (C : Cb (X__law_copied P w K mg base f cdv A outer s H E) (WEx E) 0) : GSs (X__law_copied P w K mg base f cdv A outer s H E) (WEx E) (defBody s__law_copied) d__law_copied :=
 (gss_one (gs_ret (gv_ge (ge_lc C.cc (gi_list (ge_var 0)) (own := [("_law_hand", 1), ("_law_ways", 2)]) (blk_of (N := N__law_copied) (sc := defScope s__law_copied) rfl rfl (by decide +kernel)) (by rintro _ ⟨_, _, _, _, _, rfl⟩ C'; exact ⟨(gc_tup C'.calm (gcs_cons (gc_name C'.nd) (gcs_cons (gc_name C'.nd) gcs_nil))), gts_nil, (ge_tup (ga_cons (ge_var 1) (ga_cons (ge_callTy call_list_of vc_list T.g_list (ga_cons (ge_var 2) ga_nil)) ga_nil)))⟩)))))
theorem ok__law_copied (T : Txt K mg)  {f : Addr} {fd : FuncData} (F : Fun K "_law_copied" "_law_copied" s__law_copied f fd) (hm : mg "_law_copied" = some (.ref f)) (hb : Binds K fd ["_law_game_here"] []) : DOk P w K mg base 1 "_law_copied" m__law_copied 1 :=
 dok_of F sc__law_copied hm hb fun cdv A outer s H E C => b__law_copied T  C
abbrev X__law_more (P : Program) (w : World) (K : PySem.W.Frag) (mg : Str → Option Value) (base : Heap) (f : Addr) (cdv : Value) (A : Around) (outer : List Env) (s : Shared) (H : Hp) (E : XK) : Cx := cxOf (L2.CX P w) P w K mg base N__law_more "_law_more" (defScope s__law_more) f cdv A outer s H E
theorem b__law_more (T : Txt K mg)  {f : Addr} {cdv : Value} {A : Around} {outer : List Env} {s : Shared} {H : Hp} {E : XK} (C : Cb (X__law_more P w K mg base f cdv A outer s H E) (WEx E) 0) : GSs (X__law_more P w K mg base f cdv A outer s H E) (WEx E) (defBody s__law_more) d__law_more :=
 (gss_cons (gs_if (gt_cmp op_isN ok_isN (ge_var 1) ge_non rfl)
 (gss_one (gs_ret (gv_ge ge_bl)))
 gss_nil)
 (gss_gh [] (gss_cons (gs_if (gt_cmp op_isN ok_isN (ge_var 0) ge_non rfl)
 (gss_one (gs_ret (gv_ge ge_bl)))
 gss_nil)
 (gss_gh [] (gss_one (gs_ret (gv_ge (ge_cmp op_gt ok_cmpI (ge_var 0) (ge_var 1) rfl))))))))
theorem ok__law_more (T : Txt K mg)  {f : Addr} {fd : FuncData} (F : Fun K "_law_more" "_law_more" s__law_more f fd) (hm : mg "_law_more" = some (.ref f)) (hb : Binds K fd ["_law_one", "_law_other"] []) : DOk P w K mg base 1 "_law_more" m__law_more 2 :=
 dok_of F sc__law_more hm hb fun cdv A outer s H E C => b__law_more T  C
abbrev X__law_need (P : Program) (w : World) (K : PySem.W.Frag) (mg : Str → Option Value) (base : Heap) (f : Addr) (cdv : Value) (A : Around) (outer : List Env) (s : Shared) (H : Hp) (E : XK) : Cx := cxOf (L2.CX P w) P w K mg base N__law_need "_law_need" (defScope s__law_need) f cdv A outer s H E
theorem b__law_need (T : Txt K mg)  {f : Addr} {cdv : Value} {A : Around} {outer : List Env} {s : Shared} {H : Hp} {E : XK} (C : Cb (X__law_need P w K mg base f cdv A outer s H E) (WEx E) 0) : GSs (X__law_need P w K mg base f cdv A outer s H E) (WEx E) (defBody s__law_need) d__law_need :=
 (gss_cons (gs_if (gt_cmp op_isN ok_isN (ge_ix C.cc.hu (ge_var 0) (ge_ix C.cc.hu (ge_var 1) ge_int)) ge_non rfl)
 (gss_one (gs_ret (gv_ge ge_non)))
 gss_nil)
 (gss_gh [] (gss_one (gs_ret (gv_ge (ge_callB (call_max2 C.cc.calm) vc_2I T.g_max (ga_cons ge_int (ga_cons (ge_sub (ge_ix C.cc.hu (ge_var 0) (ge_ix C.cc.hu (ge_var 1) ge_int)) (ge_ix C.cc.hu (ge_var 1) ge_int)) ga_nil))))))))
theorem ok__law_need (T : Txt K mg)  {f : Addr} {fd : FuncData} (F : Fun K "_law_need" "_law_need" s__law_need f fd) (hm : mg "_law_need" = some (.ref f)) (hb : Binds K fd ["_law_table", "_law_way"] []) : DOk P w K mg base 1 "_law_need" m__law_need 2 :=
 dok_of F sc__law_need hm hb fun cdv A outer s H E C => b__law_need T  C
abbrev X__law_next (P : Program) (w : World) (K : PySem.W.Frag) (mg : Str → Option Value) (base : Heap) (f : Addr) (cdv : Value) (A : Around) (outer : List Env) (s : Shared) (H : Hp) (E : XK) : Cx := cxOf (L2.CX P w) P w K mg base N__law_next "_law_next" (defScope s__law_next) f cdv A outer s H E
theorem b__law_next (T : Txt K mg) (D__law_more : DOk P w K mg base 1 "_law_more" m__law_more 2) (D__law_need : DOk P w K mg base 1 "_law_need" m__law_need 2) {f : Addr} {cdv : Value} {A : Around} {outer : List Env} {s : Shared} {H : Hp} {E : XK} (C : Cb (X__law_next P w K mg base f cdv A outer s H E) (WEx E) 1) : GSs (X__law_next P w K mg base f cdv A outer s H E) (WEx E) (defBody s__law_next) d__law_next :=
 (gss_cons (gs_set C.cc (ge_lst ga_nil))
 (gss_gh [] (gss_cons (gs_for [4, 5, 6, 7, 8] C.own C.cc (gi_enum T.g_enumerate (ga_cons (ge_var 0) ga_nil)) (gg_tup C.cc.calm (ggs_cons (gg_name C.cc.nd) (ggs_cons (gg_name C.cc.nd) ggs_nil)))
 (gss_cons (gs_set C.cc (ge_ix C.cc.hu (ge_var 1) (ge_var 8)))
 (gss_gh [] (gss_cons (gs_set C.cc (ge_ix C.cc.hu (ge_var 2) (ge_var 8)))
 (gss_gh [] (gss_cons (gs_if (gt_cmp (op_eqD C.cc.hu) ok_eq (ge_ix C.cc.hu (ge_var 7) ge_int) ge_int rfl)
 (gss_cons (gs_for [6] C.own C.cc (gi_list (ge_ix C.cc.hu (ge_var 7) ge_int)) (gg_name C.cc.nd)
 (gss_one (gs_if (gt_val (ge_call C.cc D__law_more (by decide) (ga_cons (ge_call C.cc D__law_need (by decide) (ga_cons (ge_var 2) (ga_cons (ge_var 6) ga_nil))) (ga_cons (ge_var 5) ga_nil))))
 (gss_cons (gs_set C.cc (ge_call C.cc D__law_need (by decide) (ga_cons (ge_var 2) (ga_cons (ge_var 6) ga_nil))))
 (gss_gh [] (gss_cons (gs_set C.cc (ge_ix C.cc.hu (ge_var 6) ge_int))
 (gss_gh [] gss_nil))))
 gss_nil)))
 (gss_gh [] gss_nil))
 gss_nil)
 (gss_gh [.fgt 5] (gss_cons (gs_append (gp_var 3) (gvs_cons (gv_var 4) gvs_nil))
 (gss_gh [] gss_nil)))))))))
 (gss_gh [] (gss_one (gs_ret (gv_var 3)))))))
theorem ok__law_next (T : Txt K mg) (D__law_more : DOk P w K mg base 1 "_law_more" m__law_more 2) (D__law_need : DOk P w K mg base 1 "_law_need" m__law_need 2) {f : Addr} {fd : FuncData} (F : Fun K "_law_next" "_law_next" s__law_next f fd) (hm : mg "_law_next" = some (.ref f)) (hb : Binds K fd ["_law_game_here", "_law_rule", "_law_table"] []) : DOk P w K mg base 2 "_law_next" m__law_next 3 :=
 dok_of F sc__law_next hm hb fun cdv A outer s H E C => b__law_next T D__law_more D__law_need C
abbrev X__law_is_rule (P : Program) (w : World) (K : PySem.W.Frag) (mg : Str → Option Value) (base : Heap) (f : Addr) (cdv : Value) (A : Around) (outer : List Env) (s : Shared) (H : Hp) (E : XK) : Cx := cxOf (L2.CX P w) P w K mg base N__law_is_rule "_law_is_rule" (defScope s__law_is_rule) f cdv A outer s H E
theorem b__law_is_rule (T : Txt K mg) (D__law_whole : DOk P w K mg base 1 "_law_whole" m__law_whole 1) {f : Addr} {cdv : Value} {A : Around} {outer : List Env} {s : Shared} {H : Hp} {E : XK} (C : Cb (X__law_is_rule P w K mg base f cdv A outer s H E) (WEx E) 1) : GSs (X__law_is_rule P w K mg base f cdv A outer s H E) (WEx E) (defBody s__law_is_rule) d__law_is_rule :=
 (gss_cons (gs_if (GW.pt (gw_or (gt_not (gt_val (ge_isi T.g_isinstance T.g_list (ge_var 0)))) (gw_or1 (gt_cmp (op_neD C.cc.hu) ok_ne (ge_callB call_lenX vc_len T.g_len (ga_cons (ge_var 0) ga_nil)) (ge_callB call_lenX vc_len T.g_len (ga_cons (ge_var 1) ga_nil)) rfl))))
 (gss_one (gs_ret (gv_ge ge_bl)))
 gss_nil)
 (gss_gh [] (gss_cons (gs_for [2, 3] C.own C.cc (gi_zip T.g_zip (ga_cons (ge_var 0) (ga_cons (ge_var 1) ga_nil))) (gg_tup C.cc.calm (ggs_cons (gg_name C.cc.nd) (ggs_cons (gg_name C.cc.nd) ggs_nil)))
 (gss_cons (gs_if (GW.pt (gw_and (gt_cmp (op_eqD C.cc.hu) ok_eq (ge_ix C.cc.hu (ge_var 2) ge_int) ge_int rfl) (gw_and1 (gt_cmp op_notN ok_notN (ge_var 3) ge_non rfl))))
 (gss_one (gs_ret (gv_ge ge_bl)))
 gss_nil)
 (gss_gh [] (gss_one (gs_if (GW.pt (gw_and (gt_cmp (op_eqD C.cc.hu) ok_eq (ge_ix C.cc.hu (ge_var 2) ge_int) ge_int rfl) (gw_and1 (GW.pt (gw_or (gt_not (gt_val (ge_call C.cc D__law_whole (by decide) (ga_cons (ge_var 3) ga_nil)))) (gw_or1 (gt_cmp (op_notInX C.cc.hu) ok_in (ge_var 3) (ge_lc C.cc (gi_list (ge_ix C.cc.hu (ge_var 2) ge_int)) (own := [("_law_way", 4)]) (blk_of (N := N__law_is_rule) (sc := defScope s__law_is_rule) rfl rfl (by decide +kernel)) (by rintro _ ⟨_, _, _, _, _, rfl⟩ C'; exact ⟨(gc_name C'.nd), gts_nil, (ge_ix C'.hu (ge_var 4) ge_int)⟩)) rfl)))))))
 (gss_one (gs_ret (gv_ge ge_bl)))
 gss_nil)))))
 (gss_gh [] (gss_one (gs_ret (gv_ge ge_bl)))))))
theorem ok__law_is_rule (T : Txt K mg) (D__law_whole : DOk P w K mg base 1 "_law_whole" m__law_whole 1) {f : Addr} {fd : FuncData} (F : Fun K "_law_is_rule" "_law_is_rule" s__law_is_rule f fd) (hm : mg "_law_is_rule" = some (.ref f)) (hb : Binds K fd ["_law_rule", "_law_game_here"] []) : DOk P w K mg base 2 "_law_is_rule" m__law_is_rule 2 :=
 dok_of F sc__law_is_rule hm hb fun cdv A outer s H E C => b__law_is_rule T D__law_whole C
abbrev X__law_is_table (P : Program) (w : World) (K : PySem.W.Frag) (mg : Str → Option Value) (base : Heap) (f : Addr) (cdv : Value) (A : Around) (outer : List Env) (s : Shared) (H : Hp) (E : XK) : Cx := cxOf (L2.CX P w) P w K mg base N__law_is_table "_law_is_table" (defScope s__law_is_table) f cdv A outer s H E
theorem b__law_is_table (T : Txt K mg) (D__law_whole : DOk P w K mg base 1 "_law_whole" m__law_whole 1) {f : Addr} {cdv : Value} {A : Around} {outer : List Env} {s : Shared} {H : Hp} {E : XK} (C : Cb (X__law_is_table P w K mg base f cdv A outer s H E) (WEx E) 1) : GSs (X__law_is_table P w K mg base f cdv A outer s H E) (WEx E) (defBody s__law_is_table) d__law_is_table :=
 (gss_cons (gs_if (GW.pt (gw_or (gt_not (gt_val (ge_isi T.g_isinstance T.g_list (ge_var 0)))) (gw_or1 (gt_cmp (op_neD C.cc.hu) ok_ne (ge_callB call_lenX vc_len T.g_len (ga_cons (ge_var 0) ga_nil)) (ge_callB call_lenX vc_len T.g_len (ga_cons (ge_var 1) ga_nil)) rfl))))
 (gss_one (gs_ret (gv_ge ge_bl)))
 gss_nil)
 (gss_gh [] (gss_cons (gs_for [2] C.own C.cc (gi_list (ge_var 0)) (gg_name C.cc.nd)
 (gss_one (gs_if (GW.pt (gw_and (gt_cmp op_notN ok_notN (ge_var 2) ge_non rfl) (gw_and1 (GW.pt (gw_or (gt_not (gt_val (ge_call C.cc D__law_whole (by decide) (ga_cons (ge_var 2) ga_nil)))) (gw_or1 (gt_cmp op_lt ok_cmpI (ge_var 2) ge_int rfl)))))))
 (gss_one (gs_ret (gv_ge ge_bl)))
 gss_nil)))
 (gss_gh [] (gss_one (gs_ret (gv_ge ge_bl)))))))
theorem ok__law_is_table (T : Txt K mg) (D__law_whole : DOk P w K mg base 1 "_law_whole" m__law_whole 1) {f : Addr} {fd : FuncData} (F : Fun K "_law_is_table" "_law_is_table" s__law_is_table f fd) (hm : mg "_law_is_table" = some (.ref f)) (hb : Binds K fd ["_law_table", "_law_game_here"] []) : DOk P w K mg base 2 "_law_is_table" m__law_is_table 2 :=
 dok_of F sc__law_is_table hm hb fun cdv A outer s H E C => b__law_is_table T D__law_whole C
abbrev X__law_is_pair (P : Program) (w : World) (K : PySem.W.Frag) (mg : Str → Option Value) (base : Heap) (f : Addr) (cdv : Value) (A : Around) (outer : List Env) (s : Shared) (H : Hp) (E : XK) : Cx := cxOf (L2.CX P w) P w K mg base N__law_is_pair "_law_is_pair" (defScope s__law_is_pair) f cdv A outer s H E
theorem b__law_is_pair (T : Txt K mg) (D__law_is_rule : DOk P w K mg base 2 "_law_is_rule" m__law_is_rule 2) (D__law_is_table : DOk P w K mg base 2 "_law_is_table" m__law_is_table 2) {f : Addr} {cdv : Value} {A : Around} {outer : List Env} {s : Shared} {H : Hp} {E : XK} (C : Cb (X__law_is_pair P w K mg base f cdv A outer s H E) (WEx E) 2) : GSs (X__law_is_pair P w K mg base f cdv A outer s H E) (WEx E) (defBody s__law_is_pair) d__law_is_pair :=
 (gss_cons (gs_if (GW.pt (gw_or (gt_not (gt_val (ge_isi T.g_isinstance T.g_tuple (ge_var 0)))) (gw_or1 (gt_cmp (op_neD C.cc.hu) ok_ne (ge_callB call_lenX vc_len T.g_len (ga_cons (ge_var 0) ga_nil)) ge_int rfl))))
 (gss_one (gs_ret (gv_ge ge_bl)))
 gss_nil)
 (gss_gh [] (gss_one (gs_ret (gv_ge (ge_and (ge_call C.cc D__law_is_rule (by decide) (ga_cons (ge_ix C.cc.hu (ge_var 0) ge_int) (ga_cons (ge_var 1) ga_nil))) (ge_one (ge_call C.cc D__law_is_table (by decide) (ga_cons (ge_ix C.cc.hu (ge_var 0) ge_int) (ga_cons (ge_var 1) ga_nil))))))))))
theorem ok__law_is_pair (T : Txt K mg) (D__law_is_rule : DOk P w K mg base 2 "_law_is_rule" m__law_is_rule 2) (D__law_is_table : DOk P w K mg base 2 "_law_is_table" m__law_is_table 2) {f : Addr} {fd : FuncData} (F : Fun K "_law_is_pair" "_law_is_pair" s__law_is_pair f fd) (hm : mg "_law_is_pair" = some (.ref f)) (hb : Binds K fd ["_law_pair", "_law_game_here"] []) : DOk P w K mg base 3 "_law_is_pair" m__law_is_pair 2 :=
 dok_of F sc__law_is_pair hm hb fun cdv A outer s H E C => b__law_is_pair T D__law_is_rule D__law_is_table C
abbrev X__law_first (P : Program) (w : World) (K : PySem.W.Frag) (mg : Str → Option Value) (base : Heap) (f : Addr) (cdv : Value) (A : Around) (outer : List Env) (s : Shared) (H : Hp) (E : XK) : Cx := cxOf (L2.CX P w) P w K mg base N__law_first "_law_first" (defScope s__law_first) f cdv A outer s H E
theorem b__law_first (T : Txt K mg)  {f : Addr} {cdv : Value} {A : Around} {outer : List Env} {s : Shared} {H : Hp} {E : XK} (C : Cb (X__law_first P w K mg base f cdv A outer s H E) (WEx E) 0) : GSs (X__law_first P w K mg base f cdv A outer s H E) (WEx E) (defBody s__law_first) d__law_first :=
 (gss_cons (gs_set C.cc (ge_lst ga_nil))
 (gss_gh [] (gss_cons (gs_for [2, 3] C.own C.cc (gi_list (ge_var 0)) (gg_tup C.cc.calm (ggs_cons (gg_name C.cc.nd) (ggs_cons (gg_name C.cc.nd) ggs_nil)))
 (gss_one (gs_if (gt_cmp (op_eqD C.cc.hu) ok_eq (ge_var 3) ge_int rfl)
 (gss_cons (gs_append (gp_var 1) (gvs_cons (gv_ge (ge_callB (cr_min C.cc.calm) vc_min1 T.g_min (ga_cons (ge_lc C.cc (gi_list (ge_var 2)) (own := [("_law_way", 4)]) (blk_of (N := N__law_first) (sc := defScope s__law_first) rfl rfl (by decide +kernel)) (by rintro _ ⟨_, _, _, _, _, rfl⟩ C'; exact ⟨(gc_name C'.nd), gts_nil, (ge_ix C'.hu (ge_var 4) ge_int)⟩)) ga_nil))) gvs_nil))
 (gss_gh [] gss_nil))
 (gss_cons (gs_append (gp_var 1) (gvs_cons (gv_ge ge_non) gvs_nil))
 (gss_gh [] gss_nil)))))
 (gss_gh [] (gss_one (gs_ret (gv_var 1)))))))
theorem ok__law_first (T : Txt K mg)  {f : Addr} {fd : FuncData} (F : Fun K "_law_first" "_law_first" s__law_first f fd) (hm : mg "_law_first" = some (.ref f)) (hb : Binds K fd ["_law_game_here"] []) : DOk P w K mg base 1 "_law_first" m__law_first 1 :=
 dok_of F sc__law_first hm hb fun cdv A outer s H E C => b__law_first T  C
abbrev X__law_rows_hold (P : Program) (w : World) (K : PySem.W.Frag) (mg : Str → Option Value) (base : Heap) (f : Addr) (cdv : Value) (A : Around) (outer : List Env) (s : Shared) (H : Hp) (E : XK) : Cx := cxOf (L2.CX P w) P w K mg base N__law_rows_hold "_law_rows_hold" (defScope s__law_rows_hold) f cdv A outer s H E
theorem b__law_rows_hold (T : Txt K mg) (D__law_first : DOk P w K mg base 1 "_law_first" m__law_first 1) (D__law_is_pair : DOk P w K mg base 3 "_law_is_pair" m__law_is_pair 2) (D_needs : DOk P w K mg base 3 "needs" m_needs 2) (D__law_more : DOk P w K mg base 1 "_law_more" m__law_more 2) (D__law_next : DOk P w K mg base 2 "_law_next" m__law_next 3) {f : Addr} {cdv : Value} {A : Around} {outer : List Env} {s : Shared} {H : Hp} {E : XK} (C : Cb (X__law_rows_hold P w K mg base f cdv A outer s H E) (WEx E) 3) : GSs (X__law_rows_hold P w K mg base f cdv A outer s H E) (WEx E) (defBody s__law_rows_hold) d__law_rows_hold :=
 (gss_cons (gs_set C.cc (ge_call C.cc D__law_first (by decide) (ga_cons (ge_var 0) ga_nil)))
 (gss_gh [] (gss_cons (gs_set C.cc (ge_mul (ge_lst (ga_cons ge_int ga_nil)) (ge_callB call_lenX vc_len T.g_len (ga_cons (ge_var 0) ga_nil))))
 (gss_gh [.frz 3] (gss_cons (gs_for [4, 5, 6] C.own C.cc (gi_list (ge_var 1)) (gg_name C.cc.nd)
 (gss_cons (gs_if (GW.pt (gw_or (gt_not (gt_val (ge_call C.cc D__law_is_pair (by decide) (ga_cons (ge_var 6) (ga_cons (ge_var 0) ga_nil))))) (gw_or (gt_cmp (op_neD C.cc.hu) ok_ne (ge_ix C.cc.hu (ge_var 6) ge_int) (ge_var 2) rfl) (gw_or1 (gt_cmp (op_neD C.cc.hu) ok_ne (ge_ix C.cc.hu (ge_var 6) ge_int) (ge_call C.cc D_needs (by decide) (ga_cons (ge_var 0) (ga_cons (ge_callTy call_list_of vc_list T.g_list (ga_cons (ge_var 2) ga_nil)) ga_nil))) rfl)))))
 (gss_one (gs_ret (gv_ge ge_bl)))
 gss_nil)
 (gss_gh [] (gss_cons (gs_for [4, 5] C.own C.cc (gi_zip T.g_zip (ga_cons (ge_var 3) (ga_cons (ge_ix C.cc.hu (ge_var 6) ge_int) ga_nil))) (gg_tup C.cc.calm (ggs_cons (gg_name C.cc.nd) (ggs_cons (gg_name C.cc.nd) ggs_nil)))
 (gss_one (gs_if (gt_val (ge_call C.cc D__law_more (by decide) (ga_cons (ge_var 5) (ga_cons (ge_var 4) ga_nil))))
 (gss_one (gs_ret (gv_ge ge_bl)))
 gss_nil)))
 (gss_gh [] (gss_cons (gs_set C.cc (ge_ix C.cc.hu (ge_var 6) ge_int))
 (gss_gh [] (gss_cons (gs_set C.cc (ge_call C.cc D__law_next (by decide) (ga_cons (ge_var 0) (ga_cons (ge_ix C.cc.hu (ge_var 6) ge_int) (ga_cons (ge_ix C.cc.hu (ge_var 6) ge_int) ga_nil)))))
 (gss_gh [] gss_nil)))))))))
 (gss_gh [] (gss_one (gs_ret (gv_ge (ge_cmp (op_eqD C.cc.hu) ok_eq (ge_var 2) (ge_ix C.cc.hu (ge_ix C.cc.hu (ge_var 1) (ge_neg ge_int)) ge_int) rfl))))))))))
theorem ok__law_rows_hold (T : Txt K mg) (D__law_first : DOk P w K mg base 1 "_law_first" m__law_first 1) (D__law_is_pair : DOk P w K mg base 3 "_law_is_pair" m__law_is_pair 2) (D_needs : DOk P w K mg base 3 "needs" m_needs 2) (D__law_more : DOk P w K mg base 1 "_law_more" m__law_more 2) (D__law_next : DOk P w K mg base 2 "_law_next" m__law_next 3) {f : Addr} {fd : FuncData} (F : Fun K "_law_rows_hold" "_law_rows_hold" s__law_rows_hold f fd) (hm : mg "_law_rows_hold" = some (.ref f)) (hb : Binds K fd ["_law_game_here", "_law_pairs"] []) : DOk P w K mg base 4 "_law_rows_hold" m__law_rows_hold 2 :=
 dok_of F sc__law_rows_hold hm hb fun cdv A outer s H E C => b__law_rows_hold T D__law_first D__law_is_pair D_needs D__law_more D__law_next C
abbrev X_law (P : Program) (w : World) (K : PySem.W.Frag) (mg : Str → Option Value) (base : Heap) (f : Addr) (cdv : Value) (A : Around) (outer : List Env) (s : Shared) (H : Hp) (E : XK) : Cx := cxOf (L2.CX P w) P w K mg base N_law "law" (defScope s_law) f cdv A outer s H E
theorem b_law (T : Txt K mg) (D__law_game : DOk P w K mg base 2 "_law_game" m__law_game 1) (D__law_copied : DOk P w K mg base 1 "_law_copied" m__law_copied 1) (D_betterings : DOk P w K mg base 4 "betterings" m_betterings 1) (D__law_rows_hold : DOk P w K mg base 4 "_law_rows_hold" m__law_rows_hold 2) {f : Addr} {cdv : Value} {A : Around} {outer : List Env} {s : Shared} {H : Hp} {E : XK} (C : Cb (X_law P w K mg base f cdv A outer s H E) (WEx E) 4) : GSs (X_law P w K mg base f cdv A outer s H E) (WEx E) (defBody s_law) d_law :=
 (gss_cons (gs_set C.cc (ge_call C.cc D__law_game (by decide) (ga_cons (ge_var 0) ga_nil)))
 (gss_gh [] (gss_cons (gs_set C.cc (ge_callV C.cc D__law_copied (by decide) (ga_cons (ge_var 1) ga_nil)))
 (gss_gh [] (gss_cons (gs_set C.cc (ge_call C.cc D_betterings (by decide) (ga_cons (ge_var 2) ga_nil)))
 (gss_gh [] (gss_cons (gs_if (GW.pt (gw_or (gt_not (gt_val (ge_isi T.g_isinstance T.g_list (ge_var 3)))) (gw_or (gt_cmp (op_eqD C.cc.hu) ok_eq (ge_callB call_lenX vc_len T.g_len (ga_cons (ge_var 3) ga_nil)) ge_int rfl) (gw_or1 (gt_not (gt_val (ge_call C.cc D__law_rows_hold (by decide) (ga_cons (ge_var 1) (ga_cons (ge_var 3) ga_nil)))))))))
 (gss_one (gs_ret (gv_ge ge_bl)))
 gss_nil)
 (gss_gh [] (gss_cons (gs_setLcV C.cc (gi_list (ge_var 3)) (own := [("_law_rule", 6), ("_law_table", 5)]) (blk_of (N := N_law) (sc := defScope s_law) rfl rfl (by decide +kernel)) (by rintro _ ⟨_, _, _, _, _, rfl⟩ C'; exact ⟨(gc_tup C'.calm (gcs_cons (gc_name C'.nd) (gcs_cons (gc_name C'.nd) gcs_nil))), gts_nil, (ge_tup (ga_cons (ge_callTy call_list_of vc_list T.g_list (ga_cons (ge_var 6) ga_nil)) (ga_cons (ge_callTy call_list_of vc_list T.g_list (ga_cons (ge_var 5) ga_nil)) ga_nil)))⟩))
 (gss_gh [] (gss_cons (gs_forT 3 6 5 C.own C.cc
 (gss_cons (gs_append (gp_var 6) (gvs_cons (gv_ge ge_int) gvs_nil))
 (gss_gh [] (gss_cons (gs_meth0 PySem.F.plainAttrs_list PySem.F.slot_list_clear PySem.F.type_list_clear mt_clear mtt_clear (by decide) (gp_var 5))
 (gss_gh [] gss_nil)))))
 (gss_gh [] (gss_cons (gs_meth0 PySem.F.plainAttrs_list PySem.F.slot_list_clear PySem.F.type_list_clear mt_clear mtt_clear (by decide) (gp_var 3))
 (gss_gh [] (gss_one (gs_ret (gv_ge (ge_and (ge_cmp (op_eqD C.cc.hu) ok_eq (ge_call C.cc D_betterings (by decide) (ga_cons (ge_var 2) ga_nil)) (ge_var 4) rfl) (ge_and (ge_cmp (op_eqD C.cc.hu) ok_eq (ge_var 2) (ge_var 1) rfl) (ge_one (ge_cmp (op_eqD C.cc.hu) ok_eq (ge_call C.cc D_betterings (by decide) (ga_cons (ge_lst ga_nil) ga_nil)) (ge_lst (ga_cons (ge_tup (ga_cons (ge_lst ga_nil) (ga_cons (ge_lst ga_nil) ga_nil))) ga_nil)) rfl)))))))))))))))))))))
theorem fn_law (T : Txt K mg) (D__law_game : DOk P w K mg base 2 "_law_game" m__law_game 1) (D__law_copied : DOk P w K mg base 1 "_law_copied" m__law_copied 1) (D_betterings : DOk P w K mg base 4 "betterings" m_betterings 1) (D__law_rows_hold : DOk P w K mg base 4 "_law_rows_hold" m__law_rows_hold 2) {f : Addr} {fd : FuncData} (F : Fun K "law" "law" s_law f fd) : FnOk P w K mg base (L2.CX P w) 5 f fd ["_law_script"] (spD K mg m_law 1) :=
 fnD F sc_law fun cdv A outer s H E C => b_law T D__law_game D__law_copied D_betterings D__law_rows_hold C
end
end K
namespace K
open PySem PySem.Spec L2 DL
def f_need_by (purses1 : (List (Option Int))) (place2 : Int) (amount3 : Int) : M (Option Int) :=
 ((ix purses1 place2).bind fun v4 => M.ok v4.isNone).bind fun z11 => if z11 then
 (M.ok none)
 else (((((ix purses1 place2).bind fun v6 => unO v6).bind fun v7 => M.ok (v7 - amount3)).bind fun v9 => M.ok (if v9 > 0 then v9 else 0)).bind fun r10 => M.ok (some r10))
theorem mr_need_by (purses1 : (List (Option Int))) (place2 : Int) (amount3 : Int) : FQ (m_need_by [(eL (eO eI)) purses1, eI place2, eI amount3]) (f_need_by purses1 place2 amount3) (oF (eO eI)) := by
 refine fq_sem (ρ := [some (oF (eL (eO eI)) purses1), some (oF eI place2), some (oF eI amount3)]) rfl ?_
 unfold f_need_by d_need_by
 refine sim_ifK_m (tq_m (rq_mp (s := (rO (oF eB))) (rq_pp (s := (rO (oF (eO eI)))) (pq_varF (d := (eL (eO eI)) purses1) rfl) (pq_varF (d := eI place2) rfl) (o_ixF rfl)) rfl fun v4 => (rq_of (o_isn (e := eI) (td_o (s := (oF (eO eI)))) rfl)))) ?_ ?_
 ·refine sim_seq_end ?_
  exact sim_ret_p (vp_ow rfl) ⟨.inl ⟨_, rfl⟩, (.inl rfl)⟩
 ·refine sim_nil (sim_gh (ρ1 := [some (oF (eL (eO eI)) purses1), some (oF eI place2), some (oF eI amount3)]) gh_n ?_)
  exact sim_ret (so := (oF eI)) (inj := fun r10 => (some r10)) (vq_ow (s := (oF eI)) (rq_callB (s := (rO (oF eI))) (aq_pm rfl (aq_mp (rq_mp (s := (rO (oF eI))) (rq_bind (rq_pp (s := (rO (oF (eO eI)))) (pq_varF (d := (eL (eO eI)) purses1) rfl) (pq_varF (d := eI place2) rfl) (o_ixF rfl)) fun v6 e => rq_unF e) (pq_varF (d := eI amount3) rfl) fun v7 => (rq_of rfl)) aq_nil)) fun v9 => (rq_of rfl))) (fun _ => (.inl rfl))
def f_is_more (one1 : (Option Int)) (other2 : (Option Int)) : M Bool :=
 optC other2 (M.ok false) fun other3 =>
 M.ok (optC one1 true fun one4 => decide (other3 < one4))
theorem mr_is_more (one1 : (Option Int)) (other2 : (Option Int)) : FQ (m_is_more [(eO eI) one1, (eO eI) other2]) (f_is_more one1 other2) (oF eB) := by
 refine fq_sem (ρ := [some (oF (eO eI) one1), some (oF (eO eI) other2)]) rfl ?_
 unfold f_is_more d_is_more
 refine sim_optKN (fun (v7 : (Option Int)) => [some (oF (eO eI) one1), some (oF (eO eI) v7)]) (fun v8 => (tq_p (pq_bin (pq_varF (d := (eO eI) v8) rfl) rfl (o_isn (e := eI) (td_o (s := (oF (eO eI)))) rfl)))) ?_ (fun other3 => ?_)
 ·refine sim_seq_end ?_
  exact sim_ret_p (vp_ow rfl) ⟨.inl ⟨_, rfl⟩, (.inl rfl)⟩
 ·refine sim_nil (sim_gh (ρ1 := [some (oF (eO eI) one1), some (oF eI other3)]) gh_n ?_)
  exact sim_ret_p (vp_ow (rq_ok (s := (rO (oF eB))) (vq_or (mo := .ok (optC one1 true fun one4 => decide (other3 < one4))) (tq_of (tq_orN_p (fun (v5 : (Option Int)) => [some (oF (eO eI) v5), some (oF eI other3)]) (fun v6 => (tq_p (pq_bin (pq_varF (d := (eO eI) v6) rfl) rfl (o_isn (e := eI) (td_o (s := (oF (eO eI)))) rfl)))) (fun one4 => (tq_p (pq_bin (pq_varF (d := eI one4) rfl) (pq_varF (d := eI other3) rfl) o_gt)))))))) (.inl rfl)
def f_steered (game1 : (List (Int × (List (Int × Int))))) (rule2 : (List (Option Int))) : M (List (List (Int × Int))) :=
 if (!decide ((rule2.length : Int) = (game1.length : Int))) then
 (M.ex "NoRule")
 else ((forM (fun (p3 : ((Int × (List (Int × Int))) × (Option Int))) (b11 : (List (List (Int × Int)))) =>
 if (decide (p3.1.1 = 0) && (!p3.2.isNone)) then
 (M.ex "NoRule")
 else ((if decide (p3.1.1 = 1) then
 ((compFP (fun (one14 : (Int × Int)) => decide ((some one14.1) = p3.2)) (fun (one14 : (Int × Int)) => one14) p3.1.2).bind fun ways15 =>
 M.ok ways15)
 else (M.ok p3.1.2)).bind fun (b16 : (List (Int × Int))) =>
 if decide ((b16.length : Int) = 0) then
 (M.ex "NoRule")
 else ((appM b11 b16).bind fun left17 =>
 M.ok left17))) (game1.zip rule2) ([] : (List (List (Int × Int))))).bind fun (b11 : (List (List (Int × Int)))) =>
 M.ok b11)
theorem mr_steered (game1 : (List (Int × (List (Int × Int))))) (rule2 : (List (Option Int))) : FQ (m_steered [(eL (eT2 eI (eL (eT2 eI eI)))) game1, (eL (eO eI)) rule2]) (f_steered game1 rule2) (oL (oF (eL (eT2 eI eI)))) := by
 refine fq_sem (ρ := [some (oF (eL (eT2 eI (eL (eT2 eI eI)))) game1), some (oF (eL (eO eI)) rule2), none, none, none, none, none, none]) rfl ?_
 unfold f_steered d_steered
 refine sim_ifK_p (tq_p (pq_bin (pq_callB (aq_pp (pq_varF (d := (eL (eO eI)) rule2) rfl) aq_nil) (o_len rfl (by simp))) (pq_callB (aq_pp (pq_varF (d := (eL (eT2 eI (eL (eT2 eI eI)))) game1) rfl) aq_nil) (o_len rfl (by simp))) (o_ne (e := eI) (by decide) (td_o (s := (oF eI)) (x := (rule2.length : Int))) (td_o (s := (oF eI)) (x := (game1.length : Int)))))) ?_ ?_
 ·refine sim_seq_end ?_
  exact sim_raise
 ·refine sim_nil (sim_gh (ρ1 := [some (oF (eL (eT2 eI (eL (eT2 eI eI)))) game1), some (oF (eL (eO eI)) rule2), none, none, none, none, none, none]) gh_n ?_)
  refine sim_p (ρ1 := [some (oF (eL (eT2 eI (eL (eT2 eI eI)))) game1), some (oF (eL (eO eI)) rule2), some (oL (oF (eL (eT2 eI eI))) ([] : (List (List (Int × Int))))), none, none, none, none, none]) (set_p (pq_lst aq_nil rfl rfl)) gh_n ?_
  refine sim_s (upd := fun (b11 : (List (List (Int × Int)))) => [some (oF (eL (eT2 eI (eL (eT2 eI eI)))) game1), some (oF (eL (eO eI)) rule2), some (oL (oF (eL (eT2 eI eI))) b11), none, none, none, none, none]) ?_ (fun b11 => gh_n) fun b11 => ?_
  ·refine sim_for (upb := (fun (b11 : (List (List (Int × Int)))) => [some (oF (eL (eT2 eI (eL (eT2 eI eI)))) game1), some (oF (eL (eO eI)) rule2), some (oL (oF (eL (eT2 eI eI))) b11), none, none, none, none, none])) (upx := (fun (p3 : ((Int × (List (Int × Int))) × (Option Int))) (b11 : (List (List (Int × Int)))) => [some (oF (eL (eT2 eI (eL (eT2 eI eI)))) game1), some (oF (eL (eO eI)) rule2), some (oL (oF (eL (eT2 eI eI))) b11), none, none, some (oF (eO eI) p3.2), some (oF (eT2 eI (eL (eT2 eI eI))) p3.1), none])) (iq_args0 (aq_pp (pq_varF (d := (eL (eT2 eI (eL (eT2 eI eI)))) game1) rfl) (aq_pp (pq_varF (d := (eL (eO eI)) rule2) rfl) aq_nil)) rfl (d_cons (td_o (s := (oF (eL (eT2 eI (eL (eT2 eI eI))))))) (d_cons (td_o (s := (oF (eL (eO eI))))) d_nil)) g_zip) rfl (fun _ _ => rfl) fun p3 b11 => ?_
   refine sim_p (ρ1 := [some (oF (eL (eT2 eI (eL (eT2 eI eI)))) game1), some (oF (eL (eO eI)) rule2), some (oL (oF (eL (eT2 eI eI))) b11), some (oF (eL (eT2 eI eI)) p3.1.2), some (oF eI p3.1.1), some (oF (eO eI) p3.2), some (oF (eT2 eI (eL (eT2 eI eI))) p3.1), none]) (unp_p (s := (oF (eT2 eI (eL (eT2 eI eI))))) (pq_varF (d := (eT2 eI (eL (eT2 eI eI))) p3.1) rfl) rfl) gh_n ?_
   refine sim_ifK_p (tq_and_pp (tq_p (pq_bin (pq_varF (d := eI p3.1.1) rfl) rfl (o_eq (e := eI) (by decide) (td_o (s := (oF eI))) (td_o (s := (oF eI)))))) (tq_p (pq_bin (pq_varF (d := (eO eI) p3.2) rfl) rfl (o_isnt (e := eI) (td_o (s := (oF (eO eI)))) rfl)))) ?_ ?_
   ·refine sim_seq_end ?_
    exact sim_raise
   ·refine sim_nil (sim_gh (ρ1 := [some (oF (eL (eT2 eI (eL (eT2 eI eI)))) game1), some (oF (eL (eO eI)) rule2), some (oL (oF (eL (eT2 eI eI))) b11), some (oF (eL (eT2 eI eI)) p3.1.2), some (oF eI p3.1.1), some (oF (eO eI) p3.2), some (oF (eT2 eI (eL (eT2 eI eI))) p3.1), none]) gh_n ?_)
    refine sim_j (up := fun (b16 : (List (Int × Int))) => [some (oF (eL (eT2 eI (eL (eT2 eI eI)))) game1), some (oF (eL (eO eI)) rule2), some (oL (oF (eL (eT2 eI eI))) b11), some (oF (eL (eT2 eI eI)) b16), some (oF eI p3.1.1), some (oF (eO eI) p3.2), some (oF (eT2 eI (eL (eT2 eI eI))) p3.1), none]) ?_ fun b16 => ?_
    ·refine sim_if_p (tq_p (pq_bin (pq_varF (d := eI p3.1.1) rfl) rfl (o_eq (e := eI) (by decide) (td_o (s := (oF eI))) (td_o (s := (oF eI)))))) ?_ ?_
     ·refine sim_s (upd := fun ways15 => [some (oF (eL (eT2 eI (eL (eT2 eI eI)))) game1), some (oF (eL (eO eI)) rule2), some (oL (oF (eL (eT2 eI eI))) b11), some (oL (oF (eT2 eI eI)) ways15), some (oF eI p3.1.1), some (oF (eO eI) p3.2), some (oF (eT2 eI (eL (eT2 eI eI))) p3.1), none]) ?_ (fun ways15 => gh_n) fun ways15 => ?_
      ·exact (set_m (s := (oL (oF (eT2 eI eI)))) (rq_compFP (ρx := (fun (one14 : (Int × Int)) => [some (oF (eL (eT2 eI (eL (eT2 eI eI)))) game1), some (oF (eL (eO eI)) rule2), some (oL (oF (eL (eT2 eI eI))) b11), some (oF (eL (eT2 eI eI)) p3.1.2), some (oF eI p3.1.1), some (oF (eO eI) p3.2), some (oF (eT2 eI (eL (eT2 eI eI))) p3.1), some (oF (eT2 eI eI) one14)])) (s := (oF (eT2 eI eI))) (iq_list (mi := .ok p3.1.2) (sL := (oF (eL (eT2 eI eI)))) (rq_of (pq_varF (d := (eL (eT2 eI eI)) p3.1.2) rfl))) (fun _ => rfl) (fun one14 => (tq_p (pq_bin (pq_bin (pq_varF (d := (eT2 eI eI) one14) rfl) rfl (o_t0 (o := oF eI one14.1) rfl)) (pq_varF (d := (eO eI) p3.2) rfl) (o_eq (e := (eO eI)) (by decide) (td_o (s := (oF (eO eI))) (x := (some one14.1))) (td_o (s := (oF (eO eI)))))))) (fun one14 => (pq_varF (d := (eT2 eI eI) one14) rfl))))
      exact sim_end ⟨_, rfl, (gh_z (s := (oL (oF (eT2 eI eI)))) (x := ways15) rfl gh_n)⟩
     ·exact sim_end ⟨_, rfl, (gh_z (s := (oF (eL (eT2 eI eI)))) (x := p3.1.2) rfl gh_n)⟩
    refine sim_ifK_p (tq_p (pq_bin (pq_callB (aq_pp (pq_varF (d := (eL (eT2 eI eI)) b16) rfl) aq_nil) (o_len rfl (by simp))) rfl (o_eq (e := eI) (by decide) (td_o (s := (oF eI)) (x := (b16.length : Int))) (td_o (s := (oF eI)))))) ?_ ?_
    ·refine sim_seq_end ?_
     exact sim_raise
    ·refine sim_nil (sim_gh (ρ1 := [some (oF (eL (eT2 eI (eL (eT2 eI eI)))) game1), some (oF (eL (eO eI)) rule2), some (oL (oF (eL (eT2 eI eI))) b11), some (oF (eL (eT2 eI eI)) b16), some (oF eI p3.1.1), some (oF (eO eI) p3.2), some (oF (eT2 eI (eL (eT2 eI eI))) p3.1), none]) gh_n ?_)
     refine sim_s (upd := fun left17 => [some (oF (eL (eT2 eI (eL (eT2 eI eI)))) game1), some (oF (eL (eO eI)) rule2), some (oL (oF (eL (eT2 eI eI))) left17), some (oF (eL (eT2 eI eI)) b16), some (oF eI p3.1.1), some (oF (eO eI) p3.2), some (oF (eT2 eI (eL (eT2 eI eI))) p3.1), none]) ?_ (fun left17 => gh_n) fun left17 => ?_
     ·refine (sim_meth (s := (oL (oF (eL (eT2 eI eI))))) (ρ' := [some (oF (eL (eT2 eI (eL (eT2 eI eI)))) game1), some (oF (eL (eO eI)) rule2), some (oL (oF (eL (eT2 eI eI))) b11), some (oF (eL (eT2 eI eI)) b16), some (oF eI p3.1.1), some (oF (eO eI) p3.2), some (oF (eT2 eI (eL (eT2 eI eI))) p3.1), none]) (i := 2) (sA := (oL (oF (eL (eT2 eI eI))))) (as := [oF (eL (eT2 eI eI)) b16]) (md := (fun (f : (List (List (Int × Int))) → M (List (List (Int × Int)))) => f b11)) (F := fun (y : (List (List (Int × Int)))) => appM y b16) ?_ (fun _ => rfl) ?_ ?_ ?_ ?_)
      ·exact (mq_var (s := (oL (oF (eL (eT2 eI eI))))) (x := b11) rfl)
      ·exact (vs_pp (vp_mvF rfl) vs_nil)
      ·exact rfl
      ·exact (gq_append (t := (oF (eL (eT2 eI eI)))))
      ·exact (fun _ => rfl)
     exact sim_end ⟨_, .inl rfl, rfl⟩
  exact sim_ret_p (vp_mvL rfl) (.inl rfl)
def f_farther (left1 : (List (List (Int × Int)))) (best2 : (List (Option Int))) : M (List (Option Int)) :=
 lt (best2 : (List (Option Int))) fun after3 =>
 (forM (fun (p4 : ((Option Int) × (List (Int × Int)))) (b33 : (List (Option Int))) =>
 optC p4.1 (M.ok b33) fun purse34 =>
 (forM (fun (p35 : (Int × Int)) (b47 : (List (Option Int))) =>
 (if decide (0 ≤ (purse34 + p35.2)) then (((ix b47 p35.1).bind fun v48 => M.ok v48.isNone).bind fun z53 => if z53 then M.ok true else (((ix b47 p35.1).bind fun v50 => unO v50).bind fun v51 => M.ok (decide (v51 < (purse34 + p35.2))))) else M.ok false).bind fun z57 => if z57 then
 ((setM b47 p35.1 (some (purse34 + p35.2))).bind fun after54 =>
 M.ok after54)
 else (M.ok b47)) p4.2 b33).bind fun (b47 : (List (Option Int))) =>
 M.ok b47) (best2.zip left1) after3).bind fun (b33 : (List (Option Int))) =>
 M.ok b33
theorem mr_farther (left1 : (List (List (Int × Int)))) (best2 : (List (Option Int))) : FQ (m_farther [(eL (eL (eT2 eI eI))) left1, (eL (eO eI)) best2]) (f_farther left1 best2) (oL (oF (eO eI))) := by
 refine fq_sem (ρ := [some (oF (eL (eL (eT2 eI eI))) left1), some (oF (eL (eO eI)) best2), none, none, none, none, none]) rfl ?_
 unfold f_farther d_farther
 refine sim_l (upd := fun after3 => [some (oF (eL (eL (eT2 eI eI))) left1), some (oF (eL (eO eI)) best2), some (oL (oF (eO eI)) after3), none, none, none, none]) (set_p (pq_callB (aq_pp (pq_varF (d := (eL (eO eI)) best2) rfl) aq_nil) (o_list seq_fL fz_L))) (fun after3 => gh_n) fun after3 => ?_
 refine sim_s (upd := fun (b33 : (List (Option Int))) => [some (oF (eL (eL (eT2 eI eI))) left1), some (oF (eL (eO eI)) best2), some (oL (oF (eO eI)) b33), none, none, none, none]) ?_ (fun b33 => gh_n) fun b33 => ?_
 ·refine sim_for (upb := (fun (b33 : (List (Option Int))) => [some (oF (eL (eL (eT2 eI eI))) left1), some (oF (eL (eO eI)) best2), some (oL (oF (eO eI)) b33), none, none, none, none])) (upx := (fun (p4 : ((Option Int) × (List (Int × Int)))) (b33 : (List (Option Int))) => [some (oF (eL (eL (eT2 eI eI))) left1), some (oF (eL (eO eI)) best2), some (oL (oF (eO eI)) b33), none, none, some (oF (eL (eT2 eI eI)) p4.2), some (oF (eO eI) p4.1)])) (iq_args0 (aq_pp (pq_varF (d := (eL (eO eI)) best2) rfl) (aq_pp (pq_varF (d := (eL (eL (eT2 eI eI))) left1) rfl) aq_nil)) rfl (d_cons (td_o (s := (oF (eL (eO eI))))) (d_cons (td_o (s := (oF (eL (eL (eT2 eI eI)))))) d_nil)) g_zip) rfl (fun _ _ => rfl) fun p4 b33 => ?_
  refine sim_optS (fun (v59 : (Option Int)) => [some (oF (eL (eL (eT2 eI eI))) left1), some (oF (eL (eO eI)) best2), some (oL (oF (eO eI)) b33), none, none, some (oF (eL (eT2 eI eI)) p4.2), some (oF (eO eI) v59)]) (fun v60 => (tq_p (pq_bin (pq_varF (d := (eO eI) v60) rfl) rfl (o_isnt (e := eI) (td_o (s := (oF (eO eI)))) rfl)))) (fun purse34 => ?_) ?_
  ·refine sim_s (upd := fun (b47 : (List (Option Int))) => [some (oF (eL (eL (eT2 eI eI))) left1), some (oF (eL (eO eI)) best2), some (oL (oF (eO eI)) b47), none, none, some (oF (eL (eT2 eI eI)) p4.2), some (oF eI purse34)]) ?_ (fun b47 => gh_n) fun b47 => ?_
   ·refine sim_for (upb := (fun (b47 : (List (Option Int))) => [some (oF (eL (eL (eT2 eI eI))) left1), some (oF (eL (eO eI)) best2), some (oL (oF (eO eI)) b47), none, none, some (oF (eL (eT2 eI eI)) p4.2), some (oF eI purse34)])) (upx := (fun (p35 : (Int × Int)) (b47 : (List (Option Int))) => [some (oF (eL (eL (eT2 eI eI))) left1), some (oF (eL (eO eI)) best2), some (oL (oF (eO eI)) b47), some (oF eI p35.2), some (oF eI p35.1), some (oF (eL (eT2 eI eI)) p4.2), some (oF eI purse34)])) (iq_list (mi := .ok p4.2) (sL := (oF (eL (eT2 eI eI)))) (rq_of (pq_varF (d := (eL (eT2 eI eI)) p4.2) rfl))) rfl (fun _ _ => rfl) fun p35 b47 => ?_
    refine sim_if_m (tq_and_pm (tq_p (pq_bin (pq_bin (pq_varF (d := eI purse34) rfl) (pq_varF (d := eI p35.2) rfl) rfl) rfl o_ge)) (tq_or_mm (tq_m (rq_mp (s := (rO (oF eB))) (rq_pp (s := (rO (oF (eO eI)))) (pq_var (o := oL (oF (eO eI)) b47) rfl) (pq_varF (d := eI p35.1) rfl) (o_ixLF rfl)) rfl fun v48 => (rq_of (o_isn (e := eI) (td_o (s := (oF (eO eI)))) rfl)))) (tq_m (rq_mp (s := (rO (oF eB))) (rq_bind (rq_pp (s := (rO (oF (eO eI)))) (pq_var (o := oL (oF (eO eI)) b47) rfl) (pq_varF (d := eI p35.1) rfl) (o_ixLF rfl)) fun v50 e => rq_unF e) (pq_bin (pq_varF (d := eI purse34) rfl) (pq_varF (d := eI p35.2) rfl) rfl) fun v51 => (rq_of o_lt))))) ?_ ?_
    ·refine sim_s (upd := fun after54 => [some (oF (eL (eL (eT2 eI eI))) left1), some (oF (eL (eO eI)) best2), some (oL (oF (eO eI)) after54), some (oF eI p35.2), some (oF eI p35.1), some (oF (eL (eT2 eI eI)) p4.2), some (oF eI purse34)]) ?_ (fun after54 => gh_n) fun after54 => ?_
     ·refine (sim_store (s := (oL (oF (eO eI)))) (ρ' := [some (oF (eL (eL (eT2 eI eI))) left1), some (oF (eL (eO eI)) best2), some (oL (oF (eO eI)) b47), some (oF eI p35.2), some (oF eI p35.1), some (oF (eL (eT2 eI eI)) p4.2), some (oF eI purse34)]) (i := 2) (sA := (oL (oF (eO eI)))) (o := oF eI (purse34 + p35.2)) (y := (rO (oF eI)) p35.1) (md := (fun (f : (List (Option Int)) → M (List (Option Int))) => f b47)) (F := fun (y : (List (Option Int))) => setM y p35.1 (some (purse34 + p35.2))) ?_ ?_ ?_ ?_ ?_)
      ·exact (vp_ow (pq_bin (pq_varF (d := eI purse34) rfl) (pq_varF (d := eI p35.2) rfl) rfl))
      ·exact (mq_var (s := (oL (oF (eO eI)))) (x := b47) rfl)
      ·exact (pq_varF (d := eI p35.1) rfl)
      ·exact (sq_list (t := (oF (eO eI))))
      ·exact (fun _ => rfl)
     exact sim_end ⟨_, .inl rfl, rfl⟩
    ·exact sim_end ⟨_, .inl rfl, rfl⟩
   exact sim_end ⟨_, .inl rfl, rfl⟩
  ·exact sim_end ⟨_, .inl rfl, rfl⟩
 exact sim_ret_p (vp_mvL rfl) (.inl rfl)
def f_is_rest (left1 : (List (List (Int × Int)))) (start2 : Int) : M Bool :=
 (repM ([none] : (List (Option Int))) (left1.length : Int)).bind fun best3 =>
 (setM best3 start2 (some 0)).bind fun best4 =>
 ((rngM 0 (left1.length : Int)).bind fun xs60 => forF (fun (turn7 : Int) (b34 : (List (Option Int))) =>
 (forF (fun (p35 : ((Option Int) × (List (Int × Int)))) (b47 : Unit) =>
 (forF (fun (p48 : (Int × Int)) (b53 : Unit) =>
 if (decide (p48.1 = start2) && (optC p35.1 false fun purse54 => decide (0 ≤ (purse54 + p48.2)))) then
 (M.ok (Fl.rt (Fl.rt (Fl.rt true))))
 else (M.ok (Fl.nx ()))) p35.2 ()).fl fun (b53 : Unit) =>
 M.ok (Fl.nx ())) (b34.zip left1) ()).fl fun (b47 : Unit) =>
 (f_farther left1 b34).bind fun after59 =>
 if decide (after59 = b34) then
 (M.ok (Fl.rt false))
 else (M.ok (Fl.nx after59))) xs60 best4).fl fun (b34 : (List (Option Int))) =>
 M.ok false
theorem mr_is_rest (left1 : (List (List (Int × Int)))) (start2 : Int) : FQ (m_is_rest [(eL (eL (eT2 eI eI))) left1, eI start2]) (f_is_rest left1 start2) (oF eB) := by
 refine fq_sem (ρ := [some (oF (eL (eL (eT2 eI eI))) left1), some (oF eI start2), none, none, none, none, none, none, none]) rfl ?_
 unfold f_is_rest d_is_rest
 refine sim_s (upd := fun best3 => [some (oF (eL (eL (eT2 eI eI))) left1), some (oF eI start2), some (oL (oF (eO eI)) best3), none, none, none, none, none, none]) ?_ (fun best3 => gh_n) fun best3 => ?_
 ·exact (set_m (s := (oL (oF (eO eI)))) (rq_pp (s := (rO (oL (oF (eO eI))))) (pq_lst (aq_pp rfl aq_nil) rfl rfl) (pq_callB (aq_pp (pq_varF (d := (eL (eL (eT2 eI eI))) left1) rfl) aq_nil) (o_len rfl (by simp))) (o_rep rfl)))
 refine sim_s (upd := fun best4 => [some (oF (eL (eL (eT2 eI eI))) left1), some (oF eI start2), some (oL (oF (eO eI)) best4), none, none, none, none, none, none]) (up := fun best4 => [some (oF (eL (eL (eT2 eI eI))) left1), some (oF eI start2), some (oF (eL (eO eI)) best4), none, none, none, none, none, none]) ?_ (fun best4 => (gh_z (s := (oL (oF (eO eI)))) (x := best4) rfl gh_n)) fun best4 => ?_
 ·refine (sim_store (s := (oL (oF (eO eI)))) (ρ' := [some (oF (eL (eL (eT2 eI eI))) left1), some (oF eI start2), some (oL (oF (eO eI)) best3), none, none, none, none, none, none]) (i := 2) (sA := (oL (oF (eO eI)))) (o := oF eI 0) (y := (rO (oF eI)) start2) (md := (fun (f : (List (Option Int)) → M (List (Option Int))) => f best3)) (F := fun (y : (List (Option Int))) => setM y start2 (some 0)) ?_ ?_ ?_ ?_ ?_)
  ·exact (vp_ow rfl)
  ·exact (mq_var (s := (oL (oF (eO eI)))) (x := best3) rfl)
  ·exact (pq_varF (d := eI start2) rfl)
  ·exact (sq_list (t := (oF (eO eI))))
  ·exact (fun _ => rfl)
 refine sim_sF (upd := fun (b34 : (List (Option Int))) => [some (oF (eL (eL (eT2 eI eI))) left1), some (oF eI start2), some (oF (eL (eO eI)) b34), none, none, none, none, none, none]) (up := fun (b34 : (List (Option Int))) => [some (oF (eL (eL (eT2 eI eI))) left1), some (oF eI start2), some (oF (eL (eO eI)) b34), none, none, none, none, none, none]) ?_ (fun b34 => gh_n) fun b34 => ?_
 ·refine sim_forI (iq_args0 (aq_pp (pq_callB (aq_pp (pq_varF (d := (eL (eL (eT2 eI eI))) left1) rfl) aq_nil) (o_len rfl (by simp))) aq_nil) rfl (d_cons (td_o (s := (oF eI)) (x := (left1.length : Int))) d_nil) g_range1) fun xs60 hi => ?_
  refine sim_forF (upb := (fun (b34 : (List (Option Int))) => [some (oF (eL (eL (eT2 eI eI))) left1), some (oF eI start2), some (oF (eL (eO eI)) b34), none, none, none, none, none, none])) (upx := (fun (turn7 : Int) (b34 : (List (Option Int))) => [some (oF (eL (eL (eT2 eI eI))) left1), some (oF eI start2), some (oF (eL (eO eI)) b34), none, none, none, none, none, some (oF eI turn7)])) hi rfl (fun _ _ => rfl) fun turn7 b34 => ?_
  refine sim_sF (upd := fun (b47 : Unit) => [some (oF (eL (eL (eT2 eI eI))) left1), some (oF eI start2), some (oF (eL (eO eI)) b34), none, none, none, none, none, some (oF eI turn7)]) (up := fun (b47 : Unit) => [some (oF (eL (eL (eT2 eI eI))) left1), some (oF eI start2), some (oF (eL (eO eI)) b34), none, none, none, none, none, some (oF eI turn7)]) ?_ (fun b47 => gh_n) fun b47 => ?_
  ·refine sim_forF (upb := (fun (b47 : Unit) => [some (oF (eL (eL (eT2 eI eI))) left1), some (oF eI start2), some (oF (eL (eO eI)) b34), none, none, none, none, none, some (oF eI turn7)])) (upx := (fun (p35 : ((Option Int) × (List (Int × Int)))) (b47 : Unit) => [some (oF (eL (eL (eT2 eI eI))) left1), some (oF eI start2), some (oF (eL (eO eI)) b34), none, none, none, some (oF (eL (eT2 eI eI)) p35.2), some (oF (eO eI) p35.1), some (oF eI turn7)])) (iq_args0 (aq_pp (pq_varF (d := (eL (eO eI)) b34) rfl) (aq_pp (pq_varF (d := (eL (eL (eT2 eI eI))) left1) rfl) aq_nil)) rfl (d_cons (td_o (s := (oF (eL (eO eI))))) (d_cons (td_o (s := (oF (eL (eL (eT2 eI eI)))))) d_nil)) g_zip) rfl (fun _ _ => rfl) fun p35 b47 => ?_
   refine sim_sF (upd := fun (b53 : Unit) => [some (oF (eL (eL (eT2 eI eI))) left1), some (oF eI start2), some (oF (eL (eO eI)) b34), none, none, none, some (oF (eL (eT2 eI eI)) p35.2), some (oF (eO eI) p35.1), some (oF eI turn7)]) (up := fun (b53 : Unit) => [some (oF (eL (eL (eT2 eI eI))) left1), some (oF eI start2), some (oF (eL (eO eI)) b34), none, none, none, some (oF (eL (eT2 eI eI)) p35.2), some (oF (eO eI) p35.1), some (oF eI turn7)]) ?_ (fun b53 => gh_n) fun b53 => ?_
   ·refine sim_forF (upb := (fun (b53 : Unit) => [some (oF (eL (eL (eT2 eI eI))) left1), some (oF eI start2), some (oF (eL (eO eI)) b34), none, none, none, some (oF (eL (eT2 eI eI)) p35.2), some (oF (eO eI) p35.1), some (oF eI turn7)])) (upx := (fun (p48 : (Int × Int)) (b53 : Unit) => [some (oF (eL (eL (eT2 eI eI))) left1), some (oF eI start2), some (oF (eL (eO eI)) b34), none, some (oF eI p48.2), some (oF eI p48.1), some (oF (eL (eT2 eI eI)) p35.2), some (oF (eO eI) p35.1), some (oF eI turn7)])) (iq_list (mi := .ok p35.2) (sL := (oF (eL (eT2 eI eI)))) (rq_of (pq_varF (d := (eL (eT2 eI eI)) p35.2) rfl))) rfl (fun _ _ => rfl) fun p48 b53 => ?_
    refine sim_if_p (tq_and_pp (tq_p (pq_bin (pq_varF (d := eI p48.1) rfl) (pq_varF (d := eI start2) rfl) (o_eq (e := eI) (by decide) (td_o (s := (oF eI))) (td_o (s := (oF eI)))))) (tq_andS_p (fun (v55 : (Option Int)) => [some (oF (eL (eL (eT2 eI eI))) left1), some (oF eI start2), some (oF (eL (eO eI)) b34), none, some (oF eI p48.2), some (oF eI p48.1), some (oF (eL (eT2 eI eI)) p35.2), some (oF (eO eI) v55), some (oF eI turn7)]) (fun v56 => (tq_p (pq_bin (pq_varF (d := (eO eI) v56) rfl) rfl (o_isnt (e := eI) (td_o (s := (oF (eO eI)))) rfl)))) (fun purse54 => (tq_p (pq_bin (pq_bin (pq_varF (d := eI purse54) rfl) (pq_varF (d := eI p48.2) rfl) rfl) rfl o_ge))))) ?_ ?_
    ·exact sim_ret_p (vp_ow rfl) ⟨.inl ⟨_, rfl⟩, ⟨.inl ⟨_, rfl⟩, ⟨.inl ⟨_, rfl⟩, (.inl rfl)⟩⟩⟩
    ·exact sim_end ⟨_, .inl rfl, rfl⟩
   exact sim_end ⟨_, .inl rfl, rfl⟩
  refine sim_s (upd := fun after59 => [some (oF (eL (eL (eT2 eI eI))) left1), some (oF eI start2), some (oF (eL (eO eI)) b34), some (oL (oF (eO eI)) after59), none, none, none, none, some (oF eI turn7)]) ?_ (fun after59 => gh_n) fun after59 => ?_
  ·exact (set_m (s := (oL (oF (eO eI)))) (rq_callF0 (aq_pp (pq_varF (d := (eL (eL (eT2 eI eI))) left1) rfl) (aq_pp (pq_varF (d := (eL (eO eI)) b34) rfl) aq_nil)) rfl (d_cons (td_o (s := (oF (eL (eL (eT2 eI eI)))))) (d_cons (td_o (s := (oF (eL (eO eI))))) d_nil)) (.inl rfl) (mr_farther left1 b34)))
  refine sim_ifK_p (tq_p (pq_bin (pq_var (o := oL (oF (eO eI)) after59) rfl) (pq_varF (d := (eL (eO eI)) b34) rfl) (o_eq (e := (eL (eO eI))) (by decide) (td_v (s := (oL (oF (eO eI))))) (td_o (s := (oF (eL (eO eI)))))))) ?_ ?_
  ·refine sim_seq_end ?_
   exact sim_ret_p (vp_ow rfl) ⟨.inl ⟨_, rfl⟩, ⟨.inl ⟨_, rfl⟩, (.inl rfl)⟩⟩
  ·refine sim_nil (sim_gh (ρ1 := [some (oF (eL (eL (eT2 eI eI))) left1), some (oF eI start2), some (oF (eL (eO eI)) b34), some (oF (eL (eO eI)) after59), none, none, none, none, some (oF eI turn7)]) (gh_z (s := (oL (oF (eO eI)))) (x := after59) rfl gh_n) ?_)
   refine sim_p (ρ1 := [some (oF (eL (eL (eT2 eI eI))) left1), some (oF eI start2), some (oF (eL (eO eI)) after59), some (oF (eL (eO eI)) after59), none, none, none, none, some (oF eI turn7)]) (set_p (pq_varF (d := (eL (eO eI)) after59) rfl)) gh_n ?_
   exact sim_end ⟨_, .inl rfl, rfl⟩
 exact sim_ret_p (vp_ow rfl) (.inl rfl)
def f_nearer (left1 : (List (List (Int × Int)))) (table2 : (List (Option Int))) : M (List (Option Int)) :=
 lt (table2 : (List (Option Int))) fun after3 =>
 (forM (fun (p4 : (Int × (List (Int × Int)))) (b22 : (List (Option Int))) =>
 (forM (fun (p23 : (Int × Int)) (b31 : (List (Option Int))) =>
 (f_need_by table2 p23.1 p23.2).bind fun need32 =>
 ((ix b31 p4.1).bind fun v33 => f_is_more v33 need32).bind fun z37 => if z37 then
 ((setM b31 p4.1 need32).bind fun after34 =>
 M.ok after34)
 else (M.ok b31)) p4.2 b22).bind fun (b31 : (List (Option Int))) =>
 M.ok b31) (enumL left1) after3).bind fun (b22 : (List (Option Int))) =>
 M.ok b22
theorem mr_nearer (left1 : (List (List (Int × Int)))) (table2 : (List (Option Int))) : FQ (m_nearer [(eL (eL (eT2 eI eI))) left1, (eL (eO eI)) table2]) (f_nearer left1 table2) (oL (oF (eO eI))) := by
 refine fq_sem (ρ := [some (oF (eL (eL (eT2 eI eI))) left1), some (oF (eL (eO eI)) table2), none, none, none, none, none, none]) rfl ?_
 unfold f_nearer d_nearer
 refine sim_l (upd := fun after3 => [some (oF (eL (eL (eT2 eI eI))) left1), some (oF (eL (eO eI)) table2), some (oL (oF (eO eI)) after3), none, none, none, none, none]) (set_p (pq_callB (aq_pp (pq_varF (d := (eL (eO eI)) table2) rfl) aq_nil) (o_list seq_fL fz_L))) (fun after3 => gh_n) fun after3 => ?_
 refine sim_s (upd := fun (b22 : (List (Option Int))) => [some (oF (eL (eL (eT2 eI eI))) left1), some (oF (eL (eO eI)) table2), some (oL (oF (eO eI)) b22), none, none, none, none, none]) ?_ (fun b22 => gh_n) fun b22 => ?_
 ·refine sim_for (upb := (fun (b22 : (List (Option Int))) => [some (oF (eL (eL (eT2 eI eI))) left1), some (oF (eL (eO eI)) table2), some (oL (oF (eO eI)) b22), none, none, none, none, none])) (upx := (fun (p4 : (Int × (List (Int × Int)))) (b22 : (List (Option Int))) => [some (oF (eL (eL (eT2 eI eI))) left1), some (oF (eL (eO eI)) table2), some (oL (oF (eO eI)) b22), none, none, none, some (oF (eL (eT2 eI eI)) p4.2), some (oF eI p4.1)])) (iq_args0 (aq_pp (pq_varF (d := (eL (eL (eT2 eI eI))) left1) rfl) aq_nil) rfl (d_cons (td_o (s := (oF (eL (eL (eT2 eI eI)))))) d_nil) g_enum) rfl (fun _ _ => rfl) fun p4 b22 => ?_
  refine sim_s (upd := fun (b31 : (List (Option Int))) => [some (oF (eL (eL (eT2 eI eI))) left1), some (oF (eL (eO eI)) table2), some (oL (oF (eO eI)) b31), none, none, none, some (oF (eL (eT2 eI eI)) p4.2), some (oF eI p4.1)]) ?_ (fun b31 => gh_n) fun b31 => ?_
  ·refine sim_for (upb := (fun (b31 : (List (Option Int))) => [some (oF (eL (eL (eT2 eI eI))) left1), some (oF (eL (eO eI)) table2), some (oL (oF (eO eI)) b31), none, none, none, some (oF (eL (eT2 eI eI)) p4.2), some (oF eI p4.1)])) (upx := (fun (p23 : (Int × Int)) (b31 : (List (Option Int))) => [some (oF (eL (eL (eT2 eI eI))) left1), some (oF (eL (eO eI)) table2), some (oL (oF (eO eI)) b31), none, some (oF eI p23.2), some (oF eI p23.1), some (oF (eL (eT2 eI eI)) p4.2), some (oF eI p4.1)])) (iq_list (mi := .ok p4.2) (sL := (oF (eL (eT2 eI eI)))) (rq_of (pq_varF (d := (eL (eT2 eI eI)) p4.2) rfl))) rfl (fun _ _ => rfl) fun p23 b31 => ?_
   refine sim_s (upd := fun need32 => [some (oF (eL (eL (eT2 eI eI))) left1), some (oF (eL (eO eI)) table2), some (oL (oF (eO eI)) b31), some (oF (eO eI) need32), some (oF eI p23.2), some (oF eI p23.1), some (oF (eL (eT2 eI eI)) p4.2), some (oF eI p4.1)]) ?_ (fun need32 => gh_n) fun need32 => ?_
   ·exact (set_m (s := (oF (eO eI))) (rq_callF0 (aq_pp (pq_varF (d := (eL (eO eI)) table2) rfl) (aq_pp (pq_varF (d := eI p23.1) rfl) (aq_pp (pq_varF (d := eI p23.2) rfl) aq_nil))) rfl (d_cons (td_o (s := (oF (eL (eO eI))))) (d_cons (td_o (s := (oF eI))) (d_cons (td_o (s := (oF eI))) d_nil))) (.inl rfl) (mr_need_by table2 p23.1 p23.2)))
   refine sim_if_m (tq_m (rq_callF (aq_mp (rq_pp (s := (rO (oF (eO eI)))) (pq_var (o := oL (oF (eO eI)) b31) rfl) (pq_varF (d := eI p4.1) rfl) (o_ixLF rfl)) (aq_pp (pq_varF (d := (eO eI) need32) rfl) aq_nil)) (fun _ => rfl) (fun v33 => (d_cons (td_o (s := (oF (eO eI)))) (d_cons (td_o (s := (oF (eO eI)))) d_nil))) (.inl fun _ => rfl) (fun v33 => mr_is_more v33 need32))) ?_ ?_
   ·refine sim_s (upd := fun after34 => [some (oF (eL (eL (eT2 eI eI))) left1), some (oF (eL (eO eI)) table2), some (oL (oF (eO eI)) after34), some (oF (eO eI) need32), some (oF eI p23.2), some (oF eI p23.1), some (oF (eL (eT2 eI eI)) p4.2), some (oF eI p4.1)]) ?_ (fun after34 => gh_n) fun after34 => ?_
    ·refine (sim_store (s := (oL (oF (eO eI)))) (ρ' := [some (oF (eL (eL (eT2 eI eI))) left1), some (oF (eL (eO eI)) table2), some (oL (oF (eO eI)) b31), some (oF (eO eI) need32), some (oF eI p23.2), some (oF eI p23.1), some (oF (eL (eT2 eI eI)) p4.2), some (oF eI p4.1)]) (i := 2) (sA := (oL (oF (eO eI)))) (o := oF (eO eI) need32) (y := (rO (oF eI)) p4.1) (md := (fun (f : (List (Option Int)) → M (List (Option Int))) => f b31)) (F := fun (y : (List (Option Int))) => setM y p4.1 need32) ?_ ?_ ?_ ?_ ?_)
     ·exact (vp_mvF rfl)
     ·exact (mq_var (s := (oL (oF (eO eI)))) (x := b31) rfl)
     ·exact (pq_varF (d := eI p4.1) rfl)
     ·exact (sq_list (t := (oF (eO eI))))
     ·exact (fun _ => rfl)
    exact sim_end ⟨_, .inl rfl, rfl⟩
   ·exact sim_end ⟨_, .inl rfl, rfl⟩
  exact sim_end ⟨_, .inl rfl, rfl⟩
 exact sim_ret_p (vp_mvL rfl) (.inl rfl)
def f_needs (game1 : (List (Int × (List (Int × Int))))) (rule2 : (List (Option Int))) : M (List (Option Int)) :=
 (f_steered game1 rule2).bind fun left3 =>
 (repM ([none] : (List (Option Int))) (left3.length : Int)).bind fun table4 =>
 ((rngM 0 (left3.length : Int)).bind fun xs16 => forM (fun (place5 : Int) (b11 : (List (Option Int))) =>
 (f_is_rest left3 place5).bind fun z15 => if z15 then
 ((setM b11 place5 (some 0)).bind fun table12 =>
 M.ok table12)
 else (M.ok b11)) xs16 table4).bind fun (b11 : (List (Option Int))) =>
 ((rngM 0 (left3.length : Int)).bind fun xs22 => forM (fun (turn17 : Int) (b20 : (List (Option Int))) =>
 (f_nearer left3 b20).bind fun table21 =>
 M.ok table21) xs22 b11).bind fun (b20 : (List (Option Int))) =>
 M.ok b20
theorem mr_needs (game1 : (List (Int × (List (Int × Int))))) (rule2 : (List (Option Int))) : FQ (m_needs [(eL (eT2 eI (eL (eT2 eI eI)))) game1, (eL (eO eI)) rule2]) (f_needs game1 rule2) (oL (oF (eO eI))) := by
 refine fq_sem (ρ := [some (oF (eL (eT2 eI (eL (eT2 eI eI)))) game1), some (oF (eL (eO eI)) rule2), none, none, none, none]) rfl ?_
 unfold f_needs d_needs
 refine sim_s (upd := fun left3 => [some (oF (eL (eT2 eI (eL (eT2 eI eI)))) game1), some (oF (eL (eO eI)) rule2), some (oL (oF (eL (eT2 eI eI))) left3), none, none, none]) ?_ (fun left3 => gh_n) fun left3 => ?_
 ·exact (set_m (s := (oL (oF (eL (eT2 eI eI))))) (rq_callF0 (aq_pp (pq_varF (d := (eL (eT2 eI (eL (eT2 eI eI)))) game1) rfl) (aq_pp (pq_varF (d := (eL (eO eI)) rule2) rfl) aq_nil)) rfl (d_cons (td_o (s := (oF (eL (eT2 eI (eL (eT2 eI eI))))))) (d_cons (td_o (s := (oF (eL (eO eI))))) d_nil)) (.inl rfl) (mr_steered game1 rule2)))
 refine sim_s (upd := fun table4 => [some (oF (eL (eT2 eI (eL (eT2 eI eI)))) game1), some (oF (eL (eO eI)) rule2), some (oL (oF (eL (eT2 eI eI))) left3), some (oL (oF (eO eI)) table4), none, none]) ?_ (fun table4 => gh_n) fun table4 => ?_
 ·exact (set_m (s := (oL (oF (eO eI)))) (rq_pp (s := (rO (oL (oF (eO eI))))) (pq_lst (aq_pp rfl aq_nil) rfl rfl) (pq_callB (aq_pp (pq_var (o := oL (oF (eL (eT2 eI eI))) left3) rfl) aq_nil) (o_len rfl (by simp))) (o_rep rfl)))
 refine sim_s (upd := fun (b11 : (List (Option Int))) => [some (oF (eL (eT2 eI (eL (eT2 eI eI)))) game1), some (oF (eL (eO eI)) rule2), some (oL (oF (eL (eT2 eI eI))) left3), some (oL (oF (eO eI)) b11), none, none]) ?_ (fun b11 => gh_n) fun b11 => ?_
 ·refine sim_forI (iq_args0 (aq_pp (pq_callB (aq_pp (pq_var (o := oL (oF (eL (eT2 eI eI))) left3) rfl) aq_nil) (o_len rfl (by simp))) aq_nil) rfl (d_cons (td_o (s := (oF eI)) (x := (left3.length : Int))) d_nil) g_range1) fun xs16 hi => ?_
  refine sim_for (upb := (fun (b11 : (List (Option Int))) => [some (oF (eL (eT2 eI (eL (eT2 eI eI)))) game1), some (oF (eL (eO eI)) rule2), some (oL (oF (eL (eT2 eI eI))) left3), some (oL (oF (eO eI)) b11), none, none])) (upx := (fun (place5 : Int) (b11 : (List (Option Int))) => [some (oF (eL (eT2 eI (eL (eT2 eI eI)))) game1), some (oF (eL (eO eI)) rule2), some (oL (oF (eL (eT2 eI eI))) left3), some (oL (oF (eO eI)) b11), some (oF eI place5), none])) hi rfl (fun _ _ => rfl) fun place5 b11 => ?_
  refine sim_if_m (tq_m (rq_callF0 (aq_pp (pq_var (o := oL (oF (eL (eT2 eI eI))) left3) rfl) (aq_pp (pq_varF (d := eI place5) rfl) aq_nil)) rfl (d_cons (td_v (s := (oL (oF (eL (eT2 eI eI)))))) (d_cons (td_o (s := (oF eI))) d_nil)) (.inr LeafF.lf) (mr_is_rest left3 place5))) ?_ ?_
  ·refine sim_s (upd := fun table12 => [some (oF (eL (eT2 eI (eL (eT2 eI eI)))) game1), some (oF (eL (eO eI)) rule2), some (oL (oF (eL (eT2 eI eI))) left3), some (oL (oF (eO eI)) table12), some (oF eI place5), none]) ?_ (fun table12 => gh_n) fun table12 => ?_
   ·refine (sim_store (s := (oL (oF (eO eI)))) (ρ' := [some (oF (eL (eT2 eI (eL (eT2 eI eI)))) game1), some (oF (eL (eO eI)) rule2), some (oL (oF (eL (eT2 eI eI))) left3), some (oL (oF (eO eI)) b11), some (oF eI place5), none]) (i := 3) (sA := (oL (oF (eO eI)))) (o := oF eI 0) (y := (rO (oF eI)) place5) (md := (fun (f : (List (Option Int)) → M (List (Option Int))) => f b11)) (F := fun (y : (List (Option Int))) => setM y place5 (some 0)) ?_ ?_ ?_ ?_ ?_)
    ·exact (vp_ow rfl)
    ·exact (mq_var (s := (oL (oF (eO eI)))) (x := b11) rfl)
    ·exact (pq_varF (d := eI place5) rfl)
    ·exact (sq_list (t := (oF (eO eI))))
    ·exact (fun _ => rfl)
   exact sim_end ⟨_, .inl rfl, rfl⟩
  ·exact sim_end ⟨_, .inl rfl, rfl⟩
 refine sim_s (upd := fun (b20 : (List (Option Int))) => [some (oF (eL (eT2 eI (eL (eT2 eI eI)))) game1), some (oF (eL (eO eI)) rule2), some (oL (oF (eL (eT2 eI eI))) left3), some (oL (oF (eO eI)) b20), none, none]) ?_ (fun b20 => gh_n) fun b20 => ?_
 ·refine sim_forI (iq_args0 (aq_pp (pq_callB (aq_pp (pq_var (o := oL (oF (eL (eT2 eI eI))) left3) rfl) aq_nil) (o_len rfl (by simp))) aq_nil) rfl (d_cons (td_o (s := (oF eI)) (x := (left3.length : Int))) d_nil) g_range1) fun xs22 hi => ?_
  refine sim_for (upb := (fun (b20 : (List (Option Int))) => [some (oF (eL (eT2 eI (eL (eT2 eI eI)))) game1), some (oF (eL (eO eI)) rule2), some (oL (oF (eL (eT2 eI eI))) left3), some (oL (oF (eO eI)) b20), none, none])) (upx := (fun (turn17 : Int) (b20 : (List (Option Int))) => [some (oF (eL (eT2 eI (eL (eT2 eI eI)))) game1), some (oF (eL (eO eI)) rule2), some (oL (oF (eL (eT2 eI eI))) left3), some (oL (oF (eO eI)) b20), none, some (oF eI turn17)])) hi rfl (fun _ _ => rfl) fun turn17 b20 => ?_
  refine sim_s (upd := fun table21 => [some (oF (eL (eT2 eI (eL (eT2 eI eI)))) game1), some (oF (eL (eO eI)) rule2), some (oL (oF (eL (eT2 eI eI))) left3), some (oL (oF (eO eI)) table21), none, some (oF eI turn17)]) ?_ (fun table21 => gh_n) fun table21 => ?_
  ·exact (set_m (s := (oL (oF (eO eI)))) (rq_callF0 (aq_pp (pq_var (o := oL (oF (eL (eT2 eI eI))) left3) rfl) (aq_pp (pq_var (o := oL (oF (eO eI)) b20) rfl) aq_nil)) rfl (d_cons (td_v (s := (oL (oF (eL (eT2 eI eI)))))) (d_cons (td_v (s := (oL (oF (eO eI))))) d_nil)) (.inr LeafF.lf) (mr_nearer left3 b20)))
  exact sim_end ⟨_, .inl rfl, rfl⟩
 exact sim_ret_p (vp_mvL rfl) (.inl rfl)
def f_first_rule (game1 : (List (Int × (List (Int × Int))))) : M (List (Option Int)) :=
 (forM (fun (p2 : (Int × (List (Int × Int)))) (b8 : (List (Option Int))) =>
 if decide (p2.1 = 1) then
 ((((ix p2.2 0).bind fun v9 => M.ok v9.1).bind fun v10 => appM b8 (some v10)).bind fun rule11 =>
 M.ok rule11)
 else ((appM b8 none).bind fun rule12 =>
 M.ok rule12)) game1 ([] : (List (Option Int)))).bind fun (b8 : (List (Option Int))) =>
 M.ok b8
theorem mr_first_rule (game1 : (List (Int × (List (Int × Int))))) : FQ (m_first_rule [(eL (eT2 eI (eL (eT2 eI eI)))) game1]) (f_first_rule game1) (oL (oF (eO eI))) := by
 refine fq_sem (ρ := [some (oF (eL (eT2 eI (eL (eT2 eI eI)))) game1), none, none, none]) rfl ?_
 unfold f_first_rule d_first_rule
 refine sim_p (ρ1 := [some (oF (eL (eT2 eI (eL (eT2 eI eI)))) game1), some (oL (oF (eO eI)) ([] : (List (Option Int)))), none, none]) (set_p (pq_lst aq_nil rfl rfl)) gh_n ?_
 refine sim_s (upd := fun (b8 : (List (Option Int))) => [some (oF (eL (eT2 eI (eL (eT2 eI eI)))) game1), some (oL (oF (eO eI)) b8), none, none]) ?_ (fun b8 => gh_n) fun b8 => ?_
 ·refine sim_for (upb := (fun (b8 : (List (Option Int))) => [some (oF (eL (eT2 eI (eL (eT2 eI eI)))) game1), some (oL (oF (eO eI)) b8), none, none])) (upx := (fun (p2 : (Int × (List (Int × Int)))) (b8 : (List (Option Int))) => [some (oF (eL (eT2 eI (eL (eT2 eI eI)))) game1), some (oL (oF (eO eI)) b8), some (oF (eL (eT2 eI eI)) p2.2), some (oF eI p2.1)])) (iq_list (mi := .ok game1) (sL := (oF (eL (eT2 eI (eL (eT2 eI eI)))))) (rq_of (pq_varF (d := (eL (eT2 eI (eL (eT2 eI eI)))) game1) rfl))) rfl (fun _ _ => rfl) fun p2 b8 => ?_
  refine sim_if_p (tq_p (pq_bin (pq_varF (d := eI p2.1) rfl) rfl (o_eq (e := eI) (by decide) (td_o (s := (oF eI))) (td_o (s := (oF eI)))))) ?_ ?_
  ·refine sim_s (upd := fun rule11 => [some (oF (eL (eT2 eI (eL (eT2 eI eI)))) game1), some (oL (oF (eO eI)) rule11), some (oF (eL (eT2 eI eI)) p2.2), some (oF eI p2.1)]) ?_ (fun rule11 => gh_n) fun rule11 => ?_
   ·refine (sim_meth_m (s := (oL (oF (eO eI)))) (ρ' := [some (oF (eL (eT2 eI (eL (eT2 eI eI)))) game1), some (oL (oF (eO eI)) b8), some (oF (eL (eT2 eI eI)) p2.2), some (oF eI p2.1)]) (F := (fun v10 y => appM y (some v10))) (x := b8) ?_ (fun _ => rfl) ?_ ?_ (fun _ => (gq_append (t := (oF (eO eI))))) ?_)
    ·exact rfl
    ·exact (vs_mp (vq_ow (s := (oF eI)) (rq_mp (s := (rO (oF eI))) (rq_pp (s := (rO (oF (eT2 eI eI)))) (pq_varF (d := (eL (eT2 eI eI)) p2.2) rfl) rfl (o_ixF rfl)) rfl fun v9 => rq_of (o_t0 (o := oF eI v9.1) rfl))) vs_nil)
    ·exact rfl
    ·exact (fun _ => rfl)
   exact sim_end ⟨_, .inl rfl, rfl⟩
  ·refine sim_s (upd := fun rule12 => [some (oF (eL (eT2 eI (eL (eT2 eI eI)))) game1), some (oL (oF (eO eI)) rule12), some (oF (eL (eT2 eI eI)) p2.2), some (oF eI p2.1)]) ?_ (fun rule12 => gh_n) fun rule12 => ?_
   ·refine (sim_meth (s := (oL (oF (eO eI)))) (ρ' := [some (oF (eL (eT2 eI (eL (eT2 eI eI)))) game1), some (oL (oF (eO eI)) b8), some (oF (eL (eT2 eI eI)) p2.2), some (oF eI p2.1)]) (i := 1) (sA := (oL (oF (eO eI)))) (as := [oF eN ()]) (md := (fun (f : (List (Option Int)) → M (List (Option Int))) => f b8)) (F := fun (y : (List (Option Int))) => appM y none) ?_ (fun _ => rfl) ?_ ?_ ?_ ?_)
    ·exact (mq_var (s := (oL (oF (eO eI)))) (x := b8) rfl)
    ·exact (vs_pp (vp_ow rfl) vs_nil)
    ·exact rfl
    ·exact (gq_append (t := (oF (eO eI))))
    ·exact (fun _ => rfl)
   exact sim_end ⟨_, .inl rfl, rfl⟩
 exact sim_ret_p (vp_mvL rfl) (.inl rfl)
def f_bettered (game1 : (List (Int × (List (Int × Int))))) (rule2 : (List (Option Int))) (table3 : (List (Option Int))) : M (List (Option Int)) :=
 lt (rule2 : (List (Option Int))) fun after4 =>
 (forM (fun (p5 : (Int × (Int × (List (Int × Int))))) (b22 : (List (Option Int))) =>
 if decide (p5.2.1 = 1) then
 ((ix table3 p5.1).bind fun most23 =>
 (forM (fun (p24 : (Int × Int)) (b31 : ((List (Option Int)) × (Option Int))) =>
 (f_need_by table3 p24.1 p24.2).bind fun need32 =>
 (f_is_more need32 b31.2).bind fun z36 => if z36 then
 ((setM b31.1 p5.1 (some p24.1)).bind fun after33 =>
 M.ok (after33, need32))
 else (M.ok (b31.1, b31.2))) p5.2.2 (b22, most23)).bind fun (b31 : ((List (Option Int)) × (Option Int))) =>
 M.ok b31.1)
 else (M.ok b22)) (enumL game1) after4).bind fun (b22 : (List (Option Int))) =>
 M.ok b22
theorem mr_bettered (game1 : (List (Int × (List (Int × Int))))) (rule2 : (List (Option Int))) (table3 : (List (Option Int))) : FQ (m_bettered [(eL (eT2 eI (eL (eT2 eI eI)))) game1, (eL (eO eI)) rule2, (eL (eO eI)) table3]) (f_bettered game1 rule2 table3) (oL (oF (eO eI))) := by
 refine fq_sem (ρ := [some (oF (eL (eT2 eI (eL (eT2 eI eI)))) game1), some (oF (eL (eO eI)) rule2), some (oF (eL (eO eI)) table3), none, none, none, none, none, none, none, none, none]) rfl ?_
 unfold f_bettered d_bettered
 refine sim_l (upd := fun after4 => [some (oF (eL (eT2 eI (eL (eT2 eI eI)))) game1), some (oF (eL (eO eI)) rule2), some (oF (eL (eO eI)) table3), some (oL (oF (eO eI)) after4), none, none, none, none, none, none, none, none]) (set_p (pq_callB (aq_pp (pq_varF (d := (eL (eO eI)) rule2) rfl) aq_nil) (o_list seq_fL fz_L))) (fun after4 => gh_n) fun after4 => ?_
 refine sim_s (upd := fun (b22 : (List (Option Int))) => [some (oF (eL (eT2 eI (eL (eT2 eI eI)))) game1), some (oF (eL (eO eI)) rule2), some (oF (eL (eO eI)) table3), some (oL (oF (eO eI)) b22), none, none, none, none, none, none, none, none]) ?_ (fun b22 => gh_n) fun b22 => ?_
 ·refine sim_for (upb := (fun (b22 : (List (Option Int))) => [some (oF (eL (eT2 eI (eL (eT2 eI eI)))) game1), some (oF (eL (eO eI)) rule2), some (oF (eL (eO eI)) table3), some (oL (oF (eO eI)) b22), none, none, none, none, none, none, none, none])) (upx := (fun (p5 : (Int × (Int × (List (Int × Int))))) (b22 : (List (Option Int))) => [some (oF (eL (eT2 eI (eL (eT2 eI eI)))) game1), some (oF (eL (eO eI)) rule2), some (oF (eL (eO eI)) table3), some (oL (oF (eO eI)) b22), none, none, none, none, none, none, some (oF (eT2 eI (eL (eT2 eI eI))) p5.2), some (oF eI p5.1)])) (iq_args0 (aq_pp (pq_varF (d := (eL (eT2 eI (eL (eT2 eI eI)))) game1) rfl) aq_nil) rfl (d_cons (td_o (s := (oF (eL (eT2 eI (eL (eT2 eI eI))))))) d_nil) g_enum) rfl (fun _ _ => rfl) fun p5 b22 => ?_
  refine sim_p (ρ1 := [some (oF (eL (eT2 eI (eL (eT2 eI eI)))) game1), some (oF (eL (eO eI)) rule2), some (oF (eL (eO eI)) table3), some (oL (oF (eO eI)) b22), none, none, none, none, some (oF (eL (eT2 eI eI)) p5.2.2), some (oF eI p5.2.1), some (oF (eT2 eI (eL (eT2 eI eI))) p5.2), some (oF eI p5.1)]) (unp_p (s := (oF (eT2 eI (eL (eT2 eI eI))))) (pq_varF (d := (eT2 eI (eL (eT2 eI eI))) p5.2) rfl) rfl) gh_n ?_
  refine sim_if_p (tq_p (pq_bin (pq_varF (d := eI p5.2.1) rfl) rfl (o_eq (e := eI) (by decide) (td_o (s := (oF eI))) (td_o (s := (oF eI)))))) ?_ ?_
  ·refine sim_s (upd := fun most23 => [some (oF (eL (eT2 eI (eL (eT2 eI eI)))) game1), some (oF (eL (eO eI)) rule2), some (oF (eL (eO eI)) table3), some (oL (oF (eO eI)) b22), some (oF (eO eI) most23), none, none, none, some (oF (eL (eT2 eI eI)) p5.2.2), some (oF eI p5.2.1), some (oF (eT2 eI (eL (eT2 eI eI))) p5.2), some (oF eI p5.1)]) ?_ (fun most23 => gh_n) fun most23 => ?_
   ·exact (set_m (s := (oF (eO eI))) (rq_pp (s := (rO (oF (eO eI)))) (pq_varF (d := (eL (eO eI)) table3) rfl) (pq_varF (d := eI p5.1) rfl) (o_ixF rfl)))
   refine sim_s (upd := fun (b31 : ((List (Option Int)) × (Option Int))) => [some (oF (eL (eT2 eI (eL (eT2 eI eI)))) game1), some (oF (eL (eO eI)) rule2), some (oF (eL (eO eI)) table3), some (oL (oF (eO eI)) b31.1), some (oF (eO eI) b31.2), none, none, none, some (oF (eL (eT2 eI eI)) p5.2.2), some (oF eI p5.2.1), some (oF (eT2 eI (eL (eT2 eI eI))) p5.2), some (oF eI p5.1)]) ?_ (fun b31 => gh_n) fun b31 => ?_
   ·refine sim_for (upb := (fun (b31 : ((List (Option Int)) × (Option Int))) => [some (oF (eL (eT2 eI (eL (eT2 eI eI)))) game1), some (oF (eL (eO eI)) rule2), some (oF (eL (eO eI)) table3), some (oL (oF (eO eI)) b31.1), some (oF (eO eI) b31.2), none, none, none, some (oF (eL (eT2 eI eI)) p5.2.2), some (oF eI p5.2.1), some (oF (eT2 eI (eL (eT2 eI eI))) p5.2), some (oF eI p5.1)])) (upx := (fun (p24 : (Int × Int)) (b31 : ((List (Option Int)) × (Option Int))) => [some (oF (eL (eT2 eI (eL (eT2 eI eI)))) game1), some (oF (eL (eO eI)) rule2), some (oF (eL (eO eI)) table3), some (oL (oF (eO eI)) b31.1), some (oF (eO eI) b31.2), none, some (oF eI p24.2), some (oF eI p24.1), some (oF (eL (eT2 eI eI)) p5.2.2), some (oF eI p5.2.1), some (oF (eT2 eI (eL (eT2 eI eI))) p5.2), some (oF eI p5.1)])) (iq_list (mi := .ok p5.2.2) (sL := (oF (eL (eT2 eI eI)))) (rq_of (pq_varF (d := (eL (eT2 eI eI)) p5.2.2) rfl))) rfl (fun _ _ => rfl) fun p24 b31 => ?_
    refine sim_s (upd := fun need32 => [some (oF (eL (eT2 eI (eL (eT2 eI eI)))) game1), some (oF (eL (eO eI)) rule2), some (oF (eL (eO eI)) table3), some (oL (oF (eO eI)) b31.1), some (oF (eO eI) b31.2), some (oF (eO eI) need32), some (oF eI p24.2), some (oF eI p24.1), some (oF (eL (eT2 eI eI)) p5.2.2), some (oF eI p5.2.1), some (oF (eT2 eI (eL (eT2 eI eI))) p5.2), some (oF eI p5.1)]) ?_ (fun need32 => gh_n) fun need32 => ?_
    ·exact (set_m (s := (oF (eO eI))) (rq_callF0 (aq_pp (pq_varF (d := (eL (eO eI)) table3) rfl) (aq_pp (pq_varF (d := eI p24.1) rfl) (aq_pp (pq_varF (d := eI p24.2) rfl) aq_nil))) rfl (d_cons (td_o (s := (oF (eL (eO eI))))) (d_cons (td_o (s := (oF eI))) (d_cons (td_o (s := (oF eI))) d_nil))) (.inl rfl) (mr_need_by table3 p24.1 p24.2)))
    refine sim_if_m (tq_m (rq_callF0 (aq_pp (pq_varF (d := (eO eI) need32) rfl) (aq_pp (pq_varF (d := (eO eI) b31.2) rfl) aq_nil)) rfl (d_cons (td_o (s := (oF (eO eI)))) (d_cons (td_o (s := (oF (eO eI)))) d_nil)) (.inl rfl) (mr_is_more need32 b31.2))) ?_ ?_
    ·refine sim_p (ρ1 := [some (oF (eL (eT2 eI (eL (eT2 eI eI)))) game1), some (oF (eL (eO eI)) rule2), some (oF (eL (eO eI)) table3), some (oL (oF (eO eI)) b31.1), some (oF (eO eI) need32), some (oF (eO eI) need32), some (oF eI p24.2), some (oF eI p24.1), some (oF (eL (eT2 eI eI)) p5.2.2), some (oF eI p5.2.1), some (oF (eT2 eI (eL (eT2 eI eI))) p5.2), some (oF eI p5.1)]) (set_p (pq_varF (d := (eO eI) need32) rfl)) gh_n ?_
     refine sim_s (upd := fun after33 => [some (oF (eL (eT2 eI (eL (eT2 eI eI)))) game1), some (oF (eL (eO eI)) rule2), some (oF (eL (eO eI)) table3), some (oL (oF (eO eI)) after33), some (oF (eO eI) need32), some (oF (eO eI) need32), some (oF eI p24.2), some (oF eI p24.1), some (oF (eL (eT2 eI eI)) p5.2.2), some (oF eI p5.2.1), some (oF (eT2 eI (eL (eT2 eI eI))) p5.2), some (oF eI p5.1)]) ?_ (fun after33 => gh_n) fun after33 => ?_
     ·refine (sim_store (s := (oL (oF (eO eI)))) (ρ' := [some (oF (eL (eT2 eI (eL (eT2 eI eI)))) game1), some (oF (eL (eO eI)) rule2), some (oF (eL (eO eI)) table3), some (oL (oF (eO eI)) b31.1), some (oF (eO eI) need32), some (oF (eO eI) need32), some (oF eI p24.2), some (oF eI p24.1), some (oF (eL (eT2 eI eI)) p5.2.2), some (oF eI p5.2.1), some (oF (eT2 eI (eL (eT2 eI eI))) p5.2), some (oF eI p5.1)]) (i := 3) (sA := (oL (oF (eO eI)))) (o := oF eI p24.1) (y := (rO (oF eI)) p5.1) (md := (fun (f : (List (Option Int)) → M (List (Option Int))) => f b31.1)) (F := fun (y : (List (Option Int))) => setM y p5.1 (some p24.1)) ?_ ?_ ?_ ?_ ?_)
      ·exact (vp_mvF rfl)
      ·exact (mq_var (s := (oL (oF (eO eI)))) (x := b31.1) rfl)
      ·exact (pq_varF (d := eI p5.1) rfl)
      ·exact (sq_list (t := (oF (eO eI))))
      ·exact (fun _ => rfl)
     exact sim_end ⟨_, .inl rfl, rfl⟩
    ·exact sim_end ⟨_, .inl rfl, rfl⟩
   exact sim_end ⟨_, .inl rfl, rfl⟩
  ·exact sim_end ⟨_, .inl rfl, rfl⟩
 exact sim_ret_p (vp_mvL rfl) (.inl rfl)
def f_betterings (game1 : (List (Int × (List (Int × Int))))) : M (List ((List (Option Int)) × (List (Option Int)))) :=
 (f_first_rule game1).bind fun rule =>
 ((f_needs game1 rule).bind fun v => (f_bettered game1 rule v).bind fun after => M.ok (v, after)).nox.bind fun (z : (List (Option Int)) × (List (Option Int))) =>
 (whileM (fun (b : (List ((List (Option Int)) × (List (Option Int))) × ((List (Option Int)) × (List (Option Int))) × (List (Option Int)))) => (M.ok (!decide (b.2.2 = b.2.1.1))).nox) (fun (b : (List ((List (Option Int)) × (List (Option Int))) × ((List (Option Int)) × (List (Option Int))) × (List (Option Int)))) =>
 ((((f_needs game1 b.2.2).bind fun v => (appM (b.1 ++ [b.2.1]) (b.2.2, v)).bind fun _ => M.ok v).bind fun v => (f_bettered game1 b.2.2 v).bind fun after => M.ok (v, after)).nox.bind fun (z : (List (Option Int)) × (List (Option Int))) =>
 M.ok (b.1 ++ [b.2.1], (b.2.2, z.1), z.2)).nox) fuel ([], (rule, z.1), z.2)).bind fun (b : (List ((List (Option Int)) × (List (Option Int))) × ((List (Option Int)) × (List (Option Int))) × (List (Option Int)))) =>
 M.ok (b.1 ++ [b.2.1])
theorem mr_betterings (game1 : (List (Int × (List (Int × Int))))) : FQ (m_betterings [(eL (eT2 eI (eL (eT2 eI eI)))) game1]) (f_betterings game1) (oL (oT2 (oL (oF (eO eI))) (oL (oF (eO eI))))) := by
 refine fq_sem (ρ := [some (oF (eL (eT2 eI (eL (eT2 eI eI)))) game1), none, none, none]) rfl ?_
 unfold f_betterings d_betterings
 refine sim_s (upd := fun rule => [some (oF (eL (eT2 eI (eL (eT2 eI eI)))) game1), some (oL (oF (eO eI)) rule), none, none]) ?_ (fun _ => gh_n) fun rule => ?_
 ·exact (set_m (s := (oL (oF (eO eI)))) (rq_callF0 (aq_pp (pq_varF (d := (eL (eT2 eI (eL (eT2 eI eI)))) game1) rfl) aq_nil) rfl (d_cons (td_o (s := (oF (eL (eT2 eI (eL (eT2 eI eI))))))) d_nil) (.inl rfl) (mr_first_rule game1)))
 refine sim_alL (upA := fun a (z : (List (Option Int)) × (List (Option Int))) => [some (oF (eL (eT2 eI (eL (eT2 eI eI)))) game1), some (.nm a (oL (oF (eO eI)) rule)), some (holeT (oL (oF (eO eI))) (oL (oF (eO eI))) [] a z.1), some (oL (oF (eO eI)) z.2)]) (up := fun (z : (List (Option Int)) × (List (Option Int))) => (fun (b : (List ((List (Option Int)) × (List (Option Int))) × ((List (Option Int)) × (List (Option Int))) × (List (Option Int)))) => [some (oF (eL (eT2 eI (eL (eT2 eI eI)))) game1), none, some (oL (oT2 (oL (oF (eO eI))) (oL (oF (eO eI)))) (b.1 ++ [b.2.1])), some (oL (oF (eO eI)) b.2.2)]) ([], (rule, z.1), z.2)) rfl rfl (fun a => ?_) (fun a z => plugL_at (xs := []) (x := rule) (y := z.1) rfl rfl rfl rfl) fun z => ?_
 ·refine sim_sE0 (up := fun v => [some (oF (eL (eT2 eI (eL (eT2 eI eI)))) game1), some (.nm a (oL (oF (eO eI)) rule)), some (holeT (oL (oF (eO eI))) (oL (oF (eO eI))) [] a v), none]) ?_ fun v => ?_
  ·exact (set_m (s := fun v => holeT (oL (oF (eO eI))) (oL (oF (eO eI))) [] a v) (rq_idB <| rq_lst (ss := fun v => [.ow (pairH (oL (oF (eO eI))) a v)]) (s := fun v => holeT (oL (oF (eO eI))) (oL (oF (eO eI))) [] a v) (os := fun v => [pairH (oL (oF (eO eI))) a v]) (mo := fun v => v) (aq_mp (rq_idB <| rq_tup (s := pairH (oL (oF (eO eI))) a) (mo := fun v => v) (aq_pm (pq_at rfl) (aq_mp (rq_callF0 (aq_pp (pq_varF (d := (eL (eT2 eI (eL (eT2 eI eI)))) game1) rfl) (aq_pp (pq_varN (o := oL (oF (eO eI)) rule) rfl) aq_nil)) rfl (d_cons (td_o (s := (oF (eL (eT2 eI (eL (eT2 eI eI))))))) (d_cons (td_v (s := (oL (oF (eO eI))))) d_nil)) (.inr LeafF.lf) (mr_needs game1 rule)) aq_nil)) fun _ h => pq_tupO h rfl rfl rfl) aq_nil) (fun _ => rfl) (fun _ => rfl) (fun _ => rfl)))
  exact sim_setP (s := (oL (oF (eO eI)))) (rq_callF0 (aq_pp (pq_varF (d := (eL (eT2 eI (eL (eT2 eI eI)))) game1) rfl) (aq_pp (pq_varN (o := oL (oF (eO eI)) rule) rfl) (aq_pp (pq_ixk (o := oL (oF (eO eI)) v) (pq_ixk (o := pairH (oL (oF (eO eI))) a v) (pq_var rfl) rfl rfl rfl) rfl rfl rfl) aq_nil))) rfl (d_cons (td_o (s := (oF (eL (eT2 eI (eL (eT2 eI eI))))))) (d_cons (td_v (s := (oL (oF (eO eI))))) (d_cons (td_v (s := (oL (oF (eO eI))))) d_nil))) (.inr LeafF.lf) (mr_bettered game1 rule v)) rfl fun _ => rfl
 refine sim_s (upd := (fun (b : (List ((List (Option Int)) × (List (Option Int))) × ((List (Option Int)) × (List (Option Int))) × (List (Option Int)))) => [some (oF (eL (eT2 eI (eL (eT2 eI eI)))) game1), none, some (oL (oT2 (oL (oF (eO eI))) (oL (oF (eO eI)))) (b.1 ++ [b.2.1])), some (oL (oF (eO eI)) b.2.2)])) ?_ (fun _ => gh_n) fun b => ?_
 ·refine sim_whAl (upb := (fun (b : (List ((List (Option Int)) × (List (Option Int))) × ((List (Option Int)) × (List (Option Int))) × (List (Option Int)))) => [some (oF (eL (eT2 eI (eL (eT2 eI eI)))) game1), none, some (oL (oT2 (oL (oF (eO eI))) (oL (oF (eO eI)))) (b.1 ++ [b.2.1])), some (oL (oF (eO eI)) b.2.2)])) (upN := (fun (a : Addr) (b : (List ((List (Option Int)) × (List (Option Int))) × ((List (Option Int)) × (List (Option Int))) × (List (Option Int)))) => [some (oF (eL (eT2 eI (eL (eT2 eI eI)))) game1), some (.nm a (oL (oF (eO eI)) b.2.1.1)), some (holeT (oL (oF (eO eI))) (oL (oF (eO eI))) b.1 a b.2.1.2), some (oL (oF (eO eI)) b.2.2)])) (mc := fun b => M.ok (!decide (b.2.2 = b.2.1.1))) (fun a b => nameL_at (xs := b.1) (x := b.2.1.1) (y := b.2.1.2) rfl rfl rfl rfl rfl) (fun a b => (tq_of (tq_p (pq_bin (pq_var (o := oL (oF (eO eI)) b.2.2) rfl) (pq_varN (o := oL (oF (eO eI)) b.2.1.1) rfl) (o_ne (e := (eL (eO eI))) (by decide) (td_v (s := (oL (oF (eO eI))))) (td_v (s := (oL (oF (eO eI)))))))))) (fun b => ?_) fuel ([], (rule, z.1), z.2)
  refine sim_pE (ρ1 := [some (oF (eL (eT2 eI (eL (eT2 eI eI)))) game1), some (oL (oF (eO eI)) b.2.2), some (oL (oT2 (oL (oF (eO eI))) (oL (oF (eO eI)))) (b.1 ++ [b.2.1])), none]) rfl ?_
  refine sim_alL (m2 := fun (z : (List (Option Int)) × (List (Option Int))) => M.ok ((b.1 ++ [b.2.1], (b.2.2, z.1), z.2) : (List ((List (Option Int)) × (List (Option Int))) × ((List (Option Int)) × (List (Option Int))) × (List (Option Int))))) (upA := fun a (z : (List (Option Int)) × (List (Option Int))) => [some (oF (eL (eT2 eI (eL (eT2 eI eI)))) game1), some (.nm a (oL (oF (eO eI)) b.2.2)), some (holeT (oL (oF (eO eI))) (oL (oF (eO eI))) (b.1 ++ [b.2.1]) a z.1), some (oL (oF (eO eI)) z.2)]) (up := fun (z : (List (Option Int)) × (List (Option Int))) => (fun (b : (List ((List (Option Int)) × (List (Option Int))) × ((List (Option Int)) × (List (Option Int))) × (List (Option Int)))) => [some (oF (eL (eT2 eI (eL (eT2 eI eI)))) game1), none, some (oL (oT2 (oL (oF (eO eI))) (oL (oF (eO eI)))) (b.1 ++ [b.2.1])), some (oL (oF (eO eI)) b.2.2)]) (b.1 ++ [b.2.1], (b.2.2, z.1), z.2)) rfl rfl (fun a => ?_) (fun a z => plugL_at (xs := b.1 ++ [b.2.1]) (x := b.2.2) (y := z.1) rfl rfl rfl rfl) fun z => ?_
  ·refine sim_sE0 (up := fun v => [some (oF (eL (eT2 eI (eL (eT2 eI eI)))) game1), some (.nm a (oL (oF (eO eI)) b.2.2)), some (holeT (oL (oF (eO eI))) (oL (oF (eO eI))) (b.1 ++ [b.2.1]) a v), none]) ?_ fun v => ?_
   ·exact (sim_appT (xs := b.1 ++ [b.2.1]) (x := b.2.2) rfl (rq_idB <| rq_tup (s := pairH (oL (oF (eO eI))) a) (mo := fun v => v) (aq_pm (pq_at rfl) (aq_mp (rq_callF0 (aq_pp (pq_varF (d := (eL (eT2 eI (eL (eT2 eI eI)))) game1) rfl) (aq_pp (pq_varN (o := oL (oF (eO eI)) b.2.2) rfl) aq_nil)) rfl (d_cons (td_o (s := (oF (eL (eT2 eI (eL (eT2 eI eI))))))) (d_cons (td_v (s := (oL (oF (eO eI))))) d_nil)) (.inr LeafF.lf) (mr_needs game1 b.2.2)) aq_nil)) fun _ h => pq_tupO h rfl rfl rfl) fun _ => rfl)
   exact sim_setP (s := (oL (oF (eO eI)))) (rq_callF0 (aq_pp (pq_varF (d := (eL (eT2 eI (eL (eT2 eI eI)))) game1) rfl) (aq_pp (pq_varN (o := oL (oF (eO eI)) b.2.2) rfl) (aq_pp (pq_ixk (o := oL (oF (eO eI)) v) (pq_ixk (o := pairH (oL (oF (eO eI))) a v) (pq_var rfl) rfl (pq_un rfl rfl) atI_last) rfl rfl rfl) aq_nil))) rfl (d_cons (td_o (s := (oF (eL (eT2 eI (eL (eT2 eI eI))))))) (d_cons (td_v (s := (oL (oF (eO eI))))) (d_cons (td_v (s := (oL (oF (eO eI))))) d_nil))) (.inr LeafF.lf) (mr_bettered game1 b.2.2 v)) rfl fun _ => rfl
  simp only [Sim_eq]; exact rfl
 exact sim_ret_p (vp_mvL rfl) (.inl rfl)
def f__law_at (script1 : (List Int)) (k2 : Int) : M Int :=
 if decide (k2 < (script1.length : Int)) then
 (ix script1 k2)
 else (lt (((7 * k2) + 3) : Int) fun mixed3 =>
 (if decide (0 < (script1.length : Int)) then
 ((((((modM k2 (script1.length : Int)).bind fun v14 => ix script1 v14).bind fun v15 => M.ok (v15 % 1000003)).bind fun v17 => mulM v17 (k2 + 1)).bind fun v20 => M.ok (mixed3 + v20)).bind fun mixed21 =>
 M.ok mixed21)
 else (M.ok mixed3)).bind fun (b22 : Int) =>
 ((mulM b22 b22).bind fun v23 => M.ok (v23 % 999979)).bind fun v25 => M.ok (v25 + (b22 % 101)))
theorem mr__law_at (script1 : (List Int)) (k2 : Int) : FQ (m__law_at [(eL eI) script1, eI k2]) (f__law_at script1 k2) (oF eI) := by
 refine fq_sem (ρ := [some (oF (eL eI) script1), some (oF eI k2), none]) rfl ?_
 unfold f__law_at d__law_at
 refine sim_ifK_p (tq_p (pq_bin (pq_varF (d := eI k2) rfl) (pq_callB (aq_pp (pq_varF (d := (eL eI) script1) rfl) aq_nil) (o_len rfl (by simp))) o_lt)) ?_ ?_
 ·refine sim_seq_end ?_
  exact sim_ret_id (so := (oF eI)) (vq_ow (s := (oF eI)) (rq_pp (s := (rO (oF eI))) (pq_varF (d := (eL eI) script1) rfl) (pq_varF (d := eI k2) rfl) (o_ixF rfl))) (fun _ => ⟨.inl ⟨_, rfl⟩, (.inl rfl)⟩)
 ·refine sim_nil (sim_gh (ρ1 := [some (oF (eL eI) script1), some (oF eI k2), none]) gh_n ?_)
  refine sim_l (upd := fun mixed3 => [some (oF (eL eI) script1), some (oF eI k2), some (oF eI mixed3)]) (set_p (pq_bin (pq_bin rfl (pq_varF (d := eI k2) rfl) (o_mulp (okMul_l (by decide)))) rfl rfl)) (fun mixed3 => gh_n) fun mixed3 => ?_
  refine sim_j (up := fun (b22 : Int) => [some (oF (eL eI) script1), some (oF eI k2), some (oF eI b22)]) ?_ fun b22 => ?_
  ·refine sim_if_p (tq_p (pq_bin (pq_callB (aq_pp (pq_varF (d := (eL eI) script1) rfl) aq_nil) (o_len rfl (by simp))) rfl o_gt)) ?_ ?_
   ·refine sim_s (upd := fun mixed21 => [some (oF (eL eI) script1), some (oF eI k2), some (oF eI mixed21)]) ?_ (fun mixed21 => gh_n) fun mixed21 => ?_
    ·exact (set_m (s := (oF eI)) (rq_pm (s := (rO (oF eI))) (pq_varF (d := eI mixed3) rfl) (rq_mp (s := (rO (oF eI))) (rq_mp (s := (rO (oF eI))) (rq_pm (s := (rO (oF eI))) (pq_varF (d := (eL eI) script1) rfl) (rq_pp (s := (rO (oF eI))) (pq_varF (d := eI k2) rfl) (pq_callB (aq_pp (pq_varF (d := (eL eI) script1) rfl) aq_nil) (o_len rfl (by simp))) o_mod) fun v14 => (o_ixF rfl)) rfl fun v15 => (rq_of (mod_I (by decide)))) (pq_bin (pq_varF (d := eI k2) rfl) rfl rfl) fun v17 => o_mul) fun v20 => (rq_of rfl)))
    exact sim_end ⟨_, rfl, gh_n⟩
   ·exact sim_end ⟨_, rfl, gh_n⟩
  exact sim_ret_id (so := (oF eI)) (vq_ow (s := (oF eI)) (rq_mp (s := (rO (oF eI))) (rq_mp (s := (rO (oF eI))) (rq_pp (s := (rO (oF eI))) (pq_varF (d := eI b22) rfl) (pq_varF (d := eI b22) rfl) o_mul) rfl fun v23 => (rq_of (mod_I (by decide)))) (pq_bin (pq_varF (d := eI b22) rfl) rfl (mod_I (by decide))) fun v25 => (rq_of rfl))) (fun _ => (.inl rfl))
def f__law_whole (found1 : (Option Int)) : M Bool :=
 M.ok (found1.isSome && true)
theorem mr__law_whole (found1 : (Option Int)) : FQ (m__law_whole [(eO eI) found1]) (f__law_whole found1) (oF eB) := by
 refine fq_sem (ρ := [some (oF (eO eI) found1)]) rfl ?_
 unfold f__law_whole d__law_whole
 exact sim_ret_p (vp_ow (rq_ok (s := (rO (oF eB))) (vq_and (mo := .ok (found1.isSome && true)) (tq_of (tq_and_pp (tq_p (pq_isi (pq_varF (d := (eO eI) found1) rfl) (td_o (s := (oF (eO eI)))) (isi_some (e := eI) isi_int_non (fun _ => isi_int_int)))) (tq_p (rq_ok (s := (rO (oF eB))) (vq_not (mo := .ok true) (tq_of (tq_not_p (tq_p (pq_isi (pq_varF (d := (eO eI) found1) rfl) (td_o (s := (oF (eO eI)))) (isi_opt_f (e := eI) isi_bool_non (fun _ => isi_bool_int)))))))))))))) (.inl rfl)
def f__law_amount (style1 : Int) (heights2 : (List Int)) (start3 : Int) (goal4 : Int) (cell5 : Int) : M Int :=
 if decide (style1 = 0) then
 (M.ok ((cell5 % 7) - 3))
 else (if decide (style1 = 1) then
 ((((ix heights2 start3).bind fun v6 => (ix heights2 goal4).bind fun v7 => M.ok (v6 - v7)).bind fun v8 => M.ok (v8 + (cell5 % 3))).bind fun v10 => M.ok (v10 - 1))
 else (if decide (style1 = 2) then
 (((((ix heights2 start3).bind fun v12 => (ix heights2 goal4).bind fun v13 => M.ok (v12 - v13)).bind fun v14 => mulM v14 (10 ^ 57 : Int)).bind fun v16 => M.ok (v16 + (cell5 % 3))).bind fun v18 => M.ok (v18 - 1))
 else (if decide (style1 = 3) then
 (M.ok (((((heights2.length : Int) / 2) - goal4) + (cell5 % 3)) - 1))
 else (((mulM cell5 (31 ^ 41 : Int)).bind fun v20 => M.ok (v20 % ((2 * (10 ^ 60 : Int)) - 1))).bind fun v22 => M.ok (v22 - ((10 ^ 60 : Int) - 1))))))
theorem mr__law_amount (style1 : Int) (heights2 : (List Int)) (start3 : Int) (goal4 : Int) (cell5 : Int) : FQ (m__law_amount [eI style1, (eL eI) heights2, eI start3, eI goal4, eI cell5]) (f__law_amount style1 heights2 start3 goal4 cell5) (oF eI) := by
 refine fq_sem (ρ := [some (oF eI style1), some (oF (eL eI) heights2), some (oF eI start3), some (oF eI goal4), some (oF eI cell5)]) rfl ?_
 unfold f__law_amount d__law_amount
 refine sim_ifK_p (tq_p (pq_bin (pq_varF (d := eI style1) rfl) rfl (o_eq (e := eI) (by decide) (td_o (s := (oF eI))) (td_o (s := (oF eI)))))) ?_ ?_
 ·refine sim_seq_end ?_
  exact sim_ret_p (vp_ow (pq_bin (pq_bin (pq_varF (d := eI cell5) rfl) rfl (mod_I (by decide))) rfl rfl)) ⟨.inl ⟨_, rfl⟩, (.inl rfl)⟩
 ·refine sim_nil (sim_gh (ρ1 := [some (oF eI style1), some (oF (eL eI) heights2), some (oF eI start3), some (oF eI goal4), some (oF eI cell5)]) gh_n ?_)
  refine sim_ifK_p (tq_p (pq_bin (pq_varF (d := eI style1) rfl) rfl (o_eq (e := eI) (by decide) (td_o (s := (oF eI))) (td_o (s := (oF eI)))))) ?_ ?_
  ·refine sim_seq_end ?_
   exact sim_ret_id (so := (oF eI)) (vq_ow (s := (oF eI)) (rq_mp (s := (rO (oF eI))) (rq_mp (s := (rO (oF eI))) (rq_mm (s := (rO (oF eI))) (rq_pp (s := (rO (oF eI))) (pq_varF (d := (eL eI) heights2) rfl) (pq_varF (d := eI start3) rfl) (o_ixF rfl)) (rq_pp (s := (rO (oF eI))) (pq_varF (d := (eL eI) heights2) rfl) (pq_varF (d := eI goal4) rfl) (o_ixF rfl)) fun v6 v7 => (rq_of rfl)) (pq_bin (pq_varF (d := eI cell5) rfl) rfl (mod_I (by decide))) fun v8 => (rq_of rfl)) rfl fun v10 => (rq_of rfl))) (fun _ => ⟨.inl ⟨_, rfl⟩, (.inl rfl)⟩)
  ·refine sim_nil (sim_gh (ρ1 := [some (oF eI style1), some (oF (eL eI) heights2), some (oF eI start3), some (oF eI goal4), some (oF eI cell5)]) gh_n ?_)
   refine sim_ifK_p (tq_p (pq_bin (pq_varF (d := eI style1) rfl) rfl (o_eq (e := eI) (by decide) (td_o (s := (oF eI))) (td_o (s := (oF eI)))))) ?_ ?_
   ·refine sim_seq_end ?_
    exact sim_ret_id (so := (oF eI)) (vq_ow (s := (oF eI)) (rq_mp (s := (rO (oF eI))) (rq_mp (s := (rO (oF eI))) (rq_mp (s := (rO (oF eI))) (rq_mm (s := (rO (oF eI))) (rq_pp (s := (rO (oF eI))) (pq_varF (d := (eL eI) heights2) rfl) (pq_varF (d := eI start3) rfl) (o_ixF rfl)) (rq_pp (s := (rO (oF eI))) (pq_varF (d := (eL eI) heights2) rfl) (pq_varF (d := eI goal4) rfl) (o_ixF rfl)) fun v12 v13 => (rq_of rfl)) (pq_bin rfl rfl (pow_I (by decide))) fun v14 => o_mul) (pq_bin (pq_varF (d := eI cell5) rfl) rfl (mod_I (by decide))) fun v16 => (rq_of rfl)) rfl fun v18 => (rq_of rfl))) (fun _ => ⟨.inl ⟨_, rfl⟩, (.inl rfl)⟩)
   ·refine sim_nil (sim_gh (ρ1 := [some (oF eI style1), some (oF (eL eI) heights2), some (oF eI start3), some (oF eI goal4), some (oF eI cell5)]) gh_n ?_)
    refine sim_ifK_p (tq_p (pq_bin (pq_varF (d := eI style1) rfl) rfl (o_eq (e := eI) (by decide) (td_o (s := (oF eI))) (td_o (s := (oF eI)))))) ?_ ?_
    ·refine sim_seq_end ?_
     exact sim_ret_p (vp_ow (pq_bin (pq_bin (pq_bin (pq_bin (pq_callB (aq_pp (pq_varF (d := (eL eI) heights2) rfl) aq_nil) (o_len rfl (by simp))) rfl (fdiv_I (by decide))) (pq_varF (d := eI goal4) rfl) rfl) (pq_bin (pq_varF (d := eI cell5) rfl) rfl (mod_I (by decide))) rfl) rfl rfl)) ⟨.inl ⟨_, rfl⟩, (.inl rfl)⟩
    ·refine sim_nil (sim_gh (ρ1 := [some (oF eI style1), some (oF (eL eI) heights2), some (oF eI start3), some (oF eI goal4), some (oF eI cell5)]) gh_n ?_)
     exact sim_ret_id (so := (oF eI)) (vq_ow (s := (oF eI)) (rq_mp (s := (rO (oF eI))) (rq_mp (s := (rO (oF eI))) (rq_pp (s := (rO (oF eI))) (pq_varF (d := eI cell5) rfl) (pq_bin rfl rfl (pow_I (by decide))) o_mul) (pq_bin (pq_bin rfl (pq_bin rfl rfl (pow_I (by decide))) (o_mulp (okMul_l (by decide)))) rfl rfl) fun v20 => (rq_of (mod_I (by decide)))) (pq_bin (pq_bin rfl rfl (pow_I (by decide))) rfl rfl) fun v22 => (rq_of rfl))) (fun _ => (.inl rfl))
def f__law_game (script1 : (List Int)) : M (List (Int × (List (Int × Int)))) :=
 (f__law_at script1 0).bind fun head2 =>
 lt ((1 + (head2 % 6)) : Int) fun many3 =>
 (if decide (((head2 / 6) % 6) = 1) then
 (lt ((1 + ((head2 / 36) % 16)) : Int) fun many5 =>
 M.ok (many5, 2))
 else (M.ok (many3, 3))).bind fun (b6 : (Int × Int)) =>
 (if decide (((head2 / 6) % 6) = 3) then
 (lt ((7 + ((head2 / 36) % 4)) : Int) fun many8 =>
 M.ok many8)
 else (M.ok b6.1)).bind fun (b9 : Int) =>
 ((f__law_at script1 1).bind fun v10 => M.ok (v10 % 5)).bind fun style12 =>
 ((rngM 0 b9).bind fun xs18 => compM (fun (k13 : Int) => (((f__law_at script1 (2 + (4 * k13))).bind fun v14 => M.ok (v14 / 6)).bind fun v16 => M.ok (v16 % 30)).nox) xs18).bind fun heights19 =>
 ((rngM 0 b9).bind fun xs73 => forM (fun (k20 : Int) (b47 : (List (Int × (List (Int × Int))))) =>
 (f__law_at script1 (2 + (4 * k20))).bind fun cell48 =>
 ((((modM (cell48 / 2) b6.2).bind fun v50 => M.ok (1 + v50)).bind fun v51 => rngM 0 v51).bind fun xs71 => forM (fun (j52 : Int) (b62 : (Dc Int Int)) =>
 (f__law_at script1 ((3 + (4 * k20)) + j52)).bind fun by_63 =>
 (((modM by_63 b9).bind fun v67 => (((modM by_63 b9).bind fun v64 => (fdivM by_63 b9).bind fun v65 => M.ok (v64, v65)).bind fun v66 => f__law_amount style12 heights19 k20 v66.1 v66.2).bind fun v68 => M.ok (v67, v68)).bind fun v70 => setdM b62 v70.1 v70.2).bind fun ways69 =>
 M.ok ways69) xs71 ([] : (Dc Int Int))).bind fun (b62 : (Dc Int Int)) =>
 (appM b47 ((cell48 % 2), sortIt b62)).bind fun game_here72 =>
 M.ok game_here72) xs73 ([] : (List (Int × (List (Int × Int)))))).bind fun (b47 : (List (Int × (List (Int × Int))))) =>
 M.ok b47
theorem mr__law_game (script1 : (List Int)) : FQ (m__law_game [(eL eI) script1]) (f__law_game script1) (oL (oT2 (oF eI) (oL (oF (eT2 eI eI))))) := by
 refine fq_sem (ρ := [some (oF (eL eI) script1), none, none, none, none, none, none, none, none, none, none, none]) rfl ?_
 unfold f__law_game d__law_game
 refine sim_s (upd := fun head2 => [some (oF (eL eI) script1), some (oF eI head2), none, none, none, none, none, none, none, none, none, none]) ?_ (fun head2 => gh_n) fun head2 => ?_
 ·exact (set_m (s := (oF eI)) (rq_callF0 (aq_pp (pq_varF (d := (eL eI) script1) rfl) (aq_pp rfl aq_nil)) rfl (d_cons (td_o (s := (oF (eL eI)))) (d_cons (td_o (s := (oF eI))) d_nil)) (.inl rfl) (mr__law_at script1 0)))
 refine sim_l (upd := fun many3 => [some (oF (eL eI) script1), some (oF eI head2), some (oF eI many3), none, none, none, none, none, none, none, none, none]) (set_p (pq_bin rfl (pq_bin (pq_varF (d := eI head2) rfl) rfl (mod_I (by decide))) rfl)) (fun many3 => gh_n) fun many3 => ?_
 refine sim_p (ρ1 := [some (oF (eL eI) script1), some (oF eI head2), some (oF eI many3), some (oF eI 3), none, none, none, none, none, none, none, none]) (set_p rfl) gh_n ?_
 refine sim_j (up := fun (b6 : (Int × Int)) => [some (oF (eL eI) script1), some (oF eI head2), some (oF eI b6.1), some (oF eI b6.2), none, none, none, none, none, none, none, none]) ?_ fun b6 => ?_
 ·refine sim_if_p (tq_p (pq_bin (pq_bin (pq_bin (pq_varF (d := eI head2) rfl) rfl (fdiv_I (by decide))) rfl (mod_I (by decide))) rfl (o_eq (e := eI) (by decide) (td_o (s := (oF eI)) (x := ((head2 / 6) % 6))) (td_o (s := (oF eI)))))) ?_ ?_
  ·refine sim_l (upd := fun many5 => [some (oF (eL eI) script1), some (oF eI head2), some (oF eI many5), some (oF eI 3), none, none, none, none, none, none, none, none]) (set_p (pq_bin rfl (pq_bin (pq_bin (pq_varF (d := eI head2) rfl) rfl (fdiv_I (by decide))) rfl (mod_I (by decide))) rfl)) (fun many5 => gh_n) fun many5 => ?_
   refine sim_p (ρ1 := [some (oF (eL eI) script1), some (oF eI head2), some (oF eI many5), some (oF eI 2), none, none, none, none, none, none, none, none]) (set_p rfl) gh_n ?_
   exact sim_end ⟨_, rfl, gh_n⟩
  ·exact sim_end ⟨_, rfl, gh_n⟩
 refine sim_j (up := fun (b9 : Int) => [some (oF (eL eI) script1), some (oF eI head2), some (oF eI b9), some (oF eI b6.2), none, none, none, none, none, none, none, none]) ?_ fun b9 => ?_
 ·refine sim_if_p (tq_p (pq_bin (pq_bin (pq_bin (pq_varF (d := eI head2) rfl) rfl (fdiv_I (by decide))) rfl (mod_I (by decide))) rfl (o_eq (e := eI) (by decide) (td_o (s := (oF eI)) (x := ((head2 / 6) % 6))) (td_o (s := (oF eI)))))) ?_ ?_
  ·refine sim_l (upd := fun many8 => [some (oF (eL eI) script1), some (oF eI head2), some (oF eI many8), some (oF eI b6.2), none, none, none, none, none, none, none, none]) (set_p (pq_bin rfl (pq_bin (pq_bin (pq_varF (d := eI head2) rfl) rfl (fdiv_I (by decide))) rfl (mod_I (by decide))) rfl)) (fun many8 => gh_n) fun many8 => ?_
   exact sim_end ⟨_, rfl, gh_n⟩
  ·exact sim_end ⟨_, rfl, gh_n⟩
 refine sim_s (upd := fun style12 => [some (oF (eL eI) script1), some (oF eI head2), some (oF eI b9), some (oF eI b6.2), some (oF eI style12), none, none, none, none, none, none, none]) ?_ (fun style12 => gh_n) fun style12 => ?_
 ·exact (set_m (s := (oF eI)) (rq_mp (s := (rO (oF eI))) (rq_callF0 (aq_pp (pq_varF (d := (eL eI) script1) rfl) (aq_pp rfl aq_nil)) rfl (d_cons (td_o (s := (oF (eL eI)))) (d_cons (td_o (s := (oF eI))) d_nil)) (.inl rfl) (mr__law_at script1 1)) rfl fun v10 => (rq_of (mod_I (by decide)))))
 refine sim_s (upd := fun heights19 => [some (oF (eL eI) script1), some (oF eI head2), some (oF eI b9), some (oF eI b6.2), some (oF eI style12), some (oL (oF eI) heights19), none, none, none, none, none, none]) ?_ (fun heights19 => gh_n) fun heights19 => ?_
 ·exact (set_m (s := (oL (oF eI))) (rq_compI (iq_args0 (aq_pp (pq_varF (d := eI b9) rfl) aq_nil) rfl (d_cons (td_o (s := (oF eI))) d_nil) g_range1) fun xs18 hi => (rq_compM (ρx := (fun (k13 : Int) => [some (oF (eL eI) script1), some (oF eI head2), some (oF eI b9), some (oF eI b6.2), some (oF eI style12), none, none, none, none, none, none, some (oF eI k13)])) (s := (oF eI)) hi (fun _ => rfl) (fun k13 => (rq_mp (s := (rO (oF eI))) (rq_mp (s := (rO (oF eI))) (rq_callF0 (aq_pp (pq_varF (d := (eL eI) script1) rfl) (aq_pp (pq_bin rfl (pq_bin rfl (pq_varF (d := eI k13) rfl) (o_mulp (okMul_l (by decide)))) rfl) aq_nil)) rfl (d_cons (td_o (s := (oF (eL eI)))) (d_cons (td_o (s := (oF eI)) (x := (2 + (4 * k13)))) d_nil)) (.inl rfl) (mr__law_at script1 (2 + (4 * k13)))) rfl fun v14 => (rq_of (fdiv_I (by decide)))) rfl fun v16 => (rq_of (mod_I (by decide))))))))
 refine sim_p (ρ1 := [some (oF (eL eI) script1), some (oF eI head2), some (oF eI b9), some (oF eI b6.2), some (oF eI style12), some (oL (oF eI) heights19), some (oL (oT2 (oF eI) (oL (oF (eT2 eI eI)))) ([] : (List (Int × (List (Int × Int)))))), none, none, none, none, none]) (set_p (pq_lst aq_nil rfl rfl)) gh_n ?_
 refine sim_s (upd := fun (b47 : (List (Int × (List (Int × Int))))) => [some (oF (eL eI) script1), some (oF eI head2), some (oF eI b9), some (oF eI b6.2), some (oF eI style12), some (oL (oF eI) heights19), some (oL (oT2 (oF eI) (oL (oF (eT2 eI eI)))) b47), none, none, none, none, none]) ?_ (fun b47 => gh_n) fun b47 => ?_
 ·refine sim_forI (iq_args0 (aq_pp (pq_varF (d := eI b9) rfl) aq_nil) rfl (d_cons (td_o (s := (oF eI))) d_nil) g_range1) fun xs73 hi => ?_
  refine sim_for (upb := (fun (b47 : (List (Int × (List (Int × Int))))) => [some (oF (eL eI) script1), some (oF eI head2), some (oF eI b9), some (oF eI b6.2), some (oF eI style12), some (oL (oF eI) heights19), some (oL (oT2 (oF eI) (oL (oF (eT2 eI eI)))) b47), none, none, none, none, none])) (upx := (fun (k20 : Int) (b47 : (List (Int × (List (Int × Int))))) => [some (oF (eL eI) script1), some (oF eI head2), some (oF eI b9), some (oF eI b6.2), some (oF eI style12), some (oL (oF eI) heights19), some (oL (oT2 (oF eI) (oL (oF (eT2 eI eI)))) b47), none, none, none, none, some (oF eI k20)])) hi rfl (fun _ _ => rfl) fun k20 b47 => ?_
  refine sim_s (upd := fun cell48 => [some (oF (eL eI) script1), some (oF eI head2), some (oF eI b9), some (oF eI b6.2), some (oF eI style12), some (oL (oF eI) heights19), some (oL (oT2 (oF eI) (oL (oF (eT2 eI eI)))) b47), none, none, none, some (oF eI cell48), some (oF eI k20)]) ?_ (fun cell48 => gh_n) fun cell48 => ?_
  ·exact (set_m (s := (oF eI)) (rq_callF0 (aq_pp (pq_varF (d := (eL eI) script1) rfl) (aq_pp (pq_bin rfl (pq_bin rfl (pq_varF (d := eI k20) rfl) (o_mulp (okMul_l (by decide)))) rfl) aq_nil)) rfl (d_cons (td_o (s := (oF (eL eI)))) (d_cons (td_o (s := (oF eI)) (x := (2 + (4 * k20)))) d_nil)) (.inl rfl) (mr__law_at script1 (2 + (4 * k20)))))
  refine sim_p (ρ1 := [some (oF (eL eI) script1), some (oF eI head2), some (oF eI b9), some (oF eI b6.2), some (oF eI style12), some (oL (oF eI) heights19), some (oL (oT2 (oF eI) (oL (oF (eT2 eI eI)))) b47), none, none, some (oDk kI eI ([] : (Dc Int Int))), some (oF eI cell48), some (oF eI k20)]) (set_p rfl) gh_n ?_
  refine sim_s (upd := fun (b62 : (Dc Int Int)) => [some (oF (eL eI) script1), some (oF eI head2), some (oF eI b9), some (oF eI b6.2), some (oF eI style12), some (oL (oF eI) heights19), some (oL (oT2 (oF eI) (oL (oF (eT2 eI eI)))) b47), none, none, some (oDk kI eI b62), some (oF eI cell48), some (oF eI k20)]) ?_ (fun b62 => gh_n) fun b62 => ?_
  ·refine sim_forI (iq_args (aq_mp (rq_pm (s := (rO (oF eI))) rfl (rq_pp (s := (rO (oF eI))) (pq_bin (pq_varF (d := eI cell48) rfl) rfl (fdiv_I (by decide))) (pq_varF (d := eI b6.2) rfl) o_mod) fun v50 => (rq_of rfl)) aq_nil) (fun _ => rfl) (fun v51 => (d_cons (td_o (s := (oF eI))) d_nil)) (fun _ => g_range1)) fun xs71 hi => ?_
   refine sim_for (upb := (fun (b62 : (Dc Int Int)) => [some (oF (eL eI) script1), some (oF eI head2), some (oF eI b9), some (oF eI b6.2), some (oF eI style12), some (oL (oF eI) heights19), some (oL (oT2 (oF eI) (oL (oF (eT2 eI eI)))) b47), none, none, some (oDk kI eI b62), some (oF eI cell48), some (oF eI k20)])) (upx := (fun (j52 : Int) (b62 : (Dc Int Int)) => [some (oF (eL eI) script1), some (oF eI head2), some (oF eI b9), some (oF eI b6.2), some (oF eI style12), some (oL (oF eI) heights19), some (oL (oT2 (oF eI) (oL (oF (eT2 eI eI)))) b47), none, some (oF eI j52), some (oDk kI eI b62), some (oF eI cell48), some (oF eI k20)])) hi rfl (fun _ _ => rfl) fun j52 b62 => ?_
   refine sim_s (upd := fun by_63 => [some (oF (eL eI) script1), some (oF eI head2), some (oF eI b9), some (oF eI b6.2), some (oF eI style12), some (oL (oF eI) heights19), some (oL (oT2 (oF eI) (oL (oF (eT2 eI eI)))) b47), some (oF eI by_63), some (oF eI j52), some (oDk kI eI b62), some (oF eI cell48), some (oF eI k20)]) ?_ (fun by_63 => gh_n) fun by_63 => ?_
   ·exact (set_m (s := (oF eI)) (rq_callF0 (aq_pp (pq_varF (d := (eL eI) script1) rfl) (aq_pp (pq_bin (pq_bin rfl (pq_bin rfl (pq_varF (d := eI k20) rfl) (o_mulp (okMul_l (by decide)))) rfl) (pq_varF (d := eI j52) rfl) rfl) aq_nil)) rfl (d_cons (td_o (s := (oF (eL eI)))) (d_cons (td_o (s := (oF eI)) (x := ((3 + (4 * k20)) + j52))) d_nil)) (.inl rfl) (mr__law_at script1 ((3 + (4 * k20)) + j52))))
   refine sim_s (upd := fun ways69 => [some (oF (eL eI) script1), some (oF eI head2), some (oF eI b9), some (oF eI b6.2), some (oF eI style12), some (oL (oF eI) heights19), some (oL (oT2 (oF eI) (oL (oF (eT2 eI eI)))) b47), some (oF eI by_63), some (oF eI j52), some (oDk kI eI ways69), some (oF eI cell48), some (oF eI k20)]) ?_ (fun ways69 => gh_n) fun ways69 => ?_
   ·refine (sim_meth_m (s := (oDk kI eI)) (ρ' := [some (oF (eL eI) script1), some (oF eI head2), some (oF eI b9), some (oF eI b6.2), some (oF eI style12), some (oL (oF eI) heights19), some (oL (oT2 (oF eI) (oL (oF (eT2 eI eI)))) b47), some (oF eI by_63), some (oF eI j52), some (oDk kI eI b62), some (oF eI cell48), some (oF eI k20)]) (F := (fun (v70 : (Int × Int)) y => setdM y v70.1 v70.2)) (x := b62) ?_ (fun _ => rfl) ?_ ?_ (fun _ => (gq_dsetd (ke := kI) (t := eI))) ?_)
    ·exact rfl
    ·exact (vs_mm (vq_ow (s := (oF eI)) (rq_pp (s := (rO (oF eI))) (pq_varF (d := eI by_63) rfl) (pq_varF (d := eI b9) rfl) o_mod)) (vs_mp (vq_ow (s := (oF eI)) (rq_callF (aq_pm (pq_varF (d := eI style12) rfl) (aq_pm (pq_var (o := oL (oF eI) heights19) rfl) (aq_pm (pq_varF (d := eI k20) rfl) (aq_mm (rq_pp (s := (rO (oF eI))) (pq_varF (d := eI by_63) rfl) (pq_varF (d := eI b9) rfl) o_mod) (aq_mp (rq_pp (s := (rO (oF eI))) (pq_varF (d := eI by_63) rfl) (pq_varF (d := eI b9) rfl) o_fdiv) aq_nil))))) (fun _ => rfl) (fun v66 => (d_cons (td_o (s := (oF eI))) (d_cons (td_v (s := (oL (oF eI)))) (d_cons (td_o (s := (oF eI))) (d_cons (td_o (s := (oF eI))) (d_cons (td_o (s := (oF eI))) d_nil)))))) (.inr LeafF.lf) (fun v66 => mr__law_amount style12 heights19 k20 v66.1 v66.2))) vs_nil))
    ·exact rfl
    ·exact (fun _ => rfl)
   exact sim_end ⟨_, .inl rfl, rfl⟩
  refine sim_s (upd := fun game_here72 => [some (oF (eL eI) script1), some (oF eI head2), some (oF eI b9), some (oF eI b6.2), some (oF eI style12), some (oL (oF eI) heights19), some (oL (oT2 (oF eI) (oL (oF (eT2 eI eI)))) game_here72), none, none, some (oDk kI eI b62), some (oF eI cell48), some (oF eI k20)]) ?_ (fun game_here72 => gh_n) fun game_here72 => ?_
  ·refine (sim_meth (s := (oL (oT2 (oF eI) (oL (oF (eT2 eI eI)))))) (ρ' := [some (oF (eL eI) script1), some (oF eI head2), some (oF eI b9), some (oF eI b6.2), some (oF eI style12), some (oL (oF eI) heights19), some (oL (oT2 (oF eI) (oL (oF (eT2 eI eI)))) b47), none, none, some (oDk kI eI b62), some (oF eI cell48), some (oF eI k20)]) (i := 6) (sA := (oL (oT2 (oF eI) (oL (oF (eT2 eI eI)))))) (as := [oT2 (oF eI) (oL (oF (eT2 eI eI))) ((cell48 % 2), sortIt b62)]) (md := (fun (f : (List (Int × (List (Int × Int)))) → M (List (Int × (List (Int × Int))))) => f b47)) (F := fun (y : (List (Int × (List (Int × Int))))) => appM y ((cell48 % 2), sortIt b62)) ?_ (fun _ => rfl) ?_ ?_ ?_ ?_)
   ·exact (mq_var (s := (oL (oT2 (oF eI) (oL (oF (eT2 eI eI)))))) (x := b47) rfl)
   ·exact (vs_pp (vp_ow (pq_tupO (aq_pp (pq_bin (pq_varF (d := eI cell48) rfl) rfl (mod_I (by decide))) (aq_pp (pq_un (pq_var (o := oDk kI eI b62) rfl) (o_sortIt (td_v (s := (oDk kI eI))))) aq_nil)) rfl rfl rfl)) vs_nil)
   ·exact rfl
   ·exact (gq_append (t := (oT2 (oF eI) (oL (oF (eT2 eI eI))))))
   ·exact (fun _ => rfl)
  exact sim_end ⟨_, .inl rfl, rfl⟩
 exact sim_ret_p (vp_mvL rfl) (.inl rfl)
def f__law_copied (game_here1 : (List (Int × (List (Int × Int))))) : M (List (Int × (List (Int × Int)))) :=
 compP (fun (p2 : (Int × (List (Int × Int)))) => (p2.1, p2.2)) game_here1
theorem mr__law_copied (game_here1 : (List (Int × (List (Int × Int))))) : FQ (m__law_copied [(eL (eT2 eI (eL (eT2 eI eI)))) game_here1]) (f__law_copied game_here1) (oL (oT2 (oF eI) (oL (oF (eT2 eI eI))))) := by
 refine fq_sem (ρ := [some (oF (eL (eT2 eI (eL (eT2 eI eI)))) game_here1), none, none]) rfl ?_
 unfold f__law_copied d__law_copied
 exact sim_ret_id (so := (oL (oT2 (oF eI) (oL (oF (eT2 eI eI)))))) (vq_ow (s := (oL (oT2 (oF eI) (oL (oF (eT2 eI eI)))))) (rq_compP (ρx := (fun (p2 : (Int × (List (Int × Int)))) => [some (oF (eL (eT2 eI (eL (eT2 eI eI)))) game_here1), some (oF eI p2.1), some (oF (eL (eT2 eI eI)) p2.2)])) (s := (oT2 (oF eI) (oL (oF (eT2 eI eI))))) (iq_list (mi := .ok game_here1) (sL := (oF (eL (eT2 eI (eL (eT2 eI eI)))))) (rq_of (pq_varF (d := (eL (eT2 eI (eL (eT2 eI eI)))) game_here1) rfl))) (fun _ => rfl) (fun p2 => (pq_tupO (aq_pp (pq_varF (d := eI p2.1) rfl) (aq_pp (pq_callB (aq_pp (pq_varF (d := (eL (eT2 eI eI)) p2.2) rfl) aq_nil) (o_list seq_fL fz_L)) aq_nil)) rfl rfl rfl)))) (fun _ => (.inl rfl))
def f__law_more (one1 : (Option Int)) (other2 : (Option Int)) : M Bool :=
 optC other2 (M.ok false) fun other3 =>
 optC one1 (M.ok true) fun one4 =>
 M.ok (decide (other3 < one4))
theorem mr__law_more (one1 : (Option Int)) (other2 : (Option Int)) : FQ (m__law_more [(eO eI) one1, (eO eI) other2]) (f__law_more one1 other2) (oF eB) := by
 refine fq_sem (ρ := [some (oF (eO eI) one1), some (oF (eO eI) other2)]) rfl ?_
 unfold f__law_more d__law_more
 refine sim_optKN (fun (v7 : (Option Int)) => [some (oF (eO eI) one1), some (oF (eO eI) v7)]) (fun v8 => (tq_p (pq_bin (pq_varF (d := (eO eI) v8) rfl) rfl (o_isn (e := eI) (td_o (s := (oF (eO eI)))) rfl)))) ?_ (fun other3 => ?_)
 ·refine sim_seq_end ?_
  exact sim_ret_p (vp_ow rfl) ⟨.inl ⟨_, rfl⟩, (.inl rfl)⟩
 ·refine sim_nil (sim_gh (ρ1 := [some (oF (eO eI) one1), some (oF eI other3)]) gh_n ?_)
  refine sim_optKN (fun (v5 : (Option Int)) => [some (oF (eO eI) v5), some (oF eI other3)]) (fun v6 => (tq_p (pq_bin (pq_varF (d := (eO eI) v6) rfl) rfl (o_isn (e := eI) (td_o (s := (oF (eO eI)))) rfl)))) ?_ (fun one4 => ?_)
  ·refine sim_seq_end ?_
   exact sim_ret_p (vp_ow rfl) ⟨.inl ⟨_, rfl⟩, (.inl rfl)⟩
  ·refine sim_nil (sim_gh (ρ1 := [some (oF eI one4), some (oF eI other3)]) gh_n ?_)
   exact sim_ret_p (vp_ow (pq_bin (pq_varF (d := eI one4) rfl) (pq_varF (d := eI other3) rfl) o_gt)) (.inl rfl)
def f__law_need (table1 : (List (Option Int))) (way2 : (Int × Int)) : M (Option Int) :=
 ((ix table1 way2.1).bind fun v3 => M.ok v3.isNone).bind fun z10 => if z10 then
 (M.ok none)
 else (((((ix table1 way2.1).bind fun v5 => unO v5).bind fun v6 => M.ok (v6 - way2.2)).bind fun v8 => M.ok (if v8 > 0 then v8 else 0)).bind fun r9 => M.ok (some r9))
theorem mr__law_need (table1 : (List (Option Int))) (way2 : (Int × Int)) : FQ (m__law_need [(eL (eO eI)) table1, (eT2 eI eI) way2]) (f__law_need table1 way2) (oF (eO eI)) := by
 refine fq_sem (ρ := [some (oF (eL (eO eI)) table1), some (oF (eT2 eI eI) way2)]) rfl ?_
 unfold f__law_need d__law_need
 refine sim_ifK_m (tq_m (rq_mp (s := (rO (oF eB))) (rq_pp (s := (rO (oF (eO eI)))) (pq_varF (d := (eL (eO eI)) table1) rfl) (pq_bin (pq_varF (d := (eT2 eI eI) way2) rfl) rfl (o_t0 (o := oF eI way2.1) rfl)) (o_ixF rfl)) rfl fun v3 => (rq_of (o_isn (e := eI) (td_o (s := (oF (eO eI)))) rfl)))) ?_ ?_
 ·refine sim_seq_end ?_
  exact sim_ret_p (vp_ow rfl) ⟨.inl ⟨_, rfl⟩, (.inl rfl)⟩
 ·refine sim_nil (sim_gh (ρ1 := [some (oF (eL (eO eI)) table1), some (oF (eT2 eI eI) way2)]) gh_n ?_)
  exact sim_ret (so := (oF eI)) (inj := fun r9 => (some r9)) (vq_ow (s := (oF eI)) (rq_callB (s := (rO (oF eI))) (aq_pm rfl (aq_mp (rq_mp (s := (rO (oF eI))) (rq_bind (rq_pp (s := (rO (oF (eO eI)))) (pq_varF (d := (eL (eO eI)) table1) rfl) (pq_bin (pq_varF (d := (eT2 eI eI) way2) rfl) rfl (o_t0 (o := oF eI way2.1) rfl)) (o_ixF rfl)) fun v5 e => rq_unF e) (pq_bin (pq_varF (d := (eT2 eI eI) way2) rfl) rfl (o_t1 (o := oF eI way2.2) rfl)) fun v6 => (rq_of rfl)) aq_nil)) fun v8 => (rq_of rfl))) (fun _ => (.inl rfl))
def f__law_next (game_here1 : (List (Int × (List (Int × Int))))) (rule2 : (List (Option Int))) (table3 : (List (Option Int))) : M (List (Option Int)) :=
 (forM (fun (p4 : (Int × (Int × (List (Int × Int))))) (b30 : (List (Option Int))) =>
 (ix rule2 p4.1).bind fun best31 =>
 (ix table3 p4.1).bind fun most32 =>
 (if decide (p4.2.1 = 1) then
 ((forM (fun (way43 : (Int × Int)) (b48 : ((Option Int) × (Option Int))) =>
 ((f__law_need table3 way43).bind fun v49 => f__law_more v49 b48.2).bind fun z51 => if z51 then
 ((f__law_need table3 way43).bind fun most50 =>
 M.ok ((some way43.1), most50))
 else (M.ok (b48.1, b48.2))) p4.2.2 (best31, most32)).bind fun (b48 : ((Option Int) × (Option Int))) =>
 M.ok b48.1)
 else (M.ok best31)).bind fun (b53 : (Option Int)) =>
 (appM b30 b53).bind fun after54 =>
 M.ok after54) (enumL game_here1) ([] : (List (Option Int)))).bind fun (b30 : (List (Option Int))) =>
 M.ok b30
theorem mr__law_next (game_here1 : (List (Int × (List (Int × Int))))) (rule2 : (List (Option Int))) (table3 : (List (Option Int))) : FQ (m__law_next [(eL (eT2 eI (eL (eT2 eI eI)))) game_here1, (eL (eO eI)) rule2, (eL (eO eI)) table3]) (f__law_next game_here1 rule2 table3) (oL (oF (eO eI))) := by
 refine fq_sem (ρ := [some (oF (eL (eT2 eI (eL (eT2 eI eI)))) game_here1), some (oF (eL (eO eI)) rule2), some (oF (eL (eO eI)) table3), none, none, none, none, none, none]) rfl ?_
 unfold f__law_next d__law_next
 refine sim_p (ρ1 := [some (oF (eL (eT2 eI (eL (eT2 eI eI)))) game_here1), some (oF (eL (eO eI)) rule2), some (oF (eL (eO eI)) table3), some (oL (oF (eO eI)) ([] : (List (Option Int)))), none, none, none, none, none]) (set_p (pq_lst aq_nil rfl rfl)) gh_n ?_
 refine sim_s (upd := fun (b30 : (List (Option Int))) => [some (oF (eL (eT2 eI (eL (eT2 eI eI)))) game_here1), some (oF (eL (eO eI)) rule2), some (oF (eL (eO eI)) table3), some (oL (oF (eO eI)) b30), none, none, none, none, none]) ?_ (fun b30 => gh_n) fun b30 => ?_
 ·refine sim_for (upb := (fun (b30 : (List (Option Int))) => [some (oF (eL (eT2 eI (eL (eT2 eI eI)))) game_here1), some (oF (eL (eO eI)) rule2), some (oF (eL (eO eI)) table3), some (oL (oF (eO eI)) b30), none, none, none, none, none])) (upx := (fun (p4 : (Int × (Int × (List (Int × Int))))) (b30 : (List (Option Int))) => [some (oF (eL (eT2 eI (eL (eT2 eI eI)))) game_here1), some (oF (eL (eO eI)) rule2), some (oF (eL (eO eI)) table3), some (oL (oF (eO eI)) b30), none, none, none, some (oF (eT2 eI (eL (eT2 eI eI))) p4.2), some (oF eI p4.1)])) (iq_args0 (aq_pp (pq_varF (d := (eL (eT2 eI (eL (eT2 eI eI)))) game_here1) rfl) aq_nil) rfl (d_cons (td_o (s := (oF (eL (eT2 eI (eL (eT2 eI eI))))))) d_nil) g_enum) rfl (fun _ _ => rfl) fun p4 b30 => ?_
  refine sim_s (upd := fun best31 => [some (oF (eL (eT2 eI (eL (eT2 eI eI)))) game_here1), some (oF (eL (eO eI)) rule2), some (oF (eL (eO eI)) table3), some (oL (oF (eO eI)) b30), some (oF (eO eI) best31), none, none, some (oF (eT2 eI (eL (eT2 eI eI))) p4.2), some (oF eI p4.1)]) ?_ (fun best31 => gh_n) fun best31 => ?_
  ·exact (set_m (s := (oF (eO eI))) (rq_pp (s := (rO (oF (eO eI)))) (pq_varF (d := (eL (eO eI)) rule2) rfl) (pq_varF (d := eI p4.1) rfl) (o_ixF rfl)))
  refine sim_s (upd := fun most32 => [some (oF (eL (eT2 eI (eL (eT2 eI eI)))) game_here1), some (oF (eL (eO eI)) rule2), some (oF (eL (eO eI)) table3), some (oL (oF (eO eI)) b30), some (oF (eO eI) best31), some (oF (eO eI) most32), none, some (oF (eT2 eI (eL (eT2 eI eI))) p4.2), some (oF eI p4.1)]) ?_ (fun most32 => gh_n) fun most32 => ?_
  ·exact (set_m (s := (oF (eO eI))) (rq_pp (s := (rO (oF (eO eI)))) (pq_varF (d := (eL (eO eI)) table3) rfl) (pq_varF (d := eI p4.1) rfl) (o_ixF rfl)))
  refine sim_j (up := fun (b53 : (Option Int)) => [some (oF (eL (eT2 eI (eL (eT2 eI eI)))) game_here1), some (oF (eL (eO eI)) rule2), some (oF (eL (eO eI)) table3), some (oL (oF (eO eI)) b30), some (oF (eO eI) b53), none, none, some (oF (eT2 eI (eL (eT2 eI eI))) p4.2), some (oF eI p4.1)]) ?_ fun b53 => ?_
  ·refine sim_if_p (tq_p (pq_bin (pq_bin (pq_varF (d := (eT2 eI (eL (eT2 eI eI))) p4.2) rfl) rfl (o_t0 (o := oF eI p4.2.1) rfl)) rfl (o_eq (e := eI) (by decide) (td_o (s := (oF eI))) (td_o (s := (oF eI)))))) ?_ ?_
   ·refine sim_s (upd := fun (b48 : ((Option Int) × (Option Int))) => [some (oF (eL (eT2 eI (eL (eT2 eI eI)))) game_here1), some (oF (eL (eO eI)) rule2), some (oF (eL (eO eI)) table3), some (oL (oF (eO eI)) b30), some (oF (eO eI) b48.1), some (oF (eO eI) b48.2), none, some (oF (eT2 eI (eL (eT2 eI eI))) p4.2), some (oF eI p4.1)]) ?_ (fun b48 => gh_n) fun b48 => ?_
    ·refine sim_for (upb := (fun (b48 : ((Option Int) × (Option Int))) => [some (oF (eL (eT2 eI (eL (eT2 eI eI)))) game_here1), some (oF (eL (eO eI)) rule2), some (oF (eL (eO eI)) table3), some (oL (oF (eO eI)) b30), some (oF (eO eI) b48.1), some (oF (eO eI) b48.2), none, some (oF (eT2 eI (eL (eT2 eI eI))) p4.2), some (oF eI p4.1)])) (upx := (fun (way43 : (Int × Int)) (b48 : ((Option Int) × (Option Int))) => [some (oF (eL (eT2 eI (eL (eT2 eI eI)))) game_here1), some (oF (eL (eO eI)) rule2), some (oF (eL (eO eI)) table3), some (oL (oF (eO eI)) b30), some (oF (eO eI) b48.1), some (oF (eO eI) b48.2), some (oF (eT2 eI eI) way43), some (oF (eT2 eI (eL (eT2 eI eI))) p4.2), some (oF eI p4.1)])) (iq_list (mi := .ok p4.2.2) (sL := (oF (eL (eT2 eI eI)))) (rq_of (pq_bin (pq_varF (d := (eT2 eI (eL (eT2 eI eI))) p4.2) rfl) rfl (o_t1 (o := oF (eL (eT2 eI eI)) p4.2.2) rfl)))) rfl (fun _ _ => rfl) fun way43 b48 => ?_
     refine sim_if_m (tq_m (rq_callF (aq_mp (rq_callF0 (aq_pp (pq_varF (d := (eL (eO eI)) table3) rfl) (aq_pp (pq_varF (d := (eT2 eI eI) way43) rfl) aq_nil)) rfl (d_cons (td_o (s := (oF (eL (eO eI))))) (d_cons (td_o (s := (oF (eT2 eI eI)))) d_nil)) (.inl rfl) (mr__law_need table3 way43)) (aq_pp (pq_varF (d := (eO eI) b48.2) rfl) aq_nil)) (fun _ => rfl) (fun v49 => (d_cons (td_o (s := (oF (eO eI)))) (d_cons (td_o (s := (oF (eO eI)))) d_nil))) (.inl fun _ => rfl) (fun v49 => mr__law_more v49 b48.2))) ?_ ?_
     ·refine sim_s (upd := fun most50 => [some (oF (eL (eT2 eI (eL (eT2 eI eI)))) game_here1), some (oF (eL (eO eI)) rule2), some (oF (eL (eO eI)) table3), some (oL (oF (eO eI)) b30), some (oF (eO eI) b48.1), some (oF (eO eI) most50), some (oF (eT2 eI eI) way43), some (oF (eT2 eI (eL (eT2 eI eI))) p4.2), some (oF eI p4.1)]) ?_ (fun most50 => gh_n) fun most50 => ?_
      ·exact (set_m (s := (oF (eO eI))) (rq_callF0 (aq_pp (pq_varF (d := (eL (eO eI)) table3) rfl) (aq_pp (pq_varF (d := (eT2 eI eI) way43) rfl) aq_nil)) rfl (d_cons (td_o (s := (oF (eL (eO eI))))) (d_cons (td_o (s := (oF (eT2 eI eI)))) d_nil)) (.inl rfl) (mr__law_need table3 way43)))
      refine sim_p (ρ1 := [some (oF (eL (eT2 eI (eL (eT2 eI eI)))) game_here1), some (oF (eL (eO eI)) rule2), some (oF (eL (eO eI)) table3), some (oL (oF (eO eI)) b30), some (oF eI way43.1), some (oF (eO eI) most50), some (oF (eT2 eI eI) way43), some (oF (eT2 eI (eL (eT2 eI eI))) p4.2), some (oF eI p4.1)]) (set_p (pq_bin (pq_varF (d := (eT2 eI eI) way43) rfl) rfl (o_t0 (o := oF eI way43.1) rfl))) gh_n ?_
      exact sim_end ⟨_, .inl rfl, rfl⟩
     ·exact sim_end ⟨_, .inl rfl, rfl⟩
    exact sim_end ⟨_, rfl, (gh_f gh_n)⟩
   ·exact sim_end ⟨_, rfl, (gh_f gh_n)⟩
  refine sim_s (upd := fun after54 => [some (oF (eL (eT2 eI (eL (eT2 eI eI)))) game_here1), some (oF (eL (eO eI)) rule2), some (oF (eL (eO eI)) table3), some (oL (oF (eO eI)) after54), some (oF (eO eI) b53), none, none, some (oF (eT2 eI (eL (eT2 eI eI))) p4.2), some (oF eI p4.1)]) ?_ (fun after54 => gh_n) fun after54 => ?_
  ·refine (sim_meth (s := (oL (oF (eO eI)))) (ρ' := [some (oF (eL (eT2 eI (eL (eT2 eI eI)))) game_here1), some (oF (eL (eO eI)) rule2), some (oF (eL (eO eI)) table3), some (oL (oF (eO eI)) b30), some (oF (eO eI) b53), none, none, some (oF (eT2 eI (eL (eT2 eI eI))) p4.2), some (oF eI p4.1)]) (i := 3) (sA := (oL (oF (eO eI)))) (as := [oF (eO eI) b53]) (md := (fun (f : (List (Option Int)) → M (List (Option Int))) => f b30)) (F := fun (y : (List (Option Int))) => appM y b53) ?_ (fun _ => rfl) ?_ ?_ ?_ ?_)
   ·exact (mq_var (s := (oL (oF (eO eI)))) (x := b30) rfl)
   ·exact (vs_pp (vp_mvF rfl) vs_nil)
   ·exact rfl
   ·exact (gq_append (t := (oF (eO eI))))
   ·exact (fun _ => rfl)
  exact sim_end ⟨_, .inl rfl, rfl⟩
 exact sim_ret_p (vp_mvL rfl) (.inl rfl)
def f__law_is_rule (rule1 : (List (Option Int))) (game_here2 : (List (Int × (List (Int × Int))))) : M Bool :=
 if (!decide ((rule1.length : Int) = (game_here2.length : Int))) then
 (M.ok false)
 else ((forF (fun (p3 : ((Option Int) × (Int × (List (Int × Int))))) (b10 : Unit) =>
 if (decide (p3.2.1 = 0) && (!p3.1.isNone)) then
 (M.ok (Fl.rt false))
 else ((if decide (p3.2.1 = 1) then (((f__law_whole p3.1).bind fun z => M.ok (!z)).bind fun z14 => if z14 then M.ok true else ((unO p3.1).bind fun v12 => (compP (fun (way11 : (Int × Int)) => way11.1) p3.2.2).bind fun v13 => M.ok (!decide (v12 ∈ v13)))) else M.ok false).bind fun z15 => if z15 then
 (M.ok (Fl.rt false))
 else (M.ok (Fl.nx ())))) (rule1.zip game_here2) ()).fl fun (b10 : Unit) =>
 M.ok true)
theorem mr__law_is_rule (rule1 : (List (Option Int))) (game_here2 : (List (Int × (List (Int × Int))))) : FQ (m__law_is_rule [(eL (eO eI)) rule1, (eL (eT2 eI (eL (eT2 eI eI)))) game_here2]) (f__law_is_rule rule1 game_here2) (oF eB) := by
 refine fq_sem (ρ := [some (oF (eL (eO eI)) rule1), some (oF (eL (eT2 eI (eL (eT2 eI eI)))) game_here2), none, none, none]) rfl ?_
 unfold f__law_is_rule d__law_is_rule
 refine sim_ifK_p (tq_or_f (tq_not_p (tq_p (pq_isi (pq_varF (d := (eL (eO eI)) rule1) rfl) (td_o (s := (oF (eL (eO eI))))) (isi_list_lst)))) (tq_p (pq_bin (pq_callB (aq_pp (pq_varF (d := (eL (eO eI)) rule1) rfl) aq_nil) (o_len rfl (by simp))) (pq_callB (aq_pp (pq_varF (d := (eL (eT2 eI (eL (eT2 eI eI)))) game_here2) rfl) aq_nil) (o_len rfl (by simp))) (o_ne (e := eI) (by decide) (td_o (s := (oF eI)) (x := (rule1.length : Int))) (td_o (s := (oF eI)) (x := (game_here2.length : Int))))))) ?_ ?_
 ·refine sim_seq_end ?_
  exact sim_ret_p (vp_ow rfl) ⟨.inl ⟨_, rfl⟩, (.inl rfl)⟩
 ·refine sim_nil (sim_gh (ρ1 := [some (oF (eL (eO eI)) rule1), some (oF (eL (eT2 eI (eL (eT2 eI eI)))) game_here2), none, none, none]) gh_n ?_)
  refine sim_sF (upd := fun (b10 : Unit) => [some (oF (eL (eO eI)) rule1), some (oF (eL (eT2 eI (eL (eT2 eI eI)))) game_here2), none, none, none]) (up := fun (b10 : Unit) => [some (oF (eL (eO eI)) rule1), some (oF (eL (eT2 eI (eL (eT2 eI eI)))) game_here2), none, none, none]) ?_ (fun b10 => gh_n) fun b10 => ?_
  ·refine sim_forF (upb := (fun (b10 : Unit) => [some (oF (eL (eO eI)) rule1), some (oF (eL (eT2 eI (eL (eT2 eI eI)))) game_here2), none, none, none])) (upx := (fun (p3 : ((Option Int) × (Int × (List (Int × Int))))) (b10 : Unit) => [some (oF (eL (eO eI)) rule1), some (oF (eL (eT2 eI (eL (eT2 eI eI)))) game_here2), some (oF (eT2 eI (eL (eT2 eI eI))) p3.2), some (oF (eO eI) p3.1), none])) (iq_args0 (aq_pp (pq_varF (d := (eL (eO eI)) rule1) rfl) (aq_pp (pq_varF (d := (eL (eT2 eI (eL (eT2 eI eI)))) game_here2) rfl) aq_nil)) rfl (d_cons (td_o (s := (oF (eL (eO eI))))) (d_cons (td_o (s := (oF (eL (eT2 eI (eL (eT2 eI eI))))))) d_nil)) g_zip) rfl (fun _ _ => rfl) fun p3 b10 => ?_
   refine sim_ifK_p (tq_and_pp (tq_p (pq_bin (pq_bin (pq_varF (d := (eT2 eI (eL (eT2 eI eI))) p3.2) rfl) rfl (o_t0 (o := oF eI p3.2.1) rfl)) rfl (o_eq (e := eI) (by decide) (td_o (s := (oF eI))) (td_o (s := (oF eI)))))) (tq_p (pq_bin (pq_varF (d := (eO eI) p3.1) rfl) rfl (o_isnt (e := eI) (td_o (s := (oF (eO eI)))) rfl)))) ?_ ?_
   ·refine sim_seq_end ?_
    exact sim_ret_p (vp_ow rfl) ⟨.inl ⟨_, rfl⟩, ⟨.inl ⟨_, rfl⟩, (.inl rfl)⟩⟩
   ·refine sim_nil (sim_gh (ρ1 := [some (oF (eL (eO eI)) rule1), some (oF (eL (eT2 eI (eL (eT2 eI eI)))) game_here2), some (oF (eT2 eI (eL (eT2 eI eI))) p3.2), some (oF (eO eI) p3.1), none]) gh_n ?_)
    refine sim_if_m (tq_and_pm (tq_p (pq_bin (pq_bin (pq_varF (d := (eT2 eI (eL (eT2 eI eI))) p3.2) rfl) rfl (o_t0 (o := oF eI p3.2.1) rfl)) rfl (o_eq (e := eI) (by decide) (td_o (s := (oF eI))) (td_o (s := (oF eI)))))) (tq_or_mm (tq_not_m (tq_m (rq_callF0 (aq_pp (pq_varF (d := (eO eI) p3.1) rfl) aq_nil) rfl (d_cons (td_o (s := (oF (eO eI)))) d_nil) (.inl rfl) (mr__law_whole p3.1)))) (tq_m (rq_mm (s := (rO (oF eB))) (rq_unF (pq_varF (d := (eO eI) p3.1) rfl)) (rq_compP (ρx := (fun (way11 : (Int × Int)) => [some (oF (eL (eO eI)) rule1), some (oF (eL (eT2 eI (eL (eT2 eI eI)))) game_here2), some (oF (eT2 eI (eL (eT2 eI eI))) p3.2), some (oF (eO eI) p3.1), some (oF (eT2 eI eI) way11)])) (s := (oF eI)) (iq_list (mi := .ok p3.2.2) (sL := (oF (eL (eT2 eI eI)))) (rq_of (pq_bin (pq_varF (d := (eT2 eI (eL (eT2 eI eI))) p3.2) rfl) rfl (o_t1 (o := oF (eL (eT2 eI eI)) p3.2.2) rfl)))) (fun _ => rfl) (fun way11 => (pq_bin (pq_varF (d := (eT2 eI eI) way11) rfl) rfl (o_t0 (o := oF eI way11.1) rfl)))) fun v12 v13 => (rq_of (o_nin rfl rfl fz_oL)))))) ?_ ?_
    ·exact sim_ret_p (vp_ow rfl) ⟨.inl ⟨_, rfl⟩, (.inl rfl)⟩
    ·exact sim_end ⟨_, .inl rfl, rfl⟩
  exact sim_ret_p (vp_ow rfl) (.inl rfl)
def f__law_is_table (table1 : (List (Option Int))) (game_here2 : (List (Int × (List (Int × Int))))) : M Bool :=
 if (!decide ((table1.length : Int) = (game_here2.length : Int))) then
 (M.ok false)
 else ((forF (fun (one3 : (Option Int)) (b10 : Unit) =>
 (optC one3 (M.ok false) fun one11 => ((f__law_whole (some one11)).bind fun z => M.ok (!z)).bind fun z12 => if z12 then M.ok true else (M.ok (decide (one11 < 0)))).bind fun z15 => if z15 then
 (M.ok (Fl.rt false))
 else (M.ok (Fl.nx ()))) table1 ()).fl fun (b10 : Unit) =>
 M.ok true)
theorem mr__law_is_table (table1 : (List (Option Int))) (game_here2 : (List (Int × (List (Int × Int))))) : FQ (m__law_is_table [(eL (eO eI)) table1, (eL (eT2 eI (eL (eT2 eI eI)))) game_here2]) (f__law_is_table table1 game_here2) (oF eB) := by
 refine fq_sem (ρ := [some (oF (eL (eO eI)) table1), some (oF (eL (eT2 eI (eL (eT2 eI eI)))) game_here2), none]) rfl ?_
 unfold f__law_is_table d__law_is_table
 refine sim_ifK_p (tq_or_f (tq_not_p (tq_p (pq_isi (pq_varF (d := (eL (eO eI)) table1) rfl) (td_o (s := (oF (eL (eO eI))))) (isi_list_lst)))) (tq_p (pq_bin (pq_callB (aq_pp (pq_varF (d := (eL (eO eI)) table1) rfl) aq_nil) (o_len rfl (by simp))) (pq_callB (aq_pp (pq_varF (d := (eL (eT2 eI (eL (eT2 eI eI)))) game_here2) rfl) aq_nil) (o_len rfl (by simp))) (o_ne (e := eI) (by decide) (td_o (s := (oF eI)) (x := (table1.length : Int))) (td_o (s := (oF eI)) (x := (game_here2.length : Int))))))) ?_ ?_
 ·refine sim_seq_end ?_
  exact sim_ret_p (vp_ow rfl) ⟨.inl ⟨_, rfl⟩, (.inl rfl)⟩
 ·refine sim_nil (sim_gh (ρ1 := [some (oF (eL (eO eI)) table1), some (oF (eL (eT2 eI (eL (eT2 eI eI)))) game_here2), none]) gh_n ?_)
  refine sim_sF (upd := fun (b10 : Unit) => [some (oF (eL (eO eI)) table1), some (oF (eL (eT2 eI (eL (eT2 eI eI)))) game_here2), none]) (up := fun (b10 : Unit) => [some (oF (eL (eO eI)) table1), some (oF (eL (eT2 eI (eL (eT2 eI eI)))) game_here2), none]) ?_ (fun b10 => gh_n) fun b10 => ?_
  ·refine sim_forF (upb := (fun (b10 : Unit) => [some (oF (eL (eO eI)) table1), some (oF (eL (eT2 eI (eL (eT2 eI eI)))) game_here2), none])) (upx := (fun (one3 : (Option Int)) (b10 : Unit) => [some (oF (eL (eO eI)) table1), some (oF (eL (eT2 eI (eL (eT2 eI eI)))) game_here2), some (oF (eO eI) one3)])) (iq_list (mi := .ok table1) (sL := (oF (eL (eO eI)))) (rq_of (pq_varF (d := (eL (eO eI)) table1) rfl))) rfl (fun _ _ => rfl) fun one3 b10 => ?_
   refine sim_if_m (tq_andS (fun (v13 : (Option Int)) => [some (oF (eL (eO eI)) table1), some (oF (eL (eT2 eI (eL (eT2 eI eI)))) game_here2), some (oF (eO eI) v13)]) (fun v14 => (tq_p (pq_bin (pq_varF (d := (eO eI) v14) rfl) rfl (o_isnt (e := eI) (td_o (s := (oF (eO eI)))) rfl)))) (fun one11 => (tq_or_mm (tq_not_m (tq_m (rq_callF0 (aq_pp (pq_varF (d := eI one11) rfl) aq_nil) rfl (d_cons (td_o (s := (oF (eO eI))) (x := (some one11))) d_nil) (.inl rfl) (mr__law_whole (some one11))))) (tq_of (tq_p (pq_bin (pq_varF (d := eI one11) rfl) rfl o_lt)))))) ?_ ?_
   ·exact sim_ret_p (vp_ow rfl) ⟨.inl ⟨_, rfl⟩, (.inl rfl)⟩
   ·exact sim_end ⟨_, .inl rfl, rfl⟩
  exact sim_ret_p (vp_ow rfl) (.inl rfl)
def f__law_is_pair (pair1 : ((List (Option Int)) × (List (Option Int)))) (game_here2 : (List (Int × (List (Int × Int))))) : M Bool :=
 if (!decide (2 = 2)) then
 (M.ok false)
 else ((f__law_is_rule pair1.1 game_here2).bind fun z3 => if z3 then (f__law_is_table pair1.2 game_here2) else M.ok false)
theorem mr__law_is_pair (pair1 : ((List (Option Int)) × (List (Option Int)))) (game_here2 : (List (Int × (List (Int × Int))))) : FQ (m__law_is_pair [(eT2 (eL (eO eI)) (eL (eO eI))) pair1, (eL (eT2 eI (eL (eT2 eI eI)))) game_here2]) (f__law_is_pair pair1 game_here2) (oF eB) := by
 refine fq_sem (ρ := [some (oF (eT2 (eL (eO eI)) (eL (eO eI))) pair1), some (oF (eL (eT2 eI (eL (eT2 eI eI)))) game_here2)]) rfl ?_
 unfold f__law_is_pair d__law_is_pair
 refine sim_ifK_p (tq_or_f (tq_not_p (tq_p (pq_isi (pq_varF (d := (eT2 (eL (eO eI)) (eL (eO eI))) pair1) rfl) (td_o (s := (oF (eT2 (eL (eO eI)) (eL (eO eI)))))) (isi_tuple_tup)))) (tq_p (pq_bin (pq_callB (aq_pp (pq_varF (d := (eT2 (eL (eO eI)) (eL (eO eI))) pair1) rfl) aq_nil) rfl) rfl (o_ne (e := eI) (by decide) (td_o (s := (oF eI))) (td_o (s := (oF eI))))))) ?_ ?_
 ·refine sim_seq_end ?_
  exact sim_ret_p (vp_ow rfl) ⟨.inl ⟨_, rfl⟩, (.inl rfl)⟩
 ·refine sim_nil (sim_gh (ρ1 := [some (oF (eT2 (eL (eO eI)) (eL (eO eI))) pair1), some (oF (eL (eT2 eI (eL (eT2 eI eI)))) game_here2)]) gh_n ?_)
  exact sim_ret_id (so := (oF eB)) (vq_ow (s := (oF eB)) (vq_and (tq_and_mm (tq_m (rq_callF0 (aq_pp (pq_bin (pq_varF (d := (eT2 (eL (eO eI)) (eL (eO eI))) pair1) rfl) rfl (o_t0 (o := oF (eL (eO eI)) pair1.1) rfl)) (aq_pp (pq_varF (d := (eL (eT2 eI (eL (eT2 eI eI)))) game_here2) rfl) aq_nil)) rfl (d_cons (td_o (s := (oF (eL (eO eI))))) (d_cons (td_o (s := (oF (eL (eT2 eI (eL (eT2 eI eI))))))) d_nil)) (.inl rfl) (mr__law_is_rule pair1.1 game_here2))) (tq_m (rq_callF0 (aq_pp (pq_bin (pq_varF (d := (eT2 (eL (eO eI)) (eL (eO eI))) pair1) rfl) rfl (o_t1 (o := oF (eL (eO eI)) pair1.2) rfl)) (aq_pp (pq_varF (d := (eL (eT2 eI (eL (eT2 eI eI)))) game_here2) rfl) aq_nil)) rfl (d_cons (td_o (s := (oF (eL (eO eI))))) (d_cons (td_o (s := (oF (eL (eT2 eI (eL (eT2 eI eI))))))) d_nil)) (.inl rfl) (mr__law_is_table pair1.2 game_here2)))))) (fun _ => (.inl rfl))
def f__law_first (game_here1 : (List (Int × (List (Int × Int))))) : M (List (Option Int)) :=
 (forM (fun (p2 : (Int × (List (Int × Int)))) (b9 : (List (Option Int))) =>
 if decide (p2.1 = 1) then
 ((((compP (fun (way10 : (Int × Int)) => way10.1) p2.2).bind fun v11 => minM v11).bind fun v12 => appM b9 (some v12)).bind fun first_here13 =>
 M.ok first_here13)
 else ((appM b9 none).bind fun first_here14 =>
 M.ok first_here14)) game_here1 ([] : (List (Option Int)))).bind fun (b9 : (List (Option Int))) =>
 M.ok b9
theorem mr__law_first (game_here1 : (List (Int × (List (Int × Int))))) : FQ (m__law_first [(eL (eT2 eI (eL (eT2 eI eI)))) game_here1]) (f__law_first game_here1) (oL (oF (eO eI))) := by
 refine fq_sem (ρ := [some (oF (eL (eT2 eI (eL (eT2 eI eI)))) game_here1), none, none, none, none]) rfl ?_
 unfold f__law_first d__law_first
 refine sim_p (ρ1 := [some (oF (eL (eT2 eI (eL (eT2 eI eI)))) game_here1), some (oL (oF (eO eI)) ([] : (List (Option Int)))), none, none, none]) (set_p (pq_lst aq_nil rfl rfl)) gh_n ?_
 refine sim_s (upd := fun (b9 : (List (Option Int))) => [some (oF (eL (eT2 eI (eL (eT2 eI eI)))) game_here1), some (oL (oF (eO eI)) b9), none, none, none]) ?_ (fun b9 => gh_n) fun b9 => ?_
 ·refine sim_for (upb := (fun (b9 : (List (Option Int))) => [some (oF (eL (eT2 eI (eL (eT2 eI eI)))) game_here1), some (oL (oF (eO eI)) b9), none, none, none])) (upx := (fun (p2 : (Int × (List (Int × Int)))) (b9 : (List (Option Int))) => [some (oF (eL (eT2 eI (eL (eT2 eI eI)))) game_here1), some (oL (oF (eO eI)) b9), some (oF (eL (eT2 eI eI)) p2.2), some (oF eI p2.1), none])) (iq_list (mi := .ok game_here1) (sL := (oF (eL (eT2 eI (eL (eT2 eI eI)))))) (rq_of (pq_varF (d := (eL (eT2 eI (eL (eT2 eI eI)))) game_here1) rfl))) rfl (fun _ _ => rfl) fun p2 b9 => ?_
  refine sim_if_p (tq_p (pq_bin (pq_varF (d := eI p2.1) rfl) rfl (o_eq (e := eI) (by decide) (td_o (s := (oF eI))) (td_o (s := (oF eI)))))) ?_ ?_
  ·refine sim_s (upd := fun first_here13 => [some (oF (eL (eT2 eI (eL (eT2 eI eI)))) game_here1), some (oL (oF (eO eI)) first_here13), some (oF (eL (eT2 eI eI)) p2.2), some (oF eI p2.1), none]) ?_ (fun first_here13 => gh_n) fun first_here13 => ?_
   ·refine (sim_meth_m (s := (oL (oF (eO eI)))) (ρ' := [some (oF (eL (eT2 eI (eL (eT2 eI eI)))) game_here1), some (oL (oF (eO eI)) b9), some (oF (eL (eT2 eI eI)) p2.2), some (oF eI p2.1), none]) (F := (fun v12 y => appM y (some v12))) (x := b9) ?_ (fun _ => rfl) ?_ ?_ (fun _ => (gq_append (t := (oF (eO eI))))) ?_)
    ·exact rfl
    ·exact (vs_mp (vq_ow (s := (oF eI)) (rq_callB (s := (rO (oF eI))) (aq_mp (rq_compP (ρx := (fun (way10 : (Int × Int)) => [some (oF (eL (eT2 eI (eL (eT2 eI eI)))) game_here1), some (oL (oF (eO eI)) b9), some (oF (eL (eT2 eI eI)) p2.2), some (oF eI p2.1), some (oF (eT2 eI eI) way10)])) (s := (oF eI)) (iq_list (mi := .ok p2.2) (sL := (oF (eL (eT2 eI eI)))) (rq_of (pq_varF (d := (eL (eT2 eI eI)) p2.2) rfl))) (fun _ => rfl) (fun way10 => (pq_bin (pq_varF (d := (eT2 eI eI) way10) rfl) rfl (o_t0 (o := oF eI way10.1) rfl)))) aq_nil) fun v11 => (o_min1 (intsA_of rfl fz_oL)))) vs_nil)
    ·exact rfl
    ·exact (fun _ => rfl)
   exact sim_end ⟨_, .inl rfl, rfl⟩
  ·refine sim_s (upd := fun first_here14 => [some (oF (eL (eT2 eI (eL (eT2 eI eI)))) game_here1), some (oL (oF (eO eI)) first_here14), some (oF (eL (eT2 eI eI)) p2.2), some (oF eI p2.1), none]) ?_ (fun first_here14 => gh_n) fun first_here14 => ?_
   ·refine (sim_meth (s := (oL (oF (eO eI)))) (ρ' := [some (oF (eL (eT2 eI (eL (eT2 eI eI)))) game_here1), some (oL (oF (eO eI)) b9), some (oF (eL (eT2 eI eI)) p2.2), some (oF eI p2.1), none]) (i := 1) (sA := (oL (oF (eO eI)))) (as := [oF eN ()]) (md := (fun (f : (List (Option Int)) → M (List (Option Int))) => f b9)) (F := fun (y : (List (Option Int))) => appM y none) ?_ (fun _ => rfl) ?_ ?_ ?_ ?_)
    ·exact (mq_var (s := (oL (oF (eO eI)))) (x := b9) rfl)
    ·exact (vs_pp (vp_ow rfl) vs_nil)
    ·exact rfl
    ·exact (gq_append (t := (oF (eO eI))))
    ·exact (fun _ => rfl)
   exact sim_end ⟨_, .inl rfl, rfl⟩
 exact sim_ret_p (vp_mvL rfl) (.inl rfl)
def f__law_rows_hold (game_here1 : (List (Int × (List (Int × Int))))) (pairs2 : (List ((List (Option Int)) × (List (Option Int))))) : M Bool :=
 (f__law_first game_here1).bind fun due3 =>
 (repM ([(some 0)] : (List (Option Int))) (game_here1.length : Int)).bind fun ahead4 =>
 (forF (fun (pair5 : ((List (Option Int)) × (List (Option Int)))) (b18 : ((List (Option Int)) × (List (Option Int)))) =>
 (((f__law_is_pair pair5 game_here1).bind fun z => M.ok (!z)).bind fun z21 => if z21 then M.ok true else (if (!decide (pair5.1 = b18.1)) then M.ok true else ((f_needs game_here1 b18.1).bind fun v20 => M.ok (!decide (pair5.2 = v20))))).bind fun z29 => if z29 then
 (M.ok (Fl.rt false))
 else ((forF (fun (p22 : ((Option Int) × (Option Int))) (b25 : Unit) =>
 (f__law_more p22.1 p22.2).bind fun z26 => if z26 then
 (M.ok (Fl.rt (Fl.rt false)))
 else (M.ok (Fl.nx ()))) (b18.2.zip pair5.2) ()).fl fun (b25 : Unit) =>
 (f__law_next game_here1 pair5.1 pair5.2).bind fun due28 =>
 M.ok (Fl.nx (due28, pair5.2)))) pairs2 (due3, ahead4)).fl fun (b18 : ((List (Option Int)) × (List (Option Int)))) =>
 ((ix pairs2 (-1)).bind fun v31 => M.ok v31.1).bind fun v33 => M.ok (decide (b18.1 = v33))
theorem mr__law_rows_hold (game_here1 : (List (Int × (List (Int × Int))))) (pairs2 : (List ((List (Option Int)) × (List (Option Int))))) : FQ (m__law_rows_hold [(eL (eT2 eI (eL (eT2 eI eI)))) game_here1, (eL (eT2 (eL (eO eI)) (eL (eO eI)))) pairs2]) (f__law_rows_hold game_here1 pairs2) (oF eB) := by
 refine fq_sem (ρ := [some (oF (eL (eT2 eI (eL (eT2 eI eI)))) game_here1), some (oF (eL (eT2 (eL (eO eI)) (eL (eO eI)))) pairs2), none, none, none, none, none]) rfl ?_
 unfold f__law_rows_hold d__law_rows_hold
 refine sim_s (upd := fun due3 => [some (oF (eL (eT2 eI (eL (eT2 eI eI)))) game_here1), some (oF (eL (eT2 (eL (eO eI)) (eL (eO eI)))) pairs2), some (oL (oF (eO eI)) due3), none, none, none, none]) ?_ (fun due3 => gh_n) fun due3 => ?_
 ·exact (set_m (s := (oL (oF (eO eI)))) (rq_callF0 (aq_pp (pq_varF (d := (eL (eT2 eI (eL (eT2 eI eI)))) game_here1) rfl) aq_nil) rfl (d_cons (td_o (s := (oF (eL (eT2 eI (eL (eT2 eI eI))))))) d_nil) (.inl rfl) (mr__law_first game_here1)))
 refine sim_s (upd := fun ahead4 => [some (oF (eL (eT2 eI (eL (eT2 eI eI)))) game_here1), some (oF (eL (eT2 (eL (eO eI)) (eL (eO eI)))) pairs2), some (oL (oF (eO eI)) due3), some (oL (oF (eO eI)) ahead4), none, none, none]) (up := fun ahead4 => [some (oF (eL (eT2 eI (eL (eT2 eI eI)))) game_here1), some (oF (eL (eT2 (eL (eO eI)) (eL (eO eI)))) pairs2), some (oL (oF (eO eI)) due3), some (oF (eL (eO eI)) ahead4), none, none, none]) ?_ (fun ahead4 => (gh_z (s := (oL (oF (eO eI)))) (x := ahead4) rfl gh_n)) fun ahead4 => ?_
 ·exact (set_m (s := (oL (oF (eO eI)))) (rq_pp (s := (rO (oL (oF (eO eI))))) (pq_lst (aq_pp rfl aq_nil) rfl rfl) (pq_callB (aq_pp (pq_varF (d := (eL (eT2 eI (eL (eT2 eI eI)))) game_here1) rfl) aq_nil) (o_len rfl (by simp))) (o_rep rfl)))
 refine sim_sF (upd := fun (b18 : ((List (Option Int)) × (List (Option Int)))) => [some (oF (eL (eT2 eI (eL (eT2 eI eI)))) game_here1), some (oF (eL (eT2 (eL (eO eI)) (eL (eO eI)))) pairs2), some (oL (oF (eO eI)) b18.1), some (oF (eL (eO eI)) b18.2), none, none, none]) (up := fun (b18 : ((List (Option Int)) × (List (Option Int)))) => [some (oF (eL (eT2 eI (eL (eT2 eI eI)))) game_here1), some (oF (eL (eT2 (eL (eO eI)) (eL (eO eI)))) pairs2), some (oL (oF (eO eI)) b18.1), some (oF (eL (eO eI)) b18.2), none, none, none]) ?_ (fun b18 => gh_n) fun b18 => ?_
 ·refine sim_forF (upb := (fun (b18 : ((List (Option Int)) × (List (Option Int)))) => [some (oF (eL (eT2 eI (eL (eT2 eI eI)))) game_here1), some (oF (eL (eT2 (eL (eO eI)) (eL (eO eI)))) pairs2), some (oL (oF (eO eI)) b18.1), some (oF (eL (eO eI)) b18.2), none, none, none])) (upx := (fun (pair5 : ((List (Option Int)) × (List (Option Int)))) (b18 : ((List (Option Int)) × (List (Option Int)))) => [some (oF (eL (eT2 eI (eL (eT2 eI eI)))) game_here1), some (oF (eL (eT2 (eL (eO eI)) (eL (eO eI)))) pairs2), some (oL (oF (eO eI)) b18.1), some (oF (eL (eO eI)) b18.2), none, none, some (oF (eT2 (eL (eO eI)) (eL (eO eI))) pair5)])) (iq_list (mi := .ok pairs2) (sL := (oF (eL (eT2 (eL (eO eI)) (eL (eO eI)))))) (rq_of (pq_varF (d := (eL (eT2 (eL (eO eI)) (eL (eO eI)))) pairs2) rfl))) rfl (fun _ _ => rfl) fun pair5 b18 => ?_
  refine sim_ifK_m (tq_or_mm (tq_not_m (tq_m (rq_callF0 (aq_pp (pq_varF (d := (eT2 (eL (eO eI)) (eL (eO eI))) pair5) rfl) (aq_pp (pq_varF (d := (eL (eT2 eI (eL (eT2 eI eI)))) game_here1) rfl) aq_nil)) rfl (d_cons (td_o (s := (oF (eT2 (eL (eO eI)) (eL (eO eI)))))) (d_cons (td_o (s := (oF (eL (eT2 eI (eL (eT2 eI eI))))))) d_nil)) (.inl rfl) (mr__law_is_pair pair5 game_here1)))) (tq_or_pm (tq_p (pq_bin (pq_bin (pq_varF (d := (eT2 (eL (eO eI)) (eL (eO eI))) pair5) rfl) rfl (o_t0 (o := oF (eL (eO eI)) pair5.1) rfl)) (pq_var (o := oL (oF (eO eI)) b18.1) rfl) (o_ne (e := (eL (eO eI))) (by decide) (td_o (s := (oF (eL (eO eI))))) (td_v (s := (oL (oF (eO eI)))))))) (tq_m (rq_pm (s := (rO (oF eB))) (pq_bin (pq_varF (d := (eT2 (eL (eO eI)) (eL (eO eI))) pair5) rfl) rfl (o_t1 (o := oF (eL (eO eI)) pair5.2) rfl)) (rq_callF0 (aq_pp (pq_varF (d := (eL (eT2 eI (eL (eT2 eI eI)))) game_here1) rfl) (aq_pp (pq_callB (aq_pp (pq_var (o := oL (oF (eO eI)) b18.1) rfl) aq_nil) (o_list rfl fz_oL)) aq_nil)) rfl (d_cons (td_o (s := (oF (eL (eT2 eI (eL (eT2 eI eI))))))) (d_cons (td_o (s := (oL (oF (eO eI))))) d_nil)) (.inl rfl) (mr_needs game_here1 b18.1)) fun v20 => (rq_of (o_ne (e := (eL (eO eI))) (by decide) (td_o (s := (oF (eL (eO eI))))) (td_o (s := (oL (oF (eO eI))))))))))) ?_ ?_
  ·refine sim_seq_end ?_
   exact sim_ret_p (vp_ow rfl) ⟨.inl ⟨_, rfl⟩, ⟨.inl ⟨_, rfl⟩, (.inl rfl)⟩⟩
  ·refine sim_nil (sim_gh (ρ1 := [some (oF (eL (eT2 eI (eL (eT2 eI eI)))) game_here1), some (oF (eL (eT2 (eL (eO eI)) (eL (eO eI)))) pairs2), some (oL (oF (eO eI)) b18.1), some (oF (eL (eO eI)) b18.2), none, none, some (oF (eT2 (eL (eO eI)) (eL (eO eI))) pair5)]) gh_n ?_)
   refine sim_sF (upd := fun (b25 : Unit) => [some (oF (eL (eT2 eI (eL (eT2 eI eI)))) game_here1), some (oF (eL (eT2 (eL (eO eI)) (eL (eO eI)))) pairs2), some (oL (oF (eO eI)) b18.1), some (oF (eL (eO eI)) b18.2), none, none, some (oF (eT2 (eL (eO eI)) (eL (eO eI))) pair5)]) (up := fun (b25 : Unit) => [some (oF (eL (eT2 eI (eL (eT2 eI eI)))) game_here1), some (oF (eL (eT2 (eL (eO eI)) (eL (eO eI)))) pairs2), some (oL (oF (eO eI)) b18.1), some (oF (eL (eO eI)) b18.2), none, none, some (oF (eT2 (eL (eO eI)) (eL (eO eI))) pair5)]) ?_ (fun b25 => gh_n) fun b25 => ?_
   ·refine sim_forF (upb := (fun (b25 : Unit) => [some (oF (eL (eT2 eI (eL (eT2 eI eI)))) game_here1), some (oF (eL (eT2 (eL (eO eI)) (eL (eO eI)))) pairs2), some (oL (oF (eO eI)) b18.1), some (oF (eL (eO eI)) b18.2), none, none, some (oF (eT2 (eL (eO eI)) (eL (eO eI))) pair5)])) (upx := (fun (p22 : ((Option Int) × (Option Int))) (b25 : Unit) => [some (oF (eL (eT2 eI (eL (eT2 eI eI)))) game_here1), some (oF (eL (eT2 (eL (eO eI)) (eL (eO eI)))) pairs2), some (oL (oF (eO eI)) b18.1), some (oF (eL (eO eI)) b18.2), some (oF (eO eI) p22.2), some (oF (eO eI) p22.1), some (oF (eT2 (eL (eO eI)) (eL (eO eI))) pair5)])) (iq_args0 (aq_pp (pq_varF (d := (eL (eO eI)) b18.2) rfl) (aq_pp (pq_bin (pq_varF (d := (eT2 (eL (eO eI)) (eL (eO eI))) pair5) rfl) rfl (o_t1 (o := oF (eL (eO eI)) pair5.2) rfl)) aq_nil)) rfl (d_cons (td_o (s := (oF (eL (eO eI))))) (d_cons (td_o (s := (oF (eL (eO eI))))) d_nil)) g_zip) rfl (fun _ _ => rfl) fun p22 b25 => ?_
    refine sim_if_m (tq_m (rq_callF0 (aq_pp (pq_varF (d := (eO eI) p22.1) rfl) (aq_pp (pq_varF (d := (eO eI) p22.2) rfl) aq_nil)) rfl (d_cons (td_o (s := (oF (eO eI)))) (d_cons (td_o (s := (oF (eO eI)))) d_nil)) (.inl rfl) (mr__law_more p22.1 p22.2))) ?_ ?_
    ·exact sim_ret_p (vp_ow rfl) ⟨.inl ⟨_, rfl⟩, ⟨.inl ⟨_, rfl⟩, (.inl rfl)⟩⟩
    ·exact sim_end ⟨_, .inl rfl, rfl⟩
   refine sim_p (ρ1 := [some (oF (eL (eT2 eI (eL (eT2 eI eI)))) game_here1), some (oF (eL (eT2 (eL (eO eI)) (eL (eO eI)))) pairs2), some (oL (oF (eO eI)) b18.1), some (oF (eL (eO eI)) pair5.2), none, none, some (oF (eT2 (eL (eO eI)) (eL (eO eI))) pair5)]) (set_p (pq_bin (pq_varF (d := (eT2 (eL (eO eI)) (eL (eO eI))) pair5) rfl) rfl (o_t1 (o := oF (eL (eO eI)) pair5.2) rfl))) gh_n ?_
   refine sim_s (upd := fun due28 => [some (oF (eL (eT2 eI (eL (eT2 eI eI)))) game_here1), some (oF (eL (eT2 (eL (eO eI)) (eL (eO eI)))) pairs2), some (oL (oF (eO eI)) due28), some (oF (eL (eO eI)) pair5.2), none, none, some (oF (eT2 (eL (eO eI)) (eL (eO eI))) pair5)]) ?_ (fun due28 => gh_n) fun due28 => ?_
   ·exact (set_m (s := (oL (oF (eO eI)))) (rq_callF0 (aq_pp (pq_varF (d := (eL (eT2 eI (eL (eT2 eI eI)))) game_here1) rfl) (aq_pp (pq_bin (pq_varF (d := (eT2 (eL (eO eI)) (eL (eO eI))) pair5) rfl) rfl (o_t0 (o := oF (eL (eO eI)) pair5.1) rfl)) (aq_pp (pq_bin (pq_varF (d := (eT2 (eL (eO eI)) (eL (eO eI))) pair5) rfl) rfl (o_t1 (o := oF (eL (eO eI)) pair5.2) rfl)) aq_nil))) rfl (d_cons (td_o (s := (oF (eL (eT2 eI (eL (eT2 eI eI))))))) (d_cons (td_o (s := (oF (eL (eO eI))))) (d_cons (td_o (s := (oF (eL (eO eI))))) d_nil))) (.inl rfl) (mr__law_next game_here1 pair5.1 pair5.2)))
   exact sim_end ⟨_, .inl rfl, rfl⟩
 exact sim_ret_id (so := (oF eB)) (vq_ow (s := (oF eB)) (rq_pm (s := (rO (oF eB))) (pq_var (o := oL (oF (eO eI)) b18.1) rfl) (rq_mp (s := (rO (oF (eL (eO eI))))) (rq_pp (s := (rO (oF (eT2 (eL (eO eI)) (eL (eO eI)))))) (pq_varF (d := (eL (eT2 (eL (eO eI)) (eL (eO eI)))) pairs2) rfl) (pq_un rfl rfl) (o_ixF rfl)) rfl fun v31 => rq_of (o_t0 (o := oF (eL (eO eI)) v31.1) rfl)) fun v33 => (rq_of (o_eq (e := (eL (eO eI))) (by decide) (td_v (s := (oL (oF (eO eI))))) (td_o (s := (oF (eL (eO eI))))))))) (fun _ => (.inl rfl))
def f_law (script1 : (List Int)) : M Bool :=
 (f__law_game script1).bind fun game_here2 =>
 (f__law_copied game_here2).bind fun handed3 =>
 (f_betterings handed3).bind fun found4 =>
 (if decide ((found4.length : Int) = 0) then M.ok true else ((f__law_rows_hold game_here2 found4).bind fun z => M.ok (!z))).bind fun z23 => if z23 then
 (M.ok false)
 else ((compP (fun (p5 : ((List (Option Int)) × (List (Option Int)))) => (p5.1, p5.2)) found4).bind fun again6 =>
 (mapM (fun (p7 : ((List (Option Int)) × (List (Option Int)))) => ((appM p7.1 (some 0)).bind fun rule14 =>
 (M.ok ([] : (List (Option Int)))).bind fun table15 =>
 M.ok (rule14, table15)).nox) found4).bind fun (found16 : (List ((List (Option Int)) × (List (Option Int))))) =>
 (M.ok ([] : (List ((List (Option Int)) × (List (Option Int)))))).bind fun found17 =>
 ((f_betterings handed3).bind fun v18 => M.ok (decide (v18 = again6))).bind fun z22 => if z22 then (if decide (handed3 = game_here2) then ((f_betterings ([] : (List (Int × (List (Int × Int)))))).bind fun v20 => M.ok (decide (v20 = ([(([] : (List (Option Int))), ([] : (List (Option Int))))] : (List ((List (Option Int)) × (List (Option Int)))))))) else M.ok false) else M.ok false)
theorem mr_law (script1 : (List Int)) : FQ (m_law [(eL eI) script1]) (f_law script1) (oF eB) := by
 refine fq_sem (ρ := [some (oF (eL eI) script1), none, none, none, none, none, none]) rfl ?_
 unfold f_law d_law
 refine sim_s (upd := fun game_here2 => [some (oF (eL eI) script1), some (oL (oT2 (oF eI) (oL (oF (eT2 eI eI)))) game_here2), none, none, none, none, none]) ?_ (fun game_here2 => gh_n) fun game_here2 => ?_
 ·exact (set_m (s := (oL (oT2 (oF eI) (oL (oF (eT2 eI eI)))))) (rq_callF0 (aq_pp (pq_varF (d := (eL eI) script1) rfl) aq_nil) rfl (d_cons (td_o (s := (oF (eL eI)))) d_nil) (.inl rfl) (mr__law_game script1)))
 refine sim_s (upd := fun handed3 => [some (oF (eL eI) script1), some (oL (oT2 (oF eI) (oL (oF (eT2 eI eI)))) game_here2), some (oL (oT2 (oF eI) (oL (oF (eT2 eI eI)))) handed3), none, none, none, none]) ?_ (fun handed3 => gh_n) fun handed3 => ?_
 ·exact (set_m (s := (oL (oT2 (oF eI) (oL (oF (eT2 eI eI)))))) (rq_callV0 (aq_pp (pq_var (o := oL (oT2 (oF eI) (oL (oF (eT2 eI eI)))) game_here2) rfl) aq_nil) rfl (d_cons (td_v (s := (oL (oT2 (oF eI) (oL (oF (eT2 eI eI))))))) d_nil) (nfa_cons (Nft.nf (s := (oL (oT2 (oF eI) (oL (oF (eT2 eI eI)))))) _) nfa_nil) Leaf2.l2 (mr__law_copied game_here2)))
 refine sim_s (upd := fun found4 => [some (oF (eL eI) script1), some (oL (oT2 (oF eI) (oL (oF (eT2 eI eI)))) game_here2), some (oL (oT2 (oF eI) (oL (oF (eT2 eI eI)))) handed3), some (oL (oT2 (oL (oF (eO eI))) (oL (oF (eO eI)))) found4), none, none, none]) ?_ (fun found4 => gh_n) fun found4 => ?_
 ·exact (set_m (s := (oL (oT2 (oL (oF (eO eI))) (oL (oF (eO eI)))))) (rq_callF0 (aq_pp (pq_var (o := oL (oT2 (oF eI) (oL (oF (eT2 eI eI)))) handed3) rfl) aq_nil) rfl (d_cons (td_v (s := (oL (oT2 (oF eI) (oL (oF (eT2 eI eI))))))) d_nil) (.inr LeafF.lf) (mr_betterings handed3)))
 refine sim_ifK_m (tq_or_fm (tq_not_p (tq_p (pq_isi (pq_var (o := oL (oT2 (oL (oF (eO eI))) (oL (oF (eO eI)))) found4) rfl) (td_v (s := (oL (oT2 (oL (oF (eO eI))) (oL (oF (eO eI))))))) (isi_list_lst)))) (tq_or_pm (tq_p (pq_bin (pq_callB (aq_pp (pq_var (o := oL (oT2 (oL (oF (eO eI))) (oL (oF (eO eI)))) found4) rfl) aq_nil) (o_len rfl (by simp))) rfl (o_eq (e := eI) (by decide) (td_o (s := (oF eI)) (x := (found4.length : Int))) (td_o (s := (oF eI)))))) (tq_not_m (tq_m (rq_callF0 (aq_pp (pq_var (o := oL (oT2 (oF eI) (oL (oF (eT2 eI eI)))) game_here2) rfl) (aq_pp (pq_var (o := oL (oT2 (oL (oF (eO eI))) (oL (oF (eO eI)))) found4) rfl) aq_nil)) rfl (d_cons (td_v (s := (oL (oT2 (oF eI) (oL (oF (eT2 eI eI))))))) (d_cons (td_v (s := (oL (oT2 (oL (oF (eO eI))) (oL (oF (eO eI))))))) d_nil)) (.inr LeafF.lf) (mr__law_rows_hold game_here2 found4)))))) ?_ ?_
 ·refine sim_seq_end ?_
  exact sim_ret_p (vp_ow rfl) ⟨.inl ⟨_, rfl⟩, (.inl rfl)⟩
 ·refine sim_nil (sim_gh (ρ1 := [some (oF (eL eI) script1), some (oL (oT2 (oF eI) (oL (oF (eT2 eI eI)))) game_here2), some (oL (oT2 (oF eI) (oL (oF (eT2 eI eI)))) handed3), some (oL (oT2 (oL (oF (eO eI))) (oL (oF (eO eI)))) found4), none, none, none]) gh_n ?_)
  refine sim_s (upd := fun again6 => [some (oF (eL eI) script1), some (oL (oT2 (oF eI) (oL (oF (eT2 eI eI)))) game_here2), some (oL (oT2 (oF eI) (oL (oF (eT2 eI eI)))) handed3), some (oL (oT2 (oL (oF (eO eI))) (oL (oF (eO eI)))) found4), some (oL (oT2 (oL (oF (eO eI))) (oL (oF (eO eI)))) again6), none, none]) ?_ (fun again6 => gh_n) fun again6 => ?_
  ·exact (set_m (s := (oL (oT2 (oL (oF (eO eI))) (oL (oF (eO eI)))))) (rq_view (s := (oL (oT2 (oL (oF (eO eI))) (oL (oF (eO eI)))))) (fa_s (s := (oF (eL eI))) (e := (eL eI)) (x := script1) (fa_s (s := (oL (oT2 (oF eI) (oL (oF (eT2 eI eI)))))) (e := (eL (eT2 eI (eL (eT2 eI eI))))) (x := game_here2) (fa_s (s := (oL (oT2 (oF eI) (oL (oF (eT2 eI eI)))))) (e := (eL (eT2 eI (eL (eT2 eI eI))))) (x := handed3) (fa_s (s := (oL (oT2 (oL (oF (eO eI))) (oL (oF (eO eI)))))) (e := (eL (eT2 (eL (eO eI)) (eL (eO eI))))) (x := found4) (fa_z (fa_z (fa_z fa_n))))))) (rq_compP (ρx := (fun (p5 : ((List (Option Int)) × (List (Option Int)))) => [some (oF (eL eI) script1), some (oF (eL (eT2 eI (eL (eT2 eI eI)))) game_here2), some (oF (eL (eT2 eI (eL (eT2 eI eI)))) handed3), some (oF (eL (eT2 (eL (eO eI)) (eL (eO eI)))) found4), none, some (oF (eL (eO eI)) p5.2), some (oF (eL (eO eI)) p5.1)])) (s := (oT2 (oL (oF (eO eI))) (oL (oF (eO eI))))) (iq_list (mi := .ok found4) (sL := (oF (eL (eT2 (eL (eO eI)) (eL (eO eI)))))) (rq_of (pq_varF (d := (eL (eT2 (eL (eO eI)) (eL (eO eI)))) found4) rfl))) (fun _ => rfl) (fun p5 => (pq_tupO (aq_pp (pq_callB (aq_pp (pq_varF (d := (eL (eO eI)) p5.1) rfl) aq_nil) (o_list seq_fL fz_L)) (aq_pp (pq_callB (aq_pp (pq_varF (d := (eL (eO eI)) p5.2) rfl) aq_nil) (o_list seq_fL fz_L)) aq_nil)) rfl rfl rfl)))))
  refine sim_s (upd := fun (found16 : (List ((List (Option Int)) × (List (Option Int))))) => [some (oF (eL eI) script1), some (oL (oT2 (oF eI) (oL (oF (eT2 eI eI)))) game_here2), some (oL (oT2 (oF eI) (oL (oF (eT2 eI eI)))) handed3), some (oL (oT2 (oL (oF (eO eI))) (oL (oF (eO eI)))) found16), some (oL (oT2 (oL (oF (eO eI))) (oL (oF (eO eI)))) again6), none, none]) ?_ (fun found16 => gh_n) fun found16 => ?_
  ·refine sim_forT (s := (oL (oF (eO eI)))) (u := (oL (oF (eO eI)))) (up := (fun (q8 a9 b10 : Addr) (os11 : List O) (p7 : ((List (Option Int)) × (List (Option Int)))) => [some (oF (eL eI) script1), some (oL (oT2 (oF eI) (oL (oF (eT2 eI eI)))) game_here2), some (oL (oT2 (oF eI) (oL (oF (eT2 eI eI)))) handed3), some (.nm q8 (.lst os11)), some (oL (oT2 (oL (oF (eO eI))) (oL (oF (eO eI)))) again6), some (oNm b10 (oL (oF (eO eI))) p7.2), some (oNm a9 (oL (oF (eO eI))) p7.1)])) (upd := fun (found16 : (List ((List (Option Int)) × (List (Option Int))))) => [some (oF (eL eI) script1), some (oL (oT2 (oF eI) (oL (oF (eT2 eI eI)))) game_here2), some (oL (oT2 (oF eI) (oL (oF (eT2 eI eI)))) handed3), some (oL (oT2 (oL (oF (eO eI))) (oL (oF (eO eI)))) found16), some (oL (oT2 (oL (oF (eO eI))) (oL (oF (eO eI)))) again6), none, none]) rfl rfl (fun _ => rfl) (fun _ => rfl) (fun _ _ _ _ _ => rfl) (fun q8 a9 b10 os11 p7 => sim_JN ?_) (fun _ => rfl)
   refine sim_s (upd := fun rule14 => [some (oF (eL eI) script1), some (oL (oT2 (oF eI) (oL (oF (eT2 eI eI)))) game_here2), some (oL (oT2 (oF eI) (oL (oF (eT2 eI eI)))) handed3), some (.nm q8 (.lst os11)), some (oL (oT2 (oL (oF (eO eI))) (oL (oF (eO eI)))) again6), some (oNm b10 (oL (oF (eO eI))) p7.2), some (oNm a9 (oL (oF (eO eI))) rule14)]) ?_ (fun rule14 => gh_n) fun rule14 => ?_
   ·refine (sim_meth (s := (oL (oF (eO eI)))) (ρ' := [some (oF (eL eI) script1), some (oL (oT2 (oF eI) (oL (oF (eT2 eI eI)))) game_here2), some (oL (oT2 (oF eI) (oL (oF (eT2 eI eI)))) handed3), some (.nm q8 (.lst os11)), some (oL (oT2 (oL (oF (eO eI))) (oL (oF (eO eI)))) again6), some (oNm b10 (oL (oF (eO eI))) p7.2), some (oNm a9 (oL (oF (eO eI))) p7.1)]) (i := 6) (sA := (oNm a9 (oL (oF (eO eI))))) (as := [oF eI 0]) (md := (fun (f : (List (Option Int)) → M (List (Option Int))) => f p7.1)) (F := fun (y : (List (Option Int))) => appM y (some 0)) ?_ (fun _ => rfl) ?_ ?_ ?_ ?_)
    ·exact (mq_nm (a := a9) (s := (oL (oF (eO eI)))) (x := p7.1) rfl)
    ·exact (vs_pp (vp_ow rfl) vs_nil)
    ·exact rfl
    ·exact (gq_append (t := (oF (eO eI))))
    ·exact (fun _ => rfl)
   refine sim_s (upd := fun table15 => [some (oF (eL eI) script1), some (oL (oT2 (oF eI) (oL (oF (eT2 eI eI)))) game_here2), some (oL (oT2 (oF eI) (oL (oF (eT2 eI eI)))) handed3), some (.nm q8 (.lst os11)), some (oL (oT2 (oL (oF (eO eI))) (oL (oF (eO eI)))) again6), some (oNm b10 (oL (oF (eO eI))) table15), some (oNm a9 (oL (oF (eO eI))) rule14)]) ?_ (fun table15 => gh_n) fun table15 => ?_
   ·refine (sim_meth (s := (oL (oF (eO eI)))) (ρ' := [some (oF (eL eI) script1), some (oL (oT2 (oF eI) (oL (oF (eT2 eI eI)))) game_here2), some (oL (oT2 (oF eI) (oL (oF (eT2 eI eI)))) handed3), some (.nm q8 (.lst os11)), some (oL (oT2 (oL (oF (eO eI))) (oL (oF (eO eI)))) again6), some (oNm b10 (oL (oF (eO eI))) p7.2), some (oNm a9 (oL (oF (eO eI))) rule14)]) (i := 5) (sA := (oNm b10 (oL (oF (eO eI))))) (as := []) (md := (fun (f : (List (Option Int)) → M (List (Option Int))) => f p7.2)) (F := fun (y : (List (Option Int))) => M.ok ([] : (List (Option Int)))) ?_ (fun _ => rfl) ?_ rfl ?_ ?_)
    ·exact (mq_nm (a := b10) (s := (oL (oF (eO eI)))) (x := p7.2) rfl)
    ·exact vs_nil
    ·exact gq_clear
    ·exact (fun _ => rfl)
   exact sim_end ⟨_, rfl, gh_n⟩
  refine sim_s (upd := fun found17 => [some (oF (eL eI) script1), some (oL (oT2 (oF eI) (oL (oF (eT2 eI eI)))) game_here2), some (oL (oT2 (oF eI) (oL (oF (eT2 eI eI)))) handed3), some (oL (oT2 (oL (oF (eO eI))) (oL (oF (eO eI)))) found17), some (oL (oT2 (oL (oF (eO eI))) (oL (oF (eO eI)))) again6), none, none]) ?_ (fun found17 => gh_n) fun found17 => ?_
  ·refine (sim_meth (s := (oL (oT2 (oL (oF (eO eI))) (oL (oF (eO eI)))))) (ρ' := [some (oF (eL eI) script1), some (oL (oT2 (oF eI) (oL (oF (eT2 eI eI)))) game_here2), some (oL (oT2 (oF eI) (oL (oF (eT2 eI eI)))) handed3), some (oL (oT2 (oL (oF (eO eI))) (oL (oF (eO eI)))) found16), some (oL (oT2 (oL (oF (eO eI))) (oL (oF (eO eI)))) again6), none, none]) (i := 3) (sA := (oL (oT2 (oL (oF (eO eI))) (oL (oF (eO eI)))))) (as := []) (md := (fun (f : (List ((List (Option Int)) × (List (Option Int)))) → M (List ((List (Option Int)) × (List (Option Int))))) => f found16)) (F := fun (y : (List ((List (Option Int)) × (List (Option Int))))) => M.ok ([] : (List ((List (Option Int)) × (List (Option Int)))))) ?_ (fun _ => rfl) ?_ rfl ?_ ?_)
   ·exact (mq_var (s := (oL (oT2 (oL (oF (eO eI))) (oL (oF (eO eI)))))) (x := found16) rfl)
   ·exact vs_nil
   ·exact gq_clear
   ·exact (fun _ => rfl)
  exact sim_ret_id (so := (oF eB)) (vq_ow (s := (oF eB)) (vq_and (tq_and_mm (tq_m (rq_mp (s := (rO (oF eB))) (rq_callF0 (aq_pp (pq_var (o := oL (oT2 (oF eI) (oL (oF (eT2 eI eI)))) handed3) rfl) aq_nil) rfl (d_cons (td_v (s := (oL (oT2 (oF eI) (oL (oF (eT2 eI eI))))))) d_nil) (.inr LeafF.lf) (mr_betterings handed3)) (pq_var (o := oL (oT2 (oL (oF (eO eI))) (oL (oF (eO eI)))) again6) rfl) fun v18 => (rq_of (o_eq (e := (eL (eT2 (eL (eO eI)) (eL (eO eI))))) (by decide) (td_o (s := (oL (oT2 (oL (oF (eO eI))) (oL (oF (eO eI))))))) (td_v (s := (oL (oT2 (oL (oF (eO eI))) (oL (oF (eO eI))))))))))) (tq_m (vq_and (tq_and_pm (tq_p (pq_bin (pq_var (o := oL (oT2 (oF eI) (oL (oF (eT2 eI eI)))) handed3) rfl) (pq_var (o := oL (oT2 (oF eI) (oL (oF (eT2 eI eI)))) game_here2) rfl) (o_eq (e := (eL (eT2 eI (eL (eT2 eI eI))))) (by decide) (td_v (s := (oL (oT2 (oF eI) (oL (oF (eT2 eI eI))))))) (td_v (s := (oL (oT2 (oF eI) (oL (oF (eT2 eI eI)))))))))) (tq_m (rq_mp (s := (rO (oF eB))) (rq_callF0 (aq_pp (pq_lst aq_nil rfl rfl) aq_nil) rfl (d_cons rfl d_nil) (.inl rfl) (mr_betterings ([] : (List (Int × (List (Int × Int))))))) (pq_lst (aq_pp (pq_tupO (aq_pp (pq_lst aq_nil rfl rfl) (aq_pp (pq_lst aq_nil rfl rfl) aq_nil)) rfl rfl rfl) aq_nil) rfl rfl) fun v20 => (rq_of (o_eq (e := (eL (eT2 (eL (eO eI)) (eL (eO eI))))) (by decide) (td_o (s := (oL (oT2 (oL (oF (eO eI))) (oL (oF (eO eI))))))) (td_o (s := (oL (oT2 (oL (oF (eO eI))) (oL (oF (eO eI)))))) (x := ([(([] : (List (Option Int))), ([] : (List (Option Int))))] : (List ((List (Option Int)) × (List (Option Int))))))))))))))))) (fun _ => (.inl rfl))
end K
namespace K
open PySem PySem.Spec L2 DL DL.PL
structure Bt (ns : List Int) : Prop where
  n : ns.length ≤ 63
  b : ∀ z ∈ ns, Sz 1048576 z
theorem zp_at {ns : List Int} (B : Bt ns) (k : Int) (h0 : 0 ≤ k := by omega) (h1 : k < 1000000 := by omega) : Ok (f__law_at ns k) fun i => Sz 1048576 i := by
  have hn := B.n
  unfold f__law_at
  refine e_ite (fun hc => ?_) fun hc => ?_
  · simp only [Bool.and_eq_true, Bool.or_eq_true, Bool.and_eq_false_iff, Bool.or_eq_false_iff, Bool.not_eq_true', Bool.not_eq_false', Bool.not_true, Bool.not_false, decide_eq_true_eq, decide_eq_false_iff_not, Bool.not_eq_true, Bool.not_eq_false, Classical.not_not, Option.isNone_iff_eq_none, Option.isSome_iff_ne_none] at hc
    exact e_end (b_ix (.of (B.b _ (getZ_mem h0 hc))))
  · simp only [Bool.and_eq_true, Bool.or_eq_true, Bool.and_eq_false_iff, Bool.or_eq_false_iff, Bool.not_eq_true', Bool.not_eq_false', Bool.not_true, Bool.not_false, decide_eq_true_eq, decide_eq_false_iff_not, Bool.not_eq_true, Bool.not_eq_false, Classical.not_not, Option.isNone_iff_eq_none, Option.isSome_iff_ne_none] at hc
    have fin : ∀ m : Int, -18446744073709551616 < m → m < 18446744073709551616 → Ok (((mulM m m).bind fun v23 => M.ok (v23 % 999979)).bind fun v25 => M.ok (v25 + (m % 101))) fun i => Sz 1048576 i := fun m h1 h2 => b_bind (b_mull (b_ok (.of (sz_up (sz_small (by omega) (by omega)) (by omega)))))
    refine b_lt (b_ite (fun hz => ?_) fun hz => ?_)
    · simp only [Bool.and_eq_true, Bool.or_eq_true, Bool.and_eq_false_iff, Bool.or_eq_false_iff, Bool.not_eq_true', Bool.not_eq_false', Bool.not_true, Bool.not_false, decide_eq_true_eq, decide_eq_false_iff_not, Bool.not_eq_true, Bool.not_eq_false, Classical.not_not, Option.isNone_iff_eq_none, Option.isSome_iff_ne_none] at hz
      have a1 : 0 ≤ k % (ns.length : Int) := Int.emod_nonneg _ (by omega)
      have a2 : k % (ns.length : Int) < ns.length := Int.emod_lt_of_pos _ hz
      have b1 := Int.emod_nonneg (getZ ns (k % (ns.length : Int))) (show (1000003 : Int) ≠ 0 by decide)
      have b2 := Int.emod_lt_of_pos (getZ ns (k % (ns.length : Int))) (show (0 : Int) < 1000003 by decide)
      refine b_bind (b_bind (b_bind (b_bind (b_bind (b_mod (b_ix (b_ok (b_mull (b_ok (b_ok (fin _ ?_ ?_)))))))))))
      · have := Int.mul_nonneg b1 (show 0 ≤ k + 1 by omega)
        omega
      · have := Int.mul_le_mul (show getZ ns (k % (ns.length : Int)) % 1000003 ≤ 1000003 by omega) (show k + 1 ≤ 1000000 by omega) (by omega) (by omega)
        omega
    · exact b_ok (fin _ (by omega) (by omega))
def Am (i : Int) : Prop := -1000000000000000000000000000000000000000000000000000000000000 < i ∧ i < 1000000000000000000000000000000000000000000000000000000000000
structure Gp (game : List PRow) : Prop where
  n : game.length ≤ 16
  pos : 0 < game.length
  hand : ∀ r ∈ game, r.1 = 0 ∨ r.1 = 1
  ne : ∀ r ∈ game, r.2 ≠ []
  len : ∀ r ∈ game, r.2.length ≤ 16
  lt : ∀ r ∈ game, r.2.Pairwise fun p q => p.1 < q.1
  in_ : ∀ r ∈ game, ∀ w ∈ r.2, 0 ≤ w.1 ∧ w.1 < game.length
  am : ∀ r ∈ game, ∀ w ∈ r.2, Am w.2
  sm : ∃ m : Int, 1 ≤ m ∧ m ≤ 3 ∧ ((game.length : Int) ≤ 10 ∨ m ≤ 2) ∧ ∀ r ∈ game, (r.2.length : Int) ≤ m
theorem zp_amount {style : Int} {hs : List Int} {s g c : Int} (hl : hs.length ≤ 16) (hh : ∀ x ∈ hs, 0 ≤ x ∧ x < 30) (s0 : 0 ≤ s) (s1 : s < hs.length) (g0 : 0 ≤ g) (g1 : g < hs.length) (hc : Sz 2000000 c) : Ok (f__law_amount style hs s g c) Am := by
  unfold f__law_amount
  have hx := hh _ (getZ_mem s0 s1)
  have hy := hh _ (getZ_mem g0 g1)
  refine e_ite (fun _ => .of ⟨by omega, by omega⟩) fun _ => e_ite (fun _ => ?_) fun _ => e_ite (fun _ => ?_) fun _ => e_ite (fun _ => .of ⟨by omega, by omega⟩) fun _ => ?_
  · (repeat (first | with_reducible refine b_ok ?_ | with_reducible refine b_bind ?_ | with_reducible refine b_lt ?_ | with_reducible refine b_ltb ?_ | with_reducible refine b_nox ?_ | with_reducible refine b_ix ?_ | with_reducible refine b_mod ?_ | with_reducible refine b_fdiv ?_ | with_reducible refine b_mull ?_ | with_reducible refine b_mulr ?_ | with_reducible refine b_app ?_ | with_reducible refine b_cat ?_ | with_reducible refine b_rng ?_ | with_reducible refine b_rngL ?_ | with_reducible refine b_set ?_ | with_reducible refine b_srtS ?_ | with_reducible refine b_dp ?_ | with_reducible refine b_compP ?_ | with_reducible refine b_compFP ?_))
    exact .of ⟨by omega, by omega⟩
  · (repeat (first | with_reducible refine b_ok ?_ | with_reducible refine b_bind ?_ | with_reducible refine b_lt ?_ | with_reducible refine b_ltb ?_ | with_reducible refine b_nox ?_ | with_reducible refine b_ix ?_ | with_reducible refine b_mod ?_ | with_reducible refine b_fdiv ?_ | with_reducible refine b_mull ?_ | with_reducible refine b_mulr ?_ | with_reducible refine b_app ?_ | with_reducible refine b_cat ?_ | with_reducible refine b_rng ?_ | with_reducible refine b_rngL ?_ | with_reducible refine b_set ?_ | with_reducible refine b_srtS ?_ | with_reducible refine b_dp ?_ | with_reducible refine b_compP ?_ | with_reducible refine b_compFP ?_))
    have e : (10 ^ 57 : Int) = 1000000000000000000000000000000000000000000000000000000000 := by decide
    rw [e]
    generalize getZ hs s = x at hx
    generalize getZ hs g = y at hy
    exact .of ⟨by omega, by omega⟩
  · have e31 : Sz 210 (31 ^ 41 : Int) := by unfold Sz; decide
    (repeat (first | with_reducible refine b_ok ?_ | with_reducible refine b_bind ?_ | with_reducible refine b_lt ?_ | with_reducible refine b_ltb ?_ | with_reducible refine b_nox ?_ | with_reducible refine b_ix ?_ | with_reducible refine b_mod ?_ | with_reducible refine b_fdiv ?_ | with_reducible refine b_mull ?_ | with_reducible refine b_mulr ?_ | with_reducible refine b_app ?_ | with_reducible refine b_cat ?_ | with_reducible refine b_rng ?_ | with_reducible refine b_rngL ?_ | with_reducible refine b_set ?_ | with_reducible refine b_srtS ?_ | with_reducible refine b_dp ?_ | with_reducible refine b_compP ?_ | with_reducible refine b_compFP ?_))
    refine .eqc (mulM_sz hc e31 (by omega)) ?_
    (repeat (first | with_reducible refine b_ok ?_ | with_reducible refine b_bind ?_ | with_reducible refine b_lt ?_ | with_reducible refine b_ltb ?_ | with_reducible refine b_nox ?_ | with_reducible refine b_ix ?_ | with_reducible refine b_mod ?_ | with_reducible refine b_fdiv ?_ | with_reducible refine b_mull ?_ | with_reducible refine b_mulr ?_ | with_reducible refine b_app ?_ | with_reducible refine b_cat ?_ | with_reducible refine b_rng ?_ | with_reducible refine b_rngL ?_ | with_reducible refine b_set ?_ | with_reducible refine b_srtS ?_ | with_reducible refine b_dp ?_ | with_reducible refine b_compP ?_ | with_reducible refine b_compFP ?_))
    have e60 : (10 ^ 60 : Int) = 1000000000000000000000000000000000000000000000000000000000000 := by decide
    rw [e60]
    exact .of ⟨by omega, by omega⟩
theorem zp_game {ns : List Int} (B : Bt ns) : Ok (f__law_game ns) Gp := by
  unfold f__law_game
  refine (zp_at B 0).call fun h sh => b_lt ?_
  have core : ∀ many most : Int, 1 ≤ many → many ≤ 16 → 1 ≤ most → most ≤ 3 → (many ≤ 10 ∨ most ≤ 2) → Ok (((f__law_at ns 1).bind fun v10 => M.ok (v10 % 5)).bind fun style12 =>
      ((rngM 0 many).bind fun xs18 => compM (fun (k13 : Int) => (((f__law_at ns (2 + (4 * k13))).bind fun v14 => M.ok (v14 / 6)).bind fun v16 => M.ok (v16 % 30)).nox) xs18).bind fun heights19 =>
      ((rngM 0 many).bind fun xs73 => forM (fun (k20 : Int) (b47 : (List (Int × (List (Int × Int))))) =>
      (f__law_at ns (2 + (4 * k20))).bind fun cell48 =>
      ((((modM (cell48 / 2) most).bind fun v50 => M.ok (1 + v50)).bind fun v51 => rngM 0 v51).bind fun xs71 => forM (fun (j52 : Int) (b62 : (Dc Int Int)) =>
      (f__law_at ns ((3 + (4 * k20)) + j52)).bind fun by_63 =>
      (((modM by_63 many).bind fun v67 => (((modM by_63 many).bind fun v64 => (fdivM by_63 many).bind fun v65 => M.ok (v64, v65)).bind fun v66 => f__law_amount style12 heights19 k20 v66.1 v66.2).bind fun v68 => M.ok (v67, v68)).bind fun v70 => setdM b62 v70.1 v70.2).bind fun ways69 =>
      M.ok ways69) xs71 ([] : (Dc Int Int))).bind fun (b62 : (Dc Int Int)) =>
      (appM b47 ((cell48 % 2), sortIt b62)).bind fun game_here72 =>
      M.ok game_here72) xs73 ([] : (List (Int × (List (Int × Int)))))).bind fun (b47 : (List (Int × (List (Int × Int))))) =>
      M.ok b47) Gp := fun many most m0 m1 t0 t1 hsm => by
    refine b_bind ((zp_at B 1).call fun c1 _ => b_ok ?_)
    generalize c1 % 5 = style
    refine b_bind (b_rng (b_compM (fun _ x => 0 ≤ x ∧ x < 30) (by rw [rng_len]; omega) (fun k hk => ?_) fun hs hsl hsp => ?_))
    · have := rng_mem.mp hk
      refine e_nox (b_bind ((zp_at B (2 + 4 * k)).call fun v _ => b_ok (.of ⟨by omega, by omega⟩)))
    · rw [rng_len] at hsl
      have hh : ∀ x ∈ hs, 0 ≤ x ∧ x < 30 := fun x hx => by
        obtain ⟨i, hi, rfl⟩ := List.getElem_of_mem hx
        exact hsp i (by rw [rng_len]; omega) hi
      refine b_bind (b_rng (b_for (fun ys b => b.length = ys.length ∧ ∀ r ∈ b, (r.1 = 0 ∨ r.1 = 1) ∧ r.2 ≠ [] ∧ (r.2.length : Int) ≤ most ∧ (r.2.Pairwise fun p q => p.1 < q.1) ∧ ∀ w ∈ r.2, (0 ≤ w.1 ∧ w.1 < many) ∧ Am w.2) ⟨rfl, fun r hr => nomatch hr⟩ (fun ys k zs b e ⟨i1, i2⟩ => ?_) fun b ⟨i1, i2⟩ => ?_))
      · obtain ⟨hk, hk2⟩ := rng_split e
        have l := congrArg List.length e
        rw [rng_len, List.length_append, List.length_cons] at l
        refine (zp_at B (2 + 4 * k)).call fun c sc => b_bind (b_bind (b_bind (b_mod (b_ok ?_))))
        have q0 := Int.emod_nonneg (c / 2) (show most ≠ 0 by omega)
        have q1 := Int.emod_lt_of_pos (c / 2) (show 0 < most by omega)
        generalize c / 2 % most = m at q0 q1
        refine b_rng (b_for (fun zs d => d.length ≤ zs.length ∧ (d.map (·.1)).Nodup ∧ (0 < zs.length → d ≠ []) ∧ ∀ w ∈ d, (0 ≤ w.1 ∧ w.1 < many) ∧ Am w.2) ⟨Nat.le_refl _, List.nodup_nil, (fun h => by simp at h), fun w hw => nomatch hw⟩ (fun us j vs d e2 ⟨j1, j2, j3, j4⟩ => ?_) fun d ⟨j1, j2, j3, j4⟩ => ?_)
        · obtain ⟨hj, hj2⟩ := rng_split e2
          have l2 := congrArg List.length e2
          rw [rng_len, List.length_append, List.length_cons] at l2
          refine (zp_at B (3 + 4 * k + j)).call fun v sv => ?_
          have w0 := Int.emod_nonneg v (show many ≠ 0 by omega)
          have w1 := Int.emod_lt_of_pos v (show 0 < many by omega)
          refine b_bind (b_bind (b_mod (b_bind (b_bind (b_bind (b_mod (b_bind (b_fdiv (b_ok ?_)))))))))
          refine (zp_amount (by omega) hh (by omega) (by omega) (by dsimp only; omega) (by dsimp only; omega) (sz_up (sz_nn sv many (by omega)) (by decide))).call fun a ha => b_ok ?_
          dsimp only
          unfold setdM
          rw [if_pos (show d.length < lim by unfold lim; omega)]
          by_cases hm : (dg d (v % many)).isSome = true
          · rw [if_pos hm]
            exact .of ⟨by rw [List.length_append, List.length_singleton]; omega, j2, (fun _ he => by rw [he] at hm; cases hm), j4⟩
          · rw [if_neg hm]
            have dl := dp_len (d := d) (k := v % many) (v := a)
            refine .of ⟨by rw [List.length_append, List.length_singleton]; omega, nodup_dp j2, fun _ he => ?_, fun w hw => ?_⟩
            · have := mem_dp (d := d) (k := v % many) (x := v % many) (v := a)
              rw [he] at this
              exact absurd (this.mpr (.inl rfl)) (fun h => nomatch h)
            · rcases mem_dp2 hw with rfl | hw
              · exact ⟨⟨w0, w1⟩, ha⟩
              · exact j4 w hw
        · rw [rng_len] at j1 j3
          refine b_app (.of ⟨by simp [i1], fun r hr => ?_⟩)
          rcases List.mem_append.mp hr with hr | hr
          · exact i2 r hr
          · rw [List.mem_singleton.mp hr]
            refine ⟨by show c % 2 = 0 ∨ c % 2 = 1; omega, fun he => ?_, ?_, sortIt_lt j2, fun w hw => j4 w (sortIt_mem.mp hw)⟩
            · have h2 := congrArg List.length (show sortIt d = [] from he)
              rw [sortIt_len] at h2
              exact j3 (by omega) (List.length_eq_zero_iff.mp h2)
            · show ((sortIt d).length : Int) ≤ most
              rw [sortIt_len]
              omega
      · rw [rng_len] at i1
        have e : (b.length : Int) = many := by omega
        exact .of ⟨by omega, by omega, fun r hr => (i2 r hr).1, fun r hr => (i2 r hr).2.1, fun r hr => by have := (i2 r hr).2.2.1; omega, fun r hr => (i2 r hr).2.2.2.1, fun r hr w hw => by rw [e]; exact ((i2 r hr).2.2.2.2 w hw).1, fun r hr w hw => ((i2 r hr).2.2.2.2 w hw).2, most, t0, t1, hsm.imp (fun h => by omega) id, fun r hr => (i2 r hr).2.2.1⟩
  have two : ∀ many most : Int, 1 ≤ many → many ≤ 16 → 1 ≤ most → most ≤ 3 → (many ≤ 10 ∨ most ≤ 2) → Ok ((if decide (((h / 6) % 6) = 3) then
      (lt ((7 + ((h / 36) % 4)) : Int) fun many8 =>
      M.ok many8)
      else (M.ok many)).bind fun (b9 : Int) =>
      ((f__law_at ns 1).bind fun v10 => M.ok (v10 % 5)).bind fun style12 =>
      ((rngM 0 b9).bind fun xs18 => compM (fun (k13 : Int) => (((f__law_at ns (2 + (4 * k13))).bind fun v14 => M.ok (v14 / 6)).bind fun v16 => M.ok (v16 % 30)).nox) xs18).bind fun heights19 =>
      ((rngM 0 b9).bind fun xs73 => forM (fun (k20 : Int) (b47 : (List (Int × (List (Int × Int))))) =>
      (f__law_at ns (2 + (4 * k20))).bind fun cell48 =>
      ((((modM (cell48 / 2) most).bind fun v50 => M.ok (1 + v50)).bind fun v51 => rngM 0 v51).bind fun xs71 => forM (fun (j52 : Int) (b62 : (Dc Int Int)) =>
      (f__law_at ns ((3 + (4 * k20)) + j52)).bind fun by_63 =>
      (((modM by_63 b9).bind fun v67 => (((modM by_63 b9).bind fun v64 => (fdivM by_63 b9).bind fun v65 => M.ok (v64, v65)).bind fun v66 => f__law_amount style12 heights19 k20 v66.1 v66.2).bind fun v68 => M.ok (v67, v68)).bind fun v70 => setdM b62 v70.1 v70.2).bind fun ways69 =>
      M.ok ways69) xs71 ([] : (Dc Int Int))).bind fun (b62 : (Dc Int Int)) =>
      (appM b47 ((cell48 % 2), sortIt b62)).bind fun game_here72 =>
      M.ok game_here72) xs73 ([] : (List (Int × (List (Int × Int)))))).bind fun (b47 : (List (Int × (List (Int × Int))))) =>
      M.ok b47) Gp := fun many most m0 m1 t0 t1 hsm => b_ite (fun _ => b_ltb (b_ok (core _ most (by omega) (by omega) t0 t1 (.inl (by omega))))) fun _ => b_ok (core many most m0 m1 t0 t1 hsm)
  exact b_ite (fun _ => b_ltb (b_ok (two _ 2 (by dsimp only; omega) (by dsimp only; omega) (by decide) (by decide) (.inr (by decide))))) fun _ => b_ok (two _ 3 (by dsimp only; omega) (by dsimp only; omega) (by decide) (by decide) (.inl (by dsimp only; omega)))
theorem zn_more {a b : Option Int} : f_is_more a b = .ok (moreO a b) := by
  unfold f_is_more moreO
  cases b with
  | none => rfl
  | some y => cases a <;> rfl
theorem zn_need {t : List (Option Int)} {p a : Int} (h0 : 0 ≤ p) (h1 : p < t.length) : f_need_by t p a = .ok (nd t p a) := by
  unfold f_need_by nd
  rw [ix_ok h0 h1]
  simp only [M.bind_ok]
  cases q : getZ t p with
  | none => rfl
  | some x => rfl
theorem zn_rep (n : Nat) (h : n ≤ 16) : repM ([none] : List (Option Int)) (n : Int) = .ok (List.replicate n none) := by
  unfold repM
  have e : (List.replicate (n : Int).toNat ([none] : List (Option Int))).flatten = List.replicate n none := by
    rw [Int.toNat_natCast]
    clear h
    induction n with
    | zero => rfl
    | succ n ih => rw [List.replicate_succ, List.flatten_cons, ih]; rfl
  rw [e, if_pos]
  rw [decide_eq_true (by omega), decide_eq_true (by omega), okLen_ok (by simp; omega)]
  rfl
section
variable {game : List PRow} {rule t best : Tb} {left : Lf} {s : Int}
theorem zn_steered (G : Pg game) (R : RuleOk game rule) : f_steered game rule = .ok (leftOf game rule) := by
  have hn := G.n
  have hl := R.len
  have hz : (game.zip rule).length = game.length := by rw [List.length_zip, hl, Nat.min_self]
  unfold f_steered
  refine Ok.get (e_F (by rw [decide_eq_true (by omega)]; rfl) ?_)
  refine b_for (fun ys b => b = ys.map lfR) rfl (fun ys x zs b e hb => ?_) fun b hb => .of hb
  have hx : x ∈ game.zip rule := by rw [e]; simp
  have el := congrArg List.length e
  rw [List.length_append, List.length_cons] at el
  obtain ⟨i, hi, rfl⟩ := (zip_mem hl.symm).mp hx
  have hv : Ti game (i : Int) := ⟨by omega, by omega⟩
  have hne := left_ne G R hv
  have hk := R.keep _ hv
  rw [getZ_nat hi] at hne hk
  rw [getZ_nat (show i < rule.length by omega)] at hne hk
  refine e_F ?_ ?_
  · by_cases c : game[i].1 = 1
    · rw [decide_eq_false (show ¬ game[i].1 = 0 by omega)]; rfl
    · rw [hk c]; exact Bool.and_false _
  · have fin : ∀ ws, ws = lfR (game[i], rule[i]'(by omega)) → Ok (if decide ((ws.length : Int) = 0) then
        (M.ex "NoRule")
        else ((appM b ws).bind fun left17 =>
        M.ok left17)) fun b => b = (ys ++ [(game[i], rule[i]'(by omega))]).map lfR := fun ws ew => by
      refine e_F (decide_eq_false fun h0 => hne ?_) (b_app (.of (by rw [hb, List.map_append, ew]; rfl)) (by rw [hb, List.length_map]; omega))
      rw [← ew]
      exact List.length_eq_zero_iff.mp (by omega)
    have wl := G.len _ (List.getElem_mem hi)
    refine b_ite (fun c => ?_) fun c => ?_
    · have c := of_decide_eq_true c
      refine b_bind (b_compFP (b_ok (fin _ ?_)) (by dsimp only; omega))
      unfold lfR
      dsimp only at c ⊢
      rw [if_pos c]
      exact List.map_id _
    · have c : ¬ game[i].1 = 1 := of_decide_eq_false (by simpa using c)
      refine b_ok (fin _ ?_)
      unfold lfR
      dsimp only
      rw [if_neg c]
theorem zn_farther (L : LfOk left) (hl : best.length = left.length) : Ok (f_farther left best) (Mx best (Cd left best)) := by
  have hn := L.n
  unfold f_farther
  rw [lt_eq]
  refine b_for (fun ys b => Mx best (fun u c => ∃ q ∈ ys, ∃ z, q.1 = some z ∧ ∃ a, (u, a) ∈ q.2 ∧ c = z + a ∧ 0 ≤ c) b) (mx_start.congr fun u c => ⟨fun h => h.elim, fun ⟨q, hq, _⟩ => nomatch hq⟩) (fun ys x zs b e hb => ?_) fun b hb => .of (hb.congr fun u c => cd_zip hl)
  have hx : x ∈ best.zip left := by rw [e]; simp
  obtain ⟨i, hi, rfl⟩ := (zip_mem hl).mp hx
  have hws : ∀ w ∈ left[i]'(by omega), Ti left w.1 := L.in_ _ (List.getElem_mem _)
  dsimp only
  generalize left[i]'(by omega) = ws at hws
  have key : ∀ z, Ok (forM (fun (p35 : (Int × Int)) (b47 : (List (Option Int))) =>
      (if decide (0 ≤ (z + p35.2)) then (((ix b47 p35.1).bind fun v48 => M.ok v48.isNone).bind fun z53 => if z53 then M.ok true else (((ix b47 p35.1).bind fun v50 => unO v50).bind fun v51 => M.ok (decide (v51 < (z + p35.2))))) else M.ok false).bind fun z57 => if z57 then
      ((setM b47 p35.1 (some (z + p35.2))).bind fun after54 =>
      M.ok after54)
      else (M.ok b47)) ws b) (Mx best (fun u c => (∃ q ∈ ys, ∃ z, q.1 = some z ∧ ∃ a, (u, a) ∈ q.2 ∧ c = z + a ∧ 0 ≤ c) ∨ ∃ a, (u, a) ∈ ws ∧ c = z + a ∧ 0 ≤ c)) := fun z => by
    refine e_end (b_for (fun us b => Mx best (fun u c => (∃ q ∈ ys, ∃ z, q.1 = some z ∧ ∃ a, (u, a) ∈ q.2 ∧ c = z + a ∧ 0 ≤ c) ∨ ∃ a, (u, a) ∈ us ∧ c = z + a ∧ 0 ≤ c) b) (hb.congr fun u c => ⟨.inl, fun h => h.resolve_right fun ⟨_, h, _⟩ => nomatch h⟩) (fun us w vs b2 e2 hb2 => ?_) fun b hb => .of hb)
    have hw := hws w (by rw [e2]; simp)
    have hlb := hb2.len
    have hbw : Ti best w.1 := ⟨hw.1, by have := hw.2; omega⟩
    have grow : Mx best (fun u c => ((∃ q ∈ ys, ∃ z, q.1 = some z ∧ ∃ a, (u, a) ∈ q.2 ∧ c = z + a ∧ 0 ≤ c) ∨ ∃ a, (u, a) ∈ us ∧ c = z + a ∧ 0 ≤ c) ∨ (u = w.1 ∧ c = z + w.2)) = fun b => Mx best (fun u c => ((∃ q ∈ ys, ∃ z, q.1 = some z ∧ ∃ a, (u, a) ∈ q.2 ∧ c = z + a ∧ 0 ≤ c) ∨ ∃ a, (u, a) ∈ us ∧ c = z + a ∧ 0 ≤ c) ∨ (u = w.1 ∧ c = z + w.2)) b := rfl
    by_cases h0 : 0 ≤ z + w.2
    · have cg : ∀ u c, (((∃ q ∈ ys, ∃ z, q.1 = some z ∧ ∃ a, (u, a) ∈ q.2 ∧ c = z + a ∧ 0 ≤ c) ∨ ∃ a, (u, a) ∈ us ∧ c = z + a ∧ 0 ≤ c) ∨ (u = w.1 ∧ c = z + w.2)) ↔ ((∃ q ∈ ys, ∃ z, q.1 = some z ∧ ∃ a, (u, a) ∈ q.2 ∧ c = z + a ∧ 0 ≤ c) ∨ ∃ a, (u, a) ∈ us ++ [w] ∧ c = z + a ∧ 0 ≤ c) := fun u c => by
        constructor
        · rintro ((h | ⟨a, ha, h⟩) | ⟨rfl, rfl⟩)
          · exact .inl h
          · exact .inr ⟨a, List.mem_append_left _ ha, h⟩
          · exact .inr ⟨w.2, by simp, rfl, h0⟩
        · rintro (h | ⟨a, ha, h, h2⟩)
          · exact .inl (.inl h)
          · rcases List.mem_append.mp ha with ha | ha
            · exact .inl (.inr ⟨a, ha, h, h2⟩)
            · have := List.mem_singleton.mp ha
              rw [← this]
              exact .inr ⟨rfl, h⟩
      rw [decide_eq_true h0, if_pos rfl, ix_ok hw.1 (by have := hw.2; omega)]
      simp only [M.bind_ok]
      cases q : getZ b2 w.1 with
      | none =>
        simp only [Option.isNone_none, if_true, M.bind_ok]
        exact b_set (.of ((mx_set hb2 hbw (c := z + w.2) fun y hy => by rw [q] at hy; cases hy).congr cg)) hw.1 (by have := hw.2; omega)
      | some y =>
        have eu : unO (some y) = M.ok y := rfl
        simp only [Option.isNone_some, Bool.false_eq_true, if_false, eu, M.bind_ok]
        by_cases c : y < z + w.2
        · rw [decide_eq_true c, if_pos rfl]
          exact b_set (.of ((mx_set hb2 hbw (c := z + w.2) fun y2 hy => by rw [q] at hy; cases hy; exact c).congr cg)) hw.1 (by have := hw.2; omega)
        · rw [decide_eq_false c, if_neg (by decide)]
          exact .of ((mx_skip hb2 (c := z + w.2) q (by omega)).congr cg)
    · rw [decide_eq_false h0, if_neg (by decide), M.bind_ok, if_neg (by decide)]
      refine .of (hb2.congr fun u c => or_congr Iff.rfl ⟨fun ⟨a, ha, h⟩ => ⟨a, List.mem_append_left _ ha, h⟩, fun ⟨a, ha, h, h2⟩ => ?_⟩)
      rcases List.mem_append.mp ha with ha | ha
      · exact ⟨a, ha, h, h2⟩
      · have := List.mem_singleton.mp ha
        rw [← this] at h0
        exact absurd (by rw [← h]; exact h2) h0
  refine e_opt (fun en => .of (hb.congr fun u c => ?_)) fun z ez => ?_
  · constructor
    · rintro ⟨q, hq, h⟩
      exact ⟨q, List.mem_append_left _ hq, h⟩
    · rintro ⟨q, hq, z, ez, h⟩
      rcases List.mem_append.mp hq with hq | hq
      · exact ⟨q, hq, z, ez, h⟩
      · rw [List.mem_singleton.mp hq] at ez
        rw [show best[i] = none from en] at ez
        cases ez
  · refine (key z).call fun b2 hb2 => .of (hb2.congr fun u c => ?_)
    constructor
    · rintro (⟨q, hq, h⟩ | ⟨a, ha, h⟩)
      · exact ⟨q, List.mem_append_left _ hq, h⟩
      · exact ⟨_, List.mem_append_right _ (List.mem_singleton.mpr rfl), z, ez, a, ha, h⟩
    · rintro ⟨q, hq, z2, ez2, a, ha, h⟩
      rcases List.mem_append.mp hq with hq | hq
      · exact .inl ⟨q, hq, z2, ez2, a, ha, h⟩
      · rw [List.mem_singleton.mp hq] at ez2 ha
        rw [show best[i] = some z from ez] at ez2
        cases ez2
        exact .inr ⟨a, ha, h⟩
theorem zn_rest (L : LfOk left) (hs : Ti left s) : Ok (f_is_rest left s) fun r => (r = true ↔ Rest (EL left) left.length s) := by
  have hn := L.n
  have s0 := hs.1
  have s1 := hs.2
  unfold f_is_rest
  rw [zn_rep _ hn, M.bind_ok]
  refine b_set ?_ s0 (by rw [List.length_replicate]; exact s1)
  have B0 : Bst left s 0 ((List.replicate left.length none).set s.toNat (some 0)) := bst_start hs (by rw [List.length_set, List.length_replicate]) fun u hu => by
    rw [getZ_set s0 (by rw [List.length_replicate]; exact s1) hu.1 (by rw [List.length_replicate]; exact hu.2)]
    split
    · rfl
    · rw [getZ_at hu.1 (by rw [List.length_replicate]; exact hu.2), List.getElem_replicate]
  refine b_bind (b_rng ?_)
  refine b_fl (e_forF (fun ys b => Bst left s ys.length b ∧ ∀ j y, j < ys.length → ¬ Wk (EL left) s 0 (j + 1) s y) (fun r => (r = true ↔ Rest (EL left) left.length s)) ⟨B0, fun j y h => by simp at h⟩ (fun ys x zs b e ⟨B, hno⟩ => ?_) (fun b ⟨B, hno⟩ => ?_) fun a h => h)
  · have el := congrArg List.length e
    rw [rng_len, List.length_append, List.length_cons] at el
    have ck : forF (fun (p35 : ((Option Int) × (List (Int × Int)))) (b47 : Unit) =>
        (forF (fun (p48 : (Int × Int)) (b53 : Unit) =>
        if (decide (p48.1 = s) && (optC p35.1 false fun purse54 => decide (0 ≤ (purse54 + p48.2)))) then
        (M.ok (Fl.rt (Fl.rt (Fl.rt true))))
        else (M.ok (Fl.nx ()))) p35.2 ()).fl fun (b53 : Unit) =>
        M.ok (Fl.nx ())) (b.zip left) () = (M.ok (if (b.zip left).all (fun q => q.2.all fun w => !bk s q w) then Fl.nx () else Fl.rt (Fl.rt true)) : M (Fl Unit (Fl (List (Option Int)) Bool))) := by
      refine forF_ck fun q hq => ?_
      rw [forF_ck (a := Fl.rt (Fl.rt true)) (p := fun w => !bk s q w) fun w hw => ?_]
      · cases q.2.all fun w => !bk s q w <;> rfl
      · have : (decide (w.1 = s) && (optC q.1 false fun purse54 => decide (0 ≤ (purse54 + w.2)))) = bk s q w := by
          unfold bk
          cases q.1 <;> rfl
        rw [this]
        cases bk s q w <;> rfl
    have al : (b.zip left).all (fun q => q.2.all fun w => !bk s q w) = !((b.zip left).any fun q => q.2.any (bk s q)) := by
      rw [Bool.eq_iff_iff, List.all_eq_true, Bool.not_eq_true', List.any_eq_false]
      refine forall_congr' fun q => forall_congr' fun _ => ?_
      rw [List.all_eq_true, Bool.not_eq_true, List.any_eq_false]
      exact forall_congr' fun w => forall_congr' fun _ => by rw [Bool.not_eq_true', Bool.not_eq_true]
    rw [ck, al]
    cases ha : (b.zip left).any fun q => q.2.any (bk s q) with
    | true =>
      refine .of ?_
      exact ⟨fun _ => bk_rest B (by omega) ((bk_any B).mp ha), fun _ => rfl⟩
    | false =>
      have no : ¬ ∃ v z a, getZ b v = some z ∧ EL left v s a ∧ 0 ≤ z + a := fun h => by rw [(bk_any B).mpr h] at ha; cases ha
      show Ok ((f_farther left b).bind _) _
      refine (zn_farther L B.len).call fun after hm => ?_
      by_cases c : after = b
      · rw [decide_eq_true c, if_pos rfl]
        rw [c] at hm
        refine .of ⟨fun h => (nomatch h), fun h => absurd h (not_rest fun j y w => ?_)⟩
        rcases Nat.lt_or_ge j ys.length with h | h
        · exact hno j y h w
        · exact bk_none (bst_fix L hs B hm j h) no (Nat.le_refl _) w
      · rw [decide_eq_false c, if_neg (by decide)]
        refine .of ⟨by rw [List.length_append]; exact bst_step L hs B hm, fun j y h => ?_⟩
        rw [List.length_append, List.length_singleton] at h
        exact bk_none B no (by omega)
  · rw [rng_len] at hno
    refine .of ⟨fun h => (nomatch h), ?_⟩
    rintro ⟨k, y, k1, kn, w⟩
    obtain ⟨j, rfl⟩ : ∃ j, k = j + 1 := ⟨k - 1, by omega⟩
    exact absurd w (hno j y (by omega))
theorem zn_nearer (L : LfOk left) (hl : t.length = left.length) : Ok (f_nearer left t) (Mn t (fun v x => Ti left v ∧ ∃ w ∈ getZ left v, ∃ z, nd t w.1 w.2 = some z ∧ z ≤ x)) := by
  have hn := L.n
  unfold f_nearer
  rw [lt_eq]
  refine b_for (fun ys b => Mn t (fun v x => ∃ q ∈ ys, q.1 = v ∧ ∃ w ∈ q.2, ∃ z, nd t w.1 w.2 = some z ∧ z ≤ x) b) (mn_start.congr fun u c => ⟨fun h => h.elim, fun ⟨q, hq, _⟩ => nomatch hq⟩) (fun ys x zs b e hb => ?_) fun b hb => .of (hb.congr fun v x => ?_)
  · have hx : x ∈ enumL left := by rw [e]; simp
    obtain ⟨i, hi, rfl⟩ := enum_mem.mp hx
    have hws : ∀ w ∈ left[i], Ti left w.1 := L.in_ _ (List.getElem_mem _)
    have hti : Ti t (i : Int) := ⟨by omega, by omega⟩
    dsimp only
    generalize left[i] = ws at hws
    refine b_for (fun us b => Mn t (fun v x => (∃ q ∈ ys, q.1 = v ∧ ∃ w ∈ q.2, ∃ z, nd t w.1 w.2 = some z ∧ z ≤ x) ∨ ((i : Int) = v ∧ ∃ w ∈ us, ∃ z, nd t w.1 w.2 = some z ∧ z ≤ x)) b) (hb.congr fun u c => ⟨.inl, fun h => h.resolve_right fun ⟨_, _, h, _⟩ => nomatch h⟩) (fun us w vs b2 e2 hb2 => ?_) fun b hb => .of (hb.congr fun v x => ?_)
    · have hw := hws w (by rw [e2]; simp)
      have hlb := hb2.len
      refine .eqc (zn_need hw.1 (by have := hw.2; omega)) (b_bind (b_ix (.eqc zn_more ?_) hti.1 (by have := hti.2; omega)))
      have cg : ∀ v x, (((∃ q ∈ ys, q.1 = v ∧ ∃ w ∈ q.2, ∃ z, nd t w.1 w.2 = some z ∧ z ≤ x) ∨ ((i : Int) = v ∧ ∃ w ∈ us, ∃ z, nd t w.1 w.2 = some z ∧ z ≤ x)) ∨ (v = i ∧ ∃ z, nd t w.1 w.2 = some z ∧ z ≤ x)) ↔ ((∃ q ∈ ys, q.1 = v ∧ ∃ w ∈ q.2, ∃ z, nd t w.1 w.2 = some z ∧ z ≤ x) ∨ ((i : Int) = v ∧ ∃ u ∈ us ++ [w], ∃ z, nd t u.1 u.2 = some z ∧ z ≤ x)) := fun v x => by
        constructor
        · rintro ((h | ⟨h, u, hu, h2⟩) | ⟨h, h2⟩)
          · exact .inl h
          · exact .inr ⟨h, u, List.mem_append_left _ hu, h2⟩
          · exact .inr ⟨h.symm, w, by simp, h2⟩
        · rintro (h | ⟨h, u, hu, h2⟩)
          · exact .inl (.inl h)
          · rcases List.mem_append.mp hu with hu | hu
            · exact .inl (.inr ⟨h, u, hu, h2⟩)
            · rw [List.mem_singleton.mp hu] at h2
              exact .inr ⟨h.symm, h2⟩
      cases c : moreO (getZ b2 (i : Int)) (nd t w.1 w.2) with
      | true =>
        rw [if_pos rfl]
        exact b_set (.of ((mn_set hb2 hti c).congr cg)) hti.1 (by have := hti.2; omega)
      | false =>
        rw [if_neg (by decide)]
        exact .of ((mn_skip hb2 c).congr cg)
    · constructor
      · rintro (⟨q, hq, h⟩ | h)
        · exact ⟨q, List.mem_append_left _ hq, h⟩
        · exact ⟨_, List.mem_append_right _ (List.mem_singleton.mpr rfl), h⟩
      · rintro ⟨q, hq, h⟩
        rcases List.mem_append.mp hq with hq | hq
        · exact .inl ⟨q, hq, h⟩
        · rw [List.mem_singleton.mp hq] at h
          exact .inr h
  · constructor
    · rintro ⟨q, hq, rfl, w, hw, h⟩
      obtain ⟨i, hi, rfl⟩ := enum_mem.mp hq
      exact ⟨⟨by dsimp only; omega, by dsimp only; omega⟩, w, by dsimp only; rw [getZ_nat hi]; exact hw, h⟩
    · rintro ⟨hv, w, hw, h⟩
      obtain ⟨i, rfl⟩ : ∃ i : Nat, v = (i : Int) := ⟨v.toNat, by have := hv.1; omega⟩
      have hi : i < left.length := by have := hv.2; omega
      rw [getZ_nat hi] at hw
      exact ⟨_, enum_mem.mpr ⟨i, hi, rfl⟩, rfl, w, hw, h⟩
theorem zn_needs (G : Pg game) (R : RuleOk game rule) : Ok (f_needs game rule) (NeedR game rule) := by
  have L := left_ok G R
  have hn := L.n
  unfold f_needs NeedR
  refine .eqc (zn_steered G R) ?_
  generalize leftOf game rule = left at L hn ⊢
  rw [zn_rep _ hn, M.bind_ok]
  refine b_bind (b_rng (b_for (fun ys b => b.length = left.length ∧ ∀ v, Ti left v → (v < ys.length → (getZ b v = some 0 ∧ Rest (EL left) left.length v) ∨ (getZ b v = none ∧ ¬ Rest (EL left) left.length v)) ∧ ((ys.length : Int) ≤ v → getZ b v = none)) ⟨by rw [List.length_replicate], fun v hv => ⟨fun h => by have := hv.1; simp at h; omega, fun _ => ?_⟩⟩ (fun ys x zs b e ⟨hb, hh⟩ => ?_) fun b ⟨hb, hh⟩ => ?_))
  · rw [getZ_at hv.1 (by rw [List.length_replicate]; exact hv.2), List.getElem_replicate]
  · obtain ⟨hx, hx2⟩ := rng_split e
    have el := congrArg List.length e
    rw [rng_len, List.length_append, List.length_cons] at el
    have hxi : Ti left x := ⟨by omega, by omega⟩
    refine (zn_rest L hxi).call fun r hr => ?_
    cases r with
    | true =>
      rw [if_pos rfl]
      refine b_set (.of ⟨by rw [List.length_set]; exact hb, fun v hv => ?_⟩) hxi.1 (by omega)
      rw [getZ_set hxi.1 (by omega) hv.1 (by have := hv.2; omega), List.length_append, List.length_singleton]
      by_cases c : v = x
      · subst c
        rw [if_pos rfl]
        exact ⟨fun _ => .inl ⟨rfl, hr.mp rfl⟩, fun h => by omega⟩
      · rw [if_neg c]
        exact ⟨fun h => (hh v hv).1 (by omega), fun h => (hh v hv).2 (by omega)⟩
    | false =>
      rw [if_neg (by decide)]
      refine .of ⟨hb, fun v hv => ?_⟩
      rw [List.length_append, List.length_singleton]
      by_cases c : v = x
      · subst c
        exact ⟨fun _ => .inr ⟨(hh v hv).2 (by omega), fun h => (nomatch hr.mpr h)⟩, fun h => by omega⟩
      · exact ⟨fun h => (hh v hv).1 (by omega), fun h => (hh v hv).2 (by omega)⟩
  · rw [rng_len] at hh
    have T0 : Tk left 0 b := tk_start hb fun v hv => (hh v hv).1 (by have := hv.2; omega)
    refine b_bind (b_rng (b_for (fun ys b => Tk left ys.length b) T0 (fun ys x zs b e T => ?_) fun b T => ?_))
    · refine (zn_nearer L T.len).call fun b2 h => .of ?_
      rw [List.length_append, List.length_singleton]
      exact tk_step L T h
    · rw [rng_len] at T
      refine .of (tk_end L ?_)
      rw [show ((left.length : Int) - 0).toNat = left.length by omega] at T
      exact T
theorem zn_first (G : Pg game) : Ok (f_first_rule game) (fun rule => RuleOk game rule ∧ ∀ v, Ti game v → (getZ game v).1 = 1 → getZ rule v = some (getZ (getZ game v).2 0).1) := by
  have hn := G.n
  unfold f_first_rule
  refine b_for (fun ys b => b = ys.map fun r => if r.1 = 1 then some (getZ r.2 0).1 else none) rfl (fun ys x zs b e hb => ?_) fun b hb => .of ?_
  · have el := congrArg List.length e
    rw [List.length_append, List.length_cons] at el
    have hx : x ∈ game := by rw [e]; simp
    have hp := List.length_pos_iff.mpr (G.ne x hx)
    have hbl : b.length < 16777216 := by rw [hb, List.length_map]; omega
    refine e_ite (fun c => ?_) fun c => ?_
    · have c := of_decide_eq_true c
      refine b_bind (b_bind (b_ix (b_ok (b_app (.of ?_) hbl))))
      rw [hb, List.map_append]
      show _ = _ ++ [if x.1 = 1 then _ else _]
      rw [if_pos c]
    · have c : ¬ x.1 = 1 := of_decide_eq_false (by simpa using c)
      refine b_app (.of ?_) hbl
      rw [hb, List.map_append]
      show _ = _ ++ [if x.1 = 1 then _ else _]
      rw [if_neg c]
  · have gv : ∀ v, Ti game v → getZ b v = if (getZ game v).1 = 1 then some (getZ (getZ game v).2 0).1 else none := fun v hv => by
      rw [hb, getZ_at hv.1 (by rw [List.length_map]; exact hv.2), List.getElem_map, getZ_at hv.1 hv.2]
    refine ⟨⟨by rw [hb, List.length_map], fun v hv c => by rw [gv v hv, if_neg c], fun v hv c => ⟨getZ (getZ game v).2 0, ?_, by rw [gv v hv, if_pos c]⟩⟩, fun v hv c => by rw [gv v hv, if_pos c]⟩
    have := List.length_pos_iff.mpr (G.ne _ (G.row hv))
    exact getZ_mem (by omega) (by omega)
theorem zn_bettered (G : Pg game) (hr : rule.length = game.length) (ht : t.length = game.length) : f_bettered game rule t = .ok (betR game rule t) := by
  have hn := G.n
  unfold f_bettered
  rw [lt_eq]
  refine Ok.get (b_for (fun ys b => b.length = game.length ∧ ∀ v, Ti game v → (v < ys.length → getZ b v = betV game rule t v) ∧ ((ys.length : Int) ≤ v → getZ b v = getZ rule v)) ⟨hr, fun v hv => ⟨fun h => by have := hv.1; simp at h; omega, fun _ => rfl⟩⟩ (fun ys x zs b e ⟨hb, hh⟩ => ?_) fun b ⟨hb, hh⟩ => .of ?_)
  · have hx : x ∈ enumL game := by rw [e]; simp
    have el := congrArg List.length e
    have ee : (enumL game).length = game.length := by unfold enumL; rw [List.length_map, List.length_zipIdx]
    rw [ee, List.length_append, List.length_cons] at el
    have hxe : x = ((ys.length : Int), getZ game (ys.length : Int)) := by
      have h1 : (enumL game)[ys.length]? = some x := by rw [e, List.getElem?_append_right (Nat.le_refl _), Nat.sub_self]; rfl
      unfold enumL at h1
      rw [List.getElem?_map, List.getElem?_zipIdx, List.getElem?_eq_getElem (by omega)] at h1
      have := Option.some.inj h1
      rw [← this, getZ_nat (by omega)]
      simp
    subst hxe
    have hv : Ti game (ys.length : Int) := ⟨by omega, by omega⟩
    have ws := G.in_ _ (G.row hv)
    dsimp only
    have key : ∀ (us : List (Int × Int)), (∀ w ∈ us, 0 ≤ w.1 ∧ w.1 < game.length) → ∀ (b : Tb) (m : Option Int), b.length = game.length → forM (fun (p24 : (Int × Int)) (b31 : ((List (Option Int)) × (Option Int))) =>
        (f_need_by t p24.1 p24.2).bind fun need32 =>
        (f_is_more need32 b31.2).bind fun z36 => if z36 then
        ((setM b31.1 (ys.length : Int) (some p24.1)).bind fun after33 =>
        M.ok (after33, need32))
        else (M.ok (b31.1, b31.2))) us (b, m) = .ok (b.set ys.length (bwF t us (getZ b (ys.length : Int), m)).1, (bwF t us (getZ b (ys.length : Int), m)).2) := by
      intro us
      induction us with
      | nil =>
        intro _ b m hb
        show M.ok (b, m) = M.ok (b.set ys.length (getZ b (ys.length : Int)), m)
        rw [getZ_nat (by omega), List.set_getElem_self]
      | cons w us ih =>
        intro hu b m hb
        have hw := hu w List.mem_cons_self
        show (M.bind _ (fun b => forM _ us b)) = _
        dsimp only
        rw [zn_need hw.1 (by omega), M.bind_ok, zn_more, M.bind_ok]
        have ef : ∀ q, bwF t (w :: us) q = bwF t us (if moreO (nd t w.1 w.2) q.2 then (some w.1, nd t w.1 w.2) else q) := fun q => rfl
        rw [ef]
        dsimp only
        cases c : moreO (nd t w.1 w.2) m with
        | true =>
          rw [if_pos rfl, if_pos rfl, setZ_ok hv.1 (by omega), M.bind_ok, M.bind_ok]
          rw [Int.toNat_natCast, ih (fun v hv => hu v (List.mem_cons_of_mem _ hv)) _ _ (by rw [List.length_set]; exact hb)]
          have : getZ (b.set ys.length (some w.1)) (ys.length : Int) = some w.1 := by
            rw [getZ_nat (by rw [List.length_set]; omega), List.getElem_set_self]
          rw [this, List.set_set]
        | false =>
          rw [if_neg (by decide), if_neg (by decide), M.bind_ok]
          exact ih (fun v hv => hu v (List.mem_cons_of_mem _ hv)) _ _ hb
    have bv := hh _ hv
    have out : ∀ b2 : Tb, (∃ o, b2 = b.set ys.length o ∧ o = betV game rule t (ys.length : Int)) → b2.length = game.length ∧ ∀ v, Ti game v → (v < (ys ++ [((ys.length : Int), getZ game (ys.length : Int))]).length → getZ b2 v = betV game rule t v) ∧ (((ys ++ [((ys.length : Int), getZ game (ys.length : Int))]).length : Int) ≤ v → getZ b2 v = getZ rule v) := by
      rintro b2 ⟨o, rfl, ho⟩
      refine ⟨by rw [List.length_set]; exact hb, fun v hv2 => ?_⟩
      have := getZ_set (xs := b) (x := o) hv.1 (by omega) hv2.1 (by have := hv2.2; omega)
      rw [Int.toNat_natCast] at this
      rw [this, List.length_append, List.length_singleton]
      by_cases c : v = (ys.length : Int)
      · rw [if_pos c, c]
        exact ⟨fun _ => ho, fun h => by omega⟩
      · rw [if_neg c]
        exact ⟨fun h => (hh v hv2).1 (by omega), fun h => (hh v hv2).2 (by omega)⟩
    refine e_ite (fun c => ?_) fun c => ?_
    · have c := of_decide_eq_true c
      refine b_ix ?_ hv.1 (by omega)
      rw [key _ ws b _ hb, M.bind_ok]
      refine .of (out _ ⟨_, rfl, ?_⟩)
      rw [bv.2 (Int.le_refl _)]
      unfold betV
      rw [if_pos c]
    · have c : ¬ (getZ game (ys.length : Int)).1 = 1 := of_decide_eq_false (by simpa using c)
      refine .of (out _ ⟨getZ b (ys.length : Int), by rw [getZ_nat (by omega), List.set_getElem_self], ?_⟩)
      rw [bv.2 (Int.le_refl _)]
      unfold betV
      rw [if_neg c]
  · have ee : (enumL game).length = game.length := by unfold enumL; rw [List.length_map, List.length_zipIdx]
    rw [ee] at hh
    refine List.ext_getElem (by rw [hb, bet_len]) fun i h1 h2 => ?_
    have hi : Ti game (i : Int) := ⟨by omega, by omega⟩
    rw [← getZ_nat h1, ← getZ_nat h2, bet_get hi]
    exact (hh _ hi).1 hi.2
theorem zn_last {α : Type} [Inhabited α] {xs : List α} {x : α} : ix (xs ++ [x]) (-1) = .ok x := by
  unfold ix L2.atI ixN
  rw [if_neg (by omega), if_pos (by simp; omega)]
  have : ((-1 : Int) + ((xs ++ [x]).length : Nat)).toNat = xs.length := by simp; omega
  rw [this]
  simp
end
theorem Gp.pg {game : List PRow} (G : Gp game) : Pg game := ⟨G.n, G.hand, G.ne, G.len, G.lt, G.in_⟩
theorem pow_small (m n : Nat) (h : (n ≤ 10 ∧ m ≤ 3) ∨ (n ≤ 16 ∧ m ≤ 2)) : m ^ n ≤ 16000000 := by
  rcases h with ⟨h1, h2⟩ | ⟨h1, h2⟩
  · exact Nat.le_trans (Nat.pow_le_pow_left h2 n) (Nat.le_trans (Nat.pow_le_pow_right (by decide) h1) (by decide))
  · exact Nat.le_trans (Nat.pow_le_pow_left h2 n) (Nat.le_trans (Nat.pow_le_pow_right (by decide) h1) (by decide))
theorem Gp.all {game : List PRow} (G : Gp game) : (allRules game).length ≤ 16000000 := by
  obtain ⟨m, m1, m3, h, hr⟩ := G.sm
  have hn := G.n
  exact Nat.le_trans (all_len (m := m.toNat) (by omega) fun r hr' => by have := hr r hr'; omega) (pow_small _ _ (h.elim (fun h => .inl ⟨by omega, by omega⟩) fun h => .inr ⟨by omega, by omega⟩))
def fr (game : List PRow) : Tb := game.map fun r => if r.1 = 1 then some (getZ r.2 0).1 else none
structure Rw1 (game : List PRow) (p : Tb × Tb) : Prop where
  ok : RuleOk game p.1
  need : NeedR game p.1 p.2
  eq : f_needs game p.1 = .ok p.2
structure Ch (game : List PRow) (rows : List (Tb × Tb)) : Prop where
  row : ∀ p ∈ rows, Rw1 game p
  first : ∀ x zs, rows = x :: zs → x.1 = fr game
  next : ∀ us p x zs, rows = us ++ p :: x :: zs → x.1 = betR game p.1 p.2 ∧ x.1 ≠ p.1
section
variable {game : List PRow} {rule t : Tb}
theorem needs_eq (G : Pg game) (R : RuleOk game rule) : Ok (f_needs game rule) fun t => NeedR game rule t ∧ f_needs game rule = .ok t := by
  obtain ⟨t, e, h⟩ := zn_needs G R
  exact ⟨t, e, h, e⟩
theorem fr_get {v : Int} (hv : Ti game v) : getZ (fr game) v = if (getZ game v).1 = 1 then some (getZ (getZ game v).2 0).1 else none := by
  unfold fr
  rw [getZ_at hv.1 (by rw [List.length_map]; exact hv.2), List.getElem_map, getZ_at hv.1 hv.2]
theorem tb_ext {a b : Tb} (h : a.length = game.length) (h2 : b.length = game.length) (k : ∀ v, Ti game v → getZ a v = getZ b v) : a = b :=
  List.ext_getElem (by omega) fun i h1 h3 => by
    rw [← getZ_nat h1, ← getZ_nat h3]
    exact k _ ⟨by omega, by omega⟩
theorem first_eq (G : Pg game) : Ok (f_first_rule game) fun rule => RuleOk game rule ∧ rule = fr game := by
  refine (zn_first G).mono fun rule ⟨R, h⟩ => ⟨R, tb_ext R.len (by unfold fr; rw [List.length_map]) fun v hv => ?_⟩
  rw [fr_get hv]
  split
  · rename_i c
    exact h v hv c
  · rename_i c
    exact R.keep v hv c
theorem snoc_split {α : Type} {rows us zs : List α} {y p x : α} (e : rows ++ [y] = us ++ p :: x :: zs) : (zs = [] ∧ x = y ∧ rows = us ++ [p]) ∨ ∃ zs', zs = zs' ++ [y] ∧ rows = us ++ p :: x :: zs' := by
  rcases List.eq_nil_or_concat zs with rfl | ⟨zs', z, rfl⟩
  · have e : rows ++ [y] = (us ++ [p]) ++ [x] := by rw [e]; simp
    have := List.append_inj' e rfl
    exact .inl ⟨rfl, (List.cons.inj this.2).1.symm, this.1⟩
  · have e : rows ++ [y] = (us ++ p :: x :: zs') ++ [z] := by rw [e]; simp
    have := List.append_inj' e rfl
    refine .inr ⟨zs', ?_, this.1⟩
    rw [(List.cons.inj this.2).1]
    simp
theorem zn_betterings (G : Pg game) (hm : (allRules game).length ≤ 16000000) : Ok (f_betterings game) fun rows => ∃ pre r t, rows = pre ++ [(r, t)] ∧ Ch game rows ∧ betR game r t = r ∧ rows.length ≤ 16000001 := by
  unfold f_betterings
  refine (first_eq G).call fun rule ⟨R, hf⟩ => b_nox (b_bind ((needs_eq G R).call fun t ⟨I, eI⟩ => b_bind (.eqc (zn_bettered G R.len (NeedR.len R I)) (b_ok ?_))))
  refine b_while (fun b => mu game b.2.1.1) (fun b => Ch game (b.1 ++ [b.2.1]) ∧ b.2.2 = betR game b.2.1.1 b.2.1.2 ∧ b.1.length + 1 + mu game b.2.1.1 ≤ (allRules game).length + 1) ⟨⟨fun p hp => ?_, fun x zs e => ?_, fun us p x zs e => ?_⟩, rfl, ?_⟩ ?_ ?_
  · rw [List.mem_singleton.mp hp]
    exact ⟨R, I, eI⟩
  · have := (List.cons.inj e).1
    rw [← this]
    exact hf
  · have := congrArg List.length e
    simp at this
    omega
  · have := mu_le (game := game) rule
    simp
    omega
  · have := mu_le (game := game) rule
    dsimp only
    omega
  · rintro ⟨init, ⟨r, t⟩, after⟩ ⟨C, e2, hl⟩
    dsimp only at e2 C hl ⊢
    subst e2
    have Q := C.row (r, t) (by simp)
    refine e_nox (.of ?_)
    by_cases c : betR game r t = r
    · rw [decide_eq_true c, Bool.not_true, if_neg (by decide)]
      exact .of ⟨init, r, t, rfl, C, c, by rw [List.length_append, List.length_singleton]; omega⟩
    · rw [decide_eq_false c, Bool.not_false, if_pos rfl]
      have R2 := bet_ok (t := t) Q.ok
      have hb := bet_bet G Q.ok Q.need c
      have hmu : mu game (betR game r t) < mu game r := mu_lt R2 hb
      refine e_nox (b_nox (b_bind (b_bind ((needs_eq G R2).call fun t2 ⟨I2, eI2⟩ => b_bind (b_app ?_ (by rw [List.length_append, List.length_singleton]; omega))))))
      refine b_ok (b_bind (.eqc (zn_bettered G R2.len (NeedR.len R2 I2)) (b_ok (.of ⟨⟨⟨fun p hp => ?_, fun x zs e => ?_, fun us p x zs e => ?_⟩, rfl, ?_⟩, hmu⟩))))
      · rcases List.mem_append.mp hp with hp | hp
        · exact C.row p hp
        · rw [List.mem_singleton.mp hp]
          exact ⟨R2, I2, eI2⟩
      · cases init with
        | nil =>
          refine C.first x [] ?_
          have := (List.cons.inj e).1
          rw [← this]
          rfl
        | cons y ys =>
          refine C.first x (ys ++ [(r, t)]) ?_
          have := (List.cons.inj e).1
          rw [← this]
          rfl
      · rcases snoc_split e with ⟨_, rfl, e3⟩ | ⟨zs', _, e3⟩
        · have := List.append_inj' e3 rfl
          rw [← (List.cons.inj this.2).1]
          exact ⟨rfl, c⟩
        · exact C.next us p x zs' e3
      · dsimp only
        rw [List.length_append, List.length_singleton]
        omega
theorem l_more {a b : Option Int} : f__law_more a b = .ok (moreO a b) := by
  unfold f__law_more moreO
  cases b with
  | none => rfl
  | some y => cases a <;> rfl
theorem l_need {w : Int × Int} (h : Ti t w.1) : f__law_need t w = .ok (nd t w.1 w.2) := by
  unfold f__law_need nd
  rw [ix_ok h.1 h.2]
  simp only [M.bind_ok]
  cases q : getZ t w.1 with
  | none => rfl
  | some x => rfl
theorem copied_ok (h : game.length ≤ 16) : f__law_copied game = .ok game := by
  unfold f__law_copied
  rw [compP_ok (by omega)]
  exact congrArg M.ok (List.map_id game)
theorem enum_split {ys zs : List (Int × PRow)} {x : Int × PRow} (e : enumL game = ys ++ x :: zs) : x = ((ys.length : Int), getZ game (ys.length : Int)) ∧ ys.length < game.length := by
  have ee : (enumL game).length = game.length := by unfold enumL; rw [List.length_map, List.length_zipIdx]
  have el := congrArg List.length e
  rw [ee, List.length_append, List.length_cons] at el
  refine ⟨?_, by omega⟩
  have h1 : (enumL game)[ys.length]? = some x := by rw [e, List.getElem?_append_right (Nat.le_refl _), Nat.sub_self]; rfl
  unfold enumL at h1
  rw [List.getElem?_map, List.getElem?_zipIdx, List.getElem?_eq_getElem (by omega)] at h1
  have := Option.some.inj h1
  rw [← this, getZ_nat (by omega)]
  simp
theorem rng_snoc (n : Nat) : rng 0 ((n + 1 : Nat) : Int) = rng 0 (n : Int) ++ [(n : Int)] := by
  unfold rng
  rw [show (((n + 1 : Nat) : Int) - 0).toNat = n + 1 by omega, show ((n : Int) - 0).toNat = n by omega, List.range_succ, List.map_append]
  simp
theorem next_ok (G : Pg game) (hr : rule.length = game.length) (ht : t.length = game.length) : f__law_next game rule t = .ok (betR game rule t) := by
  have hn := G.n
  unfold f__law_next
  have ee : (enumL game).length = game.length := by unfold enumL; rw [List.length_map, List.length_zipIdx]
  refine Ok.get (b_for (fun ys b => b = (rng 0 (ys.length : Int)).map (betV game rule t)) rfl (fun ys x zs b e hb => ?_) fun b hb => .of ?_)
  · obtain ⟨rfl, hl⟩ := enum_split e
    have hv : Ti game (ys.length : Int) := ⟨by omega, by omega⟩
    have ws := G.in_ _ (G.row hv)
    have key : ∀ (us : List (Int × Int)), (∀ w ∈ us, 0 ≤ w.1 ∧ w.1 < game.length) → ∀ (q : Option Int × Option Int), forM (fun (way43 : (Int × Int)) (b48 : ((Option Int) × (Option Int))) =>
        ((f__law_need t way43).bind fun v49 => f__law_more v49 b48.2).bind fun z51 => if z51 then
        ((f__law_need t way43).bind fun most50 =>
        M.ok ((some way43.1), most50))
        else (M.ok (b48.1, b48.2))) us q = .ok (bwF t us q) := by
      intro us
      induction us with
      | nil => intro _ q; rfl
      | cons w us ih =>
        intro hu q
        have hw := hu w List.mem_cons_self
        show (M.bind _ (fun b => forM _ us b)) = _
        dsimp only
        rw [l_need ⟨hw.1, by omega⟩, M.bind_ok, l_more, M.bind_ok]
        have ef : bwF t (w :: us) q = bwF t us (if moreO (nd t w.1 w.2) q.2 then (some w.1, nd t w.1 w.2) else q) := rfl
        rw [ef]
        cases c : moreO (nd t w.1 w.2) q.2 with
        | true =>
          rw [if_pos rfl, if_pos rfl, M.bind_ok, M.bind_ok]
          exact ih (fun v hv => hu v (List.mem_cons_of_mem _ hv)) _
        | false =>
          rw [if_neg (by decide), if_neg (by decide), M.bind_ok]
          exact ih (fun v hv => hu v (List.mem_cons_of_mem _ hv)) _
    have hbl : b.length < 16777216 := by rw [hb, List.length_map, rng_len]; omega
    have out : b ++ [betV game rule t (ys.length : Int)] = (rng 0 ((ys ++ [((ys.length : Int), getZ game (ys.length : Int))]).length : Int)).map (betV game rule t) := by
      rw [hb, List.length_append, List.length_singleton, rng_snoc, List.map_append]
      rfl
    dsimp only
    refine b_ix (b_ix ?_ hv.1 (by omega)) hv.1 (by omega)
    by_cases c : (getZ game (ys.length : Int)).1 = 1
    · rw [decide_eq_true c, if_pos rfl, key _ ws]
      simp only [M.bind_ok]
      refine b_app (.of ?_) hbl
      rw [← out]
      unfold betV
      rw [if_pos c]
    · rw [decide_eq_false c, if_neg (by decide)]
      simp only [M.bind_ok]
      refine b_app (.of ?_) hbl
      rw [← out]
      unfold betV
      rw [if_neg c]
  · rw [hb, ee]
    rfl
theorem is_rule_ok (G : Pg game) (R : RuleOk game rule) : f__law_is_rule rule game = .ok true := by
  have hl := R.len
  have hn := G.n
  unfold f__law_is_rule
  refine Ok.get (e_F (by rw [decide_eq_true (by omega)]; rfl) (b_fln (b := ()) (forF_all fun p hp => ?_) (.of rfl)))
  obtain ⟨i, hi, rfl⟩ := (zip_mem hl).mp hp
  have hv : Ti game (i : Int) := ⟨by omega, by omega⟩
  have g1 := getZ_nat (xs := rule) hi
  have g3 := getZ_nat (xs := game) (show i < game.length by omega)
  have wl := G.len _ (G.row hv)
  dsimp only
  rw [← g1, ← g3]
  by_cases c : (getZ game (i : Int)).1 = 1
  · obtain ⟨w, hw, e⟩ := R.own _ hv c
    have hm : w.1 ∈ (getZ game (i : Int)).2.map fun (way11 : Int × Int) => way11.1 := List.mem_map_of_mem hw
    have eo : unO (some w.1) = M.ok w.1 := rfl
    rw [e, decide_eq_false (show ¬ (getZ game (i : Int)).1 = 0 by omega), decide_eq_true c, eo, compP_ok (by omega)]
    simp only [f__law_whole, Option.isSome_some, Bool.and_self, M.bind_ok, Bool.not_true, Bool.false_and, Bool.false_eq_true, if_false, if_true]
    rw [decide_eq_true hm]
    rfl
  · rw [R.keep _ hv c, decide_eq_false c]
    simp
theorem is_table_ok (R : RuleOk game rule) (I : NeedR game rule t) : f__law_is_table t game = .ok true := by
  have ht := NeedR.len R I
  unfold f__law_is_table
  refine Ok.get (e_F (by rw [decide_eq_true (by omega)]; rfl) (b_fln (b := ()) (forF_all fun p hp => ?_) (.of rfl)))
  obtain ⟨i, hi, rfl⟩ := List.getElem_of_mem hp
  have hv : Ti game (i : Int) := ⟨by omega, by omega⟩
  have g1 := getZ_nat (xs := t) hi
  cases e : t[i] with
  | none => rfl
  | some q =>
    rw [e] at g1
    have q0 := NeedR.nn R I hv g1
    have hw : f__law_whole (some q) = .ok true := rfl
    show (((f__law_whole (some q)).bind fun z => M.ok (!z)).bind fun z12 => if z12 then M.ok true else (M.ok (decide (q < 0)))).bind _ = _
    rw [hw]
    simp only [M.bind_ok, Bool.not_true, Bool.false_eq_true, if_false]
    rw [decide_eq_false (by omega)]
    rfl
theorem pair_ok (G : Pg game) {p : Tb × Tb} (Q : Rw1 game p) : f__law_is_pair p game = .ok true := by
  unfold f__law_is_pair
  rw [is_rule_ok G Q.ok, M.bind_ok, if_pos rfl, is_table_ok Q.ok Q.need]
  rfl
theorem minI_head {x : Int} {xs : List Int} (h : ∀ y ∈ xs, x < y) : minI (x :: xs) = x := by
  have hs := minI_spec (l := x :: xs) (by simp)
  obtain ⟨h1, h2⟩ := hs
  have := h2 x List.mem_cons_self
  rcases List.mem_cons.mp h1 with e | hm
  · exact e
  · have := h _ hm
    omega
theorem lfirst_ok (G : Pg game) : f__law_first game = .ok (fr game) := by
  have hn := G.n
  unfold f__law_first
  refine Ok.get (b_for (fun ys b => b = fr ys) rfl (fun ys x zs b e hb => ?_) fun b hb => .of hb)
  have hx : x ∈ game := by rw [e]; simp
  have el := congrArg List.length e
  rw [List.length_append, List.length_cons] at el
  have hbl : b.length < 16777216 := by rw [hb]; unfold fr; rw [List.length_map]; omega
  have out : ∀ o, o = (if x.1 = 1 then some (getZ x.2 0).1 else none) → b ++ [o] = fr (ys ++ [x]) := fun o ho => by
    rw [hb, ho]
    unfold fr
    rw [List.map_append]
    rfl
  have wl := G.len x hx
  refine e_ite (fun c => ?_) fun c => ?_
  · have c := of_decide_eq_true c
    obtain ⟨w, ws, ew⟩ := List.exists_cons_of_ne_nil (G.ne x hx)
    have pw := G.lt x hx
    rw [ew, List.pairwise_cons] at pw
    have hmin : minM (x.2.map fun (way10 : Int × Int) => way10.1) = .ok w.1 := by
      rw [min_ok (by rw [ew]; simp), ew, List.map_cons, minI_head fun y hy => by
        obtain ⟨z, hz, rfl⟩ := List.mem_map.mp hy
        exact pw.1 z hz]
    refine b_bind (b_bind (b_compP (.eqc hmin (b_app (.of (out _ ?_)) hbl)) (by omega)))
    rw [if_pos c, ew]
    rfl
  · have c : ¬ x.1 = 1 := of_decide_eq_false (by simpa using c)
    exact b_app (.of (out _ (by rw [if_neg c]))) hbl
theorem rises (G : Pg game) {t2 : Tb} (R : RuleOk game rule) (I : NeedR game rule t) (I2 : NeedR game (betR game rule t) t2) {v : Int} (hv : Ti game v) : moreO (getZ t v) (getZ t2 v) = false := by
  cases e : getZ t2 v with
  | none => rfl
  | some q =>
    obtain ⟨h, _⟩ := NeedR.some (bet_ok R) I2 hv e
    obtain ⟨z, e2, hz⟩ := (NeedR.st R I hv q).mpr (bet_le G R I h)
    rw [e2]
    exact decide_eq_false (by omega)
theorem rows_ok (G : Pg game) (hp : 0 < game.length ∨ True) {pre : List (Tb × Tb)} (C : Ch game (pre ++ [(rule, t)])) (hb : betR game rule t = rule) (hl : (pre ++ [(rule, t)]).length ≤ 16000001) : f__law_rows_hold game (pre ++ [(rule, t)]) = .ok true := by
  have hn := G.n
  unfold f__law_rows_hold
  rw [lfirst_ok G, M.bind_ok]
  have er : repM ([some 0] : List (Option Int)) (game.length : Int) = .ok (List.replicate game.length (some 0)) := by
    unfold repM
    have e : (List.replicate (game.length : Int).toNat ([some 0] : List (Option Int))).flatten = List.replicate game.length (some 0) := by
      rw [Int.toNat_natCast]
      generalize game.length = n
      induction n with
      | zero => rfl
      | succ n ih => rw [List.replicate_succ, List.flatten_cons, ih]; rfl
    rw [e, if_pos]
    rw [decide_eq_true (by omega), decide_eq_true (by omega), okLen_ok (by simp; omega)]
    rfl
  rw [er, M.bind_ok]
  refine Ok.get (b_fl (e_forF (fun ys b => (ys = [] ∧ b = (fr game, List.replicate game.length (some 0))) ∨ ∃ us p, ys = us ++ [p] ∧ b = (betR game p.1 p.2, p.2)) (fun r => r = true) (.inl ⟨rfl, rfl⟩) (fun ys x zs b e hI => ?_) (fun b hI => ?_) fun a h => h))
  · have hx : x ∈ pre ++ [(rule, t)] := by rw [e]; simp
    have Q := C.row x hx
    have xl := Q.ok.len
    have xt := NeedR.len Q.ok Q.need
    have hd : x.1 = b.1 ∧ b.2.length = game.length ∧ ∀ v, Ti game v → moreO (getZ b.2 v) (getZ x.2 v) = false := by
      rcases hI with ⟨rfl, rfl⟩ | ⟨us, p, rfl, rfl⟩
      · refine ⟨C.first x zs e, List.length_replicate .., fun v hv => ?_⟩
        have h0 : getZ (List.replicate game.length (some (0 : Int))) v = some 0 := by
          rw [getZ_at hv.1 (by rw [List.length_replicate]; exact hv.2), List.getElem_replicate]
        show moreO (getZ (List.replicate game.length (some (0 : Int))) v) _ = false
        rw [h0]
        cases q : getZ x.2 v with
        | none => rfl
        | some z =>
          have := NeedR.nn Q.ok Q.need hv q
          exact decide_eq_false (by omega)
      · have Qp := C.row p (by rw [e]; simp)
        have hnx := C.next us p x zs (by rw [e]; simp)
        refine ⟨hnx.1, NeedR.len Qp.ok Qp.need, fun v hv => ?_⟩
        have In := Q.need
        rw [hnx.1] at In
        exact rises G Qp.ok Qp.need In hv
    obtain ⟨h1, h2, h3⟩ := hd
    have eq : f_needs game b.1 = .ok x.2 := by rw [← h1]; exact Q.eq
    rw [pair_ok G Q, eq]
    simp only [M.bind_ok, Bool.not_true, Bool.false_eq_true, if_false]
    rw [decide_eq_true h1]
    simp only [M.bind_ok, Bool.not_true, Bool.false_eq_true, if_false, decide_true]
    refine b_fln (b := ()) (forF_all fun p hp => ?_) ?_
    · obtain ⟨i, hi, rfl⟩ := (zip_mem (by omega)).mp hp
      have hv : Ti game (i : Int) := ⟨by omega, by omega⟩
      have := h3 _ hv
      rw [getZ_nat hi, getZ_nat (show i < x.2.length by omega)] at this
      dsimp only
      rw [l_more, M.bind_ok, this]
      rfl
    · rw [next_ok G xl xt]
      exact .of (.inr ⟨ys, x, rfl, rfl⟩)
  · have hd : b.1 = rule := by
      rcases hI with ⟨h, _⟩ | ⟨us, p, h, rfl⟩
      · simp at h
      · have := List.append_inj' h rfl
        rw [← (List.cons.inj this.2).1]
        exact hb
    rw [zn_last]
    simp only [M.bind_ok]
    exact .of (decide_eq_true hd)
end
theorem none_ok : f_betterings [] = .ok [([], [])] := by
  have E : Pg [] := ⟨by decide, (fun _ h => nomatch h), (fun _ h => nomatch h), (fun _ h => nomatch h), (fun _ h => nomatch h), fun _ h => nomatch h⟩
  obtain ⟨o, eo, pre, r, t, rfl, C, _, _⟩ := zn_betterings E (by decide)
  have Q := C.row (r, t) (by simp)
  have hr : r = [] := List.length_eq_zero_iff.mp Q.ok.len
  have ht : t = [] := List.length_eq_zero_iff.mp (NeedR.len Q.ok Q.need)
  have hp : pre = [] := by
    rcases List.eq_nil_or_concat pre with rfl | ⟨us, p, rfl⟩
    · rfl
    · have := (C.next us p (r, t) [] (by simp)).2
      have Qp := C.row p (by simp)
      have : p.1 = [] := List.length_eq_zero_iff.mp Qp.ok.len
      simp_all
  rw [eo, hr, ht, hp]
  rfl
theorem f_law_true (ns : List Int) (hn : ns.length ≤ 63) (hb : ∀ z ∈ ns, Builtin.Int.intBits z ≤ 1048576) : f_law ns = .ok true := by
  have B : Bt ns := ⟨hn, fun z hz => sz_bits (hb z hz)⟩
  refine Ok.get ?_
  unfold f_law
  refine (zp_game B).call fun game G => ?_
  have gn := G.n
  have PG := G.pg
  obtain ⟨rows, eo, pre, r, t, e, C, hbet, hl⟩ := zn_betterings PG G.all
  refine .eqc (copied_ok gn) (.eqc eo ?_)
  have hh : f__law_rows_hold game rows = .ok true := by
    subst e
    exact rows_ok PG (.inr trivial) C hbet hl
  have hne : ¬ ((rows.length : Int) = 0) := by
    rw [e, List.length_append, List.length_singleton]
    omega
  rw [decide_eq_false hne, if_neg (by decide), hh]
  simp only [M.bind_ok, Bool.not_true, Bool.false_eq_true, if_false]
  refine b_compP ?_ (by omega)
  have hid : rows.map (fun (p5 : ((List (Option Int)) × (List (Option Int)))) => (p5.1, p5.2)) = rows := List.map_id rows
  rw [hid]
  rw [mapM_ok (g := fun p => (p.1 ++ [some 0], [])) fun p hp => by
    have Q := C.row p hp
    have := Q.ok.len
    rw [appM_ok (by omega)]
    rfl]
  simp only [M.bind_ok]
  rw [eo]
  simp only [M.bind_ok, decide_true, if_true]
  rw [none_ok]
  exact .of (decide_eq_true rfl)
theorem law_true (ns : List Int) (hn : ns.length ≤ 63) (hb : ∀ z ∈ ns, Builtin.Int.intBits z ≤ 1048576) : m_law [scrD ns] = .ok (.fz (.bl true)) := by
  have h := (mr_law ns).out
  rw [f_law_true ns hn hb] at h
  exact h
end K
namespace K
open PySem PySem.Spec L2 DL
def hfn0 : List He.DefD := [⟨("need_by", none), "need_by", "need_by", defArgs s_need_by, defBody s_need_by, defScope s_need_by, [], []⟩, ⟨("is_more", none), "is_more", "is_more", defArgs s_is_more, defBody s_is_more, defScope s_is_more, [], []⟩, ⟨("steered", none), "steered", "steered", defArgs s_steered, defBody s_steered, defScope s_steered, [], []⟩, ⟨("farther", none), "farther", "farther", defArgs s_farther, defBody s_farther, defScope s_farther, [], []⟩, ⟨("is_rest", none), "is_rest", "is_rest", defArgs s_is_rest, defBody s_is_rest, defScope s_is_rest, [], []⟩, ⟨("nearer", none), "nearer", "nearer", defArgs s_nearer, defBody s_nearer, defScope s_nearer, [], []⟩, ⟨("needs", none), "needs", "needs", defArgs s_needs, defBody s_needs, defScope s_needs, [], []⟩, ⟨("first_rule", none), "first_rule", "first_rule", defArgs s_first_rule, defBody s_first_rule, defScope s_first_rule, [], []⟩, ⟨("bettered", none), "bettered", "bettered", defArgs s_bettered, defBody s_bettered, defScope s_bettered, [], []⟩, ⟨("betterings", none), "betterings", "betterings", defArgs s_betterings, defBody s_betterings, defScope s_betterings, [], []⟩, ⟨("_law_at", none), "_law_at", "_law_at", defArgs s__law_at, defBody s__law_at, defScope s__law_at, [], []⟩, ⟨("_law_whole", none), "_law_whole", "_law_whole", defArgs s__law_whole, defBody s__law_whole, defScope s__law_whole, [], []⟩, ⟨("_law_amount", none), "_law_amount", "_law_amount", defArgs s__law_amount, defBody s__law_amount, defScope s__law_amount, [], []⟩, ⟨("_law_game", none), "_law_game", "_law_game", defArgs s__law_game, defBody s__law_game, defScope s__law_game, [], []⟩, ⟨("_law_copied", none), "_law_copied", "_law_copied", defArgs s__law_copied, defBody s__law_copied, defScope s__law_copied, [], []⟩, ⟨("_law_more", none), "_law_more", "_law_more", defArgs s__law_more, defBody s__law_more, defScope s__law_more, [], []⟩, ⟨("_law_need", none), "_law_need", "_law_need", defArgs s__law_need, defBody s__law_need, defScope s__law_need, [], []⟩, ⟨("_law_next", none), "_law_next", "_law_next", defArgs s__law_next, defBody s__law_next, defScope s__law_next, [], []⟩, ⟨("_law_is_rule", none), "_law_is_rule", "_law_is_rule", defArgs s__law_is_rule, defBody s__law_is_rule, defScope s__law_is_rule, [], []⟩, ⟨("_law_is_table", none), "_law_is_table", "_law_is_table", defArgs s__law_is_table, defBody s__law_is_table, defScope s__law_is_table, [], []⟩, ⟨("_law_is_pair", none), "_law_is_pair", "_law_is_pair", defArgs s__law_is_pair, defBody s__law_is_pair, defScope s__law_is_pair, [], []⟩, ⟨("_law_first", none), "_law_first", "_law_first", defArgs s__law_first, defBody s__law_first, defScope s__law_first, [], []⟩, ⟨("_law_rows_hold", none), "_law_rows_hold", "_law_rows_hold", defArgs s__law_rows_hold, defBody s__law_rows_hold, defScope s__law_rows_hold, [], []⟩, ⟨("law", none), "law", "law", defArgs s_law, defBody s_law, defScope s_law, [], []⟩]
def hfn : List He.DefD := hfn0
def hfa : List He.Fa := []
def hb0 (K : PySem.W.Frag) : List Bool := [He.eqO (PySem.W.nsIn K mainGlobals "need_by") (some (some (.ref (He.ga K "need_by")))), He.eqO (PySem.W.nsIn K mainGlobals "is_more") (some (some (.ref (He.ga K "is_more")))), He.eqO (PySem.W.nsIn K mainGlobals "steered") (some (some (.ref (He.ga K "steered")))), He.eqO (PySem.W.nsIn K mainGlobals "farther") (some (some (.ref (He.ga K "farther")))), He.eqO (PySem.W.nsIn K mainGlobals "is_rest") (some (some (.ref (He.ga K "is_rest")))), He.eqO (PySem.W.nsIn K mainGlobals "nearer") (some (some (.ref (He.ga K "nearer")))), He.eqO (PySem.W.nsIn K mainGlobals "needs") (some (some (.ref (He.ga K "needs")))), He.eqO (PySem.W.nsIn K mainGlobals "first_rule") (some (some (.ref (He.ga K "first_rule")))), He.eqO (PySem.W.nsIn K mainGlobals "bettered") (some (some (.ref (He.ga K "bettered")))), He.eqO (PySem.W.nsIn K mainGlobals "betterings") (some (some (.ref (He.ga K "betterings")))), He.eqO (PySem.W.nsIn K mainGlobals "_law_at") (some (some (.ref (He.ga K "_law_at")))), He.eqO (PySem.W.nsIn K mainGlobals "_law_whole") (some (some (.ref (He.ga K "_law_whole")))), He.eqO (PySem.W.nsIn K mainGlobals "_law_amount") (some (some (.ref (He.ga K "_law_amount")))), He.eqO (PySem.W.nsIn K mainGlobals "_law_game") (some (some (.ref (He.ga K "_law_game")))), He.eqO (PySem.W.nsIn K mainGlobals "_law_copied") (some (some (.ref (He.ga K "_law_copied")))), He.eqO (PySem.W.nsIn K mainGlobals "_law_more") (some (some (.ref (He.ga K "_law_more")))), He.eqO (PySem.W.nsIn K mainGlobals "_law_need") (some (some (.ref (He.ga K "_law_need")))), He.eqO (PySem.W.nsIn K mainGlobals "_law_next") (some (some (.ref (He.ga K "_law_next")))), He.eqO (PySem.W.nsIn K mainGlobals "_law_is_rule") (some (some (.ref (He.ga K "_law_is_rule")))), He.eqO (PySem.W.nsIn K mainGlobals "_law_is_table") (some (some (.ref (He.ga K "_law_is_table")))), He.eqO (PySem.W.nsIn K mainGlobals "_law_is_pair") (some (some (.ref (He.ga K "_law_is_pair")))), He.eqO (PySem.W.nsIn K mainGlobals "_law_first") (some (some (.ref (He.ga K "_law_first")))), He.eqO (PySem.W.nsIn K mainGlobals "_law_rows_hold") (some (some (.ref (He.ga K "_law_rows_hold")))), He.eqO (PySem.W.nsIn K mainGlobals "law") (some (some (.ref (He.ga K "law"))))]
def hb1 (K : PySem.W.Frag) : List Bool := [He.eqO (PySem.W.nsIn K mainGlobals "max") (some none), He.eqO (PySem.W.nsIn K mainGlobals "len") (some none), He.eqO (PySem.W.nsIn K mainGlobals "zip") (some none), He.eqO (PySem.W.nsIn K mainGlobals "list") (some none), He.eqO (PySem.W.nsIn K mainGlobals "range") (some none), He.eqO (PySem.W.nsIn K mainGlobals "enumerate") (some none), He.eqO (PySem.W.nsIn K mainGlobals "isinstance") (some none), He.eqO (PySem.W.nsIn K mainGlobals "int") (some none), He.eqO (PySem.W.nsIn K mainGlobals "bool") (some none), He.eqO (PySem.W.nsIn K mainGlobals "sorted") (some none), He.eqO (PySem.W.nsIn K mainGlobals "tuple") (some none), He.eqO (PySem.W.nsIn K mainGlobals "min") (some none), He.eqO (PySem.W.nsIn K mainGlobals "NoRule") (some (some (.ref (He.ga K "NoRule")))), PySem.W.excIn K (He.ga K "NoRule") [.type "ValueError", .type "Exception", .type "BaseException", .type "object"] "ValueError.__new__", PySem.W.keepIn K (.ref (He.ga K "NoRule")), obB (PySem.W.subIn K (.ref (He.ga K "NoRule")) (.type "BaseException")) (some true), He.eqO (some (PySem.W.typeIn K (.ref (He.ga K "NoRule")))) (some (some (.type "type")))]
def hdi (K : PySem.W.Frag) : List (Option (List (Option (Int × Str × KVl)))) := []
def hdw (w : World) : List (Option (List (Option (Int × Str × KVl)))) := []
abbrev hB0 : Type := List Bool × List Bool × List (Option (List (Option (Int × Str × KVl))))
def hox0 (K : PySem.W.Frag) : hB0 := (hb0 K, hb1 K, hdi K)
def hvx0 (w : World) : hB0 := (List.replicate 24 true, List.replicate 17 true, hdw w)
abbrev hB : Type := hB0
def hox (K : PySem.W.Frag) : hB := hox0 K
def hvx (w : World) : hB := hvx0 w
def hnm0 : List PySem.Str := ["GarthError", "NoRule", "need_by", "is_more", "steered", "farther", "is_rest", "nearer", "needs", "first_rule", "bettered", "betterings", "_law_at", "_law_whole", "_law_amount", "_law_game", "_law_copied", "_law_more", "_law_need", "_law_next", "_law_is_rule", "_law_is_table", "_law_is_pair", "_law_first", "_law_rows_hold"]
def hnm : List PySem.Str := hnm0
abbrev hR : PySem.W.OpenRow := PySem.W.OpenLaw.row PySem.Challenge.rw_rankgarth_k30_betterings
abbrev hq : Program := PySem.W.view hR.prog [29]
def has0 : List Addr := [3, 6, 4, 24, 37, 46, 53, 58, 65, 72, 79, 86, 93, 100, 107, 114, 121, 128, 133, 138, 145, 152, 159, 164, 171, 178, 183, 190, 195, 0, 23, 36, 45, 52, 57, 64, 71, 78, 85, 92, 99, 106, 113, 120, 127, 132, 137, 144, 151, 158, 163, 170, 177, 182, 189, 194, 22, 25, 35, 40, 41, 42, 43, 44, 47, 48, 49, 50, 51, 54, 55, 56, 59, 60, 61, 62, 63, 66, 67, 68, 69, 70, 73, 74, 75, 76, 77, 80, 81, 82, 83, 84, 87, 88, 89, 90, 91, 94, 95, 96]
def has1 : List Addr := [97, 98, 101, 102, 103, 104, 105, 108, 109, 110, 111, 112, 115, 116, 117, 118, 119, 122, 123, 124, 125, 126, 129, 130, 131, 134, 135, 136, 139, 140, 141, 142, 143, 146, 147, 148, 149, 150, 153, 154, 155, 156, 157, 160, 161, 162, 165, 166, 167, 168, 169, 172, 173, 174, 175, 176, 179, 180, 181, 184, 185, 186, 187, 188, 191, 192, 193]
def has : List Addr := has0 ++ has1 ++ [cStatics]
abbrev hk : PySem.W.Hook := hookX has hfa hfn hB hox hvx
def hob (s : PySem.W.SharedT) : He.AlD × hB := obX has hfa hfn hox (HandSHeadRun.getT s)
abbrev hP1 (w : World) (os : OsState) : Prop := (enR hR 60000 w os).map (fun s => (HandSHeadRun.looksF hR.prog (PySem.W.boot_heap w.params) s.abs, HandSHeadRun.seenQ hq hnm (importedModules hR.prog.main.body) (fun s => PySem.W.xlAt hq [] s && PySem.W.recOk hR.toRowW.records s) s.abs)) = some (true, PySem.W.openGood hq hnm)
set_option maxHeartbeats 0 in
theorem hr1f (w : World) (os : OsState) : hP1 (w.withFollow "special-get-raises" false) os := by kernel_rfl
set_option maxHeartbeats 0 in
theorem hr1t (w : World) (os : OsState) : hP1 (w.withFollow "special-get-raises" true) os := by kernel_rfl
theorem hr1 : ∀ (w : World) (os : OsState), hP1 w os := PySem.W.byRow2 "special-get-raises" (fun w os => hr1f w os) (fun w os => hr1t w os)
abbrev hP2 (w : World) (os : OsState) : Prop := (enR hR 60000 w os).map (fun s => He.obsD hfa hfn (He.frG (HandSHeadRun.getT s) has)) = some (He.valD hfn)
set_option maxHeartbeats 0 in
theorem hr2f (w : World) (os : OsState) : hP2 (w.withFollow "special-get-raises" false) os := by kernel_rfl
set_option maxHeartbeats 0 in
theorem hr2t (w : World) (os : OsState) : hP2 (w.withFollow "special-get-raises" true) os := by kernel_rfl
theorem hr2 : ∀ (w : World) (os : OsState), hP2 w os := PySem.W.byRow2 "special-get-raises" (fun w os => hr2f w os) (fun w os => hr2t w os)
abbrev hP3_0 (w : World) (os : OsState) : Prop := (enR hR 60000 w os).map (fun s => hox0 (He.frG (HandSHeadRun.getT s) has)) = some (hvx0 w)
set_option maxHeartbeats 0 in
theorem hr3_0f (w : World) (os : OsState) : hP3_0 (w.withFollow "special-get-raises" false) os := by kernel_rfl
set_option maxHeartbeats 0 in
theorem hr3_0t (w : World) (os : OsState) : hP3_0 (w.withFollow "special-get-raises" true) os := by kernel_rfl
theorem hr3_0 : ∀ (w : World) (os : OsState), hP3_0 w os := PySem.W.byRow2 "special-get-raises" (fun w os => hr3_0f w os) (fun w os => hr3_0t w os)
theorem hrun : ∀ w : World, HandSHeadRun.RunEq hR hq hk hob 60000 hnm w := fun w => run_parts (fun os => hr1 w os) (fun os => hr2 w os) (fun os => hr3_0 w os)
set_option maxHeartbeats 0 in
theorem all_mk {P : Program} {w : World} {K : PySem.W.Frag} {h : Heap} {mg : Str → Option Value} {fa : Addr} (X : K.In h) (G : h.Ns mainGlobals mg) (hfa_ : mg "law" = some (.ref fa)) (c : He.SaysD hfa hfn K) (hx : hox K = hvx w)
  : ∃ fd : FuncData, (∀ (s : Shared) (u : Value), BindsTo s fd ⟨[u], []⟩ [("_law_script", u)]) ∧ ∀ base : Heap, K.In base → base.Ns mainGlobals mg → FnOk P w K mg base (L2.CX P w) 5 fa fd ["_law_script"] (spScrB K) := by
 have q0 : hb0 K = List.replicate 24 true := congrArg (fun p : hB => p.1) hx
 have a0 := He.eqO_ok (bl_at q0 0 rfl)
 have a1 := He.eqO_ok (bl_at q0 1 rfl)
 have a2 := He.eqO_ok (bl_at q0 2 rfl)
 have a3 := He.eqO_ok (bl_at q0 3 rfl)
 have a4 := He.eqO_ok (bl_at q0 4 rfl)
 have a5 := He.eqO_ok (bl_at q0 5 rfl)
 have a6 := He.eqO_ok (bl_at q0 6 rfl)
 have a7 := He.eqO_ok (bl_at q0 7 rfl)
 have a8 := He.eqO_ok (bl_at q0 8 rfl)
 have a9 := He.eqO_ok (bl_at q0 9 rfl)
 have a10 := He.eqO_ok (bl_at q0 10 rfl)
 have a11 := He.eqO_ok (bl_at q0 11 rfl)
 have a12 := He.eqO_ok (bl_at q0 12 rfl)
 have a13 := He.eqO_ok (bl_at q0 13 rfl)
 have a14 := He.eqO_ok (bl_at q0 14 rfl)
 have a15 := He.eqO_ok (bl_at q0 15 rfl)
 have a16 := He.eqO_ok (bl_at q0 16 rfl)
 have a17 := He.eqO_ok (bl_at q0 17 rfl)
 have a18 := He.eqO_ok (bl_at q0 18 rfl)
 have a19 := He.eqO_ok (bl_at q0 19 rfl)
 have a20 := He.eqO_ok (bl_at q0 20 rfl)
 have a21 := He.eqO_ok (bl_at q0 21 rfl)
 have a22 := He.eqO_ok (bl_at q0 22 rfl)
 have a23 := He.eqO_ok (bl_at q0 23 rfl)
 have q1 : hb1 K = List.replicate 17 true := congrArg (fun p : hB => p.2.1) hx
 have z_max := He.eqO_ok (bl_at q1 0 rfl)
 have z_len := He.eqO_ok (bl_at q1 1 rfl)
 have z_zip := He.eqO_ok (bl_at q1 2 rfl)
 have z_list := He.eqO_ok (bl_at q1 3 rfl)
 have z_range := He.eqO_ok (bl_at q1 4 rfl)
 have z_enumerate := He.eqO_ok (bl_at q1 5 rfl)
 have z_isinstance := He.eqO_ok (bl_at q1 6 rfl)
 have z_int := He.eqO_ok (bl_at q1 7 rfl)
 have z_bool := He.eqO_ok (bl_at q1 8 rfl)
 have z_sorted := He.eqO_ok (bl_at q1 9 rfl)
 have z_tuple := He.eqO_ok (bl_at q1 10 rfl)
 have z_min := He.eqO_ok (bl_at q1 11 rfl)
 have xe_NoRule := He.eqO_ok (bl_at q1 12 rfl)
 have xq_NoRule := bl_at q1 13 rfl
 have xk_NoRule := bl_at q1 14 rfl
 have xs_NoRule := obB_ok (bl_at q1 15 rfl)
 have xt_NoRule := Option.some.inj (He.eqO_ok (bl_at q1 16 rfl))
 obtain ⟨fd0, FD0⟩ := c.def_ 0 rfl
 have F0 : Fun K "need_by" "need_by" s_need_by (He.ga K "need_by") fd0 := fun_of FD0
 have k0 : PySem.W.keepIn K (.ref (He.ga K "need_by")) = true := F0.kp
 have b0 := F0.binds (ps := ["purses", "place", "amount"]) fun _ _ _ _ _ _ us hl => match us, hl with | [_, _, _], _ => rfl
 obtain ⟨fd1, FD1⟩ := c.def_ 1 rfl
 have F1 : Fun K "is_more" "is_more" s_is_more (He.ga K "is_more") fd1 := fun_of FD1
 have k1 : PySem.W.keepIn K (.ref (He.ga K "is_more")) = true := F1.kp
 have b1 := F1.binds (ps := ["one", "other"]) fun _ _ _ _ _ _ us hl => match us, hl with | [_, _], _ => rfl
 obtain ⟨fd2, FD2⟩ := c.def_ 2 rfl
 have F2 : Fun K "steered" "steered" s_steered (He.ga K "steered") fd2 := fun_of FD2
 have k2 : PySem.W.keepIn K (.ref (He.ga K "steered")) = true := F2.kp
 have b2 := F2.binds (ps := ["game", "rule"]) fun _ _ _ _ _ _ us hl => match us, hl with | [_, _], _ => rfl
 obtain ⟨fd3, FD3⟩ := c.def_ 3 rfl
 have F3 : Fun K "farther" "farther" s_farther (He.ga K "farther") fd3 := fun_of FD3
 have k3 : PySem.W.keepIn K (.ref (He.ga K "farther")) = true := F3.kp
 have b3 := F3.binds (ps := ["left", "best"]) fun _ _ _ _ _ _ us hl => match us, hl with | [_, _], _ => rfl
 obtain ⟨fd4, FD4⟩ := c.def_ 4 rfl
 have F4 : Fun K "is_rest" "is_rest" s_is_rest (He.ga K "is_rest") fd4 := fun_of FD4
 have k4 : PySem.W.keepIn K (.ref (He.ga K "is_rest")) = true := F4.kp
 have b4 := F4.binds (ps := ["left", "start"]) fun _ _ _ _ _ _ us hl => match us, hl with | [_, _], _ => rfl
 obtain ⟨fd5, FD5⟩ := c.def_ 5 rfl
 have F5 : Fun K "nearer" "nearer" s_nearer (He.ga K "nearer") fd5 := fun_of FD5
 have k5 : PySem.W.keepIn K (.ref (He.ga K "nearer")) = true := F5.kp
 have b5 := F5.binds (ps := ["left", "table"]) fun _ _ _ _ _ _ us hl => match us, hl with | [_, _], _ => rfl
 obtain ⟨fd6, FD6⟩ := c.def_ 6 rfl
 have F6 : Fun K "needs" "needs" s_needs (He.ga K "needs") fd6 := fun_of FD6
 have k6 : PySem.W.keepIn K (.ref (He.ga K "needs")) = true := F6.kp
 have b6 := F6.binds (ps := ["game", "rule"]) fun _ _ _ _ _ _ us hl => match us, hl with | [_, _], _ => rfl
 obtain ⟨fd7, FD7⟩ := c.def_ 7 rfl
 have F7 : Fun K "first_rule" "first_rule" s_first_rule (He.ga K "first_rule") fd7 := fun_of FD7
 have k7 : PySem.W.keepIn K (.ref (He.ga K "first_rule")) = true := F7.kp
 have b7 := F7.binds (ps := ["game"]) fun _ _ _ _ _ _ us hl => match us, hl with | [_], _ => rfl
 obtain ⟨fd8, FD8⟩ := c.def_ 8 rfl
 have F8 : Fun K "bettered" "bettered" s_bettered (He.ga K "bettered") fd8 := fun_of FD8
 have k8 : PySem.W.keepIn K (.ref (He.ga K "bettered")) = true := F8.kp
 have b8 := F8.binds (ps := ["game", "rule", "table"]) fun _ _ _ _ _ _ us hl => match us, hl with | [_, _, _], _ => rfl
 obtain ⟨fd9, FD9⟩ := c.def_ 9 rfl
 have F9 : Fun K "betterings" "betterings" s_betterings (He.ga K "betterings") fd9 := fun_of FD9
 have k9 : PySem.W.keepIn K (.ref (He.ga K "betterings")) = true := F9.kp
 have b9 := F9.binds (ps := ["game"]) fun _ _ _ _ _ _ us hl => match us, hl with | [_], _ => rfl
 obtain ⟨fd10, FD10⟩ := c.def_ 10 rfl
 have F10 : Fun K "_law_at" "_law_at" s__law_at (He.ga K "_law_at") fd10 := fun_of FD10
 have k10 : PySem.W.keepIn K (.ref (He.ga K "_law_at")) = true := F10.kp
 have b10 := F10.binds (ps := ["_law_script", "_law_k"]) fun _ _ _ _ _ _ us hl => match us, hl with | [_, _], _ => rfl
 obtain ⟨fd11, FD11⟩ := c.def_ 11 rfl
 have F11 : Fun K "_law_whole" "_law_whole" s__law_whole (He.ga K "_law_whole") fd11 := fun_of FD11
 have k11 : PySem.W.keepIn K (.ref (He.ga K "_law_whole")) = true := F11.kp
 have b11 := F11.binds (ps := ["_law_found"]) fun _ _ _ _ _ _ us hl => match us, hl with | [_], _ => rfl
 obtain ⟨fd12, FD12⟩ := c.def_ 12 rfl
 have F12 : Fun K "_law_amount" "_law_amount" s__law_amount (He.ga K "_law_amount") fd12 := fun_of FD12
 have k12 : PySem.W.keepIn K (.ref (He.ga K "_law_amount")) = true := F12.kp
 have b12 := F12.binds (ps := ["_law_style", "_law_heights", "_law_start", "_law_goal", "_law_cell"]) fun _ _ _ _ _ _ us hl => match us, hl with | [_, _, _, _, _], _ => rfl
 obtain ⟨fd13, FD13⟩ := c.def_ 13 rfl
 have F13 : Fun K "_law_game" "_law_game" s__law_game (He.ga K "_law_game") fd13 := fun_of FD13
 have k13 : PySem.W.keepIn K (.ref (He.ga K "_law_game")) = true := F13.kp
 have b13 := F13.binds (ps := ["_law_script"]) fun _ _ _ _ _ _ us hl => match us, hl with | [_], _ => rfl
 obtain ⟨fd14, FD14⟩ := c.def_ 14 rfl
 have F14 : Fun K "_law_copied" "_law_copied" s__law_copied (He.ga K "_law_copied") fd14 := fun_of FD14
 have k14 : PySem.W.keepIn K (.ref (He.ga K "_law_copied")) = true := F14.kp
 have b14 := F14.binds (ps := ["_law_game_here"]) fun _ _ _ _ _ _ us hl => match us, hl with | [_], _ => rfl
 obtain ⟨fd15, FD15⟩ := c.def_ 15 rfl
 have F15 : Fun K "_law_more" "_law_more" s__law_more (He.ga K "_law_more") fd15 := fun_of FD15
 have k15 : PySem.W.keepIn K (.ref (He.ga K "_law_more")) = true := F15.kp
 have b15 := F15.binds (ps := ["_law_one", "_law_other"]) fun _ _ _ _ _ _ us hl => match us, hl with | [_, _], _ => rfl
 obtain ⟨fd16, FD16⟩ := c.def_ 16 rfl
 have F16 : Fun K "_law_need" "_law_need" s__law_need (He.ga K "_law_need") fd16 := fun_of FD16
 have k16 : PySem.W.keepIn K (.ref (He.ga K "_law_need")) = true := F16.kp
 have b16 := F16.binds (ps := ["_law_table", "_law_way"]) fun _ _ _ _ _ _ us hl => match us, hl with | [_, _], _ => rfl
 obtain ⟨fd17, FD17⟩ := c.def_ 17 rfl
 have F17 : Fun K "_law_next" "_law_next" s__law_next (He.ga K "_law_next") fd17 := fun_of FD17
 have k17 : PySem.W.keepIn K (.ref (He.ga K "_law_next")) = true := F17.kp
 have b17 := F17.binds (ps := ["_law_game_here", "_law_rule", "_law_table"]) fun _ _ _ _ _ _ us hl => match us, hl with | [_, _, _], _ => rfl
 obtain ⟨fd18, FD18⟩ := c.def_ 18 rfl
 have F18 : Fun K "_law_is_rule" "_law_is_rule" s__law_is_rule (He.ga K "_law_is_rule") fd18 := fun_of FD18
 have k18 : PySem.W.keepIn K (.ref (He.ga K "_law_is_rule")) = true := F18.kp
 have b18 := F18.binds (ps := ["_law_rule", "_law_game_here"]) fun _ _ _ _ _ _ us hl => match us, hl with | [_, _], _ => rfl
 obtain ⟨fd19, FD19⟩ := c.def_ 19 rfl
 have F19 : Fun K "_law_is_table" "_law_is_table" s__law_is_table (He.ga K "_law_is_table") fd19 := fun_of FD19
 have k19 : PySem.W.keepIn K (.ref (He.ga K "_law_is_table")) = true := F19.kp
 have b19 := F19.binds (ps := ["_law_table", "_law_game_here"]) fun _ _ _ _ _ _ us hl => match us, hl with | [_, _], _ => rfl
 obtain ⟨fd20, FD20⟩ := c.def_ 20 rfl
 have F20 : Fun K "_law_is_pair" "_law_is_pair" s__law_is_pair (He.ga K "_law_is_pair") fd20 := fun_of FD20
 have k20 : PySem.W.keepIn K (.ref (He.ga K "_law_is_pair")) = true := F20.kp
 have b20 := F20.binds (ps := ["_law_pair", "_law_game_here"]) fun _ _ _ _ _ _ us hl => match us, hl with | [_, _], _ => rfl
 obtain ⟨fd21, FD21⟩ := c.def_ 21 rfl
 have F21 : Fun K "_law_first" "_law_first" s__law_first (He.ga K "_law_first") fd21 := fun_of FD21
 have k21 : PySem.W.keepIn K (.ref (He.ga K "_law_first")) = true := F21.kp
 have b21 := F21.binds (ps := ["_law_game_here"]) fun _ _ _ _ _ _ us hl => match us, hl with | [_], _ => rfl
 obtain ⟨fd22, FD22⟩ := c.def_ 22 rfl
 have F22 : Fun K "_law_rows_hold" "_law_rows_hold" s__law_rows_hold (He.ga K "_law_rows_hold") fd22 := fun_of FD22
 have k22 : PySem.W.keepIn K (.ref (He.ga K "_law_rows_hold")) = true := F22.kp
 have b22 := F22.binds (ps := ["_law_game_here", "_law_pairs"]) fun _ _ _ _ _ _ us hl => match us, hl with | [_, _], _ => rfl
 obtain ⟨fd23, FD23⟩ := c.def_ 23 rfl
 have F23 : Fun K "law" "law" s_law (He.ga K "law") fd23 := fun_of FD23
 have k23 : PySem.W.keepIn K (.ref (He.ga K "law")) = true := F23.kp
 have e := hfa_.symm.trans (PySem.W.mg_of X G a23)
 cases e
 have T : Txt K mg := ⟨PySem.W.mg_none_of X G z_max, PySem.W.mg_none_of X G z_len, PySem.W.mg_none_of X G z_zip, PySem.W.mg_none_of X G z_list, PySem.W.mg_none_of X G z_range, PySem.W.mg_none_of X G z_enumerate, PySem.W.mg_none_of X G z_isinstance, PySem.W.mg_none_of X G z_int, PySem.W.mg_none_of X G z_bool, PySem.W.mg_none_of X G z_sorted, PySem.W.mg_none_of X G z_tuple, PySem.W.mg_none_of X G z_min, ⟨⟨(He.ga K "NoRule"), "ValueError", "ValueError.__new__", "ValueError.__init__", [.type "ValueError", .type "Exception", .type "BaseException", .type "object"], PySem.F.excBase_ValueError, xq_NoRule, PySem.W.mg_of X G xe_NoRule, xk_NoRule, xs_NoRule, xt_NoRule⟩⟩⟩
 have bL := FunD.bindsA (ps := ["_law_script"]) FD23 fun _ _ _ _ _ _ us hl => match us, hl with | [_], _ => rfl
 refine ⟨fd23, fun s v => bL s [v] rfl, fun base _ _ => ?_⟩
 have D__law_at := ok__law_at (P := P) (w := w) (base := base) T  F10 (PySem.W.mg_of X G a10) b10
 have D__law_amount := ok__law_amount (P := P) (w := w) (base := base) T  F12 (PySem.W.mg_of X G a12) b12
 have D__law_game := ok__law_game (P := P) (w := w) (base := base) T D__law_at D__law_amount F13 (PySem.W.mg_of X G a13) b13
 have D__law_copied := ok__law_copied (P := P) (w := w) (base := base) T  F14 (PySem.W.mg_of X G a14) b14
 have D_first_rule := ok_first_rule (P := P) (w := w) (base := base) T  F7 (PySem.W.mg_of X G a7) b7
 have D_steered := ok_steered (P := P) (w := w) (base := base) T  F2 (PySem.W.mg_of X G a2) b2
 have D_farther := ok_farther (P := P) (w := w) (base := base) T  F3 (PySem.W.mg_of X G a3) b3
 have D_is_rest := ok_is_rest (P := P) (w := w) (base := base) T D_farther F4 (PySem.W.mg_of X G a4) b4
 have D_need_by := ok_need_by (P := P) (w := w) (base := base) T  F0 (PySem.W.mg_of X G a0) b0
 have D_is_more := ok_is_more (P := P) (w := w) (base := base) T  F1 (PySem.W.mg_of X G a1) b1
 have D_nearer := ok_nearer (P := P) (w := w) (base := base) T D_need_by D_is_more F5 (PySem.W.mg_of X G a5) b5
 have D_needs := ok_needs (P := P) (w := w) (base := base) T D_steered D_is_rest D_nearer F6 (PySem.W.mg_of X G a6) b6
 have D_bettered := ok_bettered (P := P) (w := w) (base := base) T D_need_by D_is_more F8 (PySem.W.mg_of X G a8) b8
 have D_betterings := ok_betterings (P := P) (w := w) (base := base) T D_first_rule D_needs D_bettered F9 (PySem.W.mg_of X G a9) b9
 have D__law_first := ok__law_first (P := P) (w := w) (base := base) T  F21 (PySem.W.mg_of X G a21) b21
 have D__law_whole := ok__law_whole (P := P) (w := w) (base := base) T  F11 (PySem.W.mg_of X G a11) b11
 have D__law_is_rule := ok__law_is_rule (P := P) (w := w) (base := base) T D__law_whole F18 (PySem.W.mg_of X G a18) b18
 have D__law_is_table := ok__law_is_table (P := P) (w := w) (base := base) T D__law_whole F19 (PySem.W.mg_of X G a19) b19
 have D__law_is_pair := ok__law_is_pair (P := P) (w := w) (base := base) T D__law_is_rule D__law_is_table F20 (PySem.W.mg_of X G a20) b20
 have D__law_more := ok__law_more (P := P) (w := w) (base := base) T  F15 (PySem.W.mg_of X G a15) b15
 have D__law_need := ok__law_need (P := P) (w := w) (base := base) T  F16 (PySem.W.mg_of X G a16) b16
 have D__law_next := ok__law_next (P := P) (w := w) (base := base) T D__law_more D__law_need F17 (PySem.W.mg_of X G a17) b17
 have D__law_rows_hold := ok__law_rows_hold (P := P) (w := w) (base := base) T D__law_first D__law_is_pair D_needs D__law_more D__law_next F22 (PySem.W.mg_of X G a22) b22
 exact fn_scrB (fn_law T D__law_game D__law_copied D_betterings D__law_rows_hold F23) law_true
end K
open PySem PySem.W PySem.Calls PyProof.Rows in
set_option maxRecDepth 100000 in
set_option maxHeartbeats 0 in
theorem PySem.Challenge.cw_rankgarth_k30_betterings_holds : PySem.Challenge.rw_rankgarth_k30_betterings.Holds := by
 w_on; o_law
 refine HandSHeadRun.head_any (r := OpenLaw.row PySem.Challenge.rw_rankgarth_k30_betterings) (q := K.hq) (H := K.hk) (ob := K.hob) (M := 60000) (loose := K.hnm) (d := HandSHeadRun.topDef (OpenLaw.row PySem.Challenge.rw_rankgarth_k30_betterings).prog 29) (kwd := []) (fun s => DL.obX_eq s) (by kernel_rfl) (fun s => by kernel_rfl) K.hrun (by kernel_rfl) (by kernel_rfl) (by kernel_rfl) (by rfl) (by first | assumption | decide +kernel) (by decide +kernel) ⟨rfl, rfl, rfl, rfl, rfl, by decide +kernel⟩ ?hw ?hc
 case hw => w_witness2
 case hc =>
  refine DL.walk_anyB (l := PySem.Challenge.rw_rankgarth_k30_betterings) (k := 5) (x := "_law_script") rfl (by kernel_rfl) ⟨rfl, by decide, by decide⟩ ?F
  intro w mg fa h Y G hmg0
  obtain ⟨K0, KX, c, hx⟩ := Y
  have hmg : mg ("law" : PySem.Str) = some (.ref fa) := by
   have e : (HandSHeadRun.topDef (OpenLaw.row PySem.Challenge.rw_rankgarth_k30_betterings).prog 29).name = ("law" : PySem.Str) := by kernel_rfl
   rw [← e]
   exact hmg0
  obtain ⟨fd, hb, hF⟩ := K.all_mk (P := (PySem.Challenge.rw_rankgarth_k30_betterings).prog) (w := w) KX G hmg c hx
  exact ⟨K0, KX, fd, hb, hF⟩
