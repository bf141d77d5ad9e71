import PyProof.Rows.All
import HandS.ForMost
import HandS.ForExc
import HandS.ExcIs
import HandS.IsInst
import HandS.Wide
import HandS.Flow
import HandS.SortInts
import HandS.More
import HandS.Style
import HandS.Comp
import HandS.Strs
import HandS.SetFor
import HandS.Defaults
import HandS.CallSlots
import HandS.Conv
import HandS.SortRule
import HandS.Rev
import HandS.EndBits
import Wide.All
import OpenK.AllK
import Wide.FinOn
import PySem.Challenge.RW_rankgarth_k26_a_purse_game
set_option Elab.async false
set_option linter.all false
set_option maxRecDepth 100000
namespace DL
open PySem PySem.Spec L2
/-! ### data, as values -/
inductive D where
  | non | bl (b : Bool) | int (i : Int) | str (x : Str)
  | lst (xs : List D) | tup (xs : List D)
  | dK (ks : List Key) (vs : List D)
  | dT (ks : List (List Key)) (vs : List D)
  | exc (c : Str)
  deriving Inhabited
/-- a caught exception of the own class at C -/
def ExH (C a : Addr) : HO := .ext fun h => ∃ (oe : Obj) (vs : Array Value), h.get? a = some oe ∧ Zc (.ref C) none oe ∧ oe.data = .fields vs
/-- a tree of cells that are one's own, down to data that stays -/
inductive O where
  | fz (d : D) | lst (xs : List O) | tup (xs : List O)
  | dK (ks : List Key) (vs : List D)
  | dT (ks : List (List Key)) (vs : List D)
  deriving Inhabited
mutual
@[simp] def O.toD : O → D
  | .fz d => d
  | .lst xs => .lst (O.toDs xs)
  | .tup xs => .tup (O.toDs xs)
  | .dK ks vs => .dK ks vs
  | .dT ks vs => .dT ks vs
@[simp] def O.toDs : List O → List D
  | [] => []
  | x :: xs => O.toD x :: O.toDs xs
end
theorem O.toDs_map : ∀ xs : List O, O.toDs xs = xs.map O.toD
  | [] => rfl
  | x :: xs => by rw [O.toDs, O.toDs_map xs]; rfl

variable {K : PySem.W.Frag} {F F' H H' H0 F0 : Hp}
theorem Rd.mono {a : Addr} {u : HO} (h : Same F F') (r : Rd F a u) : Rd F' a u := r.elim (fun r => .inl (h _ _ r)) fun ⟨o, r⟩ => .inr ⟨o, h _ _ r⟩
theorem sqT_mono {a : Addr} {xs : List V} (e : Same F F') (h : SqT K F a xs) : SqT K F' a xs := h.elim (fun r => .inl (Rd.mono e r)) .inr
theorem sqL_mono {a : Addr} {xs : List V} (e : Same F F') (h : SqL K F a xs) : SqL K F' a xs := h.elim (fun r => .inl (Rd.mono e r)) .inr
mutual
def Rep (K : PySem.W.Frag) (F : Hp) : D → V → Prop
  | .non, v => v = .non
  | .bl b, v => v = .bl b
  | .int i, v => v = .int i
  | .str x, v => v = .str x
  | .lst ds, v => ∃ a vs, v = .ref a ∧ SqL K F a vs ∧ Reps K F ds vs
  | .tup ds, v => ∃ a vs, v = .ref a ∧ F a = some (.tup vs) ∧ Reps K F ds vs
  | .dK ks ds, v => ∃ a vs, v = .ref a ∧ Rd F a (.dK (ks.zip vs)) ∧ ks.length = vs.length ∧ Reps K F ds vs
  | .dT ks ds, v => ∃ a vs, v = .ref a ∧ Rd F a (.dT (ks.zip vs)) ∧ ks.length = vs.length ∧ Reps K F ds vs
  | .exc c, v => ∃ a C, v = .ref a ∧ F a = some (ExH C a) ∧ PySem.W.nsIn K mainGlobals c = some (some (.ref C))
def Reps (K : PySem.W.Frag) (F : Hp) : List D → List V → Prop
  | [], vs => vs = []
  | d :: ds, vs => ∃ v r, vs = v :: r ∧ Rep K F d v ∧ Reps K F ds r
end
mutual
theorem Rep.mono (h : Same F F') : ∀ {d v}, Rep K F d v → Rep K F' d v
  | .non, _, e => e
  | .bl _, _, e => e
  | .int _, _, e => e
  | .str _, _, e => e
  | .lst ds, _, ⟨a, vs, e, s, r⟩ => ⟨a, vs, e, sqL_mono h s, Reps.mono h r⟩
  | .tup ds, _, ⟨a, vs, e, s, r⟩ => ⟨a, vs, e, h _ _ s, Reps.mono h r⟩
  | .dK ks ds, _, ⟨a, vs, e, s, l, r⟩ => ⟨a, vs, e, Rd.mono h s, l, Reps.mono h r⟩
  | .dT ks ds, _, ⟨a, vs, e, s, l, r⟩ => ⟨a, vs, e, Rd.mono h s, l, Reps.mono h r⟩
  | .exc c, _, ⟨a, C, e, s, r⟩ => ⟨a, C, e, h _ _ s, r⟩
theorem Reps.mono (h : Same F F') : ∀ {ds vs}, Reps K F ds vs → Reps K F' ds vs
  | [], _, e => e
  | d :: ds, _, ⟨v, r, e, x, y⟩ => ⟨v, r, e, Rep.mono h x, Reps.mono h y⟩
end
theorem Reps.len : ∀ {ds vs}, Reps K F ds vs → ds.length = vs.length
  | [], _, e => by cases e; rfl
  | d :: ds, _, ⟨v, r, e, x, y⟩ => by subst e; simp [Reps.len y]
theorem Reps.get : ∀ {ds : List D} {vs : List V}, Reps K F ds vs → ∀ {i : Nat} {d : D}, ds[i]? = some d → ∃ v, vs[i]? = some v ∧ Rep K F d v
  | [], _, _, i, d, h => by simp at h
  | d :: ds, _, ⟨v, r, e, x, y⟩, 0, d', h => by
    subst e
    have h' : d = d' := by simpa using h
    subst h'
    exact ⟨v, rfl, x⟩
  | d :: ds, _, ⟨v, r, e, x, y⟩, i + 1, d', h => by
    subst e
    obtain ⟨w, h1, h2⟩ := Reps.get y (i := i) (d := d') (by simpa using h)
    exact ⟨w, by simpa using h1, h2⟩
theorem Reps.getV : ∀ {ds : List D} {vs : List V}, Reps K F ds vs → ∀ {i : Nat} {v : V}, vs[i]? = some v → ∃ d, ds[i]? = some d ∧ Rep K F d v := fun {ds vs} h {i v} e => by
  have hl := h.len
  have hi : i < vs.length := (List.getElem?_eq_some_iff.mp e).1
  have hd : ds[i]? = some (ds[i]'(by omega)) := List.getElem?_eq_getElem (by omega)
  obtain ⟨w, e', r⟩ := h.get hd
  rw [e] at e'
  cases e'
  exact ⟨_, hd, r⟩
theorem Reps.append : ∀ {ds vs es us}, Reps K F ds vs → Reps K F es us → Reps K F (ds ++ es) (vs ++ us)
  | [], _, _, _, e, h => by cases e; exact h
  | d :: ds, _, _, _, ⟨v, r, e, x, y⟩, h => by subst e; exact ⟨v, r ++ _, rfl, x, Reps.append y h⟩
theorem Reps.take : ∀ {ds vs} (n : Nat), Reps K F ds vs → Reps K F (ds.take n) (vs.take n)
  | [], _, n, e => by cases e; simp [Reps]
  | d :: ds, _, 0, _ => by simp [Reps]
  | d :: ds, _, n + 1, ⟨v, r, e, x, y⟩ => by subst e; exact ⟨v, _, rfl, x, Reps.take n y⟩
theorem Reps.drop : ∀ {ds vs} (n : Nat), Reps K F ds vs → Reps K F (ds.drop n) (vs.drop n)
  | [], _, n, e => by cases e; simp [Reps]
  | d :: ds, _, 0, h => h
  | d :: ds, _, n + 1, ⟨v, r, e, x, y⟩ => by subst e; exact Reps.drop n y
theorem Reps.set : ∀ {ds vs} {d v} (n : Nat), Reps K F ds vs → Rep K F d v → Reps K F (ds.set n d) (vs.set n v)
  | [], _, _, _, n, e, _ => by cases e; simp [Reps]
  | d :: ds, _, d', v', 0, ⟨v, r, e, x, y⟩, h => by subst e; exact ⟨v', r, rfl, h, y⟩
  | d :: ds, _, d', v', n + 1, ⟨v, r, e, x, y⟩, h => by subst e; exact ⟨v, _, rfl, x, Reps.set n y h⟩
theorem Reps.reverse : ∀ {ds vs}, Reps K F ds vs → Reps K F ds.reverse vs.reverse
  | [], _, e => by cases e; rfl
  | d :: ds, _, ⟨v, r, e, x, y⟩ => by
    subst e
    rw [List.reverse_cons, List.reverse_cons]
    exact (Reps.reverse y).append ⟨v, [], rfl, x, rfl⟩
theorem Reps.ints : ∀ {ns : List Int} {vs : List V}, Reps K F (ns.map D.int) vs ↔ vs = ns.map V.int
  | [], vs => Iff.rfl
  | n :: ns, vs => by
    constructor
    · rintro ⟨v, r, rfl, e, h⟩
      have e' : v = V.int n := e
      rw [e', (Reps.ints (ns := ns)).mp h]; rfl
    · intro e
      exact ⟨V.int n, ns.map V.int, e, rfl, (Reps.ints (ns := ns)).mpr rfl⟩

mutual
def ORep (K : PySem.W.Frag) (F H : Hp) : O → V → List Addr → Prop
  | .fz d, v, cs => cs = [] ∧ Rep K F d v
  | .lst xs, v, cs => ∃ a vs c, v = .ref a ∧ cs = a :: c ∧ H a = some (.lst vs) ∧ OReps K F H xs vs c
  | .tup xs, v, cs => ∃ a vs c, v = .ref a ∧ cs = a :: c ∧ H a = some (.tup vs) ∧ OReps K F H xs vs c
  | .dK ks ds, v, cs => ∃ a vs, v = .ref a ∧ cs = [a] ∧ H a = some (.dK (ks.zip vs)) ∧ ks.length = vs.length ∧ Reps K F ds vs
  | .dT ks ds, v, cs => ∃ a vs, v = .ref a ∧ cs = [a] ∧ H a = some (.dT (ks.zip vs)) ∧ ks.length = vs.length ∧ Reps K F ds vs
def OReps (K : PySem.W.Frag) (F H : Hp) : List O → List V → List Addr → Prop
  | [], vs, cs => vs = [] ∧ cs = []
  | o :: os, vs, cs => ∃ v r c1 c2, vs = v :: r ∧ cs = c1 ++ c2 ∧ ORep K F H o v c1 ∧ OReps K F H os r c2
end
mutual
theorem ORep.frame (h : Same F F') : ∀ {o v cs}, (∀ c ∈ cs, H' c = H c) → ORep K F H o v cs → ORep K F' H' o v cs
  | .fz d, v, cs, _, ⟨e, r⟩ => ⟨e, r.mono h⟩
  | .lst xs, v, cs, k, ⟨a, vs, c, e1, e2, e3, r⟩ => ⟨a, vs, c, e1, e2, by rw [k a (by rw [e2]; exact List.mem_cons_self)]; exact e3, OReps.frame h (fun b hb => k b (by rw [e2]; exact List.mem_cons_of_mem _ hb)) r⟩
  | .tup xs, v, cs, k, ⟨a, vs, c, e1, e2, e3, r⟩ => ⟨a, vs, c, e1, e2, by rw [k a (by rw [e2]; exact List.mem_cons_self)]; exact e3, OReps.frame h (fun b hb => k b (by rw [e2]; exact List.mem_cons_of_mem _ hb)) r⟩
  | .dK ks ds, v, cs, k, ⟨a, vs, e1, e2, e3, l, r⟩ => ⟨a, vs, e1, e2, by rw [k a (by rw [e2]; exact List.mem_cons_self)]; exact e3, l, r.mono h⟩
  | .dT ks ds, v, cs, k, ⟨a, vs, e1, e2, e3, l, r⟩ => ⟨a, vs, e1, e2, by rw [k a (by rw [e2]; exact List.mem_cons_self)]; exact e3, l, r.mono h⟩
theorem OReps.frame (h : Same F F') : ∀ {os vs cs}, (∀ c ∈ cs, H' c = H c) → OReps K F H os vs cs → OReps K F' H' os vs cs
  | [], _, _, _, e => e
  | o :: os, vs, cs, k, ⟨v, r, c1, c2, e1, e2, x, y⟩ => ⟨v, r, c1, c2, e1, e2, ORep.frame h (fun c hc => k c (by rw [e2]; exact List.mem_append_left _ hc)) x, OReps.frame h (fun c hc => k c (by rw [e2]; exact List.mem_append_right _ hc)) y⟩
end
mutual
/-- what it shows, where F stands in H -/
theorem ORep.view (h : Same F H) : ∀ {o v cs}, ORep K F H o v cs → Rep K H o.toD v
  | .fz d, v, cs, ⟨e, r⟩ => r.mono h
  | .lst xs, v, cs, ⟨a, vs, c, e1, e2, e3, r⟩ => ⟨a, vs, e1, SqL.of e3, OReps.view h r⟩
  | .tup xs, v, cs, ⟨a, vs, c, e1, e2, e3, r⟩ => ⟨a, vs, e1, e3, OReps.view h r⟩
  | .dK ks ds, v, cs, ⟨a, vs, e1, e2, e3, l, r⟩ => ⟨a, vs, e1, .inl e3, l, r.mono h⟩
  | .dT ks ds, v, cs, ⟨a, vs, e1, e2, e3, l, r⟩ => ⟨a, vs, e1, .inl e3, l, r.mono h⟩
theorem OReps.view (h : Same F H) : ∀ {os vs cs}, OReps K F H os vs cs → Reps K H (O.toDs os) vs
  | [], _, _, ⟨e, _⟩ => e
  | o :: os, vs, cs, ⟨v, r, c1, c2, e1, e2, x, y⟩ => ⟨v, r, e1, ORep.view h x, OReps.view h y⟩
end
mutual
/-- a tree is closed: F' has its cells too -/
theorem ORep.close (h : Same F F') : ∀ {o v cs}, (∀ c ∈ cs, F' c = H c) → ORep K F H o v cs → Rep K F' o.toD v
  | .fz d, v, cs, _, ⟨e, r⟩ => r.mono h
  | .lst xs, v, cs, k, ⟨a, vs, c, e1, e2, e3, r⟩ => ⟨a, vs, e1, SqL.of (by rw [k a (by rw [e2]; exact List.mem_cons_self)]; exact e3), OReps.close h (fun b hb => k b (by rw [e2]; exact List.mem_cons_of_mem _ hb)) r⟩
  | .tup xs, v, cs, k, ⟨a, vs, c, e1, e2, e3, r⟩ => ⟨a, vs, e1, (by rw [k a (by rw [e2]; exact List.mem_cons_self)]; exact e3), OReps.close h (fun b hb => k b (by rw [e2]; exact List.mem_cons_of_mem _ hb)) r⟩
  | .dK ks ds, v, cs, k, ⟨a, vs, e1, e2, e3, l, r⟩ => ⟨a, vs, e1, .inl (by rw [k a (by rw [e2]; exact List.mem_cons_self)]; exact e3), l, r.mono h⟩
  | .dT ks ds, v, cs, k, ⟨a, vs, e1, e2, e3, l, r⟩ => ⟨a, vs, e1, .inl (by rw [k a (by rw [e2]; exact List.mem_cons_self)]; exact e3), l, r.mono h⟩
theorem OReps.close (h : Same F F') : ∀ {os vs cs}, (∀ c ∈ cs, F' c = H c) → OReps K F H os vs cs → Reps K F' (O.toDs os) vs
  | [], _, _, _, ⟨e, _⟩ => e
  | o :: os, vs, cs, k, ⟨v, r, c1, c2, e1, e2, x, y⟩ => ⟨v, r, e1, ORep.close h (fun c hc => k c (by rw [e2]; exact List.mem_append_left _ hc)) x, OReps.close h (fun c hc => k c (by rw [e2]; exact List.mem_append_right _ hc)) y⟩
end
mutual
theorem ORep.there : ∀ {o v cs}, ORep K F H o v cs → ∀ c ∈ cs, H c ≠ none
  | .fz d, v, cs, ⟨e, r⟩, c, hc => by rw [e] at hc; cases hc
  | .lst xs, v, cs, ⟨a, vs, c, e1, e2, e3, r⟩, b, hb => by
    rw [e2] at hb
    rcases List.mem_cons.mp hb with rfl | hb
    · rw [e3]; exact fun h => nomatch h
    · exact OReps.there r b hb
  | .tup xs, v, cs, ⟨a, vs, c, e1, e2, e3, r⟩, b, hb => by
    rw [e2] at hb
    rcases List.mem_cons.mp hb with rfl | hb
    · rw [e3]; exact fun h => nomatch h
    · exact OReps.there r b hb
  | .dK ks ds, v, cs, ⟨a, vs, e1, e2, e3, l, r⟩, b, hb => by
    rw [e2] at hb
    rcases List.mem_cons.mp hb with rfl | hb
    · rw [e3]; exact fun h => nomatch h
    · cases hb
  | .dT ks ds, v, cs, ⟨a, vs, e1, e2, e3, l, r⟩, b, hb => by
    rw [e2] at hb
    rcases List.mem_cons.mp hb with rfl | hb
    · rw [e3]; exact fun h => nomatch h
    · cases hb
theorem OReps.there : ∀ {os vs cs}, OReps K F H os vs cs → ∀ c ∈ cs, H c ≠ none
  | [], _, _, ⟨_, e⟩, c, hc => by rw [e] at hc; cases hc
  | o :: os, vs, cs, ⟨v, r, c1, c2, e1, e2, x, y⟩, c, hc => by
    rw [e2] at hc
    rcases List.mem_append.mp hc with h | h
    · exact ORep.there x c h
    · exact OReps.there y c h
end
theorem OReps.fz : ∀ {ds : List D} {vs : List V}, Reps K F ds vs → OReps K F H (ds.map O.fz) vs []
  | [], _, e => ⟨e, rfl⟩
  | d :: ds, _, ⟨v, r, e, x, y⟩ => ⟨v, r, [], [], e, rfl, ⟨rfl, x⟩, OReps.fz y⟩
theorem OReps.of_fz : ∀ {ds : List D} {vs : List V} {cs}, OReps K F H (ds.map O.fz) vs cs → cs = [] ∧ Reps K F ds vs
  | [], _, _, ⟨e, e2⟩ => ⟨e2, e⟩
  | d :: ds, _, _, ⟨v, r, c1, c2, e1, e2, ⟨e3, x⟩, y⟩ => by
    obtain ⟨e4, z⟩ := OReps.of_fz y
    subst e2 e3 e4
    exact ⟨rfl, v, r, e1, x, z⟩
theorem toDs_fz : ∀ ds : List D, O.toDs (ds.map O.fz) = ds
  | [] => rfl
  | d :: ds => by rw [List.map_cons, O.toDs, toDs_fz ds]; rfl
theorem OReps.append : ∀ {xs ys : List O} {vs us : List V} {c1 c2}, OReps K F H xs vs c1 → OReps K F H ys us c2 → OReps K F H (xs ++ ys) (vs ++ us) (c1 ++ c2)
  | [], _, _, _, _, _, ⟨e, e2⟩, h => by subst e e2; exact h
  | x :: xs, _, _, _, _, _, ⟨v, r, c1, c2, e1, e2, p, y⟩, h => by subst e1 e2; exact ⟨v, _, c1, c2 ++ _, rfl, by rw [List.append_assoc], p, OReps.append y h⟩
theorem OReps.one {o : O} {v : V} {cs} (h : ORep K F H o v cs) : OReps K F H [o] [v] cs := ⟨v, [], cs, [], rfl, by rw [List.append_nil], h, rfl, rfl⟩
theorem OReps.len : ∀ {xs : List O} {vs : List V} {cs}, OReps K F H xs vs cs → xs.length = vs.length
  | [], _, _, ⟨e, _⟩ => by subst e; rfl
  | x :: xs, _, _, ⟨v, r, c1, c2, e1, e2, p, y⟩ => by subst e1; simp [OReps.len y]
end DL

namespace DL
open PySem PySem.Spec L2
abbrev Rho := List (Option O)
/-- what an expression gives: one's own tree, or a look at another's -/
inductive Ar where
  | ow (o : O) | vw (o : O)
  deriving Inhabited
@[simp] def Ar.o : Ar → O | .ow o => o | .vw o => o
@[simp] def Ar.d (a : Ar) : D := a.o.toD
inductive Rs where
  | ok (a : Ar) | ex (c : Str) | bad
  deriving Inhabited
inductive Rm where
  | ok (as : List Ar) | ex (c : Str) | bad
  deriving Inhabited
inductive Rb where
  | ok (b : Bool) | ex (c : Str) | bad
  deriving Inhabited
inductive SR where
  | nx (ρ : Rho) | rt (o : O) | bk (ρ : Rho) | ct (ρ : Rho) | ex (c : Str) (ρ : Rho) | bad
  deriving Inhabited
abbrev DE := Rho → Rs
abbrev DA := Rho → Rm
abbrev DT := Rho → Rb
abbrev DS := Rho → SR

variable {K : PySem.W.Frag} {F F' H H' H0 F0 F1 H1 : Hp} {cs cs' : List Addr} {σ : St} {ρ : Rho}
/-- the heap has grown -/
structure Ext (F H F' H' : Hp) : Prop where
  hh : Same H H'
  ff : Same F F'
  fh : Same F' H'
  nw : ∀ a, H a ≠ none → F' a = F a
theorem Ext.refl (h : Same F H) : Ext F H F H := ⟨Same.refl _, Same.refl _, h, fun _ _ => rfl⟩
theorem Ext.trans (a : Ext F H F1 H1) (b : Ext F1 H1 F' H') : Ext F H F' H' := ⟨a.hh.trans b.hh, a.ff.trans b.ff, b.fh, fun x h => by
  have h1 : H1 x ≠ none := by
    cases e : H x with
    | none => exact absurd e h
    | some o => rw [a.hh x o e]; exact fun h => nomatch h
  rw [b.nw x h1, a.nw x h]⟩
theorem Ext.there (e : Ext F H F' H') {a : Addr} (h : H a ≠ none) : H' a = H a := by
  cases q : H a with
  | none => exact absurd q h
  | some o => exact e.hh a o q
theorem Ext.nf (e : Ext F H F' H') {a : Addr} (h : H a ≠ none) (f : F a = none) : F' a = none := (e.nw a h).trans f
/-- new cells, open -/
structure New (H F' : Hp) (cs : List Addr) : Prop where
  nd : cs.Nodup
  nw : ∀ c ∈ cs, H c = none ∧ F' c = none
theorem New.nil : New H F' [] := ⟨List.nodup_nil, fun _ h => nomatch h⟩

def ARep (K : PySem.W.Frag) (F H : Hp) : Ar → V → List Addr → Prop
  | .ow o, v, cs => ORep K F H o v cs
  | .vw o, v, cs => cs = [] ∧ ∃ c, ORep K F H o v c
def AReps (K : PySem.W.Frag) (F H : Hp) : List Ar → List V → List Addr → Prop
  | [], vs, cs => vs = [] ∧ cs = []
  | a :: as, vs, cs => ∃ v r c1 c2, vs = v :: r ∧ cs = c1 ++ c2 ∧ ARep K F H a v c1 ∧ AReps K F H as r c2
theorem ORep.ext {o v} (e : Ext F H F' H') (h : ORep K F H o v cs) : ORep K F' H' o v cs := h.frame e.ff fun c hc => e.there (h.there c hc)
theorem ARep.ext {a v} (e : Ext F H F' H') (h : ARep K F H a v cs) : ARep K F' H' a v cs := by
  cases a with
  | ow o => exact ORep.ext (o := o) e h
  | vw o => obtain ⟨h1, c, h2⟩ := h; exact ⟨h1, c, ORep.ext e h2⟩
theorem ARep.view {a v} (h : Same F H) (r : ARep K F H a v cs) : Rep K H a.d v := by
  cases a with
  | ow o => exact ORep.view (o := o) h r
  | vw o => obtain ⟨_, c, h2⟩ := r; exact ORep.view h h2
theorem ARep.there {a v} (h : ARep K F H a v cs) : ∀ c ∈ cs, H c ≠ none := by
  cases a with
  | ow o => exact ORep.there (o := o) h
  | vw o => intro c hc; rw [h.1] at hc; cases hc
theorem ARep.some {a v} (h : ARep K F H a v cs) : ∃ c, ORep K F H a.o v c := by
  cases a with
  | ow o => exact ⟨cs, h⟩
  | vw o => exact h.2

/-! ### the state of a body -/
def Slo (K : PySem.W.Frag) (F H : Hp) : Option O → Option V → List Addr → Prop
  | none, _, cs => cs = []
  | some o, some v, cs => ORep K F H o v cs
  | some _, none, _ => False
def Slots (K : PySem.W.Frag) (F H : Hp) : Rho → St → List Addr → Prop
  | [], σ, cs => σ = [] ∧ cs = []
  | o :: ρ, σ, cs => ∃ x r c1 c2, σ = x :: r ∧ cs = c1 ++ c2 ∧ Slo K F H o x c1 ∧ Slots K F H ρ r c2
theorem Slo.frame {o x} (h : Same F F') (k : ∀ c ∈ cs, H' c = H c) (s : Slo K F H o x cs) : Slo K F' H' o x cs := by
  cases o with
  | none => exact s
  | some o =>
    cases x with
    | none => exact s.elim
    | some v => exact ORep.frame (o := o) h k s
theorem Slots.frame (h : Same F F') : ∀ {ρ σ cs}, (∀ c ∈ cs, H' c = H c) → Slots K F H ρ σ cs → Slots K F' H' ρ σ cs
  | [], _, _, _, e => e
  | o :: ρ, _, _, k, ⟨x, r, c1, c2, e1, e2, p, q⟩ => ⟨x, r, c1, c2, e1, e2, p.frame h (fun c hc => k c (by rw [e2]; exact List.mem_append_left _ hc)), Slots.frame h (fun c hc => k c (by rw [e2]; exact List.mem_append_right _ hc)) q⟩
theorem Slo.there {o x} (s : Slo K F H o x cs) : ∀ c ∈ cs, H c ≠ none := by
  cases o with
  | none => intro c hc; rw [show cs = [] from s] at hc; cases hc
  | some o =>
    cases x with
    | none => exact s.elim
    | some v => exact ORep.there (o := o) s
theorem Slots.there : ∀ {ρ σ cs}, Slots K F H ρ σ cs → ∀ c ∈ cs, H c ≠ none
  | [], _, _, ⟨_, e⟩, c, hc => by rw [e] at hc; cases hc
  | o :: ρ, _, _, ⟨x, r, c1, c2, e1, e2, p, q⟩, c, hc => by
    rw [e2] at hc
    rcases List.mem_append.mp hc with h | h
    · exact p.there c h
    · exact Slots.there q c h
theorem Slots.len : ∀ {ρ σ cs}, Slots K F H ρ σ cs → σ.length = ρ.length
  | [], _, _, ⟨e, _⟩ => by rw [e]; rfl
  | o :: ρ, _, _, ⟨x, r, c1, c2, e1, e2, p, q⟩ => by rw [e1]; simp [Slots.len q]
/-- one slot, and what may be put in its place -/
theorem Slots.split : ∀ {ρ σ cs} (i : Nat), i < ρ.length → Slots K F H ρ σ cs → ∃ c1 c2 c3 o x, cs = c1 ++ (c2 ++ c3) ∧ ρ[i]? = some o ∧ σ[i]? = some x ∧ Slo K F H o x c2 ∧
    ∀ F' H' o' x' c2', Same F F' → (∀ c ∈ c1, H' c = H c) → (∀ c ∈ c3, H' c = H c) → Slo K F' H' o' x' c2' → Slots K F' H' (ρ.set i o') (σ.set i x') (c1 ++ (c2' ++ c3))
  | [], _, _, i, h, _ => absurd h (Nat.not_lt_zero _)
  | o :: ρ, _, _, 0, _, ⟨x, r, c1, c2, e1, e2, p, q⟩ => by
    subst e1 e2
    exact ⟨[], c1, c2, o, x, rfl, rfl, rfl, p, fun F' H' o' x' c2' hF _ k s => ⟨x', r, c2', c2, rfl, rfl, s, q.frame hF k⟩⟩
  | o :: ρ, _, _, i + 1, h, ⟨x, r, c1, c2, e1, e2, p, q⟩ => by
    subst e1 e2
    obtain ⟨d1, d2, d3, o', x', e3, e4, e5, s, k⟩ := Slots.split i (by simpa using h) q
    subst e3
    refine ⟨c1 ++ d1, d2, d3, o', x', by simp [List.append_assoc], by simpa using e4, by simpa using e5, s, fun F' H' o2 x2 c2' hF k1 k3 s2 => ?_⟩
    refine ⟨x, r.set i x2, c1, d1 ++ (c2' ++ d3), rfl, by simp [List.append_assoc], p.frame hF (fun c hc => k1 c (List.mem_append_left _ hc)), ?_⟩
    exact k F' H' o2 x2 c2' hF (fun c hc => k1 c (List.mem_append_right _ hc)) k3 s2

structure RS (K : PySem.W.Frag) (F0 H0 : Hp) (ρ : Rho) (F : Hp) (σ : St) (H : Hp) (cs : List Addr) : Prop where
  fh : Same F H
  f0 : Same F0 F
  nw : ∀ a, H0 a ≠ none → F a = F0 a
  h0 : Same H0 H
  sl : Slots K F H ρ σ cs
  nd : cs.Nodup
  cf : ∀ c ∈ cs, F c = none ∧ H0 c = none
theorem RS.ext (R : RS K F0 H0 ρ F σ H cs) (e : Ext F H F' H') : RS K F0 H0 ρ F' σ H' cs where
  fh := e.fh
  f0 := R.f0.trans e.ff
  nw := fun a h => by
    have h1 : H a ≠ none := by
      cases q : H0 a with
      | none => exact absurd q h
      | some o => rw [R.h0 a o q]; exact fun h => nomatch h
    rw [e.nw a h1, R.nw a h]
  h0 := R.h0.trans e.hh
  sl := R.sl.frame e.ff fun c hc => e.there (R.sl.there c hc)
  nd := R.nd
  cf := fun c hc => ⟨e.nf (R.sl.there c hc) (R.cf c hc).1, (R.cf c hc).2⟩
theorem RS.toExt (R : RS K F0 H0 ρ F σ H cs) : Ext F0 H0 F H := ⟨R.h0, R.f0, R.fh, R.nw⟩
/-- a slot gets a tree of new cells -/
theorem RS.set {i : Nat} {o : O} {v : V} (R : RS K F0 H0 ρ F σ H cs) (e : Ext F H F' H') (h : ORep K F' H' o v cs') (n : New H F' cs') (hi : i < ρ.length) : ∃ cs2, RS K F0 H0 (ρ.set i (some o)) F' (σ.set i (some v)) H' cs2 := by
  have R' := R.ext e
  obtain ⟨c1, c2, c3, ob, x, e1, _, _, s, k⟩ := R'.sl.split i hi
  subst e1
  have dj : ∀ c ∈ c1 ++ (c2 ++ c3), c ∉ cs' := fun c hc hc' => (R.sl.there c hc) (n.nw c hc').1
  have nd := R'.nd
  rw [List.nodup_append] at nd
  obtain ⟨n1, n23, d123⟩ := nd
  rw [List.nodup_append] at n23
  obtain ⟨n2, n3, d23⟩ := n23
  refine ⟨c1 ++ (cs' ++ c3), R'.fh, R'.f0, R'.nw, R'.h0, k F' H' _ _ cs' (Same.refl _) (fun _ _ => rfl) (fun _ _ => rfl) h, ?_, fun c hc => ?_⟩
  · rw [List.nodup_append]
    refine ⟨n1, ?_, fun a ha b hb => ?_⟩
    · rw [List.nodup_append]
      refine ⟨n.nd, n3, fun a ha b hb e => ?_⟩
      subst e
      exact dj a (List.mem_append_right _ (List.mem_append_right _ hb)) ha
    · intro e
      subst e
      rcases List.mem_append.mp hb with h | h
      · exact dj a (List.mem_append_left _ ha) h
      · exact d123 a ha a (List.mem_append_right _ h) rfl
  · rcases List.mem_append.mp hc with h | h
    · exact R'.cf c (List.mem_append_left _ h)
    · rcases List.mem_append.mp h with h | h
      · refine ⟨(n.nw c h).2, ?_⟩
        have := (n.nw c h).1
        cases q : H0 c with
        | none => rfl
        | some o => rw [R.h0 c o q] at this; cases this
      · exact R'.cf c (List.mem_append_right _ (List.mem_append_right _ h))
/-- a slot is forgotten -/
theorem RS.drop {i : Nat} (R : RS K F0 H0 ρ F σ H cs) (hi : i < ρ.length) : ∃ cs2, RS K F0 H0 (ρ.set i none) F σ H cs2 := by
  obtain ⟨c1, c2, c3, ob, x, e1, _, e5, s, k⟩ := R.sl.split i hi
  subst e1
  have nd := R.nd
  rw [List.nodup_append] at nd
  obtain ⟨n1, n23, d123⟩ := nd
  rw [List.nodup_append] at n23
  obtain ⟨n2, n3, d23⟩ := n23
  have hx : σ.set i x = σ := by
    have hi2 : i < σ.length := by rw [R.sl.len]; exact hi
    have : σ[i] = x := by
      have := List.getElem?_eq_getElem hi2
      rw [e5] at this
      exact (Option.some.inj this).symm
    rw [← this]; simp
  have z := k F H none x [] (Same.refl _) (fun _ _ => rfl) (fun _ _ => rfl) rfl
  rw [hx] at z
  refine ⟨c1 ++ ([] ++ c3), R.fh, R.f0, R.nw, R.h0, z, ?_, fun c hc => ?_⟩
  · rw [List.nil_append, List.nodup_append]
    exact ⟨n1, n3, fun a ha b hb => d123 a ha b (List.mem_append_right _ hb)⟩
  · rcases List.mem_append.mp hc with h | h
    · exact R.cf c (List.mem_append_left _ h)
    · exact R.cf c (List.mem_append_right _ (List.mem_append_right _ (by simpa using h)))
/-- the slots of a list are forgotten -/
@[simp] def forget : List Nat → Rho → Rho
  | [], ρ => ρ
  | i :: is, ρ => forget is (ρ.set i none)
theorem RS.forget : ∀ (is : List Nat) {ρ cs}, RS K F0 H0 ρ F σ H cs → ∃ cs2, RS K F0 H0 (DL.forget is ρ) F σ H cs2
  | [], _, cs, R => ⟨cs, R⟩
  | i :: is, ρ, cs, R => by
    by_cases hi : i < ρ.length
    · obtain ⟨c, R'⟩ := R.drop hi
      exact RS.forget is R'
    · have e : ρ.set i none = ρ := List.set_eq_of_length_le (Nat.le_of_not_lt hi)
      show ∃ cs2, RS K F0 H0 (DL.forget is (ρ.set i none)) F σ H cs2
      rw [e]
      exact RS.forget is R
/-- more of the heap is shut -/
def shut (F H : Hp) (cs : List Addr) : Hp := fun a => if a ∈ cs then H a else F a
theorem shut_in {c : Addr} (h : c ∈ cs) : shut F H cs c = H c := by unfold shut; rw [if_pos h]
theorem shut_out {c : Addr} (h : c ∉ cs) : shut F H cs c = F c := by unfold shut; rw [if_neg h]
theorem same_shut (cf : ∀ c ∈ cs, F c = none) : Same F (shut F H cs) := fun a o e => by
  by_cases h : a ∈ cs
  · rw [cf a h] at e; cases e
  · rw [shut_out h]; exact e
theorem shut_same (h : Same F H) : Same (shut F H cs) H := fun a o e => by
  by_cases q : a ∈ cs
  · rw [shut_in q] at e; exact e
  · rw [shut_out q] at e; exact h a o e
/-- a slot's tree is shut -/
theorem RS.shut {i : Nat} {o : O} (R : RS K F0 H0 ρ F σ H cs) (hi : ρ[i]? = some (some o)) : ∃ F' cs2, Same F F' ∧ RS K F0 H0 (ρ.set i (some (.fz o.toD))) F' σ H cs2 := by
  have hil : i < ρ.length := (List.getElem?_eq_some_iff.mp hi).1
  obtain ⟨c1, c2, c3, ob, x, e1, e4, e5, s, k⟩ := R.sl.split i hil
  rw [hi] at e4
  cases e4
  subst e1
  cases x with
  | none => exact s.elim
  | some v =>
  have nd := R.nd
  rw [List.nodup_append] at nd
  obtain ⟨n1, n23, d123⟩ := nd
  rw [List.nodup_append] at n23
  obtain ⟨n2, n3, d23⟩ := n23
  have cf2 : ∀ c ∈ c2, F c = none := fun c hc => (R.cf c (List.mem_append_right _ (List.mem_append_left _ hc))).1
  have hx : σ.set i (some v) = σ := by
    have hi2 : i < σ.length := by rw [R.sl.len]; exact hil
    have : σ[i] = some v := by
      have := List.getElem?_eq_getElem hi2
      rw [e5] at this
      exact (Option.some.inj this).symm
    rw [← this]; simp
  have z := k (DL.shut F H c2) H (some (.fz o.toD)) (some v) [] (same_shut cf2) (fun _ _ => rfl) (fun _ _ => rfl) ⟨rfl, ORep.close (H := H) (same_shut cf2) (fun c hc => shut_in hc) s⟩
  rw [hx] at z
  have c0 : ∀ c ∈ c2, H0 c = none := fun c hc => (R.cf c (List.mem_append_right _ (List.mem_append_left _ hc))).2
  refine ⟨DL.shut F H c2, c1 ++ ([] ++ c3), same_shut cf2, shut_same R.fh, R.f0.trans (same_shut cf2), fun a h => ?_, R.h0, z, ?_, fun c hc => ?_⟩
  · rw [shut_out fun hc => h (c0 a hc)]
    exact R.nw a h
  · rw [List.nil_append, List.nodup_append]
    exact ⟨n1, n3, fun a ha b hb => d123 a ha b (List.mem_append_right _ hb)⟩
  · rcases List.mem_append.mp hc with h | h
    · have nc : c ∉ c2 := fun q => d123 c h c (List.mem_append_left _ q) rfl
      rw [shut_out nc]
      exact R.cf c (List.mem_append_left _ h)
    · have h' : c ∈ c3 := by simpa using h
      have nc : c ∉ c2 := fun q => d23 c q c h' rfl
      rw [shut_out nc]
      exact R.cf c (List.mem_append_right _ (List.mem_append_right _ h'))

/-! ### what is wanted -/
section
variable (X : Cx) (W : WX)
def post (r : Rs) (σ : St) (F H : Hp) (Q : VK) : Prop := match r with
  | .ok a => ∀ F' H' v cs', Ext F H F' H' → ARep X.K F' H' a v cs' → New H F' cs' → Q v H'
  | .ex c => ∀ F' H' C, Ext F H F' H' → X.mg c = some (.ref C) → W (.ref C) none σ H'
  | .bad => False
def postA (r : Rm) (σ : St) (F H : Hp) (Q : List V → Hp → Prop) : Prop := match r with
  | .ok a => ∀ F' H' vs cs', Ext F H F' H' → AReps X.K F' H' a vs cs' → New H F' cs' → Q vs H'
  | .ex c => ∀ F' H' C, Ext F H F' H' → X.mg c = some (.ref C) → W (.ref C) none σ H'
  | .bad => False
def postT (r : Rb) (σ : St) (F H : Hp) (Q : Bool → Hp → Prop) : Prop := match r with
  | .ok b => ∀ F' H', Ext F H F' H' → Q b H'
  | .ex c => ∀ F' H' C, Ext F H F' H' → X.mg c = some (.ref C) → W (.ref C) none σ H'
  | .bad => False
def postS (r : SR) (F0 H0 F : Hp) (D : Ends) : Prop := match r with
  | .nx ρ => ∀ F' H' σ' cs', Same F F' → RS X.K F0 H0 ρ F' σ' H' cs' → D.nx σ' H'
  | .bk ρ => ∀ F' H' σ' cs', Same F F' → RS X.K F0 H0 ρ F' σ' H' cs' → D.bk σ' H'
  | .ct ρ => ∀ F' H' σ' cs', Same F F' → RS X.K F0 H0 ρ F' σ' H' cs' → D.ct σ' H'
  | .rt o => ∀ F' H' v cs', Ext F0 H0 F' H' → ORep X.K F' H' o v cs' → New H0 F' cs' → D.rt v H'
  | .ex c ρ => ∀ F' H' σ' cs' C, Same F F' → RS X.K F0 H0 ρ F' σ' H' cs' → X.mg c = some (.ref C) → W (.ref C) none σ' H'
  | .bad => False
def tE (f : DE) : TE := fun σ H Q => ∃ F0 H0 ρ F cs, RS X.K F0 H0 ρ F σ H cs ∧ post X W (f ρ) σ F H Q
def tA (f : DA) : TA := fun σ H Q => ∃ F0 H0 ρ F cs, RS X.K F0 H0 ρ F σ H cs ∧ postA X W (f ρ) σ F H Q
def tT (f : DT) : TT := fun σ H Q => ∃ F0 H0 ρ F cs, RS X.K F0 H0 ρ F σ H cs ∧ postT X W (f ρ) σ F H Q
def tS (f : DS) : TS := fun D σ H => ∃ F0 H0 ρ F cs, RS X.K F0 H0 ρ F σ H cs ∧ postS X W (f ρ) F0 H0 F D
/-- THE JUDGEMENTS -/
def GE (e : Expr) (f : DE) : Prop := PE X e (tE X W f)
def GA (es : List Expr) (f : DA) : Prop := PA X es (tA X W f)
def GT (e : Expr) (f : DT) : Prop := PT X e (tT X W f)
def GW (e : Expr) (f : DT) : Prop := PW X e (tT X W f)
def GS (st : Stmt) (f : DS) : Prop := PS X st (tS X W f)
def GSs (sts : List Stmt) (f : DS) : Prop := PSs X sts (tS X W f)
end
theorem PE.imp {X : Cx} {e : Expr} {t t' : TE} (h : PE X e t) (i : ∀ σ H Q, t' σ H Q → t σ H Q) : PE X e t' := ⟨fun p s σ H Q I q => h.run p s σ H Q I (i σ H Q q)⟩
theorem PA.imp {X : Cx} {e : List Expr} {t t' : TA} (h : PA X e t) (i : ∀ σ H Q, t' σ H Q → t σ H Q) : PA X e t' := ⟨fun pos p s σ H Q I q => h.run pos p s σ H Q I (i σ H Q q)⟩
theorem PT.imp {X : Cx} {e : Expr} {t t' : TT} (h : PT X e t) (i : ∀ σ H Q, t' σ H Q → t σ H Q) : PT X e t' := ⟨fun p s σ H Q I q => h.run p s σ H Q I (i σ H Q q)⟩
theorem PW.imp {X : Cx} {e : Expr} {t t' : TT} (h : PW X e t) (i : ∀ σ H Q, t' σ H Q → t σ H Q) : PW X e t' := ⟨fun w p s σ H Q I q => h.run w p s σ H Q I (i σ H Q q)⟩
theorem PS.imp {X : Cx} {e : Stmt} {t t' : TS} (h : PS X e t) (i : ∀ D σ H, t' D σ H → t D σ H) : PS X e t' := ⟨fun p s σ H D I q => h.run p s σ H D I (i D σ H q)⟩
theorem PSs.imp {X : Cx} {e : List Stmt} {t t' : TS} (h : PSs X e t) (i : ∀ D σ H, t' D σ H → t D σ H) : PSs X e t' := ⟨fun p s σ H D I q => h.run p s σ H D I (i D σ H q)⟩

/-! ### expressions -/
section
variable {X : Cx} {W : WX} {pos : Pos} {a b : Expr} {fa fb : DE}
def Rs.bind (r : Rs) (k : Ar → Rs) : Rs := match r with
  | .ok a => k a
  | .ex c => .ex c
  | .bad => .bad
@[simp] def varE (i : Nat) : DE := fun ρ => match ρ[i]? with
  | some (some (.fz d)) => .ok (.ow (.fz d))
  | some (some o) => .ok (.vw o)
  | _ => .bad
theorem ge_var (i : Nat) {x : Str} (hN : X.N[i]? = some x := by rfl) (hv : Vis X.env.scope x := by first | exact Or.inl rfl | exact Or.inr (Or.inl rfl) | exact Or.inr (Or.inr rfl)) (hd : (x == ("__debug__" : Str)) = false := by decide)
    (hcd : (x == ("__classdict__" : Str)) = false := by decide) : GE X W (.Name x pos) (varE i) := by
  refine PE.imp (pe_var hN hv hd hcd) fun σ H Q ⟨F0, H0, ρ, F, cs, R, p⟩ => ?_
  unfold varE at p
  split at p
  · rename_i d e
    obtain ⟨c1, c2, c3, o, x, e1, e2, e3, s, _⟩ := R.sl.split i (List.getElem?_eq_some_iff.mp e).1
    rw [e] at e2; cases e2
    cases x with
    | none => exact s.elim
    | some v => exact ⟨v, e3, p F H v [] (Ext.refl R.fh) ⟨rfl, s.2⟩ New.nil⟩
  · rename_i o _ e
    obtain ⟨c1, c2, c3, o, x, e1, e2, e3, s, _⟩ := R.sl.split i (List.getElem?_eq_some_iff.mp e).1
    rw [e] at e2; cases e2
    cases x with
    | none => exact s.elim
    | some v => exact ⟨v, e3, p F H v [] (Ext.refl R.fh) ⟨rfl, _, s⟩ New.nil⟩
  · exact p.elim
@[simp] def cE (d : D) : DE := fun _ => .ok (.ow (.fz d))
theorem ge_cst {e : Expr} {v : V} {d : D} (h : PE X e (tC v)) (r : ∀ F, Rep X.K F d v) : GE X W e (cE d) :=
  PE.imp h fun σ H Q ⟨F0, H0, ρ, F, cs, R, p⟩ => p F H v [] (Ext.refl R.fh) ⟨rfl, r F⟩ New.nil
theorem ge_int {i j} : GE X W (.Constant (.int i) j pos) (cE (.int i)) := ge_cst pe_int fun _ => rfl
theorem ge_bl {b j} : GE X W (.Constant (.bool b) j pos) (cE (.bl b)) := ge_cst pe_bl fun _ => rfl
theorem ge_non {j} : GE X W (.Constant .none j pos) (cE .non) := ge_cst pe_non fun _ => rfl
theorem ge_str {x j} : GE X W (.Constant (.str x) j pos) (cE (.str x)) := ge_cst pe_str fun _ => rfl
/-- two in a row -/
def bin (g : Ar → Ar → Rs) (fa fb : DE) : DE := fun ρ => (fa ρ).bind fun x => (fb ρ).bind fun y => g x y
theorem post_bind {r : Rs} {k : Ar → Rs} {σ : St} {Q : VK} (fh : Same F H) (h : post X W (r.bind k) σ F H Q) : post X W r σ F H fun v H' => ∃ F' cs' a, Ext F H F' H' ∧ ARep X.K F' H' a v cs' ∧ New H F' cs' ∧ r = .ok a ∧ post X W (k a) σ F H Q := by
  cases r with
  | ok a => exact fun F' H' v cs' e r n => ⟨F', cs', a, e, r, n, rfl, h⟩
  | ex c => exact h
  | bad => exact h.elim
/-- what is wanted stays wanted in a grown heap -/
theorem post_ext {r : Rs} {σ : St} {Q : VK} (e : Ext F H F' H') (h : post X W r σ F H Q) : post X W r σ F' H' Q := by
  cases r with
  | ok a => exact fun F2 H2 v cs e2 r n => h F2 H2 v cs (e.trans e2) r ⟨n.nd, fun c hc => ⟨e.hh.free (n.nw c hc).1, (n.nw c hc).2⟩⟩
  | ex c => exact fun F2 H2 C e2 m => h F2 H2 C (e.trans e2) m
  | bad => exact h.elim
/-- an operator by its data -/
def OpOk (X : Cx) (W : WX) (r : R2) (g : Ar → Ar → Rs) : Prop := ∀ (σ : St) (F H : Hp) (x y : V) (a b : Ar) (ca cb : List Addr) (Q : VK), Same F H → ARep X.K F H a x ca → ARep X.K F H b y cb → post X W (g a b) σ F H Q → r x y H Q
theorem tOp_of {r : R2} {g : Ar → Ar → Rs} (hr : OpOk X W r g) : ∀ σ H Q, tE X W (bin g fa fb) σ H Q → tOp r (tE X W fa) (tE X W fb) σ H Q := fun σ H Q ⟨F0, H0, ρ, F, cs, R, p⟩ => by
  have p1 := post_bind R.fh p
  refine ⟨F0, H0, ρ, F, cs, R, ?_⟩
  cases q : fa ρ with
  | bad => rw [q] at p1; exact p1.elim
  | ex c => rw [q] at p1; exact p1
  | ok a =>
    intro F1 H1 v c1 e1 r1 n1
    refine ⟨F0, H0, ρ, F1, cs, R.ext e1, ?_⟩
    have p2 : post X W ((fb ρ).bind fun y => g a y) σ F1 H1 Q := post_ext e1 (by have := p; unfold bin at this; rw [q] at this; exact this)
    cases q2 : fb ρ with
    | bad => rw [q2] at p2; exact p2.elim
    | ex c => rw [q2] at p2; exact p2
    | ok b =>
      intro F2 H2 u c2 e2 r2 n2
      rw [q2] at p2
      exact hr σ F2 H2 v u a b c1 c2 Q e2.fh (r1.ext e2) r2 (post_ext e2 p2)
theorem ge_op {op : Operator} {r : R2} {g : Ar → Ar → Rs} (ho : OpR X (binaryOp op) r) (hr : OpOk X W r g) (ha : GE X W a fa) (hb : GE X W b fb) : GE X W (.BinOp a op b pos) (bin g fa fb) :=
  PE.imp (pe_op ho ha hb) (tOp_of hr)
theorem ge_cmp {op : CmpOp} {r : R2} {g : Ar → Ar → Rs} (ho : OpR X (compareOp op) r) (hr : OpOk X W r g) (ha : GE X W a fa) (hb : GE X W b fb) (hm : behindInMarks op b = false) : GE X W (.Compare a [op] [b] pos) (bin g fa fb) :=
  PE.imp (pe_cmpR ho ha hb hm) (tOp_of hr)
/-- tests -/
@[simp] def Rs.test (r : Rs) : Rb := match r with
  | .ok (.ow (.fz (.bl b))) => .ok b
  | .ok _ => .bad
  | .ex c => .ex c
  | .bad => .bad
def testE (f : DE) : DT := fun ρ => (f ρ).test
theorem tTest_of {f : DE} : ∀ σ H Q, tT X W (testE f) σ H Q → tTest (tE X W f) σ H Q := fun σ H Q ⟨F0, H0, ρ, F, cs, R, p⟩ => by
  refine ⟨F0, H0, ρ, F, cs, R, ?_⟩
  unfold testE at p
  cases q : f ρ with
  | bad => rw [q] at p; exact p.elim
  | ex c => rw [q] at p; exact p
  | ok a =>
    rw [q] at p
    intro F1 H1 v c1 e1 r1 n1
    cases a with
    | vw o => exact p.elim
    | ow o =>
      cases o with
      | fz d =>
        cases d with
        | bl b =>
          obtain ⟨_, r1⟩ := r1
          exact ⟨b, r1, p F1 H1 e1⟩
        | _ => exact p.elim
      | _ => exact p.elim
theorem gt_cmp {op : CmpOp} {r : R2} {g : Ar → Ar → Rs} (ho : OpR X (compareOp op) r) (hr : OpOk X W r g) (ha : GE X W a fa) (hb : GE X W b fb) (hm : behindInMarks op b = false) : GT X W (.Compare a [op] [b] pos) (testE (bin g fa fb)) :=
  PT.imp (pt_cmpR ho ha hb hm) fun σ H Q h => by
    obtain ⟨F0, H0, ρ, F, cs, R, p⟩ := tTest_of σ H Q h
    exact tOp_of hr σ H _ ⟨F0, H0, ρ, F, cs, R, p⟩
theorem gt_val {e : Expr} {f : DE} (h : GE X W e f) (he : ∀ whole, isTrue e X.env whole = (do let v ← whole; standAt e.pos; holding [v] (truthy v)) := by intro _; rfl) : GT X W e (testE f) :=
  PT.imp (pt_val h he) fun σ H Q q => tTest_of σ H Q q
/-- ints -/
def opII (C : Int → Int → Bool) (g : Int → Int → D) : Ar → Ar → Rs := fun x y => match x.d, y.d with
  | .int i, .int j => if C i j then .ok (.ow (.fz (g i j))) else .bad
  | _, _ => .bad
def vOf : D → V
  | .non => .non | .bl b => .bl b | .int i => .int i | .str x => .str x | _ => .non
def flatD : D → Bool
  | .non => true | .bl _ => true | .int _ => true | .str _ => true | _ => false
theorem rep_vOf {d : D} (h : flatD d = true) : Rep K F d (vOf d) := by
  cases d <;> first | rfl | cases h
theorem post_flat {d : D} {σ : St} {Q : VK} (fh : Same F H) (h : flatD d = true) (p : post X W (.ok (.ow (.fz d))) σ F H Q) : Q (vOf d) H := p F H _ [] (Ext.refl fh) ⟨rfl, rep_vOf h⟩ New.nil
theorem opII_ok {C : Int → Int → Bool} {P : Int → Int → Prop} {g : Int → Int → D} (hc : ∀ i j, C i j = true → P i j) (hg : ∀ i j, flatD (g i j) = true) : OpOk X W (rI P fun i j => vOf (g i j)) (opII C g) := by
  intro σ F H x y a b ca cb Q fh ra rb p
  have r1 := ra.view fh
  have r2 := rb.view fh
  unfold opII at p
  split at p
  · rename_i i j e1 e2
    rw [e1] at r1
    rw [e2] at r2
    split at p
    · rename_i hC
      exact ⟨i, j, r1, r2, hc i j hC, post_flat fh (hg i j) p⟩
    · exact p.elim
  · exact p.elim
end
end DL

namespace DL
open PySem PySem.Spec L2
variable {K : PySem.W.Frag} {F F' H H' H0 F0 F1 H1 : Hp} {cs cs' : List Addr} {σ : St} {ρ : Rho}
def lim : Nat := 16777216
theorem lim_eq : lim = sizeLine := sizeLine_eq.symm
def okLen (n : Nat) : Bool := decide (n ≤ lim)
theorem okLen_le {n : Nat} (h : okLen n = true) : n ≤ sizeLine := by rw [← lim_eq]; exact of_decide_eq_true h
section
variable {X : Cx} {W : WX} {pos : Pos} {a b : Expr} {fa fb : DE}
abbrev okI (i : Int) : Rs := .ok (.ow (.fz (.int i)))
abbrev okB (b : Bool) : Rs := .ok (.ow (.fz (.bl b)))
theorem PE.or {e : Expr} {t u : TE} (h : PE X e t) (g : PE X e u) : PE X e (fun σ H Q => t σ H Q ∨ u σ H Q) :=
  ⟨fun p s σ H Q I q => q.elim (fun q => h.run p s σ H Q I q) fun q => g.run p s σ H Q I q⟩
theorem PT.or {e : Expr} {t u : TT} (h : PT X e t) (g : PT X e u) : PT X e (fun σ H Q => t σ H Q ∨ u σ H Q) :=
  ⟨fun p s σ H Q I q => q.elim (fun q => h.run p s σ H Q I q) fun q => g.run p s σ H Q I q⟩
/-! ### the items of a sequence -/
@[simp] def O.seq : O → Option (Bool × List O)
  | .fz (.lst ds) => some (true, ds.map .fz)
  | .fz (.tup ds) => some (false, ds.map .fz)
  | .lst os => some (true, os)
  | .tup os => some (false, os)
  | _ => none
theorem seq_rep {o : O} {v : V} {c} {l : Bool} {os : List O} (fh : Same F H) (h : ORep K F H o v c) (e : o.seq = some (l, os)) : ∃ p vs c', v = .ref p ∧ (if l then SqL K H p vs else SqT K H p vs) ∧ OReps K F H os vs c' := by
  unfold O.seq at e
  split at e <;> first | cases e | skip
  · obtain ⟨_, a, vs, e1, s, r⟩ := h
    exact ⟨a, vs, [], e1, sqL_mono fh s, OReps.fz r⟩
  · obtain ⟨_, a, vs, e1, s, r⟩ := h
    exact ⟨a, vs, [], e1, SqT.of (fh _ _ s), OReps.fz r⟩
  · obtain ⟨a, vs, c', e1, e2, e3, r⟩ := h
    exact ⟨a, vs, c', e1, SqL.of e3, r⟩
  · obtain ⟨a, vs, c', e1, e2, e3, r⟩ := h
    exact ⟨a, vs, c', e1, SqT.of e3, r⟩
theorem OReps.get : ∀ {os : List O} {vs : List V} {c}, OReps K F H os vs c → ∀ {i : Nat} {o : O}, os[i]? = some o → ∃ v c', vs[i]? = some v ∧ ORep K F H o v c'
  | [], _, _, _, i, o, h => by simp at h
  | x :: os, _, _, ⟨v, r, c1, c2, e1, e2, p, q⟩, 0, o, h => by
    subst e1
    have h' : x = o := by simpa using h
    subst h'
    exact ⟨v, c1, rfl, p⟩
  | x :: os, _, _, ⟨v, r, c1, c2, e1, e2, p, q⟩, i + 1, o, h => by
    subst e1
    obtain ⟨u, c', h1, h2⟩ := OReps.get q (i := i) (o := o) (by simpa using h)
    exact ⟨u, c', by simpa using h1, h2⟩
theorem OReps.atI {os : List O} {vs : List V} {c} (r : OReps K F H os vs c) {i : Int} {o : O} (h : L2.atI os i = some o) : ∃ v c', L2.atI vs i = some v ∧ ORep K F H o v c' := by
  unfold L2.atI at h ⊢
  rw [r.len] at h
  cases q : ixN vs.length i with
  | none => rw [q] at h; cases h
  | some j =>
    rw [q] at h
    exact r.get h
@[simp] def itemAr : O → Ar
  | .fz d => .ow (.fz d)
  | o => .vw o
theorem itemAr_rep {o : O} {v : V} {c} (h : ORep K F H o v c) : ARep K F H (itemAr o) v [] := by
  cases o <;> first | exact ⟨rfl, h.2⟩ | exact ⟨rfl, c, h⟩
/-! ### arithmetic -/
def smallI (i : Int) : Bool := decide (i.natAbs < 18446744073709551616)
def okMul (i j : Int) : Bool := smallI i || smallI j || decide (i.natAbs.log2 + j.natAbs.log2 < 100000000)
theorem smallI_bits {i : Int} (h : smallI i = true) : -(2 ^ 64) < i ∧ i < 2 ^ 64 := by
  have := of_decide_eq_true h
  omega
theorem okMul_ok {i j : Int} (h : okMul i j = true) : IntMulOk i j := by
  unfold okMul at h
  rw [Bool.or_eq_true, Bool.or_eq_true] at h
  rcases h with (h | h) | h
  · have := smallI_bits h
    exact CMul.ok (.inl this)
  · have := smallI_bits h
    exact CMul.ok (.inr this)
  · have h3 := of_decide_eq_true h
    have b : ∀ x : Int, Builtin.Int.intBits x ≤ x.natAbs.log2 + 1 := fun x => by
      unfold Builtin.Int.intBits
      split <;> omega
    have h1 := b i
    have h2 := b j
    have e : bitsLine = 134217728 := by decide
    unfold IntMulOk
    intro z
    rw [Bool.and_eq_true] at z
    have z2 := z.2
    unfold Builtin.Int.intTooBig at z2
    have z3 := of_decide_eq_true z2
    rw [e] at z3
    omega
theorem op_mulX : OpR X (binaryOp .Mult) (rI (fun i j => okMul i j = true) fun i j => .int (i * j)) := opI fun _ _ _ _ _ _ _ hc q => PyProof.Rows.mul_int q (okMul_ok hc)
def okDiv (j : Int) : Bool := decide (0 < j) && decide (j.natAbs.log2 < 9000)
def okPow (i j : Int) : Bool := decide (0 ≤ j) && decide (j ≤ 1000000) && smallI i
theorem okPow_ok {i j : Int} (h : okPow i j = true) : CPow i j := by
  unfold okPow at h
  rw [Bool.and_eq_true, Bool.and_eq_true] at h
  obtain ⟨⟨h1, h2⟩, h3⟩ := h
  refine ⟨of_decide_eq_true h1, of_decide_eq_true h2, ?_⟩
  have := of_decide_eq_true h3
  exact Nat.lt_of_lt_of_le this (by decide)
def gSub : Ar → Ar → Rs := opII (fun _ _ => true) fun i j => .int (i - j)
def gFdiv : Ar → Ar → Rs := opII (fun _ j => okDiv j) fun i j => .int (i / j)
def gMod : Ar → Ar → Rs := opII (fun _ j => decide (0 < j)) fun i j => .int (i % j)
def gPow : Ar → Ar → Rs := opII okPow fun i j => .int (i ^ j.toNat)
def gShl : Ar → Ar → Rs := opII okPow fun i j => .int (i * 2 ^ j.toNat)
def gShr : Ar → Ar → Rs := opII (fun _ j => decide (0 ≤ j)) fun i j => .int (i / 2 ^ j.toNat)
def gBand : Ar → Ar → Rs := opII (fun _ _ => true) fun i j => .int (Builtin.bitAnd i j)
theorem rI0_of {g : Int → Int → V} : OpOk X W (rI (fun _ _ => True) g) = OpOk X W (rI (fun _ _ => True) g) := rfl
theorem OpOk.mono {r r' : R2} {g} (h : OpOk X W r g) (i : ∀ x y H Q, r x y H Q → r' x y H Q) : OpOk X W r' g := fun σ F H x y a b ca cb Q fh ra rb p => i _ _ _ _ (h σ F H x y a b ca cb Q fh ra rb p)
theorem ok_sub : OpOk X W (rI0 fun i j => .int (i - j)) gSub := OpOk.mono (opII_ok (P := fun _ _ => True) (fun _ _ _ => trivial) (fun _ _ => rfl)) fun x y H Q ⟨i, j, e1, e2, _, q⟩ => ⟨i, j, e1, e2, q⟩
theorem ok_band : OpOk X W (rI0 fun i j => .int (Builtin.bitAnd i j)) gBand := OpOk.mono (opII_ok (P := fun _ _ => True) (fun _ _ _ => trivial) (fun _ _ => rfl)) fun x y H Q ⟨i, j, e1, e2, _, q⟩ => ⟨i, j, e1, e2, q⟩
theorem ge_sub (ha : GE X W a fa) (hb : GE X W b fb) : GE X W (.BinOp a .Sub b pos) (bin gSub fa fb) := ge_op op_sub ok_sub ha hb
theorem ge_band (ha : GE X W a fa) (hb : GE X W b fb) : GE X W (.BinOp a .BitAnd b pos) (bin gBand fa fb) := ge_op op_and ok_band ha hb
theorem ge_fdiv (ha : GE X W a fa) (hb : GE X W b fb) : GE X W (.BinOp a .FloorDiv b pos) (bin gFdiv fa fb) := ge_op op_fdivW (opII_ok (fun i j h => by
  unfold okDiv at h
  rw [Bool.and_eq_true] at h
  exact ⟨of_decide_eq_true h.1, of_decide_eq_true h.2⟩) fun _ _ => rfl) ha hb
theorem ge_mod (ha : GE X W a fa) (hb : GE X W b fb) : GE X W (.BinOp a .Mod b pos) (bin gMod fa fb) := ge_op op_mod (opII_ok (fun i j h => of_decide_eq_true h) fun _ _ => rfl) ha hb
theorem ge_pow (ha : GE X W a fa) (hb : GE X W b fb) : GE X W (.BinOp a .Pow b pos) (bin gPow fa fb) := ge_op op_pow (opII_ok (fun i j h => okPow_ok h) fun _ _ => rfl) ha hb
theorem ge_shl (ha : GE X W a fa) (hb : GE X W b fb) : GE X W (.BinOp a .LShift b pos) (bin gShl fa fb) := ge_op op_shl (opII_ok (fun i j h => okPow_ok h) fun _ _ => rfl) ha hb
theorem ge_shr (ha : GE X W a fa) (hb : GE X W b fb) : GE X W (.BinOp a .RShift b pos) (bin gShr fa fb) := ge_op op_shr (opII_ok (fun i j h => of_decide_eq_true h) fun _ _ => rfl) ha hb

/-! ### new objects -/
theorem ext_new {p : Addr} {o : HO} (fh : Same F H) (np : H p = none) : Ext F H F (upd H p o) where
  hh := fun b u q => by rw [upd_ne (ne_of_none q np)]; exact q
  ff := Same.refl _
  fh := fun b u q => by
    have := fh b u q
    rw [upd_ne (ne_of_none this np)]; exact this
  nw := fun _ _ => rfl
/-! ### concatenation, repetition -/
@[simp] def allFz : List O → Option (List D)
  | [] => some []
  | .fz d :: os => match allFz os with
    | some ds => some (d :: ds)
    | none => none
  | _ :: _ => none
theorem allFz_map : ∀ ds : List D, allFz (ds.map .fz) = some ds
  | [] => rfl
  | d :: ds => by rw [List.map_cons, allFz, allFz_map ds]
theorem allFz_eq : ∀ {os : List O} {ds}, allFz os = some ds → os = ds.map .fz
  | [], ds, h => by cases h; rfl
  | .fz d :: os, ds, h => by
    unfold allFz at h
    cases q : allFz os with
    | none => rw [q] at h; cases h
    | some es => rw [q] at h; cases h; rw [List.map_cons, ← allFz_eq q]
  | .lst _ :: os, ds, h => by cases h
  | .tup _ :: os, ds, h => by cases h
  | .dK _ _ :: os, ds, h => by cases h
  | .dT _ _ :: os, ds, h => by cases h
/-- a new list of what stays -/
theorem post_lst {ds : List D} {vs : List V} {p : Addr} {σ : St} {Q : VK} (fh : Same F H) (np : H p = none) (r : Reps K F ds vs) (p0 : X.K = K) (h : post X W (.ok (.ow (.lst (ds.map .fz)))) σ F H Q) : Q (.ref p) (upd H p (.lst vs)) := by
  subst p0
  exact h F _ (.ref p) [p] (ext_new fh np) ⟨p, vs, [], rfl, rfl, upd_same, OReps.fz r⟩ ⟨by simp, fun c hc => by
    have : c = p := by simpa using hc
    subst this
    exact ⟨np, fh.free np⟩⟩
theorem post_tup {ds : List D} {vs : List V} {p : Addr} {σ : St} {Q : VK} (fh : Same F H) (np : H p = none) (r : Reps K F ds vs) (p0 : X.K = K) (h : post X W (.ok (.ow (.tup (ds.map .fz)))) σ F H Q) : Q (.ref p) (upd H p (.tup vs)) := by
  subst p0
  exact h F _ (.ref p) [p] (ext_new fh np) ⟨p, vs, [], rfl, rfl, upd_same, OReps.fz r⟩ ⟨by simp, fun c hc => by
    have : c = p := by simpa using hc
    subst this
    exact ⟨np, fh.free np⟩⟩
/-- list + list, any that are read -/
def rCatX (K : PySem.W.Frag) : R2 := fun x y H Q => ∃ l b xs zs, x = .ref l ∧ y = .ref b ∧ SqL K H l xs ∧ SqL K H b zs ∧ xs.length + zs.length ≤ sizeLine ∧ ∀ p, H p = none → Q (.ref p) (upd H p (.lst (xs ++ zs)))
theorem op_catX : OpR X (binaryOp .Add) (rCatX X.K) := by
  intro pins s σ H x y v u Q I rx ry h
  obtain ⟨l, b, xs, zs, rfl, rfl, hH, hB, hz, q⟩ := h
  cases rx
  cases ry
  obtain ⟨its, r, ⟨⟨cl, dd, dt, sl⟩, n, e, ec, ed, ey⟩, z⟩ := I.list hH
  obtain ⟨its2, r2, ⟨⟨cl2, dd2, dt2, sl2⟩, n2, e2, ec2, ed2, ey2⟩, z2⟩ := I.list hB
  dsimp only at ec ed ey ec2 ed2 ey2
  subst ec ed ey ec2 ed2 ey2
  have l1 := r.length
  have l2 := r2.length
  have ea : its.toArray ++ its2.toArray = (its ++ its2).toArray := by simp
  refine concat_meets ⟨_, e, rfl⟩ ⟨_, e2, rfl⟩ noFill_list_add seq_list_add PySem.F.slot_list_add PySem.F.entry_list_add (PySem.F.args_list_add_2 _ _) (PyProof.Rows.list_addW l b its.toArray its2.toArray n n2 none none sl sl2 (by simp only [List.size_toArray]; omega)) ⟨e, e2, ?_⟩
  rw [ea]
  exact ⟨.ref _, _, I.lnew (t' := s.toks) (r.append r2) (by rw [List.length_append]; omega), rfl, q _ I.fresh⟩
end
end DL
namespace DL
open PySem PySem.Spec L2
variable {K : PySem.W.Frag} {F F' H H' H0 F0 F1 H1 : Hp} {cs cs' : List Addr} {σ : St} {ρ : Rho}
section
variable {X : Cx} {W : WX} {pos : Pos} {a b c : Expr} {fa fb fc : DE}
/-- + : ints, texts, lists -/
def gAdd : Ar → Ar → Rs := fun x y => match x.d, y.d with
  | .int i, .int j => okI (i + j)
  | .str s, .str t => if okLen (s.length + t.length) then .ok (.ow (.fz (.str (s ++ t)))) else .bad
  | _, _ => match x.o.seq, y.o.seq with
    | some (true, os), some (true, us) => match allFz os, allFz us with
      | some ds, some es => if okLen (ds.length + es.length) then .ok (.ow (.lst ((ds ++ es).map .fz))) else .bad
      | _, _ => .bad
    | _, _ => .bad
abbrev rAddX (K : PySem.W.Frag) : R2 := fun x y H Q => (∃ i j, x = .int i ∧ y = .int j ∧ Q (.int (i + j)) H) ∨ ((∃ i j, x = .str i ∧ y = .str j ∧ i.length + j.length ≤ sizeLine ∧ Q (.str (i ++ j)) H) ∨ rCatX K x y H Q)
theorem ARep.orep {a v} (r : ARep K F H a v cs) : ∃ c, ORep K F H a.o v c := r.some
theorem ok_add : OpOk X W (rAddX X.K) gAdd := by
  intro σ F H x y a b ca cb Q fh ra rb p
  have r1 := ra.view fh
  have r2 := rb.view fh
  unfold gAdd at p
  split at p
  · rename_i i j e1 e2
    rw [e1] at r1; rw [e2] at r2
    exact .inl ⟨i, j, r1, r2, post_flat (d := .int (i + j)) fh rfl p⟩
  · rename_i i j e1 e2
    rw [e1] at r1; rw [e2] at r2
    split at p
    · rename_i h
      exact .inr (.inl ⟨i, j, r1, r2, okLen_le h, post_flat (d := .str (i ++ j)) fh rfl p⟩)
    · exact p.elim
  · split at p
    · rename_i os us e1 e2
      obtain ⟨c1, q1⟩ := ra.orep
      obtain ⟨c2, q2⟩ := rb.orep
      obtain ⟨l, vs, c3, rfl, s1, t1⟩ := seq_rep fh q1 e1
      obtain ⟨l2, ws, c4, rfl, s2, t2⟩ := seq_rep fh q2 e2
      split at p
      · rename_i ds es e3 e4
        rw [allFz_eq e3] at t1
        rw [allFz_eq e4] at t2
        obtain ⟨_, u1⟩ := OReps.of_fz t1
        obtain ⟨_, u2⟩ := OReps.of_fz t2
        split at p
        · rename_i h
          have h' := okLen_le h
          rw [u1.len, u2.len] at h'
          exact .inr (.inr ⟨l, l2, vs, ws, rfl, rfl, s1, s2, h', fun q np => post_lst fh np (u1.append u2) rfl p⟩)
        · exact p.elim
      · exact p.elim
    · exact p.elim
theorem ge_add (ha : GE X W a fa) (hb : GE X W b fb) : GE X W (.BinOp a .Add b pos) (bin gAdd fa fb) := ge_op (op_add.or (op_add_str.or op_catX)) ok_add ha hb
/-- * : ints, a list times an int -/
def gMul : Ar → Ar → Rs := fun x y => match x.d, y.d with
  | .int i, .int j => if okMul i j then okI (i * j) else .bad
  | _, .int k => match x with
    | .ow (.lst os) => match allFz os with
      | some ds => if decide (-(2 ^ 63) ≤ k) && decide (k < 2 ^ 63) && okLen (ds.length * k.toNat) then .ok (.ow (.lst ((List.replicate k.toNat ds).flatten.map .fz))) else .bad
      | none => .bad
    | _ => .bad
  | _, _ => .bad
theorem Reps.rep {ds vs} (r : Reps K F ds vs) : ∀ k : Nat, Reps K F (List.replicate k ds).flatten (List.replicate k vs).flatten
  | 0 => rfl
  | k + 1 => by
    rw [List.replicate_succ, List.replicate_succ, List.flatten_cons, List.flatten_cons]
    exact r.append (Reps.rep r k)
theorem ok_mul : OpOk X W (fun x y H Q => rI (fun i j => okMul i j = true) (fun i j => .int (i * j)) x y H Q ∨ rRep x y H Q) gMul := by
  intro σ F H x y a b ca cb Q fh ra rb p
  have r1 := ra.view fh
  have r2 := rb.view fh
  unfold gMul at p
  split at p
  · rename_i i j e1 e2
    rw [e1] at r1; rw [e2] at r2
    split at p
    · rename_i h
      exact .inl ⟨i, j, r1, r2, h, post_flat (d := .int (i * j)) fh rfl p⟩
    · exact p.elim
  · rename_i k e2 _
    rw [e2] at r2
    split at p
    · rename_i os
      split at p
      · rename_i ds e3
        obtain ⟨l, vs, c3, rfl, _, s1, t1⟩ := ra
        rw [allFz_eq e3] at t1
        obtain ⟨_, u1⟩ := OReps.of_fz t1
        split at p
        · rename_i h
          rw [Bool.and_eq_true, Bool.and_eq_true] at h
          obtain ⟨⟨h1, h2⟩, h3⟩ := h
          have h4 := okLen_le h3
          rw [u1.len] at h4
          exact .inr ⟨l, k, vs, rfl, r2, s1, of_decide_eq_true h1, of_decide_eq_true h2, h4, fun q np => post_lst fh np (u1.rep k.toNat) rfl p⟩
        · exact p.elim
      · exact p.elim
    · exact p.elim
  · exact p.elim
theorem ge_mul (ha : GE X W a fa) (hb : GE X W b fb) : GE X W (.BinOp a .Mult b pos) (bin gMul fa fb) := ge_op (op_mulX.or op_rep) ok_mul ha hb
/-- -x -/
def un (g : Ar → Rs) (fa : DE) : DE := fun ρ => (fa ρ).bind g
def gNeg : Ar → Rs := fun x => match x.d with
  | .int i => okI (-i)
  | _ => .bad
theorem ge_neg (ha : GE X W a fa) : GE X W (.UnaryOp .USub a pos) (un gNeg fa) := by
  refine PE.imp (pe_un un_neg ha) fun σ H Q ⟨F0, H0, ρ, F, cs, R, p⟩ => ?_
  refine ⟨F0, H0, ρ, F, cs, R, ?_⟩
  unfold un at p
  cases q : fa ρ with
  | bad => rw [q] at p; exact p
  | ex c => rw [q] at p; exact p
  | ok a =>
    rw [q] at p
    intro F1 H1 v c1 e1 r1 n1
    have r2 := r1.view e1.fh
    have p : post X W (gNeg a) σ F H Q := p
    unfold gNeg at p
    split at p
    · rename_i i e
      rw [e] at r2
      exact ⟨i, r2, post_flat (d := .int (-i)) e1.fh rfl (post_ext e1 p)⟩
    · exact p.elim
/-! ### comparisons -/
def cmpI (g : Int → Int → Bool) : Ar → Ar → Rs := opII (fun _ _ => true) fun i j => .bl (g i j)
theorem ok_cmpI {g : Int → Int → Bool} : OpOk X W (rI0 fun i j => .bl (g i j)) (cmpI g) := OpOk.mono (opII_ok (P := fun _ _ => True) (fun _ _ _ => trivial) (fun _ _ => rfl)) fun x y H Q ⟨i, j, e1, e2, _, q⟩ => ⟨i, j, e1, e2, q⟩
abbrev gLt := cmpI fun i j => decide (i < j)
abbrev gLe := cmpI fun i j => decide (i ≤ j)
abbrev gGt := cmpI fun i j => decide (j < i)
abbrev gGe := cmpI fun i j => decide (j ≤ i)
mutual
def toPy : D → PyData
  | .non => .none | .bl b => .bool b | .int i => .int i | .str x => .str x
  | .lst xs => .list (toPys xs) | .tup xs => .tuple (toPys xs)
  | .dK _ _ => .dict [] | .dT _ _ => .dict [] | .exc _ => .dict []
def toPys : List D → List PyData
  | [] => []
  | x :: xs => toPy x :: toPys xs
end
mutual
theorem rep_dp : ∀ {d : D} {v : V}, (toPy d).canLay0 = true → Rep K H d v → Dp K H v (toPy d)
  | .non, v, _, e => by cases (show v = .non from e); exact .non
  | .bl b, v, _, e => by cases (show v = .bl b from e); exact .bl b
  | .int b, v, _, e => by cases (show v = .int b from e); exact .int b
  | .str b, v, _, e => by cases (show v = .str b from e); exact .str b
  | .lst ds, v, h, ⟨a, vs, e, s, r⟩ => by subst e; exact .lst s (reps_dp (by simpa [toPy, PyData.canLay0] using h) r)
  | .tup ds, v, h, ⟨a, vs, e, s, r⟩ => by subst e; exact .tup (SqT.of s) (reps_dp (by simpa [toPy, PyData.canLay0] using h) r)
  | .dK ks ds, v, h, _ => by simp [toPy, PyData.canLay0] at h
  | .dT ks ds, v, h, _ => by simp [toPy, PyData.canLay0] at h
  | .exc c, v, h, _ => by simp [toPy, PyData.canLay0] at h
theorem reps_dp : ∀ {ds : List D} {vs : List V}, PyData.canLayAll0 (toPys ds) = true → Reps K H ds vs → DpAll K H vs (toPys ds)
  | [], vs, _, e => by cases (show vs = [] from e); exact .nil
  | d :: ds, vs, h, ⟨v, r, e, x, y⟩ => by
    subst e
    have h' : (toPy d).canLay0 = true ∧ PyData.canLayAll0 (toPys ds) = true := by simpa [toPys, PyData.canLayAll0] using h
    exact .cons (rep_dp h'.1 x) (reps_dp h'.2 y)
end
def eqD (x y : D) : Bool := PyData.eqv (toPy x) (toPy y)
def shp (d : D) : Bool := SeqAt.shaped (toPy d)
def gEq : Ar → Ar → Rs := fun x y => if shp x.d && shp y.d then okB (eqD x.d y.d) else .bad
def gNe : Ar → Ar → Rs := fun x y => if shp x.d && shp y.d then okB (!eqD x.d y.d) else .bad
theorem ok_eq : OpOk X W (rEqD X.K) gEq := by
  intro σ F H x y a b ca cb Q fh ra rb p
  unfold gEq at p
  split at p
  · rename_i h
    rw [Bool.and_eq_true] at h
    exact ⟨_, _, rep_dp (SeqAt.canLay_of_shaped h.1) (ra.view fh), rep_dp (SeqAt.canLay_of_shaped h.2) (rb.view fh), h.1, h.2, post_flat (d := .bl (eqD a.d b.d)) fh rfl p⟩
  · exact p.elim
theorem ok_ne : OpOk X W (rNeD X.K) gNe := by
  intro σ F H x y a b ca cb Q fh ra rb p
  unfold gNe at p
  split at p
  · rename_i h
    rw [Bool.and_eq_true] at h
    exact ⟨_, _, rep_dp (SeqAt.canLay_of_shaped h.1) (ra.view fh), rep_dp (SeqAt.canLay_of_shaped h.2) (rb.view fh), h.1, h.2, post_flat (d := .bl (!eqD a.d b.d)) fh rfl p⟩
  · exact p.elim
/-- is None -/
@[simp] def isNon : D → Bool
  | .non => true
  | _ => false
theorem rep_non {d : D} {v : V} (r : Rep K H d v) : decide (v = .non) = isNon d := by
  cases d with
  | non => cases (show v = .non from r); rfl
  | bl b => cases (show v = .bl b from r); rfl
  | int b => cases (show v = .int b from r); rfl
  | str b => cases (show v = .str b from r); rfl
  | lst ds => obtain ⟨a, vs, rfl, _⟩ := r; rfl
  | tup ds => obtain ⟨a, vs, rfl, _⟩ := r; rfl
  | dK ks ds => obtain ⟨a, vs, rfl, _⟩ := r; rfl
  | dT ks ds => obtain ⟨a, vs, rfl, _⟩ := r; rfl
  | exc c => obtain ⟨a, C, rfl, _⟩ := r; rfl
@[simp] def gIsN : Ar → Ar → Rs := fun x y => match y.d with
  | .non => okB (isNon x.d)
  | _ => .bad
@[simp] def gNotN : Ar → Ar → Rs := fun x y => match y.d with
  | .non => okB (!isNon x.d)
  | _ => .bad
theorem ok_isN : OpOk X W (fun x y H Q => y = .non ∧ Q (.bl (decide (x = .non))) H) gIsN := by
  intro σ F H x y a b ca cb Q fh ra rb p
  unfold gIsN at p
  split at p
  · rename_i e
    have r2 := rb.view fh
    rw [e] at r2
    refine ⟨r2, ?_⟩
    rw [rep_non (ra.view fh)]
    exact post_flat (d := .bl _) fh rfl p
  · exact p.elim
theorem ok_notN : OpOk X W (fun x y H Q => y = .non ∧ Q (.bl (!decide (x = .non))) H) gNotN := by
  intro σ F H x y a b ca cb Q fh ra rb p
  unfold gNotN at p
  split at p
  · rename_i e
    have r2 := rb.view fh
    rw [e] at r2
    refine ⟨r2, ?_⟩
    rw [rep_non (ra.view fh)]
    exact post_flat (d := .bl _) fh rfl p
  · exact p.elim
/-! ### in -/
def eqF : D → D → Bool
  | .non, .non => true
  | .bl a, .bl b => a == b
  | .bl a, .int j => (if a then 1 else 0) == j
  | .int i, .bl b => i == (if b then 1 else 0)
  | .int i, .int j => i == j
  | .str x, .str y => x == y
  | _, _ => false
end
end DL

namespace DL
open PySem PySem.Spec L2
variable {K : PySem.W.Frag} {F F' H H' H0 F0 F1 H1 : Hp} {cs cs' : List Addr} {σ : St} {ρ : Rho}
section
variable {X : Cx} {W : WX} {pos : Pos} {a b c : Expr} {fa fb fc : DE}
/-! ### in -/
def flats (ds : List D) : Bool := ds.all flatD
theorem reps_flat : ∀ {ds vs}, Reps K F ds vs → flats ds = true → vs = ds.map vOf
  | [], _, e, _ => e
  | d :: ds, _, ⟨v, r, e, x, y⟩, h => by
    have h' : flatD d = true ∧ flats ds = true := by simpa [flats] using h
    subst e
    rw [List.map_cons, ← reps_flat y h'.2]
    have : v = vOf d := by
      cases d <;> first | exact x | cases h'.1
    rw [this]
theorem flatV_vOf {d : D} (h : flatD d = true) : flatV (vOf d) = true := by cases d <;> first | rfl | cases h
theorem rep_flat {d v} (r : Rep K F d v) (h : flatD d = true) : v = vOf d := by cases d <;> first | exact r | cases h
theorem flatV_all {ds : List D} (h : flats ds = true) : (ds.map vOf).all flatV = true := by
  rw [List.all_map, List.all_eq_true]
  intro d hd
  exact flatV_vOf (List.all_eq_true.mp h d hd)
@[simp] def keyD : D → Option Key
  | .int i => some (.inl i)
  | .str x => some (.inr x)
  | _ => none
def keysD : List D → Option (List Key)
  | [] => some []
  | d :: ds => match keyD d, keysD ds with
    | some k, some ks => some (k :: ks)
    | _, _ => none
theorem keyD_v {d v k} (r : Rep K F d v) (h : keyD d = some k) : v = kV k := by
  cases d <;> first | (cases h; exact r) | cases h
theorem keysD_v : ∀ {ds vs ks}, Reps K F ds vs → keysD ds = some ks → vs = ks.map kV
  | [], _, _, e, h => by cases h; exact e
  | d :: ds, _, ks, ⟨v, r, e, x, y⟩, h => by
    unfold keysD at h
    split at h
    · rename_i k ks' e1 e2
      cases h
      rw [e, keyD_v x e1, keysD_v y e2]
      rfl
    · cases h
/-- what a dict holds at a key -/
def look {κ : Type} [DecidableEq κ] : List κ → List D → κ → Option D
  | k' :: ks, d :: ds, k => if k' = k then some d else look ks ds k
  | _, _, _ => none
theorem look_val {κ : Type} [DecidableEq κ] : ∀ {ks : List κ} {ds : List D} {vs : List V} {k : κ}, Reps K F ds vs → ks.length = vs.length →
    (look ks ds k = none ∧ valV (ks.zip vs) k = none) ∨ ∃ d v, look ks ds k = some d ∧ valV (ks.zip vs) k = some v ∧ Rep K F d v
  | [], _, _, _, _, _ => .inl ⟨by unfold look; rfl, rfl⟩
  | k' :: ks, [], vs, k, e, l => by cases (show vs = [] from e); cases l
  | k' :: ks, d :: ds, _, k, ⟨v, r, e, x, y⟩, l => by
    subst e
    by_cases h : k' = k
    · exact .inr ⟨d, v, by unfold look; rw [if_pos h], by rw [List.zip_cons_cons, valV_pos (p := (k', v)) h], x⟩
    · rw [List.zip_cons_cons, valV_neg (p := (k', v)) h]
      unfold look
      rw [if_neg h]
      exact look_val y (by simpa using l)
def O.dic : O → D
  | .fz d => d
  | .dK ks vs => .dK ks vs
  | .dT ks vs => .dT ks vs
  | _ => .non
/-- a key's answer: some (some d), some none: not there; none: no such key or dict -/
def dget (x y : Ar) : Option (Option D) := match x.o.dic with
  | .dK ks vs => match keyD y.d with
    | some k => some (look ks vs k)
    | none => none
  | .dT ks vs => match y.d with
    | .tup zs => match keysD zs with
      | some k => some (look ks vs k)
      | none => none
    | _ => none
  | _ => none
def relO (K : PySem.W.Frag) (F : Hp) : Option D → Option V → Prop
  | some d, some z => Rep K F d z
  | none, none => True
  | _, _ => False
theorem dic_K {o : O} {u : V} {c ks vs} (fh : Same F H) (q : ORep K F H o u c) (e : o.dic = .dK ks vs) : ∃ p zs, u = .ref p ∧ Rd H p (.dK (ks.zip zs)) ∧ ks.length = zs.length ∧ Reps K F vs zs := by
  cases o with
  | fz d =>
    have e' : d = .dK ks vs := e
    subst e'
    obtain ⟨_, p, zs, h1, h2, h3, h4⟩ := q
    exact ⟨p, zs, h1, Rd.mono fh h2, h3, h4⟩
  | dK ks' vs' =>
    cases e
    obtain ⟨p, zs, h1, _, h2, h3, h4⟩ := q
    exact ⟨p, zs, h1, .inl h2, h3, h4⟩
  | dT _ _ => cases e
  | lst _ => cases e
  | tup _ => cases e
theorem dic_T {o : O} {u : V} {c ks vs} (fh : Same F H) (q : ORep K F H o u c) (e : o.dic = .dT ks vs) : ∃ p zs, u = .ref p ∧ Rd H p (.dT (ks.zip zs)) ∧ ks.length = zs.length ∧ Reps K F vs zs := by
  cases o with
  | fz d =>
    have e' : d = .dT ks vs := e
    subst e'
    obtain ⟨_, p, zs, h1, h2, h3, h4⟩ := q
    exact ⟨p, zs, h1, Rd.mono fh h2, h3, h4⟩
  | dT ks' vs' =>
    cases e
    obtain ⟨p, zs, h1, _, h2, h3, h4⟩ := q
    exact ⟨p, zs, h1, .inl h2, h3, h4⟩
  | dK _ _ => cases e
  | lst _ => cases e
  | tup _ => cases e
theorem dget_ok {x y : Ar} {u v : V} {c1 c2 : List Addr} {r} (fh : Same F H) (rx : ARep K F H x u c1) (ry : ARep K F H y v c2) (h : dget x y = some r) : ∃ p o, u = .ref p ∧ DGet H p v o ∧ relO K F r o := by
  obtain ⟨c3, q⟩ := rx.some
  have r2 := ry.view fh
  unfold dget at h
  split at h
  · rename_i ks vs e
    split at h
    · rename_i k ek
      cases h
      have hv := keyD_v r2 ek
      obtain ⟨p, zs, e1, e2, e3, e4⟩ := dic_K fh q e
      rcases look_val (k := k) e4 e3 with ⟨l1, l2⟩ | ⟨d, z, l1, l2, l3⟩
      · exact ⟨p, none, e1, .inl ⟨_, k, e2, hv, l2.symm⟩, by rw [l1]; trivial⟩
      · exact ⟨p, some z, e1, .inl ⟨_, k, e2, hv, l2.symm⟩, by rw [l1]; exact l3⟩
    · cases h
  · rename_i ks vs e
    split at h
    · rename_i ws ew
      split at h
      · rename_i k ek
        cases h
        rw [ew] at r2
        obtain ⟨b, us, hv, hb, hr⟩ := r2
        rw [keysD_v hr ek] at hb
        obtain ⟨p, zs, e1, e2, e3, e4⟩ := dic_T fh q e
        rcases look_val (k := k) e4 e3 with ⟨l1, l2⟩ | ⟨d, z, l1, l2, l3⟩
        · exact ⟨p, none, e1, .inr ⟨_, k, b, e2, hv, hb, l2.symm⟩, by rw [l1]; trivial⟩
        · exact ⟨p, some z, e1, .inr ⟨_, k, b, e2, hv, hb, l2.symm⟩, by rw [l1]; exact l3⟩
      · cases h
    · cases h
  · cases h
def gIn (neg : Bool) : Ar → Ar → Rs := fun x y => match y.o.seq with
  | some (_, os) => match allFz os with
    | some ds => if flatD x.d && flats ds then okB (xor neg (inV (vOf x.d) (ds.map vOf))) else .bad
    | none => .bad
  | none => match x.d, y.d with
    | .str s, .str t => okB (xor neg (!(Builtin.Str.occurrences t s 0 t.length 1).isEmpty))
    | _, _ => match dget y x with
      | some r => okB (xor neg r.isSome)
      | none => .bad
abbrev rInX (K : PySem.W.Frag) (neg : Bool) : R2 := fun x y H Q => rIn K neg x y H Q ∨ ((∃ i j, x = .str i ∧ y = .str j ∧ Q (.bl (xor neg (!(Builtin.Str.occurrences j i 0 j.length 1).isEmpty))) H) ∨ ∃ p o, y = .ref p ∧ DGet H p x o ∧ Q (.bl (xor neg o.isSome)) H)
theorem ok_in {neg : Bool} : OpOk X W (rInX X.K neg) (gIn neg) := by
  intro σ F H x y a b ca cb Q fh ra rb p
  have r1 := ra.view fh
  have r2 := rb.view fh
  unfold gIn at p
  split at p
  · rename_i l os e1
    obtain ⟨c2, q2⟩ := rb.orep
    obtain ⟨l, vs, c3, rfl, s1, t1⟩ := seq_rep fh q2 e1
    split at p
    · rename_i ds e2
      rw [allFz_eq e2] at t1
      obtain ⟨_, u1⟩ := OReps.of_fz t1
      split at p
      · rename_i h
        rw [Bool.and_eq_true] at h
        have ex := rep_flat r1 h.1
        have ey := reps_flat u1 h.2
        subst ex ey
        refine .inl ⟨l, _, rfl, ?_, flatV_vOf h.1, flatV_all h.2, ?_⟩
        · revert s1
          split
          · exact .inl
          · exact .inr
        · have := post_flat (d := .bl _) fh rfl p
          cases neg
          · simpa [vOf] using this
          · simpa [vOf] using this
      · exact p.elim
    · exact p.elim
  · split at p
    · rename_i s t e1 e2
      rw [e1] at r1; rw [e2] at r2
      exact .inr (.inl ⟨s, t, r1, r2, post_flat (d := .bl _) fh rfl p⟩)
    · split at p
      · rename_i r e
        obtain ⟨q, o, e1, g, m⟩ := dget_ok fh rb ra e
        refine .inr (.inr ⟨q, o, e1, g, ?_⟩)
        have e2 : o.isSome = r.isSome := by
          cases r <;> cases o <;> first | rfl | exact m.elim | exact (m : False).elim
        rw [e2]
        exact post_flat (d := .bl _) fh rfl p
      · exact p.elim
theorem op_inX (hu : X.A.units + 64 < cLine) : OpR X (compareOp .In) (rInX X.K false) := by
  refine op_in_seq.or (OpR.or ?_ ?_)
  · intro pins s σ H x y v u Q I rx ry ⟨i, j, e1, e2, q⟩
    exact op_in_str pins s σ H x y v u Q I rx ry ⟨i, j, e1, e2, by simpa using q⟩
  · intro pins s σ H x y v u Q I rx ry ⟨p, o, e, g, q⟩
    subst e
    cases ry
    exact d_in (by omega) I g rx fun s' I' => ⟨.bl _, H, I', rfl, by simpa using q⟩
theorem op_notInX (hu : X.A.units + 64 < cLine) : OpR X (compareOp .NotIn) (rInX X.K true) := by
  refine op_notIn_seq.or (OpR.or ?_ ?_)
  · intro pins s σ H x y v u Q I rx ry ⟨i, j, e1, e2, q⟩
    exact op_notIn_str pins s σ H x y v u Q I rx ry ⟨i, j, e1, e2, by simpa using q⟩
  · intro pins s σ H x y v u Q I rx ry ⟨p, o, e, g, q⟩
    subst e
    cases ry
    exact d_notIn (by omega) I g rx fun s' I' => ⟨.bl _, H, I', rfl, by simpa using q⟩
/-! ### subscripts -/
def gIx : Ar → Ar → Rs := fun x y => match x.o.seq, y.d with
  | some (_, os), .int i => match atI os i with
    | some o => .ok (itemAr o)
    | none => .bad
  | _, _ => match x.d, y.d with
    | .str s, .int i => if okLen s.length then match atI s.cps.toList i with
        | some c => .ok (.ow (.fz (.str ⟨#[c]⟩)))
        | none => .bad
      else .bad
    | _, _ => match dget x y with
      | some (some d) => .ok (.ow (.fz d))
      | _ => .bad
theorem post_item {o : O} {v : V} {c σ} {Q : VK} (fh : Same F H) (h : ORep X.K F H o v c) (p : post X W (.ok (itemAr o)) σ F H Q) : Q v H := p F H v [] (Ext.refl fh) (itemAr_rep h) New.nil
open PyProof.Rows in
theorem ix_dic (hu : X.A.units + 64 < cLine) : IxR X (fun x y H Q => ∃ a v, x = .ref a ∧ DGet H a y (some v) ∧ Q v H) := by
  intro value slice pins s σ H x y v u Q I rx ry ⟨a, z, ex, g, q⟩ hs
  subst ex
  cases rx
  have hT := dict_typeIs I g
  unfold subscriptTail
  refine wpAny_bind ?_
  rw [getitemInPython_of_ne hT.not_modules]
  refine wpAny_bind (wpAny_specialOf hT PySem.F.slot_dict_getitem.lookup ?_)
  have fin : wpAny (model X.prog X.w) X.A (subscripted slice false (.ref a) u) (fun r s₃ => wpAny (model X.prog X.w) X.A (letTemporaryGo value (.ref a) r >>= fun _ => pure r) (EP X pins σ Q) X.xe s₃) X.xe s := by
    rw [hs]
    exact wpAny_operating (d_getItem (by omega) I g ry fun w' s3 I3 rw' => wpAny_bind (wpAny_letTemporaryGo (wpAny_pure ⟨z, H, I3, rw', q⟩)))
  first
    | exact wpAny_pure (wpAny_bind fin)
    | exact wpAny_bind (wpAny_pure (wpAny_bind fin))
    | exact wpAny_bind fin
theorem ok_ix : OpOk X W (fun x y H Q => rIx X.K x y H Q ∨ ∃ a v, x = .ref a ∧ DGet H a y (some v) ∧ Q v H) gIx := by
  intro σ F H x y a b ca cb Q fh ra rb p
  have r1 := ra.view fh
  have r2 := rb.view fh
  unfold gIx at p
  split at p
  · rename_i l os i e1 e2
    obtain ⟨c2, q2⟩ := ra.orep
    obtain ⟨q, vs, c3, rfl, s1, t1⟩ := seq_rep fh q2 e1
    rw [e2] at r2
    split at p
    · rename_i o e3
      obtain ⟨v, c4, e4, t4⟩ := t1.atI e3
      have z := post_item fh t4 p
      revert s1
      split
      · exact fun s1 => .inl (.inl ⟨q, vs, i, v, rfl, r2, s1, e4, z⟩)
      · exact fun s1 => .inl (.inr (.inl ⟨q, vs, i, v, rfl, r2, s1, e4, z⟩))
    · exact p.elim
  · split at p
    · rename_i s i e1 e2
      rw [e1] at r1; rw [e2] at r2
      split at p
      · rename_i hl
        split at p
        · rename_i c e3
          exact .inl (.inr (.inr ⟨s, i, c, r1, r2, okLen_le hl, e3, post_flat (d := .str _) fh rfl p⟩))
        · exact p.elim
      · exact p.elim
    · split at p
      · rename_i d e
        obtain ⟨q, o, e1, g, m⟩ := dget_ok fh ra rb e
        cases o with
        | none => exact (m : False).elim
        | some z => exact .inr ⟨q, z, e1, g, post_item (o := .fz d) (c := []) fh ⟨rfl, m⟩ p⟩
      · exact p.elim
theorem ge_ix (hu : X.A.units + 64 < cLine) (ha : GE X W a fa) (hb : GE X W b fb) (hs : PlainIx b := by intro _ _; rfl) : GE X W (.Subscript a b pos) (bin gIx fa fb) :=
  PE.imp (pe_ix (ix_seq.or (ix_dic hu)) ha hb hs) (tOp_of ok_ix)
end
end DL

namespace DL
open PySem PySem.Spec L2
variable {K : PySem.W.Frag} {F F' H H' H0 F0 F1 H1 : Hp} {cs cs' : List Addr} {σ : St} {ρ : Rho}
theorem New.ext (e : Ext F H F' H') {G : Hp} (n : New H' G cs) : New H G cs := ⟨n.nd, fun c hc => ⟨e.hh.free (n.nw c hc).1, (n.nw c hc).2⟩⟩
theorem AReps.ext : ∀ {as vs cs}, Ext F H F' H' → AReps K F H as vs cs → AReps K F' H' as vs cs
  | [], _, _, _, h => h
  | a :: as, _, _, e, ⟨v, r, c1, c2, e1, e2, x, y⟩ => ⟨v, r, c1, c2, e1, e2, x.ext e, AReps.ext e y⟩
theorem AReps.there : ∀ {as vs cs}, AReps K F H as vs cs → ∀ c ∈ cs, H c ≠ none
  | [], _, _, ⟨_, e⟩, c, hc => by rw [e] at hc; cases hc
  | a :: as, _, _, ⟨v, r, c1, c2, e1, e2, x, y⟩, c, hc => by
    rw [e2] at hc
    rcases List.mem_append.mp hc with h | h
    · exact x.there c h
    · exact AReps.there y c h
theorem AReps.view (h : Same F H) : ∀ {as vs cs}, AReps K F H as vs cs → Reps K H (as.map Ar.d) vs
  | [], _, _, ⟨e, _⟩ => e
  | a :: as, _, _, ⟨v, r, c1, c2, e1, e2, x, y⟩ => ⟨v, r, e1, x.view h, AReps.view h y⟩
theorem AReps.len : ∀ {as vs cs}, AReps K F H as vs cs → as.length = vs.length
  | [], _, _, ⟨e, _⟩ => by rw [e]; rfl
  | a :: as, _, _, ⟨v, r, c1, c2, e1, e2, x, y⟩ => by rw [e1]; simp [AReps.len y]
section
variable {X : Cx} {W : WX} {pos : Pos} {a b c : Expr} {fa fb fc : DE}
/-! ### argument lists -/
def nilA : DA := fun _ => .ok []
def consA (f : DE) (g : DA) : DA := fun ρ => match f ρ with
  | .ok a => match g ρ with
    | .ok as => .ok (a :: as)
    | .ex c => .ex c
    | .bad => .bad
  | .ex c => .ex c
  | .bad => .bad
theorem ga_nil : GA X W [] nilA := PA.imp pa_nil fun σ H Q ⟨F0, H0, ρ, F, cs, R, p⟩ => p F H [] [] (Ext.refl R.fh) ⟨rfl, rfl⟩ New.nil
theorem postA_ext {r : Rm} {σ : St} {Q : List V → Hp → Prop} (e : Ext F H F' H') (h : postA X W r σ F H Q) : postA X W r σ F' H' Q := by
  cases r with
  | ok a => exact fun F2 H2 v cs e2 r n => h F2 H2 v cs (e.trans e2) r (n.ext e)
  | ex c => exact fun F2 H2 C e2 m => h F2 H2 C (e.trans e2) m
  | bad => exact h.elim
theorem ga_cons {e : Expr} {es : List Expr} {f : DE} {g : DA} (hf : GE X W e f) (hg : GA X W es g) (hs : starEach (e :: es) X.env = (false, eval e X.env) :: starEach es X.env := by rfl) : GA X W (e :: es) (consA f g) := by
  refine PA.imp (pa_cons hf hg hs) fun σ H Q ⟨F0, H0, ρ, F, cs, R, p⟩ => ?_
  refine ⟨F0, H0, ρ, F, cs, R, ?_⟩
  unfold consA at p
  cases q : f ρ with
  | bad => rw [q] at p; exact p
  | ex c => rw [q] at p; exact p
  | ok a =>
    rw [q] at p
    intro F1 H1 v c1 e1 r1 n1
    refine ⟨F0, H0, ρ, F1, cs, R.ext e1, ?_⟩
    cases q2 : g ρ with
    | bad => rw [q2] at p; exact p
    | ex c => rw [q2] at p; exact fun F2 H2 C e2 m => p F2 H2 C (e1.trans e2) m
    | ok as =>
      rw [q2] at p
      intro F2 H2 vs c2 e2 r2 n2
      refine p F2 H2 (v :: vs) (c1 ++ c2) (e1.trans e2) ⟨v, vs, c1, c2, rfl, rfl, r1.ext e2, r2⟩ ⟨?_, fun c hc => ?_⟩
      · rw [List.nodup_append]
        exact ⟨n1.nd, n2.nd, fun a ha b hb e => by subst e; exact r1.there a ha (n2.nw a hb).1⟩
      · rcases List.mem_append.mp hc with h | h
        · exact ⟨(n1.nw c h).1, e2.nf (r1.there c h) (n1.nw c h).2⟩
        · exact ⟨e1.hh.free (n2.nw c h).1, (n2.nw c h).2⟩
/-! ### displays -/
@[simp] def owAll : List Ar → Option (List O)
  | [] => some []
  | .ow o :: as => match owAll as with
    | some os => some (o :: os)
    | none => none
  | .vw _ :: _ => none
theorem owAll_rep : ∀ {as os vs cs}, AReps K F H as vs cs → owAll as = some os → OReps K F H os vs cs
  | [], _, _, _, e, h => by cases h; exact e
  | .ow o :: as, os, _, _, ⟨v, r, c1, c2, e1, e2, x, y⟩, h => by
    unfold owAll at h
    split at h
    · rename_i os' e
      cases h
      exact ⟨v, r, c1, c2, e1, e2, x, owAll_rep y e⟩
    · cases h
  | .vw _ :: as, _, _, _, _, h => by cases h
def lstE (f : DA) : DE := fun ρ => match f ρ with
  | .ok as => match owAll as with
    | some os => if okLen os.length then .ok (.ow (.lst os)) else .bad
    | none => .bad
  | .ex c => .ex c
  | .bad => .bad
def tupE (f : DA) : DE := fun ρ => match f ρ with
  | .ok as => match owAll as with
    | some os => if okLen os.length then (match allFz os with
      | some ds => .ok (.ow (.fz (.tup ds)))
      | none => .ok (.ow (.tup os))) else .bad
    | none => .bad
  | .ex c => .ex c
  | .bad => .bad
theorem new_cons {p : Addr} {G : Hp} (fh : Same G H) (np : H p = none) (n : New H0 G cs) (hs : Same H0 H) (th : ∀ c ∈ cs, H c ≠ none) : New H0 G (p :: cs) :=
  ⟨List.nodup_cons.mpr ⟨fun h => th p h np, n.nd⟩, fun c hc => by
    rcases List.mem_cons.mp hc with rfl | h
    · exact ⟨hs.free np, fh.free np⟩
    · exact n.nw c h⟩
theorem OReps.upd {os vs cs} {p : Addr} {o : HO} (np : H p = none) (r : OReps K F H os vs cs) : OReps K F (L2.upd H p o) os vs cs := r.frame (Same.refl _) fun c hc => upd_ne fun e => by subst e; exact r.there _ hc np
theorem ORep.upd {x v cs} {p : Addr} {o : HO} (np : H p = none) (r : ORep K F H x v cs) : ORep K F (L2.upd H p o) x v cs := r.frame (Same.refl _) fun c hc => upd_ne fun e => by subst e; exact r.there _ hc np
theorem same_upd' {p : Addr} {o : HO} (np : H p = none) : Same H (L2.upd H p o) := fun b u q => by rw [upd_ne (ne_of_none q np)]; exact q
theorem ge_lst {es : List Expr} {f : DA} (h : GA X W es f) : GE X W (.List es pos) (lstE f) := by
  refine PE.imp (pe_lst h) fun σ H Q ⟨F0, H0, ρ, F, cs, R, p⟩ => ?_
  refine ⟨F0, H0, ρ, F, cs, R, ?_⟩
  unfold lstE at p
  cases q : f ρ with
  | bad => rw [q] at p; exact p
  | ex c => rw [q] at p; exact p
  | ok as =>
    rw [q] at p
    intro F1 H1 vs c1 e1 r1 n1
    dsimp only at p
    split at p
    · rename_i os eo
      split at p
      · rename_i hl
        have r2 := owAll_rep r1 eo
        refine ⟨by rw [← r2.len]; exact okLen_le hl, fun l nl => ?_⟩
        exact p F1 _ (.ref l) (l :: c1) (e1.trans (ext_new e1.fh nl)) ⟨l, vs, c1, rfl, rfl, upd_same, r2.upd nl⟩ (new_cons e1.fh nl n1 e1.hh r2.there)
      · exact p.elim
    · exact p.elim
theorem ge_tup {es : List Expr} {k : Nat} {f : DA} (h : GA X W es f) : GE X W (.Tuple es k pos) (tupE f) := by
  refine PE.imp (pe_tup h) fun σ H Q ⟨F0, H0, ρ, F, cs, R, p⟩ => ?_
  refine ⟨F0, H0, ρ, F, cs, R, ?_⟩
  unfold tupE at p
  cases q : f ρ with
  | bad => rw [q] at p; exact p
  | ex c => rw [q] at p; exact p
  | ok as =>
    rw [q] at p
    intro F1 H1 vs c1 e1 r1 n1
    dsimp only at p
    split at p
    · rename_i os eo
      split at p
      · rename_i hl
        have r2 := owAll_rep r1 eo
        refine ⟨by rw [← r2.len]; exact okLen_le hl, fun l nl => ?_⟩
        split at p
        · rename_i ds ed
          rw [allFz_eq ed] at r2
          obtain ⟨_, r3⟩ := OReps.of_fz r2
          have nf : F1 l = none := e1.fh.free nl
          have f2 : Same F1 (L2.upd F1 l (.tup vs)) := same_upd' nf
          refine p (L2.upd F1 l (.tup vs)) _ (.ref l) [] ⟨e1.hh.trans (same_upd' nl), e1.ff.trans f2, fun b u q => ?_, fun b hb => ?_⟩ ⟨rfl, l, vs, rfl, upd_same, r3.mono f2⟩ New.nil
          · by_cases hbl : b = l
            · subst hbl; rw [upd_same] at q ⊢; exact q
            · rw [upd_ne hbl] at q ⊢; exact e1.fh b u q
          · have : b ≠ l := fun e => by subst e; exact hb (e1.hh.free nl)
            rw [upd_ne this]; exact e1.nw b hb
        · exact p F1 _ (.ref l) (l :: c1) (e1.trans (ext_new e1.fh nl)) ⟨l, vs, c1, rfl, rfl, upd_same, r2.upd nl⟩ (new_cons e1.fh nl n1 e1.hh r2.there)
      · exact p.elim
    · exact p.elim
/-! ### calls of built-ins -/
def VCall (X : Cx) (W : WX) (r : List V → Hp → VK → Prop) (g : List Ar → Rs) : Prop := ∀ (σ : St) (F H : Hp) (vs : List V) (as : List Ar) (cs : List Addr) (Q : VK), Same F H → AReps X.K F H as vs cs → post X W (g as) σ F H Q → r vs H Q
def callB (g : List Ar → Rs) (f : DA) : DE := fun ρ => match f ρ with
  | .ok as => g as
  | .ex c => .ex c
  | .bad => .bad
theorem tCB_of {r : List V → Hp → VK → Prop} {g : List Ar → Rs} {f : DA} (vc : VCall X W r g) : ∀ σ H Q, tE X W (callB g f) σ H Q → tCB r (tA X W f) σ H Q := fun σ H Q ⟨F0, H0, ρ, F, cs, R, p⟩ => by
  refine ⟨F0, H0, ρ, F, cs, R, ?_⟩
  unfold callB at p
  cases q : f ρ with
  | bad => rw [q] at p; exact p
  | ex c => rw [q] at p; exact p
  | ok as =>
    rw [q] at p
    intro F1 H1 vs c1 e1 r1 n1
    exact vc σ F1 H1 vs as c1 Q e1.fh r1 (post_ext e1 p)
theorem ge_callB {x : Str} {id : String} {p : Pos} {e : Expr} {es : List Expr} {r : List V → Hp → VK → Prop} {g : List Ar → Rs} {f : DA} (hc : CallR X (.builtin id) r) (vc : VCall X W r g) (hm : X.mg x = none) (ha : GA X W (e :: es) f) (hg : Gl X x := by rfl) (hv : bootBuiltins x = some (.builtin id) := by decide +kernel)
    (hn : x ≠ "__name__" := by decide) (hdb : (x == ("__debug__" : Str)) = false := by decide)
    (he : starEach (e :: es) X.env = (false, eval e X.env) :: starEach es X.env := by rfl) (hpl : (backTo pos (starEach es X.env)).any (·.1) = false := by rfl) : GE X W (.Call (.Name x p) (e :: es) [] pos) (callB g f) :=
  PE.imp (pe_callB hc hg hm hv ha hn hdb he hpl) (tCB_of vc)
theorem ge_callTy {x : Str} {T : String} {p : Pos} {e : Expr} {es : List Expr} {r : List V → Hp → VK → Prop} {g : List Ar → Rs} {f : DA} (hc : CallR X (.type T) r) (vc : VCall X W r g) (hm : X.mg x = none) (ha : GA X W (e :: es) f) (hg : Gl X x := by rfl) (hv : bootBuiltins x = some (.type T) := by decide +kernel)
    (hn : x ≠ "__name__" := by decide) (hdb : (x == ("__debug__" : Str)) = false := by decide)
    (he : starEach (e :: es) X.env = (false, eval e X.env) :: starEach es X.env := by rfl) (hpl : (backTo pos (starEach es X.env)).any (·.1) = false := by rfl) : GE X W (.Call (.Name x p) (e :: es) [] pos) (callB g f) :=
  PE.imp (pe_callTy hc hg hm hv ha hn hdb he hpl) (tCB_of vc)
theorem areps1 {a vs cs} (r : AReps K F H [a] vs cs) : ∃ v, vs = [v] ∧ ARep K F H a v cs := by
  obtain ⟨v, r', c1, c2, e1, e2, x, e3, e4⟩ := r
  subst e1 e2 e3 e4
  exact ⟨v, rfl, by rw [List.append_nil]; exact x⟩
theorem areps2 {a b vs cs} (r : AReps K F H [a, b] vs cs) : ∃ v u c1 c2, vs = [v, u] ∧ ARep K F H a v c1 ∧ ARep K F H b u c2 := by
  obtain ⟨v, r', c1, c2, e1, e2, x, y⟩ := r
  obtain ⟨u, e3, z⟩ := areps1 y
  subst e1 e3
  exact ⟨v, u, c1, c2, rfl, x, z⟩
/-- len -/
@[simp] def gLen : List Ar → Rs
  | [a] => match a.o.seq with
    | some (_, os) => okI os.length
    | none => match a.o.dic with
      | .str s => if okLen s.length then okI s.length else .bad
      | .dK ks _ => okI ks.length
      | _ => .bad
  | _ => .bad
theorem call_lenX : CallR X (.builtin "len") (fun xs H Q => (∃ x n, xs = [x] ∧ LenV X.K x H n ∧ Q (.int n) H) ∨ ∃ a kvs, xs = [.ref a] ∧ Rd H a (.dK kvs) ∧ Q (.int kvs.length) H) := by
  refine call_len.or ?_
  intro pins s σ H xs us Q I r ⟨a, kvs, e, g, q⟩
  subst e
  rw [Vals.ref1 r]
  exact d_len I g fun t s' I' => ⟨.int _, H, I', ⟨_, rfl⟩, q⟩
theorem vc_len : VCall X W (fun xs H Q => (∃ x n, xs = [x] ∧ LenV X.K x H n ∧ Q (.int n) H) ∨ ∃ a kvs, xs = [.ref a] ∧ Rd H a (.dK kvs) ∧ Q (.int kvs.length) H) gLen := by
  intro σ F H vs as cs Q fh r p
  unfold gLen at p
  split at p
  · rename_i a
    obtain ⟨v, rfl, ra⟩ := areps1 r
    obtain ⟨c, q⟩ := ra.some
    split at p
    · rename_i l os e
      obtain ⟨u, vs, c2, rfl, s, t⟩ := seq_rep fh q e
      have z := post_flat (d := .int _) fh rfl p
      rw [t.len] at z
      refine .inl ⟨_, vs.length, rfl, ?_, z⟩
      revert s
      split
      · exact fun s => .inl ⟨vs, s, rfl⟩
      · exact fun s => .inr ⟨vs, s, rfl⟩
    · split at p
      · rename_i s e
        split at p
        · rename_i hl
          have : v = .str s := by
            have e' : a.o = .fz (.str s) := by
              cases h : a.o <;> rw [h] at e <;> first | exact congrArg O.fz (show _ = D.str s from e) | cases e
            rw [e'] at q
            exact q.2
          exact .inl ⟨v, s.length, rfl, by rw [this]; exact ⟨okLen_le hl, rfl⟩, post_flat (d := .int _) fh rfl p⟩
        · exact p.elim
      · rename_i ks ds e
        obtain ⟨p', zs, e1, e2, e3, e4⟩ := dic_K fh q e
        subst e1
        have z := post_flat (d := .int _) fh rfl p
        exact .inr ⟨p', _, rfl, e2, by
          have : (ks.zip zs).length = ks.length := by rw [List.length_zip, ← e3, Nat.min_self]
          rw [this]; exact z⟩
      · exact p.elim
  · exact p.elim
end
end DL

namespace DL
open PySem PySem.Spec L2
variable {K : PySem.W.Frag} {F F' H H' H0 F0 F1 H1 : Hp} {cs cs' : List Addr} {σ : St} {ρ : Rho}
section
variable {X : Cx} {W : WX} {pos : Pos} {a b c : Expr} {fa fb fc : DE}
/-! ### more built-ins -/
@[simp] def g1I (g : Int → Int) : List Ar → Rs
  | [a] => match a.d with
    | .int i => okI (g i)
    | _ => .bad
  | _ => .bad
@[simp] def g2I (g : Int → Int → Int) : List Ar → Rs
  | [a, b] => match a.d, b.d with
    | .int i, .int j => okI (g i j)
    | _, _ => .bad
  | _ => .bad
theorem vc_1I {g : Int → Int} : VCall X W (fun xs H Q => ∃ i, xs = [.int i] ∧ Q (.int (g i)) H) (g1I g) := by
  intro σ F H vs as cs Q fh r p
  unfold g1I at p
  split at p
  · rename_i a
    obtain ⟨v, rfl, ra⟩ := areps1 r
    have r1 := ra.view fh
    split at p
    · rename_i i e
      rw [e] at r1
      exact ⟨i, by rw [show v = .int i from r1], post_flat (d := .int _) fh rfl p⟩
    · exact p.elim
  · exact p.elim
theorem vc_2I {g : Int → Int → Int} : VCall X W (fun xs H Q => ∃ i j, xs = [.int i, .int j] ∧ Q (.int (g i j)) H) (g2I g) := by
  intro σ F H vs as cs Q fh r p
  unfold g2I at p
  split at p
  · rename_i a b
    obtain ⟨v, u, c1, c2, rfl, ra, rb⟩ := areps2 r
    have r1 := ra.view fh
    have r2 := rb.view fh
    split at p
    · rename_i i j e1 e2
      rw [e1] at r1; rw [e2] at r2
      exact ⟨i, j, by rw [show v = .int i from r1, show u = .int j from r2], post_flat (d := .int _) fh rfl p⟩
    · exact p.elim
  · exact p.elim
def gInt1 : List Ar → Rs
  | [a] => match a.d with
    | .int i => okI i
    | .bl b => okI (if b then 1 else 0)
    | .str s => match PySem.intText? s with
      | some n => if decide (s.length ≤ 640) then okI n else .bad
      | none => .bad
    | _ => .bad
  | _ => .bad
abbrev rInt1 : List V → Hp → VK → Prop := fun xs H Q => ((∃ i, xs = [.int i] ∧ Q (.int i) H) ∨ ∃ k, xs = [.bl k] ∧ Q (.int (if k then 1 else 0)) H) ∨ ∃ a n, xs = [.str a] ∧ PySem.intText? a = some n ∧ a.length ≤ 640 ∧ Q (.int n) H
theorem vc_int1 : VCall X W rInt1 gInt1 := by
  intro σ F H vs as cs Q fh r p
  unfold gInt1 at p
  split at p
  · rename_i a
    obtain ⟨v, rfl, ra⟩ := areps1 r
    have r1 := ra.view fh
    split at p
    · rename_i i e
      rw [e] at r1
      exact .inl (.inl ⟨i, by rw [show v = .int i from r1], post_flat (d := .int _) fh rfl p⟩)
    · rename_i i e
      rw [e] at r1
      exact .inl (.inr ⟨i, by rw [show v = .bl i from r1], post_flat (d := .int _) fh rfl p⟩)
    · rename_i s e
      rw [e] at r1
      split at p
      · rename_i n en
        split at p
        · rename_i hl
          exact .inr ⟨s, n, by rw [show v = .str s from r1], en, of_decide_eq_true hl, post_flat (d := .int _) fh rfl p⟩
        · exact p.elim
      · exact p.elim
    · exact p.elim
  · exact p.elim
theorem call_int1X : CallR X (.type "int") rInt1 := call_int1.or call_int_str
def gStr1 : List Ar → Rs
  | [a] => match a.d with
    | .int i => if decide (i.natAbs.log2 < 1920) then .ok (.ow (.fz (.str (toString i)))) else .bad
    | _ => .bad
  | _ => .bad
theorem vc_str1 : VCall X W (fun xs H Q => ∃ i, xs = [.int i] ∧ i.natAbs.log2 < 1920 ∧ Q (.str (toString i)) H) gStr1 := by
  intro σ F H vs as cs Q fh r p
  unfold gStr1 at p
  split at p
  · rename_i a
    obtain ⟨v, rfl, ra⟩ := areps1 r
    have r1 := ra.view fh
    split at p
    · rename_i i e
      rw [e] at r1
      split at p
      · rename_i hl
        exact ⟨i, by rw [show v = .int i from r1], of_decide_eq_true hl, post_flat (d := .str _) fh rfl p⟩
      · exact p.elim
    · exact p.elim
  · exact p.elim
/-- list(x), tuple(x) -/
@[simp] def gList : List Ar → Rs
  | [a] => match a.o.seq with
    | some (_, os) => match allFz os with
      | some ds => .ok (.ow (.lst (ds.map .fz)))
      | none => .bad
    | none => .bad
  | _ => .bad
theorem vc_list : VCall X W (fun xs H Q => ∃ p ys, xs = [.ref p] ∧ (SqL X.K H p ys ∨ SqT X.K H p ys) ∧ ∀ l, H l = none → Q (.ref l) (upd H l (.lst ys))) gList := by
  intro σ F H vs as cs Q fh r p
  unfold gList at p
  split at p
  · rename_i a
    obtain ⟨v, rfl, ra⟩ := areps1 r
    obtain ⟨c, q⟩ := ra.some
    split at p
    · rename_i l os e
      obtain ⟨u, vs, c2, rfl, s, t⟩ := seq_rep fh q e
      split at p
      · rename_i ds ed
        rw [allFz_eq ed] at t
        obtain ⟨_, t2⟩ := OReps.of_fz t
        refine ⟨u, vs, rfl, ?_, fun l nl => post_lst fh nl t2 rfl p⟩
        revert s
        split
        · exact .inl
        · exact .inr
      · exact p.elim
    · exact p.elim
  · exact p.elim
/-- ints of data -/
@[simp] def intsD : List D → Option (List Int)
  | [] => some []
  | .int i :: ds => match intsD ds with
    | some is => some (i :: is)
    | none => none
  | _ :: _ => none
theorem intsD_map : ∀ ns : List Int, intsD (ns.map .int) = some ns
  | [] => rfl
  | n :: ns => by rw [List.map_cons, intsD, intsD_map ns]
theorem intsD_eq : ∀ {ds ns}, intsD ds = some ns → ds = ns.map .int
  | [], _, h => by cases h; rfl
  | .int i :: ds, ns, h => by
    unfold intsD at h
    cases q : intsD ds with
    | none => rw [q] at h; cases h
    | some is => rw [q] at h; cases h; rw [List.map_cons, ← intsD_eq q]
  | .non :: _, _, h => by cases h
  | .bl _ :: _, _, h => by cases h
  | .str _ :: _, _, h => by cases h
  | .lst _ :: _, _, h => by cases h
  | .tup _ :: _, _, h => by cases h
  | .dK _ _ :: _, _, h => by cases h
  | .dT _ _ :: _, _, h => by cases h
/-- a list of ints that is read -/
@[simp] def intsA (a : Ar) : Option (List Int) := match a.o.seq with
  | some (true, os) => match allFz os with
    | some ds => intsD ds
    | none => none
  | _ => none
theorem intsA_rep {a : Ar} {v : V} {ns : List Int} (fh : Same F H) (r : ARep K F H a v cs) (h : intsA a = some ns) : ∃ p, v = .ref p ∧ SqL K H p (ns.map V.int) := by
  obtain ⟨c, q⟩ := r.some
  unfold intsA at h
  split at h
  · rename_i os e
    obtain ⟨u, vs, c2, rfl, s, t⟩ := seq_rep fh q e
    split at h
    · rename_i ds ed
      rw [allFz_eq ed] at t
      obtain ⟨_, t2⟩ := OReps.of_fz t
      rw [intsD_eq h] at t2
      rw [Reps.ints.mp t2] at s
      exact ⟨u, rfl, s⟩
    · cases h
  · cases h
/-- the rising order of ints -/
def insI (x : Int) : List Int → List Int
  | [] => [x]
  | y :: r => if x ≤ y then x :: y :: r else y :: insI x r
def sortI : List Int → List Int
  | [] => []
  | x :: r => insI x (sortI r)
theorem insI_perm (x : Int) : ∀ l : List Int, (insI x l).Perm (x :: l)
  | [] => List.Perm.refl _
  | y :: r => by
    unfold insI
    split
    · exact List.Perm.refl _
    · exact (List.Perm.cons y (insI_perm x r)).trans (List.Perm.swap x y r)
theorem insI_sorted (x : Int) : ∀ l : List Int, l.Pairwise (· ≤ ·) → (insI x l).Pairwise (· ≤ ·)
  | [], _ => by simp [insI]
  | y :: r, h => by
    unfold insI
    rw [List.pairwise_cons] at h
    split
    · rename_i hxy
      rw [List.pairwise_cons]
      refine ⟨fun z hz => ?_, List.pairwise_cons.mpr h⟩
      rcases List.mem_cons.mp hz with rfl | hz
      · exact hxy
      · exact Int.le_trans hxy (h.1 z hz)
    · rename_i hxy
      rw [List.pairwise_cons]
      refine ⟨fun z hz => ?_, insI_sorted x r h.2⟩
      rcases List.mem_cons.mp ((insI_perm x r).mem_iff.mp hz) with rfl | hz
      · omega
      · exact h.1 z hz
theorem sortI_perm : ∀ l : List Int, (sortI l).Perm l
  | [] => List.Perm.refl _
  | x :: r => (insI_perm x _).trans (List.Perm.cons x (sortI_perm r))
theorem sortI_sorted : ∀ l : List Int, (sortI l).Pairwise (· ≤ ·)
  | [] => List.Pairwise.nil
  | x :: r => insI_sorted x _ (sortI_sorted r)
theorem sorted_uniq : ∀ {l m : List Int}, l.Perm m → l.Pairwise (· ≤ ·) → m.Pairwise (· ≤ ·) → l = m
  | [], m, p, _, _ => (List.Perm.nil_eq p)
  | x :: l, [], p, _, _ => absurd p.length_eq (by simp)
  | x :: l, y :: m, p, h1, h2 => by
    rw [List.pairwise_cons] at h1 h2
    have e : x = y := by
      have a1 : x ∈ y :: m := p.mem_iff.mp List.mem_cons_self
      have a2 : y ∈ x :: l := p.mem_iff.mpr List.mem_cons_self
      rcases List.mem_cons.mp a1 with e | a1
      · exact e
      · rcases List.mem_cons.mp a2 with e | a2
        · exact e.symm
        · exact Int.le_antisymm (h1.1 y a2) (h2.1 x a1)
    subst e
    rw [sorted_uniq ((List.perm_cons x).mp p) h1.2 h2.2]
@[simp] def gSorted : List Ar → Rs
  | [a] => match intsA a with
    | some ns => .ok (.ow (.lst (((sortI ns).map D.int).map .fz)))
    | none => .bad
  | _ => .bad
theorem vc_sorted : VCall X W (rSortedI X.K) gSorted := by
  intro σ F H vs as cs Q fh r p
  unfold gSorted at p
  split at p
  · rename_i a
    obtain ⟨v, rfl, ra⟩ := areps1 r
    split at p
    · rename_i ns e
      obtain ⟨u, rfl, s⟩ := intsA_rep fh ra e
      refine ⟨u, ns, rfl, s, fun ns' q pm sd nq => ?_⟩
      rw [sorted_uniq (pm.trans (sortI_perm ns).symm) sd (sortI_sorted ns)]
      exact post_lst fh nq (Reps.ints.mpr rfl) rfl p
    · exact p.elim
  · exact p.elim
/-- max, min of a list of ints -/
def maxI : List Int → Int
  | [] => 0
  | [x] => x
  | x :: r => max x (maxI r)
def minI : List Int → Int
  | [] => 0
  | [x] => x
  | x :: r => min x (minI r)
theorem maxI_spec : ∀ {l : List Int}, l ≠ [] → maxI l ∈ l ∧ ∀ y ∈ l, y ≤ maxI l
  | [], h => absurd rfl h
  | [x], _ => by simp [maxI]
  | x :: y :: r, _ => by
    obtain ⟨h1, h2⟩ := maxI_spec (l := y :: r) (by simp)
    show max x (maxI (y :: r)) ∈ _ ∧ ∀ z ∈ _, z ≤ max x (maxI (y :: r))
    refine ⟨?_, fun z hz => ?_⟩
    · by_cases h : x ≤ maxI (y :: r)
      · rw [Int.max_eq_right h]; exact List.mem_cons_of_mem _ h1
      · rw [Int.max_eq_left (by omega)]; exact List.mem_cons_self
    · rcases List.mem_cons.mp hz with rfl | hz
      · omega
      · have := h2 z hz; omega
theorem minI_spec : ∀ {l : List Int}, l ≠ [] → minI l ∈ l ∧ ∀ y ∈ l, minI l ≤ y
  | [], h => absurd rfl h
  | [x], _ => by simp [minI]
  | x :: y :: r, _ => by
    obtain ⟨h1, h2⟩ := minI_spec (l := y :: r) (by simp)
    show min x (minI (y :: r)) ∈ _ ∧ ∀ z ∈ _, min x (minI (y :: r)) ≤ z
    refine ⟨?_, fun z hz => ?_⟩
    · by_cases h : x ≤ minI (y :: r)
      · rw [Int.min_eq_left h]; exact List.mem_cons_self
      · rw [Int.min_eq_right (by omega)]; exact List.mem_cons_of_mem _ h1
    · rcases List.mem_cons.mp hz with rfl | hz
      · omega
      · have := h2 z hz; omega
@[simp] def gL1 (g : List Int → Int) : List Ar → Rs
  | [a] => match intsA a with
    | some (n :: ns) => okI (g (n :: ns))
    | _ => .bad
  | _ => .bad
theorem vc_max1 : VCall X W (rMax X.K) (gL1 maxI) := by
  intro σ F H vs as cs Q fh r p
  unfold gL1 at p
  split at p
  · rename_i a
    obtain ⟨v, rfl, ra⟩ := areps1 r
    split at p
    · rename_i n ns e
      obtain ⟨u, rfl, s⟩ := intsA_rep fh ra e
      refine ⟨u, _, rfl, s, by simp, fun m hm hle => ?_⟩
      have sp := maxI_spec (l := n :: ns) (by simp)
      have : m = maxI (n :: ns) := Int.le_antisymm (sp.2 m hm) (hle _ sp.1)
      rw [this]
      exact post_flat (d := .int _) fh rfl p
    · exact p.elim
  · exact p.elim
theorem vc_min1 : VCall X W (rMin X.K) (gL1 minI) := by
  intro σ F H vs as cs Q fh r p
  unfold gL1 at p
  split at p
  · rename_i a
    obtain ⟨v, rfl, ra⟩ := areps1 r
    split at p
    · rename_i n ns e
      obtain ⟨u, rfl, s⟩ := intsA_rep fh ra e
      refine ⟨u, _, rfl, s, by simp, fun m hm hle => ?_⟩
      have sp := minI_spec (l := n :: ns) (by simp)
      have : m = minI (n :: ns) := Int.le_antisymm (hle _ sp.1) (sp.2 m hm)
      rw [this]
      exact post_flat (d := .int _) fh rfl p
    · exact p.elim
  · exact p.elim
/-- isinstance(x, T), T a built-in type -/
def tyD : D → String
  | .non => "NoneType" | .bl _ => "bool" | .int _ => "int" | .str _ => "str" | .lst _ => "list" | .tup _ => "tuple" | .dK _ _ => "dict" | .dT _ _ => "dict" | .exc _ => "exc"
theorem rep_ty {d : D} {v : V} (r : Rep K H d v) (hd : ∀ ks vs, d ≠ .dK ks vs ∧ ∀ ks vs, d ≠ .dT ks vs) (hx : ∀ c, d ≠ .exc c) : TyX K H v (.type (tyD d)) := by
  cases d with
  | non => cases (show v = .non from r); exact .base .non
  | bl b => cases (show v = .bl b from r); exact .base (.bl b)
  | int b => cases (show v = .int b from r); exact .base (.int b)
  | str b => cases (show v = .str b from r); exact .base (.str b)
  | lst ds =>
    obtain ⟨a, vs, rfl, s, _⟩ := r
    rcases s with (s | ⟨o, s⟩) | ⟨o, its, n, s, c, _⟩
    · exact .base (.lst s)
    · exact .base (.frz s)
    · exact .kList s c
  | tup ds =>
    obtain ⟨a, vs, rfl, s, _⟩ := r
    exact .base (.tup s)
  | dK ks vs => exact absurd rfl (hd ks vs).1
  | dT ks vs => exact absurd rfl ((hd [] []).2 ks vs)
  | exc c => exact absurd rfl (hx c)
def isiD (T : String) (d : D) : Rs := match d with
  | .dK _ _ => .bad
  | .dT _ _ => .bad
  | .exc _ => .bad
  | d => match kitB (tyD d) T with
    | some b => okB b
    | none => .bad
def isiE (T : String) (f : DE) : DE := fun ρ => (f ρ).bind fun a => isiD T a.d
theorem ge_isi {p p2 : Pos} {T : String} {x : Str} (hm : X.mg "isinstance" = none) (hmT : X.mg x = none) (ha : GE X W a fa) (hg : Gl X "isinstance" := by rfl) (hgT : Gl X x := by rfl) (hv : bootBuiltins x = some (.type T) := by decide +kernel) (hn : x ≠ "__name__" := by decide) (hd : (x == ("__debug__" : Str)) = false := by decide)
    (he : starEach (a :: [.Name x p2]) X.env = (false, eval a X.env) :: starEach [.Name x p2] X.env := by rfl) (hpl : (backTo pos (starEach [.Name x p2] X.env)).any (·.1) = false := by rfl)
    (hs2 : starEach (.Name x p2 :: []) X.env = (false, eval (.Name x p2) X.env) :: starEach [] X.env := by rfl) :
    GE X W (.Call (.Name "isinstance" p) [a, .Name x p2] [] pos) (isiE T fa) := by
  refine PE.imp (pe_callB call_isi hg hm (by decide +kernel) (pa_cons ha (pa_cons (pe_bltn (v := .ty T) hgT hmT hv rfl hn hd) pa_nil hs2) he) (by decide) (by decide) he hpl) fun σ H Q ⟨F0, H0, ρ, F, cs, R, p⟩ => ?_
  refine ⟨F0, H0, ρ, F, cs, R, ?_⟩
  unfold isiE at p
  cases q : fa ρ with
  | bad => rw [q] at p; exact p
  | ex c => rw [q] at p; exact p
  | ok a =>
    rw [q] at p
    intro F1 H1 v c1 e1 r1 n1
    have p : post X W (isiD T a.d) σ F H Q := p
    have r2 := r1.view e1.fh
    have key : ∀ b, (∀ ks vs, a.d ≠ .dK ks vs ∧ ∀ ks vs, a.d ≠ .dT ks vs) → (∀ c, a.d ≠ .exc c) → kitB (tyD a.d) T = some b → Q (.bl b) H1 → rIsi X.K [v, .ty T] H1 Q := fun b hd hx hk hq =>
      ⟨v, .ty T, _, _, b, rfl, .ty T, rep_ty r2 hd hx, kit_ty hk, hq⟩
    unfold isiD at p
    split at p
    · exact p.elim
    · exact p.elim
    · exact p.elim
    · rename_i h1 h2 h3
      split at p
      · rename_i b e
        exact key b (fun ks vs => ⟨fun e => h1 _ _ e, fun ks vs e => h2 _ _ e⟩) (fun c e => h3 _ e) e (post_flat (d := .bl b) e1.fh rfl (post_ext e1 p))
      · exact p.elim
/-! ### a comparison chain, and, or, not, if else -/
def chainE (g g' : Ar → Ar → Rs) (fa fb fc : DE) : DE := fun ρ => (fa ρ).bind fun x => (fb ρ).bind fun y => (g x y).bind fun z => match z with
  | .ow (.fz (.bl true)) => (fc ρ).bind fun w => g' y w
  | .ow (.fz (.bl false)) => okB false
  | _ => .bad
end
end DL

namespace DL
open PySem PySem.Spec L2
variable {K : PySem.W.Frag} {F F' H H' H0 F0 F1 H1 : Hp} {cs cs' : List Addr} {σ : St} {ρ : Rho}
section
variable {X : Cx} {W : WX} {pos : Pos} {a b c : Expr} {fa fb fc : DE}
theorem tChain_of {r r' : R2} {g g' : Ar → Ar → Rs} (hr : OpOk X W r g) (hr' : OpOk X W r' g') : ∀ σ H Q, tE X W (chainE g g' fa fb fc) σ H Q → tChain r r' (tE X W fa) (tE X W fb) (tE X W fc) σ H Q := fun σ H Q ⟨F0, H0, ρ, F, cs, R, p⟩ => by
  refine ⟨F0, H0, ρ, F, cs, R, ?_⟩
  unfold chainE at p
  cases q1 : fa ρ with
  | bad => rw [q1] at p; exact p
  | ex c => rw [q1] at p; exact p
  | ok x =>
    rw [q1] at p
    intro F1 H1 v c1 e1 r1 n1
    refine ⟨F0, H0, ρ, F1, cs, R.ext e1, ?_⟩
    have p := post_ext (X := X) (W := W) e1 p
    cases q2 : fb ρ with
    | bad => rw [q2] at p; exact p
    | ex c => rw [q2] at p; exact p
    | ok y =>
      rw [q2] at p
      intro F2 H2 u c2 e2 r2 n2
      have p := post_ext (X := X) (W := W) e2 p
      refine hr σ F2 H2 v u x y c1 c2 _ e2.fh (r1.ext e2) r2 ?_
      cases q3 : g x y with
      | bad => simp only [Rs.bind, q3] at p; exact p
      | ex c => simp only [Rs.bind, q3] at p; exact p
      | ok z =>
        simp only [Rs.bind, q3] at p
        intro F3 H3 t c3 e3 r3 n3
        have p := post_ext (X := X) (W := W) e3 p
        split at p
        · obtain ⟨_, r3⟩ := r3
          refine ⟨true, r3, ?_⟩
          rw [if_pos rfl]
          refine ⟨F0, H0, ρ, F3, cs, ((R.ext e1).ext e2).ext e3, ?_⟩
          cases q4 : fc ρ with
          | bad => simp only [Rs.bind, q4] at p; exact p
          | ex c => simp only [Rs.bind, q4] at p; exact p
          | ok w =>
            simp only [Rs.bind, q4] at p
            intro F4 H4 s c4 e4 r4 n4
            exact hr' σ F4 H4 u s y w c2 c4 _ e4.fh ((r2.ext e3).ext e4) r4 (post_ext e4 p)
        · obtain ⟨_, r3⟩ := r3
          refine ⟨false, r3, ?_⟩
          rw [if_neg (by decide)]
          exact p F3 H3 (.bl false) [] (Ext.refl e3.fh) ⟨rfl, rfl⟩ New.nil
        · exact p.elim
theorem ge_chain {op op' : CmpOp} {r r' : R2} {g g' : Ar → Ar → Rs} (ho : OpR X (compareOp op) r) (ho' : OpR X (compareOp op') r') (hr : OpOk X W r g) (hr' : OpOk X W r' g') (ha : GE X W a fa) (hb : GE X W b fb) (hc : GE X W c fc)
    (hm : lastMarks [op, op'] [b, c] = false := by with_unfolding_all rfl) : GE X W (.Compare a [op, op'] [b, c] pos) (chainE g g' fa fb fc) :=
  PE.imp (pe_chain ho ho' ha hb hc hm) (tChain_of hr hr')
theorem gt_chain {op op' : CmpOp} {r r' : R2} {g g' : Ar → Ar → Rs} (ho : OpR X (compareOp op) r) (ho' : OpR X (compareOp op') r') (hr : OpOk X W r g) (hr' : OpOk X W r' g') (ha : GE X W a fa) (hb : GE X W b fb) (hc : GE X W c fc)
    (hm : lastMarks [op, op'] [b, c] = false := by with_unfolding_all rfl) : GT X W (.Compare a [op, op'] [b, c] pos) (testE (chainE g g' fa fb fc)) :=
  PT.imp (pt_chain ho ho' ha hb hc hm) fun σ H Q h => by
    have h' := tTest_of σ H Q h
    exact tChain_of hr hr' σ H _ h'
/-- and, or of tests -/
def andT (f g : DT) : DT := fun ρ => match f ρ with
  | .ok true => g ρ
  | r => r
def orT (f g : DT) : DT := fun ρ => match f ρ with
  | .ok false => g ρ
  | r => r
def notT (f : DT) : DT := fun ρ => match f ρ with
  | .ok b => .ok (!b)
  | r => r
variable {f g : DT} {rest : List Expr}
theorem postT_ext {r : Rb} {σ : St} {Q : Bool → Hp → Prop} (e : Ext F H F' H') (h : postT X W r σ F H Q) : postT X W r σ F' H' Q := by
  cases r with
  | ok a => exact fun F2 H2 e2 => h F2 H2 (e.trans e2)
  | ex c => exact fun F2 H2 C e2 m => h F2 H2 C (e.trans e2) m
  | bad => exact h.elim
theorem gw_and1 (h : GT X W a f) : GW X W (.BoolOp .And [a] pos) f := pw_and1 h
theorem gw_or1 (h : GT X W a f) : GW X W (.BoolOp .Or [a] pos) f := pw_or1 h
theorem gw_and (h : GT X W a f) (h2 : GW X W (.BoolOp .And (b :: rest) pos) g) : GW X W (.BoolOp .And (a :: b :: rest) pos) (andT f g) := by
  refine PW.imp (pw_and h h2) fun σ H Q ⟨F0, H0, ρ, F, cs, R, p⟩ => ?_
  refine ⟨F0, H0, ρ, F, cs, R, ?_⟩
  unfold andT at p
  cases q : f ρ with
  | bad => rw [q] at p; exact p
  | ex c => rw [q] at p; exact p
  | ok k =>
    rw [q] at p
    intro F1 H1 e1
    have p := postT_ext e1 p
    cases k with
    | true => exact iteT ⟨F0, H0, ρ, F1, cs, R.ext e1, p⟩
    | false => exact iteF (p F1 H1 (Ext.refl e1.fh))
theorem gw_or (h : GT X W a f) (h2 : GW X W (.BoolOp .Or (b :: rest) pos) g) : GW X W (.BoolOp .Or (a :: b :: rest) pos) (orT f g) := by
  refine PW.imp (pw_or h h2) fun σ H Q ⟨F0, H0, ρ, F, cs, R, p⟩ => ?_
  refine ⟨F0, H0, ρ, F, cs, R, ?_⟩
  unfold orT at p
  cases q : f ρ with
  | bad => rw [q] at p; exact p
  | ex c => rw [q] at p; exact p
  | ok k =>
    rw [q] at p
    intro F1 H1 e1
    have p := postT_ext e1 p
    cases k with
    | false => exact iteF ⟨F0, H0, ρ, F1, cs, R.ext e1, p⟩
    | true => exact iteT (p F1 H1 (Ext.refl e1.fh))
theorem GW.pt (h : GW X W a f) : GT X W a f := PW.pt h
theorem gt_not (h : GT X W a f) : GT X W (.UnaryOp .Not a pos) (notT f) := by
  refine PT.imp (pt_not h) fun σ H Q ⟨F0, H0, ρ, F, cs, R, p⟩ => ?_
  refine ⟨F0, H0, ρ, F, cs, R, ?_⟩
  unfold notT at p
  cases q : f ρ with
  | bad => rw [q] at p; exact p
  | ex c => rw [q] at p; exact p
  | ok k => rw [q] at p; exact p
/-- .. of values that are truths -/
def andV (fa fb : DE) : DE := fun ρ => (fa ρ).bind fun z => match z with
  | .ow (.fz (.bl true)) => fb ρ
  | .ow (.fz (.bl false)) => okB false
  | _ => .bad
def orV (fa fb : DE) : DE := fun ρ => (fa ρ).bind fun z => match z with
  | .ow (.fz (.bl false)) => fb ρ
  | .ow (.fz (.bl true)) => okB true
  | _ => .bad
def notV (fa : DE) : DE := fun ρ => (fa ρ).bind fun z => match z with
  | .ow (.fz (.bl k)) => okB (!k)
  | _ => .bad
theorem ge_one {op} (h : GE X W a fa) : GE X W (.BoolOp op [a] pos) fa := pe_one h
theorem ge_and (ha : GE X W a fa) (hb : GE X W (.BoolOp .And (b :: rest) pos) fb) : GE X W (.BoolOp .And (a :: b :: rest) pos) (andV fa fb) := by
  refine PE.imp (pe_and ha hb) fun σ H Q ⟨F0, H0, ρ, F, cs, R, p⟩ => ?_
  refine ⟨F0, H0, ρ, F, cs, R, ?_⟩
  unfold andV at p
  cases q : fa ρ with
  | bad => rw [q] at p; exact p
  | ex c => rw [q] at p; exact p
  | ok z =>
    simp only [q, Rs.bind] at p
    intro F1 H1 v c1 e1 r1 n1
    have p := post_ext (X := X) (W := W) e1 p
    split at p
    · obtain ⟨_, r1⟩ := r1
      exact ⟨true, r1, iteT ⟨F0, H0, ρ, F1, cs, R.ext e1, p⟩⟩
    · obtain ⟨_, r1⟩ := r1
      exact ⟨false, r1, iteF (p F1 H1 (.bl false) [] (Ext.refl e1.fh) ⟨rfl, rfl⟩ New.nil)⟩
    · exact p.elim
theorem ge_or (ha : GE X W a fa) (hb : GE X W (.BoolOp .Or (b :: rest) pos) fb) : GE X W (.BoolOp .Or (a :: b :: rest) pos) (orV fa fb) := by
  refine PE.imp (pe_or ha hb) fun σ H Q ⟨F0, H0, ρ, F, cs, R, p⟩ => ?_
  refine ⟨F0, H0, ρ, F, cs, R, ?_⟩
  unfold orV at p
  cases q : fa ρ with
  | bad => rw [q] at p; exact p
  | ex c => rw [q] at p; exact p
  | ok z =>
    simp only [q, Rs.bind] at p
    intro F1 H1 v c1 e1 r1 n1
    have p := post_ext (X := X) (W := W) e1 p
    split at p
    · obtain ⟨_, r1⟩ := r1
      exact ⟨false, r1, iteF ⟨F0, H0, ρ, F1, cs, R.ext e1, p⟩⟩
    · obtain ⟨_, r1⟩ := r1
      exact ⟨true, r1, iteT (p F1 H1 (.bl true) [] (Ext.refl e1.fh) ⟨rfl, rfl⟩ New.nil)⟩
    · exact p.elim
theorem ge_not (ha : GE X W a fa) : GE X W (.UnaryOp .Not a pos) (notV fa) := by
  refine PE.imp (pe_not ha) fun σ H Q ⟨F0, H0, ρ, F, cs, R, p⟩ => ?_
  refine ⟨F0, H0, ρ, F, cs, R, ?_⟩
  unfold notV at p
  cases q : fa ρ with
  | bad => rw [q] at p; exact p
  | ex c => rw [q] at p; exact p
  | ok z =>
    simp only [q, Rs.bind] at p
    intro F1 H1 v c1 e1 r1 n1
    have p := post_ext (X := X) (W := W) e1 p
    split at p
    · rename_i k _
      obtain ⟨_, r1⟩ := r1
      exact ⟨k, r1, p F1 H1 (.bl (!k)) [] (Ext.refl e1.fh) ⟨rfl, rfl⟩ New.nil⟩
    · exact p.elim
def ifE (f : DT) (fa fb : DE) : DE := fun ρ => match f ρ with
  | .ok true => fa ρ
  | .ok false => fb ρ
  | .ex c => .ex c
  | .bad => .bad
theorem ge_if (h : GT X W c f) (ha : GE X W a fa) (hb : GE X W b fb) : GE X W (.IfExp c a b pos) (ifE f fa fb) := by
  refine PE.imp (pe_ifExp h ha hb) fun σ H Q ⟨F0, H0, ρ, F, cs, R, p⟩ => ?_
  refine ⟨F0, H0, ρ, F, cs, R, ?_⟩
  unfold ifE at p
  cases q : f ρ with
  | bad => rw [q] at p; exact p
  | ex c => rw [q] at p; exact p
  | ok k =>
    rw [q] at p
    intro F1 H1 e1
    cases k with
    | true => exact iteT ⟨F0, H0, ρ, F1, cs, R.ext e1, post_ext e1 p⟩
    | false => exact iteF ⟨F0, H0, ρ, F1, cs, R.ext e1, post_ext e1 p⟩
/-! ### slices -/
abbrev DO := Rho → Option (Option Int)
def postO (r : Option (Option Int)) (F H : Hp) (Q : Option Int → Hp → Prop) : Prop := match r with
  | some i => ∀ F' H', Ext F H F' H' → Q i H'
  | none => False
def GO (X : Cx) (e : Option Expr) (f : DO) : Prop := PO X e (fun σ H Q => ∃ F0 H0 ρ F cs, RS X.K F0 H0 ρ F σ H cs ∧ postO (f ρ) F H Q)
theorem PO.imp {X : Cx} {e : Option Expr} {t t' : TO} (h : PO X e t) (i : ∀ σ H Q, t' σ H Q → t σ H Q) : PO X e t' := ⟨fun p s σ H Q I q => h.run p s σ H Q I (i σ H Q q)⟩
@[simp] def noO : DO := fun _ => some none
@[simp] def someO (f : DE) : DO := fun ρ => match f ρ with
  | .ok a => match a.d with
    | .int i => some (some i)
    | _ => none
  | _ => none
theorem go_none : GO X none noO := PO.imp po_none fun σ H Q ⟨F0, H0, ρ, F, cs, R, p⟩ => p F H (Ext.refl R.fh)
theorem go_some (h : GE X W a fa) : GO X (some a) (someO fa) := PO.imp (po_some h) fun σ H Q ⟨F0, H0, ρ, F, cs, R, p⟩ => by
  refine ⟨F0, H0, ρ, F, cs, R, ?_⟩
  unfold someO at p
  cases q : fa ρ with
  | bad => rw [q] at p; exact p
  | ex c => rw [q] at p; exact p.elim
  | ok z =>
    rw [q] at p
    intro F1 H1 v c1 e1 r1 n1
    have r2 := r1.view e1.fh
    revert p
    dsimp only
    split
    · rename_i i e
      intro p
      rw [e] at r2
      exact ⟨i, r2, p F1 H1 e1⟩
    · exact False.elim
def cutD {α : Type} (xs : List α) (lo hi : Option Int) : List α := (xs.drop (HT.sIx xs.length 0 lo)).take (HT.sIx xs.length xs.length hi - HT.sIx xs.length 0 lo)
theorem Reps.cut {ds vs} (r : Reps K F ds vs) (lo hi : Option Int) : Reps K F (cutD ds lo hi) (cutV vs lo hi) := by
  unfold cutD cutV
  rw [r.len]
  exact (r.drop _).take _
@[simp] def gCut (x : Ar) (lo hi : Option Int) : Rs := match x.o.seq with
  | some (true, os) => match allFz os with
    | some ds => .ok (.ow (.lst ((cutD ds lo hi).map .fz)))
    | none => .bad
  | some (false, _) => .bad
  | none => match x.d with
    | .str s => if okLen s.length then .ok (.ow (.fz (.str (cutS s lo hi)))) else .bad
    | _ => .bad
def cutE (f : DE) (l h : DO) : DE := fun ρ => (f ρ).bind fun x => match l ρ, h ρ with
  | some i, some j => gCut x i j
  | _, _ => .bad
abbrev rSlX (K : PySem.W.Frag) : V → Option Int → Option Int → Hp → VK → Prop := fun x lo hi H Q => rSlL K x lo hi H Q ∨ rSlS x lo hi H Q
theorem ge_cut {lo hi : Option Expr} {l h : DO} {p2 : Pos} (ha : GE X W a fa) (hl : GO X lo l) (hh : GO X hi h) : GE X W (.Subscript a (.Slice lo hi none p2) pos) (cutE fa l h) := by
  refine PE.imp (pe_slice (sl_list.or sl_str) ha hl hh) fun σ H Q ⟨F0, H0, ρ, F, cs, R, p⟩ => ?_
  refine ⟨F0, H0, ρ, F, cs, R, ?_⟩
  unfold cutE at p
  cases q : fa ρ with
  | bad => rw [q] at p; exact p
  | ex c => rw [q] at p; exact p
  | ok x =>
    simp only [q, Rs.bind] at p
    intro F1 H1 v c1 e1 r1 n1
    refine ⟨F0, H0, ρ, F1, cs, R.ext e1, ?_⟩
    split at p
    · rename_i i j ei ej
      rw [ei]
      intro F2 H2 e2
      refine ⟨F0, H0, ρ, F2, cs, (R.ext e1).ext e2, ?_⟩
      rw [ej]
      intro F3 H3 e3
      have p := post_ext (X := X) (W := W) ((e1.trans e2).trans e3) p
      have r3 := ((r1.ext e2).ext e3)
      unfold gCut at p
      split at p
      · rename_i os e
        obtain ⟨c2, q2⟩ := r3.some
        obtain ⟨u, vs, c3, rfl, s, t⟩ := seq_rep e3.fh q2 e
        split at p
        · rename_i ds ed
          rw [allFz_eq ed] at t
          obtain ⟨_, t2⟩ := OReps.of_fz t
          exact .inl ⟨u, vs, rfl, s, fun q nq => post_lst e3.fh nq (t2.cut i j) rfl p⟩
        · exact p.elim
      · exact p.elim
      · have r4 := r3.view e3.fh
        split at p
        · rename_i s e
          rw [e] at r4
          split at p
          · rename_i hl
            exact .inr ⟨s, r4, okLen_le hl, post_flat (d := .str _) e3.fh rfl p⟩
          · exact p.elim
        · exact p.elim
    · exact p.elim
/-- xs[::-1] -/
def revE (f : DE) : DE := fun ρ => (f ρ).bind fun x => match x.o.seq with
  | some (true, os) => match allFz os with
    | some ds => .ok (.ow (.lst (ds.reverse.map .fz)))
    | none => .bad
  | _ => .bad
theorem ge_rev {k : Nat} {p1 p2 p3 : Pos} (ha : GE X W a fa) : GE X W (.Subscript a (.Slice none none (some (.UnaryOp .USub (.Constant (.int 1) k p1) p2)) p3) pos) (revE fa) := by
  refine PE.imp (pe_revL ha) fun σ H Q ⟨F0, H0, ρ, F, cs, R, p⟩ => ?_
  refine ⟨F0, H0, ρ, F, cs, R, ?_⟩
  unfold revE at p
  cases q : fa ρ with
  | bad => rw [q] at p; exact p
  | ex c => rw [q] at p; exact p
  | ok x =>
    simp only [q, Rs.bind] at p
    intro F1 H1 v c1 e1 r1 n1
    have p := post_ext (X := X) (W := W) e1 p
    split at p
    · rename_i os e
      obtain ⟨c2, q2⟩ := r1.some
      obtain ⟨u, vs, c3, rfl, s, t⟩ := seq_rep e1.fh q2 e
      split at p
      · rename_i ds ed
        rw [allFz_eq ed] at t
        obtain ⟨_, t2⟩ := OReps.of_fz t
        exact ⟨u, vs, rfl, s, fun q nq => post_lst e1.fh nq t2.reverse rfl p⟩
      · exact p.elim
    · exact p.elim
/-! ### calls of the text's own defs -/
inductive Rf where
  | ok (o : O) | ex (c : Str) | bad
  deriving Inhabited
abbrev DF := List D → Rf
mutual
def leafFlat : O → Bool
  | .fz d => flatD d
  | .lst xs => leafsFlat xs
  | .tup xs => leafsFlat xs
  | .dK _ vs => flats vs
  | .dT _ vs => flats vs
def leafsFlat : List O → Bool
  | [] => true
  | x :: xs => leafFlat x && leafsFlat xs
end
theorem reps_anyF {ds vs} (h : flats ds = true) (r : Reps K F ds vs) : Reps K F' ds vs := by
  rw [reps_flat r h]
  clear r
  induction ds with
  | nil => rfl
  | cons d ds ih =>
    have h' : flatD d = true ∧ flats ds = true := by simpa [flats] using h
    exact ⟨vOf d, _, rfl, rep_vOf h'.1, ih h'.2⟩
mutual
theorem ORep.anyF : ∀ {o v cs}, leafFlat o = true → ORep K F H o v cs → ORep K F' H o v cs
  | .fz d, v, cs, h, ⟨e, r⟩ => ⟨e, by rw [rep_flat r h]; exact rep_vOf h⟩
  | .lst xs, v, cs, h, ⟨a, vs, c, e1, e2, e3, r⟩ => ⟨a, vs, c, e1, e2, e3, OReps.anyF h r⟩
  | .tup xs, v, cs, h, ⟨a, vs, c, e1, e2, e3, r⟩ => ⟨a, vs, c, e1, e2, e3, OReps.anyF h r⟩
  | .dK ks ds, v, cs, h, ⟨a, vs, e1, e2, e3, l, r⟩ => ⟨a, vs, e1, e2, e3, l, reps_anyF h r⟩
  | .dT ks ds, v, cs, h, ⟨a, vs, e1, e2, e3, l, r⟩ => ⟨a, vs, e1, e2, e3, l, reps_anyF h r⟩
theorem OReps.anyF : ∀ {os vs cs}, leafsFlat os = true → OReps K F H os vs cs → OReps K F' H os vs cs
  | [], _, _, _, e => e
  | o :: os, _, _, h, ⟨v, r, c1, c2, e1, e2, x, y⟩ => by
    have h' : leafFlat o = true ∧ leafsFlat os = true := by simpa [leafsFlat] using h
    exact ⟨v, r, c1, c2, e1, e2, ORep.anyF h'.1 x, OReps.anyF h'.2 y⟩
end
def postF (K : PySem.W.Frag) (mg : Str → Option Value) (r : Rf) (F H : Hp) (Q : VK) (E : XK) : Prop := match r with
  | .ok o => ∀ F' H' v cs', Ext F H F' H' → ORep K F' H' o v cs' → New H F' cs' → Q v H'
  | .ex c => ∀ F' H' C, Ext F H F' H' → mg c = some (.ref C) → E (.ref C) none H'
  | .bad => False
/-- a def's promise: it gives what sem says of its data -/
def spD (K : PySem.W.Frag) (mg : Str → Option Value) (sem : DF) (n : Nat) : Sp := fun vs H Q E => ∃ F ds, vs.length = n ∧ Same F H ∧ Reps K F ds vs ∧ postF K mg (sem ds) F H Q E
/-- such a def stands at the name x, at level k; dd: the data of its defaults -/
structure DOk (P : Program) (w : World) (K : PySem.W.Frag) (mg : Str → Option Value) (base : Heap) (k : Nat) (x : Str) (sem : DF) (n : Nat) : Prop where
  ex : ∃ (f : Addr) (fd : FuncData) (ps : List Str), FnOk P w K mg base (L2.CX P w) k f fd ps (spD K mg sem n) ∧ mg x = some (.ref f) ∧ PySem.W.keepIn K (.ref f) = true ∧ Binds K fd ps []
theorem DOk.mono {P : Program} {w : World} {mg : Str → Option Value} {base : Heap} {k j : Nat} {x : Str} {sem : DF} {n : Nat} (h : DOk P w K mg base k x sem n) (l : k ≤ j) : DOk P w K mg base j x sem n := by
  obtain ⟨f, fd, ps, F, r⟩ := h.ex
  exact ⟨f, fd, ps, F.mono l, r⟩
@[simp] def noVw : List Ar → Bool
  | [] => true
  | .ow _ :: as => noVw as
  | .vw _ :: _ => false
@[simp] def toRs (as : List Ar) : Rf → Rs
  | .ok o => if noVw as || leafFlat o then .ok (.ow o) else .bad
  | .ex c => .ex c
  | .bad => .bad
def callF (sem : DF) (n : Nat) (f : DA) : DE := fun ρ => match f ρ with
  | .ok as => if as.length = n then toRs as (sem (as.map Ar.d)) else .bad
  | .ex c => .ex c
  | .bad => .bad
theorem areps_shut : ∀ {as vs cs}, noVw as = true → Same F F' → (∀ c ∈ cs, F' c = H c) → AReps K F H as vs cs → Reps K F' (as.map Ar.d) vs
  | [], _, _, _, _, _, ⟨e, _⟩ => e
  | .ow o :: as, _, _, h, hf, k, ⟨v, r, c1, c2, e1, e2, x, y⟩ => ⟨v, r, e1, ORep.close (o := o) hf (fun c hc => k c (by rw [e2]; exact List.mem_append_left _ hc)) x, areps_shut (as := as) h hf (fun c hc => k c (by rw [e2]; exact List.mem_append_right _ hc)) y⟩
  | .vw o :: as, _, _, h, _, _, _ => by cases h
structure Cc (X : Cx) (W : WX) (k : Nat) : Prop where
  calm : X.calm = true
  room : Room k X.A
  nd : X.N.Nodup
  pass : ∀ σ, PassesAt (L2.CX X.prog X.w) X σ (WE W σ)
theorem Cc.hu {k : Nat} (C : Cc X W k) : X.A.units + 64 < cLine := C.room.units
/-- what comes back, seen from ahead of the arguments -/
def backF (F H F' : Hp) : Hp := fun a => match H a with
  | some _ => F a
  | none => F' a
theorem backF_ext {G : Hp} (fh : Same F H) (e : Ext H H G H') : Ext F H (backF F H G) H' where
  hh := e.hh
  ff := fun a o q => by unfold backF; rw [fh a o q]; exact q
  fh := fun a o q => by
    unfold backF at q
    cases h : H a with
    | none => rw [h] at q; exact e.fh a o q
    | some u => rw [h] at q; exact e.hh a o (fh a o q)
  nw := fun a h => by
    unfold backF
    cases q : H a with
    | none => exact absurd q h
    | some u => rfl
theorem ge_call {k j n : Nat} {x : Str} {p : Pos} {sem : DF} {e : Expr} {es : List Expr} {f : DA} (C : Cc X W j) (D : DOk X.prog X.w X.K X.mg X.base k x sem n) (hk : k ≤ j) (ha : GA X W (e :: es) f) (hg : Gl X x := by rfl)
    (hdb : (x == ("__debug__" : Str)) = false := by decide) (he : starEach (e :: es) X.env = (false, eval e X.env) :: starEach es X.env := by rfl) (hpl : (backTo pos (starEach es X.env)).any (·.1) = false := by rfl) :
    GE X W (.Call (.Name x p) (e :: es) [] pos) (callF sem n f) := by
  obtain ⟨fa, fd, ps, Fo, hm, kp, hb⟩ := D.ex
  refine PE.imp (pe_callS (E := WE W) Fo (C.room.mono hk) hg hm kp hb C.pass ha hdb he hpl) fun σ H Q ⟨F0, H0, ρ, F, cs, R, p⟩ => ?_
  refine ⟨F0, H0, ρ, F, cs, R, ?_⟩
  unfold callF at p
  cases q : f ρ with
  | bad => rw [q] at p; exact p
  | ex c => rw [q] at p; exact p
  | ok as =>
    simp only [q] at p
    split at p
    · rename_i hn
      intro F1 H1 vs c1 e1 r1 n1
      have hvn : vs.length = n := by rw [← r1.len]; exact hn
      cases hv : noVw as with
      | true =>
        -- the arguments' own cells are shut
        have sm : Same F1 (DL.shut F1 H1 c1) := same_shut fun c hc => (n1.nw c hc).2
        refine ⟨DL.shut F1 H1 c1, as.map Ar.d, hvn, shut_same e1.fh, areps_shut hv sm (fun c hc => shut_in hc) r1, ?_⟩
        have ex : Ext F H (DL.shut F1 H1 c1) H1 := ⟨e1.hh, e1.ff.trans sm, shut_same e1.fh, fun a h => by
          rw [shut_out fun hc => h (n1.nw a hc).1]
          exact e1.nw a h⟩
        cases qs : sem (as.map Ar.d) with
        | bad => rw [qs] at p; exact p
        | ex c =>
          rw [qs] at p
          exact fun F2 H2 C2 e2 m => p F2 H2 C2 (ex.trans e2) m
        | ok o =>
          rw [qs] at p
          simp only [toRs, hv, Bool.true_or, if_true] at p
          exact fun F2 H2 v c2 e2 r2 n2 => p F2 H2 v c2 (ex.trans e2) r2 (n2.ext ex)
      | false =>
        refine ⟨H1, as.map Ar.d, hvn, Same.refl _, r1.view e1.fh, ?_⟩
        cases qs : sem (as.map Ar.d) with
        | bad => rw [qs] at p; exact p
        | ex c =>
          rw [qs] at p
          exact fun F2 H2 C2 e2 m => p (backF F1 H1 F2) H2 C2 (e1.trans (backF_ext e1.fh e2)) m
        | ok o =>
          rw [qs] at p
          simp only [toRs, hv, Bool.false_or] at p
          split at p
          · rename_i hl
            refine fun F2 H2 v c2 e2 r2 n2 => p (backF F1 H1 F2) H2 v c2 (e1.trans (backF_ext e1.fh e2)) (ORep.anyF (o := o) hl r2) ?_
            refine ⟨n2.nd, fun c hc => ⟨e1.hh.free (n2.nw c hc).1, ?_⟩⟩
            unfold backF
            rw [(n2.nw c hc).1]
            exact (n2.nw c hc).2
          · exact p.elim
    · exact p.elim
end
end DL

namespace DL
open PySem PySem.Spec L2
variable {K : PySem.W.Frag} {F F' H H' H0 F0 F1 H1 : Hp} {cs cs' : List Addr} {σ σ' : L2.St} {ρ ρ' : Rho}
theorem RS.lenS (R : RS K F0 H0 ρ F σ H cs) : σ.length = ρ.length := R.sl.len
/-- a heap that is held from ahead stays so -/
theorem RS.same0 (R : RS K F0 H0 ρ F σ H cs) {a : Addr} (h : H a = none) : H0 a = none := R.h0.free h
/-- a slot's tree changes in place -/
theorem RS.put {i : Nat} {o : O} (R : RS K F0 H0 ρ F σ H cs) (hi : ρ[i]? = some (some o)) : ∃ v c1 c2 c3, cs = c1 ++ (c2 ++ c3) ∧ σ[i]? = some (some v) ∧ ORep K F H o v c2 ∧
    ∀ H2 o2 c2', (∀ b, b ∉ c2 → H b ≠ none → H2 b = H b) → ORep K F H2 o2 v c2' → c2'.Nodup → (∀ c ∈ c2', F c = none ∧ H0 c = none ∧ c ∉ c1 ∧ c ∉ c3) → RS K F0 H0 (ρ.set i (some o2)) F σ H2 (c1 ++ (c2' ++ c3)) := by
  have hil : i < ρ.length := (List.getElem?_eq_some_iff.mp hi).1
  obtain ⟨c1, c2, c3, ob, x, e1, e4, e5, s, k⟩ := R.sl.split i hil
  rw [hi] at e4
  cases e4
  subst e1
  cases x with
  | none => exact s.elim
  | some v =>
  have nd := R.nd
  rw [List.nodup_append] at nd
  obtain ⟨n1, n23, d123⟩ := nd
  rw [List.nodup_append] at n23
  obtain ⟨n2, n3, d23⟩ := n23
  refine ⟨v, c1, c2, c3, rfl, e5, s, fun H2 o2 c2' kb ro nd2 fr => ?_⟩
  have hx : σ.set i (some v) = σ := by
    have hi2 : i < σ.length := by rw [R.sl.len]; exact hil
    have : σ[i] = some v := by
      have := List.getElem?_eq_getElem hi2
      rw [e5] at this
      exact (Option.some.inj this).symm
    rw [← this]; simp
  have z := k F H2 (some o2) (some v) c2' (Same.refl _) (fun c hc => kb c (fun h => d123 c hc c (List.mem_append_left _ h) rfl) (R.sl.there c (List.mem_append_left _ hc)))
    (fun c hc => kb c (fun h => d23 c h c hc rfl) (R.sl.there c (List.mem_append_right _ (List.mem_append_right _ hc)))) ro
  rw [hx] at z
  have c2F : ∀ c ∈ c2, F c = none ∧ H0 c = none := fun c hc => R.cf c (List.mem_append_right _ (List.mem_append_left _ hc))
  refine ⟨fun b u q => ?_, R.f0, R.nw, fun b u q => ?_, z, ?_, fun c hc => ?_⟩
  · have hb : b ∉ c2 := fun h => by rw [(c2F b h).1] at q; cases q
    have := R.fh b u q
    rw [kb b hb (by rw [this]; exact fun h => nomatch h)]
    exact this
  · have hb : b ∉ c2 := fun h => by rw [(c2F b h).2] at q; cases q
    have := R.h0 b u q
    rw [kb b hb (by rw [this]; exact fun h => nomatch h)]
    exact this
  · rw [List.nodup_append]
    refine ⟨n1, ?_, fun a ha b hb e => ?_⟩
    · rw [List.nodup_append]
      exact ⟨nd2, n3, fun a ha b hb e => by subst e; exact (fr a ha).2.2.2 hb⟩
    · subst e
      rcases List.mem_append.mp hb with h | h
      · exact (fr a h).2.2.1 ha
      · exact d123 a ha a (List.mem_append_right _ h) rfl
  · rcases List.mem_append.mp hc with h | h
    · exact R.cf c (List.mem_append_left _ h)
    · rcases List.mem_append.mp h with h | h
      · exact ⟨(fr c h).1, (fr c h).2.1⟩
      · exact R.cf c (List.mem_append_right _ (List.mem_append_right _ h))
section
variable {X : Cx} {W : WX} {pos : Pos} {a b c e : Expr} {fa fb fc fe : DE} {st : Stmt} {sts rest : List Stmt} {f g : DS}
theorem postS_same {r : SR} {D : Ends} (s : Same F F') (h : postS X W r F0 H0 F D) : postS X W r F0 H0 F' D := by
  cases r with
  | nx ρ => exact fun F2 H2 σ2 cs2 e R => h F2 H2 σ2 cs2 (s.trans e) R
  | bk ρ => exact fun F2 H2 σ2 cs2 e R => h F2 H2 σ2 cs2 (s.trans e) R
  | ct ρ => exact fun F2 H2 σ2 cs2 e R => h F2 H2 σ2 cs2 (s.trans e) R
  | rt o => exact h
  | ex c ρ => exact fun F2 H2 σ2 cs2 C e R => h F2 H2 σ2 cs2 C (s.trans e) R
  | bad => exact h.elim
/-! ### blocks -/
def nilS : DS := fun ρ => .nx ρ
def seqS (f g : DS) : DS := fun ρ => match f ρ with
  | .nx ρ' => g ρ'
  | r => r
theorem gss_nil : GSs X W [] nilS := PSs.imp pss_nil fun D σ H ⟨F0, H0, ρ, F, cs, R, p⟩ => p F H σ cs (Same.refl _) R
theorem gss_cons (h : GS X W st f) (h2 : GSs X W rest g) : GSs X W (st :: rest) (seqS f g) := by
  refine PSs.imp (pss_cons h h2) fun D σ H ⟨F0, H0, ρ, F, cs, R, p⟩ => ?_
  refine ⟨F0, H0, ρ, F, cs, R, ?_⟩
  unfold seqS at p
  cases q : f ρ with
  | nx ρ' =>
    rw [q] at p
    exact fun F2 H2 σ2 cs2 e R2 => ⟨F0, H0, ρ', F2, cs2, R2, postS_same e p⟩
  | bk ρ' => rw [q] at p; exact p
  | ct ρ' => rw [q] at p; exact p
  | rt o => rw [q] at p; exact p
  | ex c ρ' => rw [q] at p; exact p
  | bad => rw [q] at p; exact p
theorem gss_one (h : GS X W st f) : GSs X W [st] f := pss_one h
/-- a slot's tree is shut ahead of a block -/
@[simp] def frz (i : Nat) (ρ : Rho) : Rho := match ρ[i]? with
  | some (some o) => ρ.set i (some (.fz o.toD))
  | _ => ρ
def frzS (i : Nat) (f : DS) : DS := fun ρ => f (frz i ρ)
theorem gss_frz (i : Nat) (h : GSs X W sts f) : GSs X W sts (frzS i f) := by
  refine PSs.imp h fun D σ H ⟨F0, H0, ρ, F, cs, R, p⟩ => ?_
  unfold frzS frz at p
  split at p
  · rename_i o q
    obtain ⟨F', cs2, s, R'⟩ := R.shut q
    exact ⟨F0, H0, _, F', cs2, R', postS_same s p⟩
  · exact ⟨F0, H0, ρ, F, cs, R, p⟩
def fgtS (is : List Nat) (f : DS) : DS := fun ρ => f (forget is ρ)
theorem gss_fgt (is : List Nat) (h : GSs X W sts f) : GSs X W sts (fgtS is f) := by
  refine PSs.imp h fun D σ H ⟨F0, H0, ρ, F, cs, R, p⟩ => ?_
  obtain ⟨cs2, R'⟩ := R.forget is
  exact ⟨F0, H0, _, F, cs2, R', p⟩
/-! ### small statements -/
@[simp] def passS : DS := fun ρ => .nx ρ
theorem gs_pass : GS X W (.Pass pos) passS := PS.imp ps_pass fun D σ H ⟨F0, H0, ρ, F, cs, R, p⟩ => p F H σ cs (Same.refl _) R
@[simp] def breakS : DS := fun ρ => .bk ρ
theorem gs_break : GS X W (.Break pos) breakS := PS.imp ps_break fun D σ H ⟨F0, H0, ρ, F, cs, R, p⟩ => p F H σ cs (Same.refl _) R
@[simp] def contS : DS := fun ρ => .ct ρ
theorem gs_cont : GS X W (.Continue pos) contS := PS.imp ps_continue fun D σ H ⟨F0, H0, ρ, F, cs, R, p⟩ => p F H σ cs (Same.refl _) R
def setS (i : Nat) (fe : DE) : DS := fun ρ => match fe ρ with
  | .ok (.ow o) => if i < ρ.length then .nx (ρ.set i (some o)) else .bad
  | .ok (.vw _) => .bad
  | .ex c => .ex c ρ
  | .bad => .bad
theorem tAsg_of {i : Nat} : ∀ D σ H, tS X W (setS i fe) D σ H → tAsg (tE X W fe) (gName i) D σ H := fun D σ H ⟨F0, H0, ρ, F, cs, R, p⟩ => by
  refine ⟨F0, H0, ρ, F, cs, R, ?_⟩
  unfold setS at p
  cases q : fe ρ with
  | bad => rw [q] at p; exact p
  | ex c => rw [q] at p; exact fun F2 H2 C e m => p F2 H2 σ cs C e.ff (R.ext e) m
  | ok a =>
    rw [q] at p
    cases a with
    | vw o => exact p.elim
    | ow o =>
      intro F2 H2 v c2 e2 r2 n2
      dsimp only at p
      split at p
      · rename_i hi
        obtain ⟨cs2, R2⟩ := R.set e2 r2 n2 hi
        exact p F2 H2 _ cs2 e2.ff R2
      · exact p.elim
theorem gs_set {i : Nat} {x : Str} {pos' : Pos} {k : Nat} (C : Cc X W k) (he : GE X W e fe) (hi : X.N[i]? = some x := by rfl) (hx : Loc X.env.scope x := by first | exact Or.inl rfl | exact Or.inr rfl) (hs : swapsWith e (some (.Name x pos')) pos.line X.env = pure false := by rfl)
    (hf : X.fn x = true ∨ X.env.scope.names.lookup x = some .local := by first | exact .inl rfl | exact .inr rfl) : GS X W (.Assign [.Name x pos'] e pos) (setS i fe) :=
  PS.imp (ps_set C.nd hi hx he hs hf) tAsg_of
def exprS (fe : DE) : DS := fun ρ => match fe ρ with
  | .ok _ => .nx ρ
  | .ex c => .ex c ρ
  | .bad => .bad
theorem gs_expr (he : GE X W e fe) (hs : swapsWith e none pos.line X.env = pure false := by rfl) : GS X W (.Expr e pos) (exprS fe) :=
  PS.imp (ps_expr he hs) fun D σ H ⟨F0, H0, ρ, F, cs, R, p⟩ => by
    refine ⟨F0, H0, ρ, F, cs, R, ?_⟩
    unfold exprS at p
    cases q : fe ρ with
    | bad => rw [q] at p; exact p
    | ex c => rw [q] at p; exact fun F2 H2 C e m => p F2 H2 σ cs C e.ff (R.ext e) m
    | ok a =>
      rw [q] at p
      exact fun F2 H2 v c2 e2 r2 n2 => p F2 H2 σ cs e2.ff (R.ext e2)
def ifS (c : DT) (f g : DS) : DS := fun ρ => match c ρ with
  | .ok true => f ρ
  | .ok false => g ρ
  | .ex k => .ex k ρ
  | .bad => .bad
theorem gs_if {ct : DT} {A B : List Stmt} (hc : GT X W c ct) (hA : GSs X W A f) (hB : GSs X W B g) : GS X W (.If c A B pos) (ifS ct f g) := by
  refine PS.imp (ps_if hc hA hB) fun D σ H ⟨F0, H0, ρ, F, cs, R, p⟩ => ?_
  refine ⟨F0, H0, ρ, F, cs, R, ?_⟩
  unfold ifS at p
  cases q : ct ρ with
  | bad => rw [q] at p; exact p
  | ex k => rw [q] at p; exact fun F2 H2 C e m => p F2 H2 σ cs C e.ff (R.ext e) m
  | ok k =>
    rw [q] at p
    intro F1 H1 e1
    cases k with
    | true => exact iteT ⟨F0, H0, ρ, F1, cs, R.ext e1, postS_same e1.ff p⟩
    | false => exact iteF ⟨F0, H0, ρ, F1, cs, R.ext e1, postS_same e1.ff p⟩
/-! ### expressions that take a slot's own tree -/
inductive Rv where
  | ok (o : O) (ρ : Rho) | ex (c : Str) | bad
  deriving Inhabited
inductive Rvs where
  | ok (os : List O) (ρ : Rho) | ex (c : Str) | bad
  deriving Inhabited
abbrev DV := Rho → Rv
abbrev DVs := Rho → Rvs
/-- cells taken, apart from those of the slots -/
structure Tk (H0 F : Hp) (cs' cs : List Addr) : Prop where
  nd : cs'.Nodup
  fr : ∀ c ∈ cs', F c = none ∧ H0 c = none ∧ c ∉ cs
def postV (X : Cx) (W : WX) (r : Rv) (F0 H0 : Hp) (σ : L2.St) (F H : Hp) (Q : VK) : Prop := match r with
  | .ok o ρ' => ∀ F' H' v cs' cs, Ext F H F' H' → RS X.K F0 H0 ρ' F' σ H' cs → ORep X.K F' H' o v cs' → Tk H0 F' cs' cs → Q v H'
  | .ex c => ∀ F' H' C, Ext F H F' H' → X.mg c = some (.ref C) → W (.ref C) none σ H'
  | .bad => False
def postVs (X : Cx) (W : WX) (r : Rvs) (F0 H0 : Hp) (σ : L2.St) (F H : Hp) (Q : List V → Hp → Prop) : Prop := match r with
  | .ok os ρ' => ∀ F' H' vs cs' cs, Ext F H F' H' → RS X.K F0 H0 ρ' F' σ H' cs → OReps X.K F' H' os vs cs' → Tk H0 F' cs' cs → Q vs H'
  | .ex c => ∀ F' H' C, Ext F H F' H' → X.mg c = some (.ref C) → W (.ref C) none σ H'
  | .bad => False
def GV (X : Cx) (W : WX) (e : Expr) (f : DV) : Prop := PE X e (fun σ H Q => ∃ F0 H0 ρ F cs, RS X.K F0 H0 ρ F σ H cs ∧ postV X W (f ρ) F0 H0 σ F H Q)
def GVs (X : Cx) (W : WX) (es : List Expr) (f : DVs) : Prop := PA X es (fun σ H Q => ∃ F0 H0 ρ F cs, RS X.K F0 H0 ρ F σ H cs ∧ postVs X W (f ρ) F0 H0 σ F H Q)
def owV (f : DE) : DV := fun ρ => match f ρ with
  | .ok (.ow o) => .ok o ρ
  | .ok (.vw _) => .bad
  | .ex c => .ex c
  | .bad => .bad
theorem Tk.of_new (R : RS K F0 H0 ρ F σ H cs) (n : New H F' cs') : Tk H0 F' cs' cs :=
  ⟨n.nd, fun c hc => ⟨(n.nw c hc).2, R.h0.free (n.nw c hc).1, fun h => R.sl.there c h (n.nw c hc).1⟩⟩
theorem gv_ge (he : GE X W e fe) : GV X W e (owV fe) := by
  refine PE.imp he fun σ H Q ⟨F0, H0, ρ, F, cs, R, p⟩ => ?_
  refine ⟨F0, H0, ρ, F, cs, R, ?_⟩
  unfold owV at p
  cases q : fe ρ with
  | bad => rw [q] at p; exact p
  | ex c => rw [q] at p; exact p
  | ok a =>
    rw [q] at p
    cases a with
    | vw o => exact p.elim
    | ow o => exact fun F2 H2 v c2 e2 r2 n2 => p F2 H2 v c2 cs e2 (R.ext e2) r2 (Tk.of_new R n2)
def mvV (i : Nat) : DV := fun ρ => match ρ[i]? with
  | some (some (.fz d)) => .ok (.fz d) ρ
  | some (some o) => .ok o (ρ.set i none)
  | _ => .bad
/-- a slot's tree is taken out -/
theorem RS.take {i : Nat} {o : O} (R : RS K F0 H0 ρ F σ H cs) (hi : ρ[i]? = some (some o)) : ∃ v c2 cs2, σ[i]? = some (some v) ∧ ORep K F H o v c2 ∧ RS K F0 H0 (ρ.set i none) F σ H cs2 ∧ Tk H0 F c2 cs2 ∧ ∀ c ∈ cs2, c ∈ cs := by
  have hil : i < ρ.length := (List.getElem?_eq_some_iff.mp hi).1
  obtain ⟨c1, c2, c3, ob, x, e1, e4, e5, s, k⟩ := R.sl.split i hil
  rw [hi] at e4
  cases e4
  subst e1
  cases x with
  | none => exact s.elim
  | some v =>
  have nd := R.nd
  rw [List.nodup_append] at nd
  obtain ⟨n1, n23, d123⟩ := nd
  rw [List.nodup_append] at n23
  obtain ⟨n2, n3, d23⟩ := n23
  have hx : σ.set i (some v) = σ := by
    have hi2 : i < σ.length := by rw [R.sl.len]; exact hil
    have : σ[i] = some v := by
      have := List.getElem?_eq_getElem hi2
      rw [e5] at this
      exact (Option.some.inj this).symm
    rw [← this]; simp
  have z := k F H none (some v) [] (Same.refl _) (fun _ _ => rfl) (fun _ _ => rfl) rfl
  rw [hx] at z
  refine ⟨v, c2, c1 ++ ([] ++ c3), e5, s, ⟨R.fh, R.f0, R.nw, R.h0, z, ?_, fun c hc => ?_⟩, ⟨n2, fun c hc => ⟨(R.cf c (List.mem_append_right _ (List.mem_append_left _ hc))).1, (R.cf c (List.mem_append_right _ (List.mem_append_left _ hc))).2, fun h => ?_⟩⟩, fun c hc => ?_⟩
  · rw [List.nil_append, List.nodup_append]
    exact ⟨n1, n3, fun a ha b hb => d123 a ha b (List.mem_append_right _ hb)⟩
  · rcases List.mem_append.mp hc with h | h
    · exact R.cf c (List.mem_append_left _ h)
    · exact R.cf c (List.mem_append_right _ (List.mem_append_right _ (by simpa using h)))
  · rcases List.mem_append.mp h with h | h
    · exact d123 c h c (List.mem_append_left _ hc) rfl
    · exact d23 c hc c (by simpa using h) rfl
  · rcases List.mem_append.mp hc with h | h
    · exact List.mem_append_left _ h
    · exact List.mem_append_right _ (List.mem_append_right _ (by simpa using h))
theorem gv_var (i : Nat) {x : Str} (hN : X.N[i]? = some x := by rfl) (hv : Vis X.env.scope x := by first | exact Or.inl rfl | exact Or.inr (Or.inl rfl) | exact Or.inr (Or.inr rfl)) (hd : (x == ("__debug__" : Str)) = false := by decide)
    (hcd : (x == ("__classdict__" : Str)) = false := by decide) : GV X W (.Name x pos) (mvV i) := by
  refine PE.imp (pe_var hN hv hd hcd) fun σ H Q ⟨F0, H0, ρ, F, cs, R, p⟩ => ?_
  unfold mvV at p
  split at p
  · rename_i d q
    obtain ⟨v, c1, c2, c3, e1, e2, r, _⟩ := R.put q
    exact ⟨v, e2, p F H v [] cs (Ext.refl R.fh) R ⟨rfl, r.2⟩ ⟨List.nodup_nil, fun _ h => nomatch h⟩⟩
  · rename_i o _ q
    obtain ⟨v, c2, cs2, e2, r, R2, t, _⟩ := R.take q
    exact ⟨v, e2, p F H v c2 cs2 (Ext.refl R.fh) R2 r t⟩
  · exact p.elim
def nilV : DVs := fun ρ => .ok [] ρ
def consV (f : DV) (g : DVs) : DVs := fun ρ => match f ρ with
  | .ok o ρ' => match g ρ' with
    | .ok os ρ2 => .ok (o :: os) ρ2
    | .ex c => .ex c
    | .bad => .bad
  | .ex c => .ex c
  | .bad => .bad
theorem gvs_nil : GVs X W [] nilV := PA.imp pa_nil fun σ H Q ⟨F0, H0, ρ, F, cs, R, p⟩ => p F H [] [] cs (Ext.refl R.fh) R ⟨rfl, rfl⟩ ⟨List.nodup_nil, fun _ h => nomatch h⟩
/-- the frame: cells that are not the slots' stay while an expression runs -/
theorem gvs_cons {es : List Expr} {f : DV} {g : DVs} (hf : GV X W e f) (hg : GVs X W es g) (hs : starEach (e :: es) X.env = (false, eval e X.env) :: starEach es X.env := by rfl) : GVs X W (e :: es) (consV f g) := by
  refine PA.imp (pa_cons hf hg hs) fun σ H Q ⟨F0, H0, ρ, F, cs, R, p⟩ => ?_
  refine ⟨F0, H0, ρ, F, cs, R, ?_⟩
  unfold consV at p
  cases q : f ρ with
  | bad => rw [q] at p; exact p
  | ex c => rw [q] at p; exact p
  | ok o ρ1 =>
    rw [q] at p
    intro F1 H1 v c1 cs1 e1 R1 r1 t1
    -- the cells taken join what stood ahead
    let Hb : Hp := fun a => if a ∈ c1 then H1 a else H0 a
    have hb0 : Same H0 Hb := fun a u q => by
      show (if a ∈ c1 then H1 a else H0 a) = some u
      split
      · rename_i h; rw [(t1.fr a h).2.1] at q; cases q
      · exact q
    have Rb : RS X.K F1 Hb ρ1 F1 σ H1 cs1 := ⟨R1.fh, Same.refl _, fun _ _ => rfl, fun a u q => by
      have q' : (if a ∈ c1 then H1 a else H0 a) = some u := q
      split at q'
      · exact q'
      · exact R1.h0 a u q', R1.sl, R1.nd, fun c hc => ⟨(R1.cf c hc).1, by
      show (if c ∈ c1 then H1 c else H0 c) = none
      rw [if_neg fun h => (t1.fr c h).2.2 hc]
      exact (R1.cf c hc).2⟩⟩
    refine ⟨F1, Hb, ρ1, F1, cs1, Rb, ?_⟩
    cases q2 : g ρ1 with
    | bad => simp only [q2] at p; exact p
    | ex c => simp only [q2] at p; exact fun F2 H2 C e2 m => p F2 H2 C (e1.trans e2) m
    | ok os ρ2 =>
      simp only [q2] at p
      intro F2 H2 vs c2 cs2 e2 R2 r2 t2
      have dj : ∀ c ∈ c1, c ∉ c2 ∧ c ∉ cs2 := fun c hc => by
        have nb : Hb c ≠ none := by
          show (if c ∈ c1 then H1 c else H0 c) ≠ none
          rw [if_pos hc]
          exact r1.there c hc
        exact ⟨fun h => nb (t2.fr c h).2.1, fun h => nb (R2.cf c h).2⟩
      refine p F2 H2 (v :: vs) (c1 ++ c2) cs2 (e1.trans e2) ⟨R2.fh, R1.f0.trans e2.ff, fun a h => ?_, fun a u q => R2.h0 a u (hb0 a u q), R2.sl, R2.nd, fun c hc => ⟨(R2.cf c hc).1, hb0.free (R2.cf c hc).2⟩⟩ ⟨v, vs, c1, c2, rfl, rfl, ORep.ext e2 r1, r2⟩ ⟨?_, fun c hc => ?_⟩
      · have h1 : H1 a ≠ none := by
          cases q : H0 a with
          | none => exact absurd q h
          | some u => rw [R1.h0 a u q]; exact fun h => nomatch h
        rw [e2.nw a h1]
        exact R1.nw a h
      · rw [List.nodup_append]
        exact ⟨t1.nd, t2.nd, fun a ha b hb e => by subst e; exact (dj a ha).1 hb⟩
      · rcases List.mem_append.mp hc with h | h
        · exact ⟨e2.nf (r1.there c h) (t1.fr c h).1, (t1.fr c h).2.1, (dj c h).2⟩
        · exact ⟨(t2.fr c h).1, hb0.free (t2.fr c h).2.1, (t2.fr c h).2.2⟩
def tupV (f : DVs) : DV := fun ρ => match f ρ with
  | .ok os ρ' => if okLen os.length then .ok (.tup os) ρ' else .bad
  | .ex c => .ex c
  | .bad => .bad
def lstV (f : DVs) : DV := fun ρ => match f ρ with
  | .ok os ρ' => if okLen os.length then .ok (.lst os) ρ' else .bad
  | .ex c => .ex c
  | .bad => .bad
theorem RS.newcell {p : Addr} {o : HO} (R : RS K F0 H0 ρ F σ H cs) (np : H p = none) : RS K F0 H0 ρ F σ (upd H p o) cs := R.ext (ext_new R.fh np)
theorem gv_tup {es : List Expr} {k : Nat} {f : DVs} (h : GVs X W es f) : GV X W (.Tuple es k pos) (tupV f) := by
  refine PE.imp (pe_tup h) fun σ H Q ⟨F0, H0, ρ, F, cs, R, p⟩ => ?_
  refine ⟨F0, H0, ρ, F, cs, R, ?_⟩
  unfold tupV at p
  cases q : f ρ with
  | bad => rw [q] at p; exact p
  | ex c => rw [q] at p; exact p
  | ok os ρ1 =>
    rw [q] at p
    intro F1 H1 vs c1 cs1 e1 R1 r1 t1
    dsimp only at p
    split at p
    · rename_i hl
      refine ⟨by rw [← r1.len]; exact okLen_le hl, fun l nl => ?_⟩
      refine p F1 _ (.ref l) (l :: c1) cs1 (e1.trans (ext_new e1.fh nl)) (R1.newcell nl) ⟨l, vs, c1, rfl, rfl, upd_same, r1.upd nl⟩ ⟨List.nodup_cons.mpr ⟨fun h => r1.there l h nl, t1.nd⟩, fun c hc => ?_⟩
      rcases List.mem_cons.mp hc with rfl | h
      · exact ⟨e1.fh.free nl, R1.h0.free nl, fun h => R1.sl.there _ h nl⟩
      · exact t1.fr c h
    · exact p.elim
theorem gv_lst {es : List Expr} {f : DVs} (h : GVs X W es f) : GV X W (.List es pos) (lstV f) := by
  refine PE.imp (pe_lst h) fun σ H Q ⟨F0, H0, ρ, F, cs, R, p⟩ => ?_
  refine ⟨F0, H0, ρ, F, cs, R, ?_⟩
  unfold lstV at p
  cases q : f ρ with
  | bad => rw [q] at p; exact p
  | ex c => rw [q] at p; exact p
  | ok os ρ1 =>
    rw [q] at p
    intro F1 H1 vs c1 cs1 e1 R1 r1 t1
    dsimp only at p
    split at p
    · rename_i hl
      refine ⟨by rw [← r1.len]; exact okLen_le hl, fun l nl => ?_⟩
      refine p F1 _ (.ref l) (l :: c1) cs1 (e1.trans (ext_new e1.fh nl)) (R1.newcell nl) ⟨l, vs, c1, rfl, rfl, upd_same, r1.upd nl⟩ ⟨List.nodup_cons.mpr ⟨fun h => r1.there l h nl, t1.nd⟩, fun c hc => ?_⟩
      rcases List.mem_cons.mp hc with rfl | h
      · exact ⟨e1.fh.free nl, R1.h0.free nl, fun h => R1.sl.there _ h nl⟩
      · exact t1.fr c h
    · exact p.elim
/-- return -/
def retS (f : DV) : DS := fun ρ => match f ρ with
  | .ok o _ => .rt o
  | .ex c => .ex c ρ
  | .bad => .bad
theorem gs_ret {f : DV} (he : GV X W e f) : GS X W (.Return (some e) pos) (retS f) := by
  refine PS.imp (ps_ret he) fun D σ H ⟨F0, H0, ρ, F, cs, R, p⟩ => ?_
  refine ⟨F0, H0, ρ, F, cs, R, ?_⟩
  unfold retS at p
  cases q : f ρ with
  | bad => rw [q] at p; exact p
  | ex c => rw [q] at p; exact fun F2 H2 C e m => p F2 H2 σ cs C e.ff (R.ext e) m
  | ok o ρ1 =>
    rw [q] at p
    exact fun F2 H2 v c2 cs2 e2 R2 r2 t2 => p F2 H2 v c2 R2.toExt r2 ⟨t2.nd, fun c hc => ⟨(t2.fr c hc).2.1, (t2.fr c hc).1⟩⟩
@[simp] def retN : DS := fun _ => .rt (.fz .non)
theorem gs_retN : GS X W (.Return none pos) retN := PS.imp ps_retN fun D σ H ⟨F0, H0, ρ, F, cs, R, p⟩ => p F H .non [] R.toExt ⟨rfl, rfl⟩ New.nil
end
end DL

namespace DL
open PySem PySem.Spec L2
variable {K : PySem.W.Frag} {F F' H H' H0 F0 F1 H1 : Hp} {cs cs' : List Addr} {σ σ' : L2.St} {ρ ρ' : Rho}
/-! ### a place within a tree -/
@[simp] def O.kids : O → Option (List O)
  | .lst os => some os
  | .tup os => some os
  | _ => none
@[simp] def O.withKids : O → List O → O
  | .lst _, os => .lst os
  | .tup _, os => .tup os
  | o, _ => o
@[simp] def O.at : List Nat → O → Option O
  | [], o => some o
  | n :: p, o => match o.kids with
    | some os => match os[n]? with
      | some x => O.at p x
      | none => none
    | none => none
@[simp] def O.put : List Nat → O → O → O
  | [], s, _ => s
  | n :: p, s, o => match o.kids with
    | some os => match os[n]? with
      | some x => o.withKids (os.set n (O.put p s x))
      | none => o
    | none => o
/-- v leads to u in H by the places p -/
def VAt (K : PySem.W.Frag) (H : Hp) : List Nat → V → V → Prop
  | [], v, u => v = u
  | n :: p, v, u => ∃ a vs w, v = .ref a ∧ (H a = some (.lst vs) ∨ H a = some (.tup vs)) ∧ vs[n]? = some w ∧ VAt K H p w u
theorem VAt.same {p v u} (h : Same H H') (r : VAt K H p v u) : VAt K H' p v u := by
  induction p generalizing v with
  | nil => exact r
  | cons n p ih =>
    obtain ⟨a, vs, w, e, s, g, q⟩ := r
    exact ⟨a, vs, w, e, s.elim (fun s => .inl (h _ _ s)) (fun s => .inr (h _ _ s)), g, ih q⟩
theorem OReps.focus : ∀ {os : List O} {vs : List V} {c} (n : Nat) {x : O}, OReps K F H os vs c → os[n]? = some x → ∃ v c1 c2 c3, vs[n]? = some v ∧ c = c1 ++ (c2 ++ c3) ∧ ORep K F H x v c2 ∧
    ∀ F' H' x' c2', Same F F' → (∀ b ∈ c1, H' b = H b) → (∀ b ∈ c3, H' b = H b) → ORep K F' H' x' v c2' → OReps K F' H' (os.set n x') vs (c1 ++ (c2' ++ c3))
  | [], _, _, n, x, _, h => by simp at h
  | o :: os, _, _, 0, x, ⟨v, r, c1, c2, e1, e2, p, q⟩, h => by
    have h' : o = x := by simpa using h
    subst e1 e2 h'
    exact ⟨v, [], c1, c2, rfl, rfl, p, fun F' H' x' c2' hF _ k s => ⟨v, r, c2', c2, rfl, rfl, s, q.frame hF k⟩⟩
  | o :: os, _, _, n + 1, x, ⟨v, r, c1, c2, e1, e2, p, q⟩, h => by
    subst e1 e2
    obtain ⟨u, d1, d2, d3, e3, e4, s, k⟩ := OReps.focus n q (by simpa using h)
    subst e4
    exact ⟨u, c1 ++ d1, d2, d3, by simpa using e3, by simp [List.append_assoc], s, fun F' H' x' c2' hF k1 k3 s2 => ⟨v, r, c1, d1 ++ (c2' ++ d3), rfl, by simp [List.append_assoc], p.frame hF (fun b hb => k1 b (List.mem_append_left _ hb)),
      k F' H' x' c2' hF (fun b hb => k1 b (List.mem_append_right _ hb)) k3 s2⟩⟩
theorem ORep.focus : ∀ {p : List Nat} {o s : O} {v : V} {c}, ORep K F H o v c → O.at p o = some s → ∃ u c1 c2 c3, VAt K H p v u ∧ c = c1 ++ (c2 ++ c3) ∧ ORep K F H s u c2 ∧
    ∀ F' H' s' c2', Same F F' → (∀ b ∈ c1, H' b = H b) → (∀ b ∈ c3, H' b = H b) → ORep K F' H' s' u c2' → ORep K F' H' (O.put p s' o) v (c1 ++ (c2' ++ c3))
  | [], o, s, v, c, r, h => by
    cases h
    exact ⟨v, [], c, [], rfl, by simp, r, fun F' H' s' c2' _ _ _ q => by simpa [O.put] using q⟩
  | n :: p, o, s, v, c, r, h => by
    unfold O.at at h
    split at h
    · rename_i os ek
      split at h
      · rename_i x ex
        cases o with
        | lst ys =>
          cases ek
          obtain ⟨a, vs, c', e1, e2, e3, q⟩ := r
          obtain ⟨w, d1, d2, d3, g1, g2, g3, k⟩ := q.focus n ex
          obtain ⟨u, f1, f2, f3, h1, h2, h3, k2⟩ := ORep.focus g3 h
          subst g2 h2 e2
          refine ⟨u, a :: (d1 ++ f1), f2, f3 ++ d3, ⟨a, vs, w, e1, .inl e3, g1, h1⟩, by simp [List.append_assoc], h3, fun F' H' s' c2' hF k1 k3 q2 => ?_⟩
          have z := k F' H' (O.put p s' x) (f1 ++ (c2' ++ f3)) hF (fun b hb => k1 b (List.mem_cons_of_mem _ (List.mem_append_left _ hb))) (fun b hb => k3 b (List.mem_append_right _ hb))
            (k2 F' H' s' c2' hF (fun b hb => k1 b (List.mem_cons_of_mem _ (List.mem_append_right _ hb))) (fun b hb => k3 b (List.mem_append_left _ hb)) q2)
          have e : O.put (n :: p) s' (.lst os) = .lst (os.set n (O.put p s' x)) := by
            simp only [O.put, O.kids, ex, O.withKids]
          rw [e]
          exact ⟨a, vs, d1 ++ ((f1 ++ (c2' ++ f3)) ++ d3), e1, by simp [List.append_assoc], by rw [k1 a List.mem_cons_self]; exact e3, z⟩
        | tup ys =>
          cases ek
          obtain ⟨a, vs, c', e1, e2, e3, q⟩ := r
          obtain ⟨w, d1, d2, d3, g1, g2, g3, k⟩ := q.focus n ex
          obtain ⟨u, f1, f2, f3, h1, h2, h3, k2⟩ := ORep.focus g3 h
          subst g2 h2 e2
          refine ⟨u, a :: (d1 ++ f1), f2, f3 ++ d3, ⟨a, vs, w, e1, .inr e3, g1, h1⟩, by simp [List.append_assoc], h3, fun F' H' s' c2' hF k1 k3 q2 => ?_⟩
          have z := k F' H' (O.put p s' x) (f1 ++ (c2' ++ f3)) hF (fun b hb => k1 b (List.mem_cons_of_mem _ (List.mem_append_left _ hb))) (fun b hb => k3 b (List.mem_append_right _ hb))
            (k2 F' H' s' c2' hF (fun b hb => k1 b (List.mem_cons_of_mem _ (List.mem_append_right _ hb))) (fun b hb => k3 b (List.mem_append_left _ hb)) q2)
          have e : O.put (n :: p) s' (.tup os) = .tup (os.set n (O.put p s' x)) := by
            simp only [O.put, O.kids, ex, O.withKids]
          rw [e]
          exact ⟨a, vs, d1 ++ ((f1 ++ (c2' ++ f3)) ++ d3), e1, by simp [List.append_assoc], by rw [k1 a List.mem_cons_self]; exact e3, z⟩
        | fz d => cases ek
        | dK _ _ => cases ek
        | dT _ _ => cases ek
      · cases h
    · cases h
/-- a place of a slot's tree changes in place -/
theorem RS.putAt {i : Nat} {p : List Nat} {o s : O} (R : RS K F0 H0 ρ F σ H cs) (hi : ρ[i]? = some (some o)) (hp : O.at p o = some s) : ∃ v u c1 c2 c3, cs = c1 ++ (c2 ++ c3) ∧ σ[i]? = some (some v) ∧ VAt K H p v u ∧ ORep K F H s u c2 ∧
    ∀ H2 s2 c2', (∀ b, b ∉ c2 → H b ≠ none → H2 b = H b) → ORep K F H2 s2 u c2' → c2'.Nodup → (∀ c ∈ c2', F c = none ∧ H0 c = none ∧ c ∉ c1 ∧ c ∉ c3) → RS K F0 H0 (ρ.set i (some (O.put p s2 o))) F σ H2 (c1 ++ (c2' ++ c3)) := by
  obtain ⟨v, d1, d2, d3, e1, e2, r, k⟩ := R.put hi
  obtain ⟨u, f1, f2, f3, h1, h2, h3, k2⟩ := r.focus hp
  subst e1 h2
  have nd := R.nd
  refine ⟨v, u, d1 ++ f1, f2, f3 ++ d3, by simp [List.append_assoc], e2, h1, h3, fun H2 s2 c2' kb ro nd2 fr => ?_⟩
  have ndA : (d1 ++ ((f1 ++ (f2 ++ f3)) ++ d3)).Nodup := nd
  rw [List.nodup_append] at nd
  obtain ⟨n1, n23, d123⟩ := nd
  rw [List.nodup_append] at n23
  obtain ⟨n2, n3, d23⟩ := n23
  rw [List.nodup_append] at n2
  obtain ⟨m1, m2, m3⟩ := n2
  rw [List.nodup_append] at m2
  obtain ⟨q1, q2, q3⟩ := m2
  have thF : ∀ b, b ∈ f1 ++ (f2 ++ f3) → H b ≠ none := fun b hb => r.there b hb
  have hf1 : ∀ b ∈ f1, H2 b = H b := fun b hb => kb b (fun h => m3 b hb b (List.mem_append_left _ h) rfl) (thF b (List.mem_append_left _ hb))
  have hf3 : ∀ b ∈ f3, H2 b = H b := fun b hb => kb b (fun h => q3 b h b hb rfl) (thF b (List.mem_append_right _ (List.mem_append_right _ hb)))
  have z := k2 F H2 s2 c2' (Same.refl _) hf1 hf3 ro
  have w := k H2 (O.put p s2 o) (f1 ++ (c2' ++ f3)) (fun b hb hn => kb b (fun h => hb (List.mem_append_right _ (List.mem_append_left _ h))) hn) z ?_ ?_
  · have : d1 ++ f1 ++ (c2' ++ (f3 ++ d3)) = d1 ++ ((f1 ++ (c2' ++ f3)) ++ d3) := by simp [List.append_assoc]
    rw [this]; exact w
  · rw [List.nodup_append]
    refine ⟨m1, ?_, fun a ha b hb e => ?_⟩
    · rw [List.nodup_append]
      exact ⟨nd2, q2, fun a ha b hb e => by subst e; exact (fr a ha).2.2.2 (List.mem_append_left _ hb)⟩
    · subst e
      rcases List.mem_append.mp hb with h | h
      · exact (fr a h).2.2.1 (List.mem_append_right _ ha)
      · exact m3 a ha a (List.mem_append_right _ h) rfl
  · intro c hc
    rcases List.mem_append.mp hc with h | h
    · have := R.cf c (by simp [h])
      exact ⟨this.1, this.2, fun h1 => d123 c h1 c (by simp [h]) rfl, fun h1 => d23 c (by simp [h]) c h1 rfl⟩
    · rcases List.mem_append.mp h with h | h
      · exact ⟨(fr c h).1, (fr c h).2.1, fun h1 => (fr c h).2.2.1 (List.mem_append_left _ h1), fun h1 => (fr c h).2.2.2 (List.mem_append_right _ h1)⟩
      · have := R.cf c (by simp [h])
        exact ⟨this.1, this.2, fun h1 => d123 c h1 c (by simp [h]) rfl, fun h1 => d23 c (by simp [h]) c h1 rfl⟩
section
variable {X : Cx} {W : WX} {pos : Pos} {a b c e : Expr} {fa fb fc fe : DE}
/-! ### expressions that lead to a place of a slot's tree -/
inductive Rp where
  | ok (i : Nat) (p : List Nat) | ex (c : Str) | bad
  deriving Inhabited
abbrev DP := Rho → Rp
def postP (X : Cx) (W : WX) (r : Rp) (σ : L2.St) (F H : Hp) (Q : VK) : Prop := match r with
  | .ok i p => ∀ F' H' v u, Ext F H F' H' → σ[i]? = some (some v) → VAt X.K H' p v u → Q u H'
  | .ex c => ∀ F' H' C, Ext F H F' H' → X.mg c = some (.ref C) → W (.ref C) none σ H'
  | .bad => False
def GP (X : Cx) (W : WX) (e : Expr) (f : DP) : Prop := PE X e (fun σ H Q => ∃ F0 H0 ρ F cs, RS X.K F0 H0 ρ F σ H cs ∧ postP X W (f ρ) σ F H Q)
def varP (i : Nat) : DP := fun ρ => match ρ[i]? with
  | some (some _) => .ok i []
  | _ => .bad
theorem gp_var (i : Nat) {x : Str} (hN : X.N[i]? = some x := by rfl) (hv : Vis X.env.scope x := by first | exact Or.inl rfl | exact Or.inr (Or.inl rfl) | exact Or.inr (Or.inr rfl)) (hd : (x == ("__debug__" : Str)) = false := by decide)
    (hcd : (x == ("__classdict__" : Str)) = false := by decide) : GP X W (.Name x pos) (varP i) := by
  refine PE.imp (pe_var hN hv hd hcd) fun σ H Q ⟨F0, H0, ρ, F, cs, R, p⟩ => ?_
  unfold varP at p
  split at p
  · rename_i o q
    obtain ⟨v, c1, c2, c3, e1, e2, r, _⟩ := R.put q
    exact ⟨v, e2, p F H v v (Ext.refl R.fh) e2 rfl⟩
  · exact p.elim
theorem postP_ext {r : Rp} {σ : L2.St} {Q : VK} (e : Ext F H F' H') (h : postP X W r σ F H Q) : postP X W r σ F' H' Q := by
  cases r with
  | ok i p => exact fun F2 H2 v u e2 => h F2 H2 v u (e.trans e2)
  | ex c => exact fun F2 H2 C e2 m => h F2 H2 C (e.trans e2) m
  | bad => exact h.elim
def ixP (fp : DP) (fb : DE) : DP := fun ρ => match fp ρ with
  | .ok i p => match fb ρ with
    | .ok y => match y.d with
      | .int j => match ρ[i]? with
        | some (some o) => match O.at p o with
          | some s => match s.kids with
            | some os => match ixN os.length j with
              | some n => if n < os.length then .ok i (p ++ [n]) else .bad
              | none => .bad
            | none => .bad
          | none => .bad
        | _ => .bad
      | _ => .bad
    | .ex c => .ex c
    | .bad => .bad
  | .ex c => .ex c
  | .bad => .bad
theorem VAt.snoc {p : List Nat} {n : Nat} {v u w : V} {a vs} (h : VAt K H p v u) (e : u = .ref a) (s : H a = some (.lst vs) ∨ H a = some (.tup vs)) (g : vs[n]? = some w) : VAt K H (p ++ [n]) v w := by
  induction p generalizing v with
  | nil =>
    have h' : v = u := h
    subst h'
    exact ⟨a, vs, w, e, s, g, rfl⟩
  | cons m p ih =>
    obtain ⟨b, us, x, e1, s1, g1, q⟩ := h
    exact ⟨b, us, x, e1, s1, g1, ih q⟩
theorem VAt.fun_ {p : List Nat} {v u w : V} (h : VAt K H p v u) (h' : VAt K H p v w) : u = w := by
  induction p generalizing v with
  | nil => exact (show v = u from h).symm.trans h'
  | cons m p ih =>
    obtain ⟨a, us, x, e1, s1, g1, q⟩ := h
    obtain ⟨b, vs, y, e2, s2, g2, q2⟩ := h'
    have : a = b := by rw [e1] at e2; exact V.ref.inj e2
    subst this
    have : us = vs := by
      rcases s1 with s1 | s1 <;> rcases s2 with s2 | s2 <;> rw [s1] at s2
      · cases s2; rfl
      · cases s2
      · cases s2
      · cases s2; rfl
    subst this
    rw [g1] at g2
    have : x = y := Option.some.inj g2
    subst this
    exact ih q q2
theorem gp_ix (ha : GP X W a fp) (hb : GE X W b fb) (hs : PlainIx b := by intro _ _; rfl) : GP X W (.Subscript a b pos) (ixP fp fb) := by
  refine PE.imp (pe_ix ix_seq ha hb hs) fun σ H Q ⟨F0, H0, ρ, F, cs, R, p⟩ => ?_
  refine ⟨F0, H0, ρ, F, cs, R, ?_⟩
  unfold ixP at p
  cases q1 : fp ρ with
  | bad => simp only [q1] at p; exact p
  | ex c => simp only [q1] at p; exact p
  | ok i pl =>
    simp only [q1] at p
    intro F1 H1 v u e1 hv hat
    refine ⟨F0, H0, ρ, F1, cs, R.ext e1, ?_⟩
    cases q2 : fb ρ with
    | bad => simp only [q2] at p; exact p
    | ex c => simp only [q2] at p; exact fun F2 H2 C e2 m => p F2 H2 C (e1.trans e2) m
    | ok y =>
      simp only [q2] at p
      intro F2 H2 w c2 e2 r2 n2
      have rw2 := r2.view e2.fh
      split at p
      · rename_i j ej
        rw [ej] at rw2
        split at p
        · rename_i o eo
          split at p
          · rename_i s es
            split at p
            · rename_i os ek
              split at p
              · rename_i n en
                split at p
                · rename_i hn
                  have R2 := (R.ext e1).ext e2
                  obtain ⟨v', u', c1, c2', c3, _, g2, g3, g4, _⟩ := R2.putAt eo es
                  have ev : v' = v := by rw [hv] at g2; exact (Option.some.inj (Option.some.inj g2)).symm
                  subst ev
                  have eu : u' = u := g3.fun_ (hat.same e2.hh)
                  subst eu
                  have hu : ∃ a vs, u' = .ref a ∧ os.length = vs.length ∧ (H2 a = some (.lst vs) ∨ H2 a = some (.tup vs)) := by
                    cases s with
                    | lst os' => cases ek; obtain ⟨a, vs, c', e1, e2, e3, q⟩ := g4; exact ⟨a, vs, e1, q.len, .inl e3⟩
                    | tup os' => cases ek; obtain ⟨a, vs, c', e1, e2, e3, q⟩ := g4; exact ⟨a, vs, e1, q.len, .inr e3⟩
                    | fz d => cases ek
                    | dK _ _ => cases ek
                    | dT _ _ => cases ek
                  obtain ⟨a, vs, eu, el, es2⟩ := hu
                  have hn' : n < vs.length := by rw [← el]; exact hn
                  have gv : vs[n]? = some vs[n] := List.getElem?_eq_getElem hn'
                  have at1 : atI vs j = some vs[n] := by
                    unfold atI
                    rw [← el, en]
                    exact gv
                  have fin := p F2 H2 v' vs[n] (e1.trans e2) hv (g3.snoc eu es2 gv)
                  rcases es2 with s2 | s2
                  · exact .inl ⟨a, vs, j, _, eu, rw2, SqL.of s2, at1, fin⟩
                  · exact .inr (.inl ⟨a, vs, j, _, eu, rw2, SqT.of s2, at1, fin⟩)
                · exact p.elim
              · exact p.elim
            · exact p.elim
          · exact p.elim
        · exact p.elim
      · exact p.elim
/-! ### methods that change a tree in place, as statements -/
/-- a method by its tree: the old one, the arguments' trees; the new one -/
abbrev GMt := O → List O → Option O
@[simp] def tyO : O → String
  | .lst _ => "list" | .tup _ => "" | .dK _ _ => "dict" | .dT _ _ => "dict" | .fz _ => ""
@[simp] def kindAt (ρ : Rho) (i : Nat) (p : List Nat) : String := match ρ[i]? with
  | some (some o) => match O.at p o with
    | some s => tyO s
    | none => ""
  | _ => ""
def methS (T : String) (fp : DP) (fa : DVs) (g : GMt) : DS := fun ρ => match fp ρ with
  | .ok i p => if kindAt ρ i p = T then (match fa ρ with
    | .ok as ρ' => match ρ'[i]? with
      | some (some o) => match O.at p o with
        | some s => match g s as with
          | some s' => .nx (ρ'.set i (some (O.put p s' o)))
          | none => .bad
        | none => .bad
      | _ => .bad
    | .ex c => .ex c ρ
    | .bad => .bad) else .bad
  | .ex c => .ex c ρ
  | .bad => .bad
/-- what such a method does to the heap: it changes the one cell -/
def MtT (X : Cx) (r : V → List V → Hp → VK → Prop) (g : GMt) : Prop := ∀ (F H : Hp) (s s' : O) (as : List O) (u : V) (vs : List V) (c c' : List Addr) (Q : VK), Same F H → ORep X.K F H s u c → OReps X.K F H as vs c' → (c ++ c').Nodup → (∀ b ∈ c ++ c', F b = none) → g s as = some s' →
  (∀ H2 w c2, (∀ b, b ∉ c → H b ≠ none → H2 b = H b) → ORep X.K F H2 s' u c2 → c2.Nodup → (∀ b ∈ c2, b ∈ c ++ c') → Q w H2) → r u vs H Q
theorem tyV_tyO {T : String} {s : O} {u : V} {c} (hT : T ≠ "") (h : ORep K F H s u c) (e : tyO s = T) : tyV K T u H := by
  subst e
  cases s with
  | fz d => exact absurd rfl hT
  | lst os => obtain ⟨a, vs, c', e1, e2, e3, q⟩ := h; subst e1; exact .inl ⟨rfl, vs, SqL.of e3⟩
  | tup os => exact absurd rfl hT
  | dK ks ds => obtain ⟨a, vs, e1, e2, e3, q⟩ := h; subst e1; exact .inr (.inr (.inl ⟨rfl, .inl ⟨_, e3⟩⟩))
  | dT ks ds => obtain ⟨a, vs, e1, e2, e3, q⟩ := h; subst e1; exact .inr (.inr (.inl ⟨rfl, .inr ⟨_, e3⟩⟩))
theorem kindAt_ty {T : String} {i p v u} (hT : T ≠ "") (R : RS K F0 H0 ρ F σ H cs) (e : kindAt ρ i p = T) (hv : σ[i]? = some (some v)) (hat : VAt K H p v u) : tyV K T u H := by
  unfold kindAt at e
  split at e
  · rename_i o eo
    split at e
    · rename_i s es
      obtain ⟨v', u', c1, c2, c3, _, g2, g3, g4, _⟩ := R.putAt eo es
      rw [hv] at g2
      cases g2
      have : u' = u := g3.fun_ hat
      subst this
      exact tyV_tyO hT g4 e
    · exact absurd e.symm hT
  · exact absurd e.symm hT
theorem gs_meth {T : String} {id : String} {name : Str} {es : List Expr} {apos cpos : Pos} {r : V → List V → Hp → VK → Prop} {g : GMt} {o : Expr} {fp : DP} {fv : DVs} (pa : PlainAttrs T) (slot : Slot T name id) (hty : typeOf (.builtin id) = pure (.type "method_descriptor")) (hm : MtR X id r) (mt : MtT X r g) (hT : T ≠ "") (ho : GP X W o fp) (ha : GVs X W (e :: es) fv)
    (hbase : attributeBase o name X.env (eval o X.env) = eval o X.env := by rfl)
    (hfew : ((backTo cpos (starEach (e :: es) X.env)).all (fun x => !x.1) && (backToKw cpos (keywordEach [] X.env)).all (fun x => x.1.isSome)
      && decide ((e :: es).length + ([] : List Keyword).length + (if ([] : List Keyword).isEmpty then 0 else 1) < 30)) = true := by rfl)
    (hline : (apos.endLine == cpos.line) = true := by rfl) (hs : starEach (e :: es) X.env = (false, eval e X.env) :: starEach es X.env := by rfl) (hplain : (backTo cpos (starEach es X.env)).any (·.1) = false := by rfl)
    (hsw : swapsWith (.Call (.Attribute o name apos) (e :: es) [] cpos) none pos.line X.env = pure false := by rfl) :
    GS X W (.Expr (.Call (.Attribute o name apos) (e :: es) [] cpos) pos) (methS T fp fv g) := by
  refine PS.imp (ps_expr (pe_bm pa slot hty hm ho ha hbase hfew hline hs hplain) hsw) fun D σ H ⟨F0, H0, ρ, F, cs, R, p⟩ => ?_
  refine ⟨F0, H0, ρ, F, cs, R, ?_⟩
  unfold methS at p
  cases q1 : fp ρ with
  | bad => simp only [q1] at p; exact p
  | ex c => simp only [q1] at p; exact fun F2 H2 C e m => p F2 H2 σ cs C e.ff (R.ext e) m
  | ok i pl =>
    simp only [q1] at p
    intro F1 H1 v u e1 hv hat
    split at p
    · rename_i hk
      refine ⟨kindAt_ty hT (R.ext e1) hk hv hat, F0, H0, ρ, F1, cs, R.ext e1, ?_⟩
      cases q2 : fv ρ with
      | bad => simp only [q2] at p; exact p
      | ex c => simp only [q2] at p; exact fun F2 H2 C e m => p F2 H2 σ cs C (e1.ff.trans e.ff) ((R.ext e1).ext e) m
      | ok as ρ' =>
        simp only [q2] at p
        intro F2 H2 vs c1 cs1 e2 R2 r2 t2
        split at p
        · rename_i o eo
          split at p
          · rename_i s es
            split at p
            · rename_i s' eg
              obtain ⟨v', u', d1, d2, d3, g1, g2, g3, g4, k⟩ := R2.putAt eo es
              rw [hv] at g2
              cases g2
              have : u' = u := g3.fun_ (hat.same e2.hh)
              subst this
              subst g1
              have nd := R2.nd
              rw [List.nodup_append] at nd
              obtain ⟨n1, n23, d123⟩ := nd
              rw [List.nodup_append] at n23
              obtain ⟨n2, n3, d23⟩ := n23
              refine mt F2 H2 s s' as u' vs d2 c1 _ e2.fh g4 r2 ?_ ?_ eg fun H3 w c3 k3 r3 n4 s3 => ?_
              · rw [List.nodup_append]
                exact ⟨n2, t2.nd, fun a ha b hb e => by subst e; exact (t2.fr a hb).2.2 (List.mem_append_right _ (List.mem_append_left _ ha))⟩
              · intro b hb
                rcases List.mem_append.mp hb with h | h
                · exact (R2.cf b (List.mem_append_right _ (List.mem_append_left _ h))).1
                · exact (t2.fr b h).1
              · have := k H3 s' c3 k3 r3 n4 fun c hc => by
                  rcases List.mem_append.mp (s3 c hc) with h | h
                  · have q := R2.cf c (List.mem_append_right _ (List.mem_append_left _ h))
                    exact ⟨q.1, q.2, fun h1 => d123 c h1 c (List.mem_append_left _ h) rfl, fun h1 => d23 c h c h1 rfl⟩
                  · have q := t2.fr c h
                    exact ⟨q.1, q.2.1, fun h1 => q.2.2 (List.mem_append_left _ h1), fun h1 => q.2.2 (List.mem_append_right _ (List.mem_append_right _ h1))⟩
                exact p F2 H3 σ _ (e1.ff.trans e2.ff) this
            · exact p.elim
          · exact p.elim
        · exact p.elim
    · exact p.elim
/-- xs.append(e) -/
@[simp] def gAppend : GMt
  | .lst os, [o] => if os.length < lim then some (.lst (os ++ [o])) else none
  | _, _ => none
theorem mtt_append : MtT X rAppend gAppend := by
  intro F H s s' as u vs c c' Q fh rs ra nd cf eg k
  unfold gAppend at eg
  split at eg
  · rename_i os o
    split at eg
    · rename_i hl
      cases eg
      obtain ⟨a, ys, c2, e1, e2, e3, q⟩ := rs
      obtain ⟨y, r', d1, d2, f1, f2, f3, f4, f5⟩ := ra
      subst e1 e2 f1 f2 f4 f5
      refine ⟨a, ys, y, rfl, rfl, e3, ?_, ?_⟩
      · rw [← q.len, ← lim_eq]; exact hl
      · rw [List.append_nil] at nd cf k
        have nd' := nd
        rw [List.cons_append, List.nodup_cons] at nd'
        have na : ∀ b ∈ c2 ++ d1, upd H a (.lst (ys ++ [y])) b = H b := fun b hb => upd_ne fun e => by subst e; exact nd'.1 hb
        refine k _ _ (a :: (c2 ++ d1)) (fun b hb hn => upd_ne fun e => hb (by rw [e]; exact List.mem_cons_self)) ⟨a, ys ++ [y], c2 ++ d1, rfl, rfl, upd_same, ?_⟩ nd (fun b hb => hb)
        exact OReps.append (q.frame (Same.refl _) fun b hb => na b (List.mem_append_left _ hb)) (OReps.one (f3.frame (Same.refl _) fun b hb => na b (List.mem_append_right _ hb)))
    · cases eg
  · cases eg
theorem gs_append {o : Expr} {apos cpos : Pos} {fp : DP} {fv : DVs} (ho : GP X W o fp) (ha : GVs X W [e] fv)
    (hbase : attributeBase o "append" X.env (eval o X.env) = eval o X.env := by rfl)
    (hfew : ((backTo cpos (starEach [e] X.env)).all (fun x => !x.1) && (backToKw cpos (keywordEach [] X.env)).all (fun x => x.1.isSome)
      && decide ([e].length + ([] : List Keyword).length + (if ([] : List Keyword).isEmpty then 0 else 1) < 30)) = true := by rfl)
    (hline : (apos.endLine == cpos.line) = true := by rfl) (hs : starEach [e] X.env = (false, eval e X.env) :: starEach [] X.env := by rfl) (hplain : (backTo cpos (starEach [] X.env)).any (·.1) = false := by rfl)
    (hsw : swapsWith (.Call (.Attribute o "append" apos) [e] [] cpos) none pos.line X.env = pure false := by rfl) :
    GS X W (.Expr (.Call (.Attribute o "append" apos) [e] [] cpos) pos) (methS "list" fp fv gAppend) :=
  gs_meth PySem.F.plainAttrs_list PySem.F.slot_list_append PySem.F.type_list_append mt_append mtt_append (by decide) ho ha hbase hfew hline hs hplain hsw
end
end DL

namespace DL
open PySem PySem.Spec L2
variable {K : PySem.W.Frag} {F F' H H' H0 F0 F1 H1 : Hp} {cs cs' : List Addr} {σ σ' : L2.St} {ρ ρ' : Rho}
section
variable {X : Cx} {W : WX} {pos : Pos} {a b c e : Expr} {fa fb fc fe : DE} {f g : DS}
/-! ### targets -/
abbrev DB := D → Rho → Option Rho
def GG (X : Cx) (tg : Expr) (b : DB) : Prop := PG X tg (fun v σ H Q => ∃ F0 H0 ρ F cs d ρ', RS X.K F0 H0 ρ F σ H cs ∧ Rep X.K F d v ∧ b d ρ = some ρ' ∧ ∀ F' σ' cs', Same F F' → RS X.K F0 H0 ρ' F' σ' H cs' → Q σ' H)
theorem PG.imp {X : Cx} {e : Expr} {t t' : TG} (h : PG X e t) (i : ∀ v σ H Q, t' v σ H Q → t v σ H Q) : PG X e t' := ⟨fun p s σ H v u Q I r q => h.run p s σ H v u Q I r (i v σ H Q q)⟩
@[simp] def nameB (i : Nat) : DB := fun d ρ => if i < ρ.length then some (ρ.set i (some (.fz d))) else none
theorem gg_name {i : Nat} {x : Str} (nd : X.N.Nodup) (hi : X.N[i]? = some x := by rfl) (hx : Loc X.env.scope x := by first | exact Or.inl rfl | exact Or.inr rfl) (hf : X.fn x = true ∨ X.env.scope.names.lookup x = some .local := by first | exact .inl rfl | exact .inr rfl) : GG X (.Name x pos) (nameB i) := by
  refine PG.imp (pg_name nd hi hx hf) fun v σ H Q ⟨F0, H0, ρ, F, cs, d, ρ', R, r, e, k⟩ => ?_
  unfold nameB at e
  split at e
  · rename_i hl
    cases e
    obtain ⟨cs2, R2⟩ := R.set (o := .fz d) (cs' := []) (Ext.refl R.fh) ⟨rfl, r⟩ New.nil hl
    exact k F _ cs2 (Same.refl _) R2
  · cases e
abbrev DBs := List D → Rho → Option Rho
def GGs (X : Cx) (ts : List Expr) (b : DBs) : Prop := PGs X ts (fun vs σ H Q => ∃ F0 H0 ρ F cs ds ρ', RS X.K F0 H0 ρ F σ H cs ∧ Reps X.K F ds vs ∧ b ds ρ = some ρ' ∧ ∀ F' σ' cs', Same F F' → RS X.K F0 H0 ρ' F' σ' H cs' → Q σ' H)
theorem PGs.imp {X : Cx} {e : List Expr} {t t' : TGs} (h : PGs X e t) (i : ∀ v σ H Q, t' v σ H Q → t v σ H Q) : PGs X e t' := ⟨fun p s σ H v u Q I r q => h.run p s σ H v u Q I r (i v σ H Q q)⟩
@[simp] def nilB : DBs := fun ds ρ => match ds with
  | [] => some ρ
  | _ => none
@[simp] def consB (b : DB) (bs : DBs) : DBs := fun ds ρ => match ds with
  | d :: ds => match b d ρ with
    | some ρ' => bs ds ρ'
    | none => none
  | [] => none
theorem ggs_nil : GGs X [] nilB := by
  refine PGs.imp pgs_nil fun vs σ H Q ⟨F0, H0, ρ, F, cs, ds, ρ', R, r, e, k⟩ => ?_
  unfold nilB at e
  split at e
  · cases e
    exact ⟨r, k F σ cs (Same.refl _) R⟩
  · cases e
theorem ggs_cons {tg : Expr} {ts : List Expr} {b : DB} {bs : DBs} (h1 : GG X tg b) (h2 : GGs X ts bs)
    (hs : (assignEach (tg :: ts) X.env).map (·.2) = assign tg X.env :: (assignEach ts X.env).map (·.2) := by rfl) : GGs X (tg :: ts) (consB b bs) := by
  refine PGs.imp (pgs_cons h1 h2 hs) fun vs σ H Q ⟨F0, H0, ρ, F, cs, ds, ρ', R, r, e, k⟩ => ?_
  unfold consB at e
  split at e
  · rename_i d ds
    split at e
    · rename_i ρ1 e1
      obtain ⟨v, r', ev, x, y⟩ := r
      exact ⟨v, r', ev, F0, H0, ρ, F, cs, d, ρ1, R, x, e1, fun F1 σ1 cs1 s1 R1 => ⟨F0, H0, ρ1, F1, cs1, ds, ρ', R1, y.mono s1, e, fun F2 σ2 cs2 s2 R2 => k F2 σ2 cs2 (s1.trans s2) R2⟩⟩
    · cases e
  · cases e
@[simp] def tupB (n : Nat) (bs : DBs) : DB := fun d ρ => match d with
  | .tup ds => if ds.length = n then bs ds ρ else none
  | _ => none
theorem gg_tup {es : List Expr} {k : Nat} {bs : DBs} {n : Nat} (hc : X.calm = true) (h : GGs X es bs)
    (hn : (assignEach es X.env).length = n := by rfl) (hst : (assignEach es X.env).findIdx? (·.1) = none := by rfl) : GG X (.Tuple es k pos) (tupB n bs) := by
  refine PG.imp (pg_tup hc h hn hst) fun v σ H Q ⟨F0, H0, ρ, F, cs, d, ρ', R, r, e, k⟩ => ?_
  unfold tupB at e
  split at e
  · rename_i ds
    split at e
    · rename_i hl
      obtain ⟨p, vs, ev, s, t⟩ := r
      exact ⟨p, vs, ev, SqT.of (R.fh _ _ s), by rw [← t.len]; exact hl, F0, H0, ρ, F, cs, ds, ρ', R, t, e, k⟩
    · cases e
  · cases e
/-- target = e, unpacked -/
def unpS (fe : DE) (b : DB) : DS := fun ρ => match fe ρ with
  | .ok (.ow o) => match b o.toD ρ with
    | some ρ' => .nx ρ'
    | none => .bad
  | .ok (.vw _) => .bad
  | .ex c => .ex c ρ
  | .bad => .bad
theorem gs_unp {tg : Expr} {b : DB} (he : GE X W e fe) (hg : GG X tg b) (hs : swapsWithSole [tg] e pos.line X.env = pure false := by rfl) (hw : swappedStores [tg] e X.env = pure none := by rfl)
    (h1 : (assignEach [tg] X.env).map (·.2) = [assign tg X.env] := by rfl) : GS X W (.Assign [tg] e pos) (unpS fe b) := by
  refine PS.imp (ps_asg he hg hs hw h1) fun D σ H ⟨F0, H0, ρ, F, cs, R, p⟩ => ?_
  refine ⟨F0, H0, ρ, F, cs, R, ?_⟩
  unfold unpS at p
  cases q : fe ρ with
  | bad => rw [q] at p; exact p
  | ex c => rw [q] at p; exact fun F2 H2 C e m => p F2 H2 σ cs C e.ff (R.ext e) m
  | ok x =>
    cases x with
    | vw o => rw [q] at p; exact p.elim
    | ow o =>
      simp only [q] at p
      intro F1 H1 v c1 e1 r1 n1
      split at p
      · rename_i ρ' eb
        have R1 := R.ext e1
        -- the value's cells are shut
        have sm : Same F1 (DL.shut F1 H1 c1) := same_shut fun c hc => (n1.nw c hc).2
        have R2 : RS X.K F0 H0 ρ (DL.shut F1 H1 c1) σ H1 cs := by
          refine ⟨shut_same e1.fh, R1.f0.trans sm, fun a h => ?_, R1.h0, R1.sl.frame sm fun _ _ => rfl, R1.nd, fun c hc => ⟨?_, (R1.cf c hc).2⟩⟩
          · rw [shut_out fun hc => by
              have := R.h0.free (n1.nw a hc).1
              exact h this]
            exact R1.nw a h
          · rw [shut_out fun h => R.sl.there c hc (n1.nw c h).1]
            exact (R1.cf c hc).1
        exact ⟨F0, H0, ρ, DL.shut F1 H1 c1, cs, o.toD, ρ', R2, ORep.close (o := o) (H := H1) sm (fun c hc => shut_in hc) r1, eb, fun F2 σ2 cs2 s2 R3 => p F2 H1 σ2 cs2 ((e1.ff.trans sm).trans s2) R3⟩
      · exact p.elim
/-! ### what is walked -/
structure Wk (K : PySem.W.Frag) (J : It) (F1 : Hp) (ds : List D) : Prop where
  go : ∀ i H, Same F1 H → i < ds.length → J.go i H
  yl : ∀ i F H x H' d, Same F1 F → Same F H → ds[i]? = some d → J.yld i H x H' → ∃ F', Ext F H F' H' ∧ Rep K F' d x
  st : ∀ H, Same F1 H → J.stop ds.length H
inductive Ri where
  | ok (ds : List D) | ex (c : Str) | bad
  deriving Inhabited
abbrev DI := Rho → Ri
/-- the walked thing is shut before: so F may grow by it -/
def postI (X : Cx) (W : WX) (r : Ri) (F0 H0 : Hp) (ρ : Rho) (σ : L2.St) (F H : Hp) (R : It → Hp → Prop) : Prop := match r with
  | .ok ds => ∀ F' H' J cs, Ext F H F' H' → RS X.K F0 H0 ρ F' σ H' cs → Wk X.K J F' ds → R J H'
  | .ex c => ∀ F' H' C, Ext F H F' H' → X.mg c = some (.ref C) → W (.ref C) none σ H'
  | .bad => False
def GI (X : Cx) (W : WX) (tg e : Expr) (f : DI) : Prop := PI X tg e (fun σ H R => ∃ F0 H0 ρ F cs, RS X.K F0 H0 ρ F σ H cs ∧ postI X W (f ρ) F0 H0 ρ σ F H R)
theorem PI.imp {X : Cx} {tg e : Expr} {t t' : TI} (h : PI X tg e t) (i : ∀ σ H R, t' σ H R → t σ H R) : PI X tg e t' := ⟨fun p s σ H R I q => h.run p s σ H R I (i σ H R q)⟩
/-- an argument's own cells are shut: the state goes on -/
theorem RS.shutNew {c1 : List Addr} (R : RS K F0 H0 ρ F σ H cs) (e1 : Ext F H F1 H1) (n1 : New H F1 c1) : RS K F0 H0 ρ (DL.shut F1 H1 c1) σ H1 cs ∧ Same F1 (DL.shut F1 H1 c1) ∧ Ext F H (DL.shut F1 H1 c1) H1 := by
  have R1 := R.ext e1
  have sm : Same F1 (DL.shut F1 H1 c1) := same_shut fun c hc => (n1.nw c hc).2
  refine ⟨⟨shut_same e1.fh, R1.f0.trans sm, fun a h => ?_, R1.h0, R1.sl.frame sm fun _ _ => rfl, R1.nd, fun c hc => ⟨?_, (R1.cf c hc).2⟩⟩, sm, ⟨e1.hh, e1.ff.trans sm, shut_same e1.fh, fun a h => by
    rw [shut_out fun hc => h (n1.nw a hc).1]
    exact e1.nw a h⟩⟩
  · rw [shut_out fun hc => h (R.h0.free (n1.nw a hc).1)]
    exact R1.nw a h
  · rw [shut_out fun h => R.sl.there c hc (n1.nw c h).1]
    exact (R1.cf c hc).1
def listI (f : DE) : DI := fun ρ => match f ρ with
  | .ok (.ow o) => match o.toD with
    | .lst ds => .ok ds
    | _ => .bad
  | .ok (.vw _) => .bad
  | .ex c => .ex c
  | .bad => .bad
theorem wk_list {p : Addr} {vs : List V} {ds : List D} (s : SqL K F p vs) (r : Reps K F ds vs) : Wk K (Itl K p) F ds where
  go := fun i H h hi => by
    have : i < vs.length := by rw [← r.len]; exact hi
    exact ⟨vs, vs[i], sqL_mono h s, List.getElem?_eq_getElem this⟩
  yl := fun i F' H x H' d h1 h2 hd y => by
    obtain ⟨e, y⟩ := y
    subst e
    refine ⟨F', Ext.refl h2, ?_⟩
    obtain ⟨v, hv, rv⟩ := r.get hd
    have := y vs (sqL_mono (h1.trans h2) s)
    rw [hv] at this
    cases this
    exact rv.mono h1
  st := fun H h => ⟨vs, sqL_mono h s, by rw [r.len]; exact Nat.le_refl _⟩
theorem gi_list {tg : Expr} (he : GE X W e fe) : GI X W tg e (listI fe) := by
  refine PI.imp (pi_list he) fun σ H R ⟨F0, H0, ρ, F, cs, RR, p⟩ => ?_
  refine ⟨F0, H0, ρ, F, cs, RR, ?_⟩
  unfold listI at p
  cases q : fe ρ with
  | bad => rw [q] at p; exact p
  | ex c => rw [q] at p; exact p
  | ok x =>
    cases x with
    | vw o => rw [q] at p; exact p.elim
    | ow o =>
      simp only [q] at p
      intro F1 H1 v c1 e1 r1 n1
      obtain ⟨R2, sm, ex2⟩ := RR.shutNew e1 n1
      have rc := ORep.close (o := o) (H := H1) sm (fun c hc => shut_in hc) r1
      split at p
      · rename_i ds eo
        rw [eo] at rc
        obtain ⟨a, vs, rfl, s, t⟩ := rc
        exact ⟨a, rfl, ⟨vs, sqL_mono (shut_same e1.fh) s⟩, p (DL.shut F1 H1 c1) H1 _ cs ex2 R2 (wk_list s t)⟩
      · exact p.elim
def rangeL (lo hi : Int) : List D := (List.range (hi - lo).toNat).map fun i => .int (lo + (i : Nat))
theorem wk_range (lo : Int) (n : Nat) : Wk K (Itr lo n) F ((List.range n).map fun i => D.int (lo + (i : Nat))) where
  go := fun i H h hi => by
    show i < n
    simpa using hi
  yl := fun i F' H x H' d h1 h2 hd y => by
    obtain ⟨e, y⟩ := y
    subst e
    refine ⟨F', Ext.refl h2, ?_⟩
    rw [List.getElem?_map] at hd
    cases q : (List.range n)[i]? with
    | none => rw [q] at hd; cases hd
    | some j =>
      rw [q] at hd
      have : j = i := by
        rw [List.getElem?_range (by simpa using (List.getElem?_eq_some_iff.mp q).1)] at q
        exact (Option.some.inj q).symm
      subst this
      have : d = .int (lo + (j : Nat)) := (Option.some.inj hd).symm
      subst this
      exact y
  st := fun H h => by
    show n ≤ ((List.range n).map fun i => D.int (lo + (i : Nat))).length
    simp
def okR (i : Int) : Bool := decide (-4611686018427387904 ≤ i) && decide (i < 4611686018427387904)
theorem okR_ok {i : Int} (h : okR i = true) : -(2 ^ 62) ≤ i ∧ i < 2 ^ 62 := by
  unfold okR at h
  rw [Bool.and_eq_true] at h
  have h1 := of_decide_eq_true h.1
  have h2 := of_decide_eq_true h.2
  omega
/-- sources over arguments, all of one's own -/
def argsI (g : List D → Ri) (fa : DA) : DI := fun ρ => match fa ρ with
  | .ok as => if noVw as then g (as.map Ar.d) else .bad
  | .ex c => .ex c
  | .bad => .bad
@[simp] def gRange1 : List D → Ri
  | [.int n] => if okR n then .ok (rangeL 0 n) else .bad
  | _ => .bad
@[simp] def gRange2 : List D → Ri
  | [.int i, .int j] => if okR i && okR j then .ok (rangeL i j) else .bad
  | _ => .bad
@[simp] def lstD : D → Option (List D)
  | .lst ds => some ds
  | _ => none
@[simp] def gZip : List D → Ri
  | [a, b] => match lstD a, lstD b with
    | some xs, some ys => .ok ((xs.zip ys).map fun p => .tup [p.1, p.2])
    | _, _ => .bad
  | _ => .bad
@[simp] def gEnum : List D → Ri
  | [a] => match lstD a with
    | some xs => .ok (xs.zipIdx.map fun p => .tup [.int (p.2 : Nat), p.1])
    | _ => .bad
  | _ => .bad
@[simp] def gRev : List D → Ri
  | [a] => match lstD a with
    | some xs => .ok xs.reverse
    | _ => .bad
  | _ => .bad
theorem argsI_of {g : List D → Ri} {fa : DA} {r : List V → Hp → (It → Hp → Prop) → Prop} (hr : ∀ F H vs ds es R, Same F H → Reps X.K F ds vs → g ds = .ok es → (∀ J, Wk X.K J F es → R J H) → r vs H R) (hx : ∀ ds c, g ds ≠ .ex c) :
    ∀ σ H R, (∃ F0 H0 ρ F cs, RS X.K F0 H0 ρ F σ H cs ∧ postI X W (argsI g fa ρ) F0 H0 ρ σ F H R) → tA X W fa σ H fun vs H1 => r vs H1 R := fun σ H R ⟨F0, H0, ρ, F, cs, RR, p⟩ => by
  refine ⟨F0, H0, ρ, F, cs, RR, ?_⟩
  unfold argsI at p
  cases q : fa ρ with
  | bad => rw [q] at p; exact p
  | ex c => rw [q] at p; exact p
  | ok as =>
    simp only [q] at p
    intro F1 H1 vs c1 e1 r1 n1
    split at p
    · rename_i hv
      obtain ⟨R2, sm, ex2⟩ := RR.shutNew e1 n1
      have rc := areps_shut hv sm (fun c hc => shut_in hc) r1
      cases eg : g (as.map Ar.d) with
      | bad => rw [eg] at p; exact p.elim
      | ex c => exact absurd eg (hx _ _)
      | ok es =>
        rw [eg] at p
        exact hr (DL.shut F1 H1 c1) H1 vs _ es R (shut_same e1.fh) rc eg fun J w => p (DL.shut F1 H1 c1) H1 J cs ex2 R2 w
    · exact p.elim
theorem gi_range1 {tg : Expr} {f : DA} {p : Pos} (hm : X.mg "range" = none) (ha : GA X W [a] f) (hg : Gl X "range" := by rfl) (hs : starEach [a] X.env = [(false, eval a X.env)] := by rfl) : GI X W tg (.Call (.Name "range" p) [a] [] pos) (argsI gRange1 f) := by
  refine PI.imp (pi_range1 hg hm ha hs) fun σ H R h => argsI_of (r := fun vs H1 R => ∃ j : Int, vs = [.int j] ∧ -(2 ^ 62) ≤ j ∧ j < 2 ^ 62 ∧ R (Itr 0 j.toNat) H1) (fun F H vs ds es R fh rs eg k => ?_) (fun ds c h => by unfold gRange1 at h; split at h <;> first | (split at h <;> cases h) | cases h) σ H R h
  unfold gRange1 at eg
  split at eg
  · rename_i n
    split at eg
    · rename_i hn
      cases eg
      obtain ⟨v, r, e1, e2, e3⟩ := rs
      have e2' : v = .int n := e2
      have e3' : r = [] := e3
      subst e1 e2' e3'
      have := okR_ok hn
      refine ⟨n, rfl, this.1, this.2, k _ ?_⟩
      have := wk_range (K := X.K) (F := F) 0 n.toNat
      unfold rangeL
      rw [Int.sub_zero]
      exact this
    · cases eg
  · cases eg
theorem gi_range2 {tg : Expr} {f : DA} {p : Pos} (hm : X.mg "range" = none) (ha : GA X W [a, b] f) (hg : Gl X "range" := by rfl) (hs : starEach [a, b] X.env = [(false, eval a X.env), (false, eval b X.env)] := by rfl) (hs2 : starEach [b] X.env = [(false, eval b X.env)] := by rfl) : GI X W tg (.Call (.Name "range" p) [a, b] [] pos) (argsI gRange2 f) := by
  refine PI.imp (pi_range2 hg hm ha hs hs2) fun σ H R h => argsI_of (r := fun vs H1 R => ∃ i j : Int, vs = [.int i, .int j] ∧ (-(2 ^ 62) ≤ i ∧ i < 2 ^ 62 ∧ -(2 ^ 62) ≤ j ∧ j < 2 ^ 62) ∧ R (Itr i (j - i).toNat) H1) (fun F H vs ds es R fh rs eg k => ?_) (fun ds c h => by unfold gRange2 at h; split at h <;> first | (split at h <;> cases h) | cases h) σ H R h
  unfold gRange2 at eg
  split at eg
  · rename_i i j
    split at eg
    · rename_i hn
      rw [Bool.and_eq_true] at hn
      cases eg
      obtain ⟨v, r, e1, e2, u, r', e3, e4, e5⟩ := rs
      have e2' : v = .int i := e2
      have e4' : u = .int j := e4
      have e5' : r' = [] := e5
      subst e1 e2' e3 e4' e5'
      have h1 := okR_ok hn.1
      have h2 := okR_ok hn.2
      exact ⟨i, j, rfl, ⟨h1.1, h1.2, h2.1, h2.2⟩, k _ (wk_range (K := X.K) (F := F) i (j - i).toNat)⟩
    · cases eg
  · cases eg
/-- a new pair in a grown heap -/
theorem ext_pair {T : Addr} {vs : List V} {ds : List D} (fh : Same F H) (nT : H T = none) (r : Reps K F ds vs) : ∃ F', Ext F H F' (upd H T (.tup vs)) ∧ Rep K F' (.tup ds) (.ref T) := by
  have nf := fh.free nT
  have f2 : Same F (upd F T (.tup vs)) := same_upd' nf
  refine ⟨upd F T (.tup vs), ⟨same_upd' nT, f2, fun b u q => ?_, fun b hb => ?_⟩, T, vs, rfl, upd_same, r.mono f2⟩
  · by_cases h : b = T
    · subst h; rw [upd_same] at q ⊢; exact q
    · rw [upd_ne h] at q ⊢; exact fh b u q
  · have : b ≠ T := fun e => by subst e; exact hb nT
    rw [upd_ne this]
theorem wk_zip {p q : Addr} {vs us : List V} {ds es : List D} (s : SqL K F p vs) (r : Reps K F ds vs) (s2 : SqL K F q us) (r2 : Reps K F es us) : Wk K (Itz K p q) F ((ds.zip es).map fun p => .tup [p.1, p.2]) where
  go := fun i H h hi => by
    have hi' : i < ds.length ∧ i < es.length := by
      have : i < min ds.length es.length := by simpa using hi
      omega
    have h1 : i < vs.length := by rw [← r.len]; exact hi'.1
    have h2 : i < us.length := by rw [← r2.len]; exact hi'.2
    exact ⟨vs, us, vs[i], us[i], sqL_mono h s, sqL_mono h s2, List.getElem?_eq_getElem h1, List.getElem?_eq_getElem h2⟩
  yl := fun i F' H x H' d h1 h2 hd y => by
    obtain ⟨T, x1, x2, rfl, nT, rfl, y1, y2⟩ := y
    rw [List.getElem?_map] at hd
    have hi : i < (ds.zip es).length := by
      cases q : (ds.zip es)[i]? with
      | none => rw [q] at hd; cases hd
      | some z => exact (List.getElem?_eq_some_iff.mp q).1
    have hi' : i < ds.length ∧ i < es.length := by
      have : i < min ds.length es.length := by simpa using hi
      omega
    have gz : (ds.zip es)[i]? = some (ds[i], es[i]) := by
      rw [List.getElem?_eq_getElem hi]
      simp
    rw [gz] at hd
    have hd' : d = .tup [ds[i], es[i]] := (Option.some.inj hd).symm
    subst hd'
    obtain ⟨v1, g1, t1⟩ := r.get (List.getElem?_eq_getElem hi'.1)
    obtain ⟨v2, g2, t2⟩ := r2.get (List.getElem?_eq_getElem hi'.2)
    have z1 := y1 vs (sqL_mono (h1.trans h2) s)
    have z2 := y2 us (sqL_mono (h1.trans h2) s2)
    rw [g1] at z1
    rw [g2] at z2
    cases z1
    cases z2
    exact ext_pair h2 nT ⟨_, _, rfl, t1.mono h1, _, _, rfl, t2.mono h1, rfl⟩
  st := fun H h => by
    refine ⟨vs, us, sqL_mono h s, sqL_mono h s2, ?_⟩
    have : ((ds.zip es).map fun p => D.tup [p.1, p.2]).length = min vs.length us.length := by simp [r.len, r2.len]
    rw [this]
    omega
theorem wk_enum {p : Addr} {vs : List V} {ds : List D} (s : SqL K F p vs) (r : Reps K F ds vs) : Wk K (Ite K p) F (ds.zipIdx.map fun p => .tup [.int (p.2 : Nat), p.1]) where
  go := fun i H h hi => by
    have h1 : i < vs.length := by rw [← r.len]; simpa using hi
    exact ⟨vs, vs[i], sqL_mono h s, List.getElem?_eq_getElem h1⟩
  yl := fun i F' H x H' d h1 h2 hd y => by
    obtain ⟨T, x1, rfl, nT, rfl, y1⟩ := y
    rw [List.getElem?_map, List.getElem?_zipIdx] at hd
    cases q : ds[i]? with
    | none => rw [q] at hd; cases hd
    | some z =>
      rw [q] at hd
      have hd' : d = .tup [.int (i : Nat), z] := by simpa using (Option.some.inj hd).symm
      subst hd'
      obtain ⟨v1, g1, t1⟩ := r.get q
      have z1 := y1 vs (sqL_mono (h1.trans h2) s)
      rw [g1] at z1
      cases z1
      exact ext_pair h2 nT ⟨_, _, rfl, rfl, _, _, rfl, t1.mono h1, rfl⟩
  st := fun H h => ⟨vs, sqL_mono h s, by simp [r.len]⟩
theorem wk_rev {p : Addr} {vs : List V} {ds : List D} (s : SqL K F p vs) (r : Reps K F ds vs) : Wk K (Itv K p vs.length) F ds.reverse where
  go := fun i H h hi => by
    have h1 : i < vs.length := by rw [← r.len]; simpa using hi
    have h2 : vs.length - 1 - i < vs.length := by omega
    exact ⟨h1, vs, vs[vs.length - 1 - i], sqL_mono h s, List.getElem?_eq_getElem h2⟩
  yl := fun i F' H x H' d h1 h2 hd y => by
    obtain ⟨e, y⟩ := y
    subst e
    refine ⟨F', Ext.refl h2, ?_⟩
    have hi : i < ds.reverse.length := (List.getElem?_eq_some_iff.mp hd).1
    have hi' : i < ds.length := by simpa using hi
    rw [List.getElem?_reverse hi', r.len] at hd
    obtain ⟨v, hv, rv⟩ := r.get hd
    have := y vs (sqL_mono (h1.trans h2) s)
    rw [hv] at this
    cases this
    exact rv.mono h1
  st := fun H h => by
    show vs.length ≤ ds.reverse.length
    simp [r.len]
theorem lstD_rep {d : D} {ds v} (h : lstD d = some ds) (r : Rep K F d v) : ∃ a vs, v = .ref a ∧ SqL K F a vs ∧ Reps K F ds vs := by
  cases d <;> first | (cases h; exact r) | cases h
theorem gi_zip {elts : List Expr} {kk : Nat} {tpos p : Pos} {f : DA} (hm : X.mg "zip" = none) (ha : GA X W [a, b] f) (hg : Gl X "zip" := by rfl)
    (hs : starEach [a, b] X.env = (false, eval a X.env) :: starEach [b] X.env := by rfl) (hpl : (backTo pos (starEach [b] X.env)).any (·.1) = false := by rfl) : GI X W (.Tuple elts kk tpos) (.Call (.Name "zip" p) [a, b] [] pos) (argsI gZip f) := by
  refine PI.imp (pi_zip hg hm ha hs hpl) fun σ H R h => argsI_of (r := fun vs H1 R => ∃ a b xs ys, vs = [.ref a, .ref b] ∧ SqL X.K H1 a xs ∧ SqL X.K H1 b ys ∧ R (Itz X.K a b) H1) (fun F H vs ds es R fh rs eg k => ?_) (fun ds c h => by unfold gZip at h; split at h <;> first | (split at h <;> cases h) | cases h) σ H R h
  unfold gZip at eg
  split at eg
  · rename_i x y
    split at eg
    · rename_i xs ys ex ey
      cases eg
      obtain ⟨v, r, e1, e2, u, r', e3, e4, e5⟩ := rs
      have e5' : r' = [] := e5
      obtain ⟨p1, v1, rfl, s1, t1⟩ := lstD_rep ex e2
      obtain ⟨p2, v2, rfl, s2, t2⟩ := lstD_rep ey e4
      subst e1 e3 e5'
      exact ⟨p1, p2, v1, v2, rfl, sqL_mono fh s1, sqL_mono fh s2, k _ (wk_zip s1 t1 s2 t2)⟩
    · cases eg
  · cases eg
theorem gi_enum {elts : List Expr} {kk : Nat} {tpos p : Pos} {f : DA} (hm : X.mg "enumerate" = none) (ha : GA X W [a] f) (hg : Gl X "enumerate" := by rfl) (hs : starEach [a] X.env = [(false, eval a X.env)] := by rfl) : GI X W (.Tuple elts kk tpos) (.Call (.Name "enumerate" p) [a] [] pos) (argsI gEnum f) := by
  refine PI.imp (pi_enum hg hm ha hs) fun σ H R h => argsI_of (r := fun vs H1 R => ∃ a xs, vs = [.ref a] ∧ SqL X.K H1 a xs ∧ R (Ite X.K a) H1) (fun F H vs ds es R fh rs eg k => ?_) (fun ds c h => by unfold gEnum at h; split at h <;> first | (split at h <;> cases h) | cases h) σ H R h
  unfold gEnum at eg
  split at eg
  · rename_i x
    split at eg
    · rename_i xs ex
      cases eg
      obtain ⟨v, r, e1, e2, e5⟩ := rs
      have e5' : r = [] := e5
      obtain ⟨p1, v1, rfl, s1, t1⟩ := lstD_rep ex e2
      subst e1 e5'
      exact ⟨p1, v1, rfl, sqL_mono fh s1, k _ (wk_enum s1 t1)⟩
    · cases eg
  · cases eg
theorem gi_rev {tg : Expr} {f : DA} {p : Pos} (hm : X.mg "reversed" = none) (ha : GA X W [a] f) (hg : Gl X "reversed" := by rfl) (hs : starEach [a] X.env = [(false, eval a X.env)] := by rfl) : GI X W tg (.Call (.Name "reversed" p) [a] [] pos) (argsI gRev f) := by
  refine PI.imp (pi_reversed hg hm ha hs) fun σ H R h => argsI_of (r := fun vs H1 R => ∃ (a : Addr) (xs : List V), vs = [.ref a] ∧ SqL X.K H1 a xs ∧ R (Itv X.K a xs.length) H1) (fun F H vs ds es R fh rs eg k => ?_) (fun ds c h => by unfold gRev at h; split at h <;> first | (split at h <;> cases h) | cases h) σ H R h
  unfold gRev at eg
  split at eg
  · rename_i x
    split at eg
    · rename_i xs ex
      cases eg
      obtain ⟨v, r, e1, e2, e5⟩ := rs
      have e5' : r = [] := e5
      obtain ⟨p1, v1, rfl, s1, t1⟩ := lstD_rep ex e2
      subst e1 e5'
      exact ⟨p1, v1, rfl, sqL_mono fh s1, k _ (wk_rev s1 t1)⟩
    · cases eg
  · cases eg
/-! ### for, while -/
/-- a turn: the target, the body, then what is forgotten -/
def turnS (b : DB) (f : DS) (is : List Nat) (d : D) : DS := fun ρ => match b d ρ with
  | some ρ' => match f ρ' with
    | .nx ρ2 => .nx (forget is ρ2)
    | .ct ρ2 => .nx (forget is ρ2)
    | r => r
  | none => .bad
def loopS (t : D → DS) : List D → DS
  | [], ρ => .nx ρ
  | d :: ds, ρ => match t d ρ with
    | .nx ρ' => loopS t ds ρ'
    | .bk ρ' => .nx ρ'
    | .ct _ => .bad
    | r => r
def forS (fi : DI) (b : DB) (f : DS) (is : List Nat) : DS := fun ρ => match fi ρ with
  | .ok ds => loopS (turnS b f is) ds ρ
  | .ex c => .ex c ρ
  | .bad => .bad
theorem gs_for {tg it : Expr} {body : List Stmt} {fi : DI} {b : DB} {k : Nat} (is : List Nat) (hp : PassesOwn (model X.prog X.w) X.A X.env X.xe) (C : Cc X W k) (hi : GI X W tg it fi) (hg : GG X tg b) (hb : GSs X W body f)
    (hs : ∀ x, foldedSetIterable it X.env x = pure x := by intro _; rfl) : GS X W (.For tg it body [] pos) (forS fi b f is) := by
  refine PS.imp (ps_for hp C.calm hi hg hb hs) fun D σ H ⟨F0, H0, ρ, F, cs, R, p⟩ => ?_
  refine ⟨F0, H0, ρ, F, cs, R, ?_⟩
  unfold forS at p
  cases q : fi ρ with
  | bad => rw [q] at p; exact p
  | ex c => rw [q] at p; exact fun F2 H2 C e m => p F2 H2 σ cs C e.ff (R.ext e) m
  | ok ds =>
    simp only [q] at p
    intro F1 H1 J cs1 x1 R1 wk
    have s1 := x1.ff
    refine ⟨fun i m σ H => m = ds.length - i ∧ i ≤ ds.length ∧ ∃ ρ F cs, Same F1 F ∧ RS X.K F0 H0 ρ F σ H cs ∧ postS X W (loopS (turnS b f is) (ds.drop i) ρ) F0 H0 F D, ⟨ds.length, by simp, Nat.zero_le _, ρ, F1, cs1, Same.refl _, R1, by rw [List.drop_zero]; exact postS_same s1 p⟩, ?_⟩
    rintro i m σ2 H2 ⟨rfl, hi, ρ2, F2, cs2, s2, R2, p2⟩
    by_cases hlt : i < ds.length
    · refine .inr ⟨wk.go i H2 (s2.trans R2.fh) hlt, fun σ3 H3 => ∃ ρ F cs, Same F1 F ∧ RS X.K F0 H0 ρ F σ3 H3 cs ∧ postS X W (loopS (turnS b f is) (ds.drop (i + 1)) ρ) F0 H0 F D, fun σ' H' ⟨ρ, F, cs, a, b, c⟩ => ⟨ds.length - (i + 1), by omega, rfl, hlt, ρ, F, cs, a, b, c⟩, fun x H' y => ?_⟩
      have hd : ds[i]? = some ds[i] := List.getElem?_eq_getElem hlt
      obtain ⟨F3, e3, r3⟩ := wk.yl i F2 H2 x H' ds[i] s2 R2.fh hd y
      have R3 := R2.ext e3
      have p3 := postS_same e3.ff p2
      rw [List.drop_eq_getElem_cons hlt] at p3
      unfold loopS turnS at p3
      cases eb : b ds[i] ρ2 with
      | none => simp only [eb] at p3; exact p3.elim
      | some ρ3 =>
        simp only [eb] at p3
        refine ⟨F0, H0, ρ2, F3, cs2, ds[i], ρ3, R3, r3, eb, fun F4 σ4 cs4 s4 R4 => ⟨F0, H0, ρ3, F4, cs4, R4, ?_⟩⟩
        have sA : Same F1 F4 := (s2.trans e3.ff).trans s4
        cases ef : f ρ3 with
        | bad => simp only [ef] at p3; exact p3.elim
        | ex c ρ4 => simp only [ef] at p3; exact fun F5 H5 σ5 cs5 C5 s5 R5 m => p3 F5 H5 σ5 cs5 C5 (s4.trans s5) R5 m
        | rt o => simp only [ef] at p3; exact p3
        | bk ρ4 => simp only [ef] at p3; exact fun F5 H5 σ5 cs5 s5 R5 => p3 F5 H5 σ5 cs5 (s4.trans s5) R5
        | nx ρ4 =>
          simp only [ef] at p3
          intro F5 H5 σ5 cs5 s5 R5
          obtain ⟨cs6, R6⟩ := R5.forget is
          exact ⟨_, F5, cs6, sA.trans s5, R6, postS_same (s4.trans s5) p3⟩
        | ct ρ4 =>
          simp only [ef] at p3
          intro F5 H5 σ5 cs5 s5 R5
          obtain ⟨cs6, R6⟩ := R5.forget is
          exact ⟨_, F5, cs6, sA.trans s5, R6, postS_same (s4.trans s5) p3⟩
    · have e : i = ds.length := by omega
      subst e
      rw [List.drop_length] at p2
      exact .inl ⟨wk.st H2 (s2.trans R2.fh), p2 F2 H2 σ2 cs2 (Same.refl _) R2⟩
/-- while, with a measure that is a number of turns at most -/
def whileL (c : DT) (t : DS) : Nat → DS
  | 0, _ => .bad
  | n + 1, ρ => match c ρ with
    | .ok true => match t ρ with
      | .nx ρ' => whileL c t n ρ'
      | .bk ρ' => .nx ρ'
      | .ct _ => .bad
      | r => r
    | .ok false => .nx ρ
    | .ex k => .ex k ρ
    | .bad => .bad
def bodyS (f : DS) (is : List Nat) : DS := fun ρ => match f ρ with
  | .nx ρ2 => .nx (forget is ρ2)
  | .ct ρ2 => .nx (forget is ρ2)
  | r => r
theorem gs_while {body : List Stmt} {ct : DT} (n : Nat) (is : List Nat) (hp : PassesOwn (model X.prog X.w) X.A X.env X.xe) (hc : GT X W c ct) (hb : GSs X W body f) : GS X W (.While c body [] pos) (whileL ct (bodyS f is) n) := by
  refine PS.imp (ps_while hp hc hb) fun D σ H ⟨F0, H0, ρ, F, cs, R, p⟩ => ?_
  refine ⟨fun m σ H => ∃ ρ F cs, RS X.K F0 H0 ρ F σ H cs ∧ postS X W (whileL ct (bodyS f is) m ρ) F0 H0 F D, ⟨n, ρ, F, cs, R, p⟩, ?_⟩
  rintro m σ2 H2 ⟨ρ2, F2, cs2, R2, p2⟩
  cases m with
  | zero => exact p2.elim
  | succ m =>
    refine ⟨F0, H0, ρ2, F2, cs2, R2, ?_⟩
    unfold whileL at p2
    cases ec : ct ρ2 with
    | bad => simp only [ec] at p2; exact p2.elim
    | ex k => simp only [ec] at p2; exact fun F3 H3 C e m => p2 F3 H3 σ2 cs2 C e.ff (R2.ext e) m
    | ok k =>
      intro F3 H3 e3
      cases k with
      | false =>
        simp only [ec] at p2
        exact iteF (p2 F3 H3 σ2 cs2 e3.ff (R2.ext e3))
      | true =>
        simp only [ec] at p2
        refine iteT ⟨fun σ4 H4 => ∃ ρ F cs, RS X.K F0 H0 ρ F σ4 H4 cs ∧ postS X W (whileL ct (bodyS f is) m ρ) F0 H0 F D, fun σ' H' h => ⟨m, Nat.lt_succ_self _, h⟩, F0, H0, ρ2, F3, cs2, R2.ext e3, ?_⟩
        unfold bodyS at p2
        cases ef : f ρ2 with
        | bad => simp only [ef] at p2; exact p2.elim
        | ex c ρ4 => simp only [ef] at p2; exact fun F5 H5 σ5 cs5 C5 s5 R5 m => p2 F5 H5 σ5 cs5 C5 (e3.ff.trans s5) R5 m
        | rt o => simp only [ef] at p2; exact p2
        | bk ρ4 => simp only [ef] at p2; exact fun F5 H5 σ5 cs5 s5 R5 => p2 F5 H5 σ5 cs5 (e3.ff.trans s5) R5
        | nx ρ4 =>
          simp only [ef] at p2
          intro F5 H5 σ5 cs5 s5 R5
          obtain ⟨cs6, R6⟩ := R5.forget is
          exact ⟨_, F5, cs6, R6, postS_same (e3.ff.trans s5) p2⟩
        | ct ρ4 =>
          simp only [ef] at p2
          intro F5 H5 σ5 cs5 s5 R5
          obtain ⟨cs6, R6⟩ := R5.forget is
          exact ⟨_, F5, cs6, R6, postS_same (e3.ff.trans s5) p2⟩
end
end DL

namespace DL
open PySem PySem.Spec L2
variable {K : PySem.W.Frag} {F F' H H' H0 F0 F1 H1 : Hp} {cs cs' : List Addr} {σ σ' : L2.St} {ρ ρ' : Rho}
abbrev W0 : WX := fun _ _ _ _ => False
theorem wipe_set_in : ∀ {vs : List Nat} {i : Nat} {x : Option V} {σ : L2.St}, i ∈ vs → wipe (σ.set i x) vs = wipe σ vs
  | [], i, x, σ, h => by cases h
  | v :: vs, i, x, σ, h => by
    unfold wipe
    by_cases hv : i ∈ vs
    · rw [wipe_set_in hv]
    · have e : i = v := by
        rcases List.mem_cons.mp h with e | h
        · exact e
        · exact absurd h hv
      subst e
      have : ∀ (vs : List Nat) (σ : L2.St), i ∉ vs → wipe (σ.set i x) vs = (wipe σ vs).set i x := by
        intro vs
        induction vs with
        | nil => intro σ _; rfl
        | cons w ws ih =>
          intro σ hn
          have h1 : i ≠ w := fun e => hn (by rw [e]; exact List.mem_cons_self)
          have h2 : i ∉ ws := fun h => hn (List.mem_cons_of_mem _ h)
          unfold wipe
          rw [ih σ h2, List.set_comm _ _ h1]
      rw [this vs σ hv, List.set_set]
theorem wipe_wipe (σ : L2.St) (vs : List Nat) : L2.wipe (L2.wipe σ vs) vs = L2.wipe σ vs := by
  have idem : ∀ (ws : List Nat) (τ : L2.St), (∀ i ∈ ws, ∀ x, τ[i]? = some x → x = none) → L2.wipe τ ws = τ := by
    intro ws
    induction ws with
    | nil => intro τ _; rfl
    | cons w ws ih =>
      intro τ h
      unfold L2.wipe
      rw [ih τ fun i hi => h i (List.mem_cons_of_mem _ hi)]
      by_cases hw : w < τ.length
      · have : τ[w] = none := h w List.mem_cons_self _ (List.getElem?_eq_getElem hw)
        rw [← this]; simp
      · exact List.set_eq_of_length_le (Nat.le_of_not_lt hw)
  refine idem vs _ fun j hj x hx => ?_
  cases x with
  | none => rfl
  | some v => exact absurd hj (wipe_some hx).2
theorem Slots.setNone : ∀ {ρ : Rho} {σ : L2.St} {cs} {i : Nat} {x : Option V}, Slots K F H ρ σ cs → ρ[i]? = some none → Slots K F H ρ (σ.set i x) cs
  | [], _, _, i, x, ⟨e, e2⟩, h => by simp at h
  | o :: ρ, _, _, 0, x, ⟨y, r, c1, c2, e1, e2, p, q⟩, h => by
    have : o = none := by simpa using h
    subst this e1
    exact ⟨x, r, c1, c2, rfl, e2, p, q⟩
  | o :: ρ, _, _, i + 1, x, ⟨y, r, c1, c2, e1, e2, p, q⟩, h => by
    subst e1
    exact ⟨y, r.set i x, c1, c2, rfl, e2, p, Slots.setNone q (by simpa using h)⟩
theorem Slots.setOut {ρ : Rho} {σ : L2.St} {cs} {i : Nat} {x : Option V} (h : Slots K F H ρ σ cs) (hi : ρ.length ≤ i) : Slots K F H ρ (σ.set i x) cs := by
  have : σ.set i x = σ := List.set_eq_of_length_le (by rw [h.len]; exact hi)
  rw [this]; exact h
theorem forget_len : ∀ (is : List Nat) (ρ : Rho), (forget is ρ).length = ρ.length
  | [], ρ => rfl
  | i :: is, ρ => by unfold forget; rw [forget_len is]; simp
theorem forget_keep : ∀ (is : List Nat) {ρ : Rho} {i : Nat}, ρ[i]? = some none → (forget is ρ)[i]? = some none
  | [], _, _, h => h
  | j :: is, ρ, i, h => by
    unfold forget
    refine forget_keep is ?_
    by_cases e : j = i
    · subst e
      rw [List.getElem?_set_self (List.getElem?_eq_some_iff.mp h).1]
    · rw [List.getElem?_set_ne e]; exact h
theorem forget_at : ∀ {is : List Nat} {ρ : Rho} {i : Nat}, i ∈ is → i < ρ.length → (forget is ρ)[i]? = some none
  | j :: is, ρ, i, h, hl => by
    unfold forget
    by_cases e : j = i
    · subst e
      exact forget_keep is (List.getElem?_set_self hl)
    · rcases List.mem_cons.mp h with h | h
      · exact absurd h.symm e
      · exact forget_at h (by simpa using hl)
theorem RS.wipe : ∀ (vs : List Nat), RS K F0 H0 ρ F σ H cs → (∀ i ∈ vs, i < ρ.length → ρ[i]? = some none) → RS K F0 H0 ρ F (L2.wipe σ vs) H cs
  | [], R, _ => R
  | v :: vs, R, h => by
    have R1 := RS.wipe vs R fun i hi => h i (List.mem_cons_of_mem _ hi)
    unfold L2.wipe
    by_cases hv : v < ρ.length
    · exact ⟨R1.fh, R1.f0, R1.nw, R1.h0, R1.sl.setNone (h v List.mem_cons_self hv), R1.nd, R1.cf⟩
    · exact ⟨R1.fh, R1.f0, R1.nw, R1.h0, R1.sl.setOut (Nat.le_of_not_lt hv), R1.nd, R1.cf⟩
/-- a cell that is no slot's changes -/
theorem RS.outCell {D : Addr} {u : HO} (R : RS K F0 H0 ρ F σ H cs) (h1 : D ∉ cs) (h2 : F D = none) (h3 : H0 D = none) : RS K F0 H0 ρ F σ (upd H D u) cs :=
  ⟨fun b o q => by rw [upd_ne (ne_of_none q h2)]; exact R.fh b o q, R.f0, R.nw, fun b o q => by rw [upd_ne (ne_of_none q h3)]; exact R.h0 b o q,
    R.sl.frame (Same.refl _) fun c hc => upd_ne fun e => h1 (e ▸ hc), R.nd, R.cf⟩
section
variable {X : Cx} {W : WX} {pos : Pos} {a b c e : Expr} {fa fb fc fe : DE} {f g : DS}
/-! ### comprehensions -/
def GC (X : Cx) (tg : Expr) (vs : List Nat) (b : DB) : Prop := PG X tg (fun v σ H Q => ∃ F0 H0 ρ F cs d ρ', RS X.K F0 H0 ρ F σ H cs ∧ Rep X.K F d v ∧ b d ρ = some ρ' ∧ ∀ σ' cs', wipe σ' vs = wipe σ vs → RS X.K F0 H0 ρ' F σ' H cs' → Q σ' H)
theorem gc_name {i : Nat} {x : Str} {vs : List Nat} (nd : X.N.Nodup) (hm : i ∈ vs := by decide) (hi : X.N[i]? = some x := by rfl) (hx : Loc X.env.scope x := by first | exact Or.inl rfl | exact Or.inr rfl) (hf : X.fn x = true ∨ X.env.scope.names.lookup x = some .local := by first | exact .inl rfl | exact .inr rfl) : GC X (.Name x pos) vs (nameB i) := by
  refine PG.imp (pg_name nd hi hx hf) fun v σ H Q ⟨F0, H0, ρ, F, cs, d, ρ', R, r, e, k⟩ => ?_
  unfold nameB at e
  split at e
  · rename_i hl
    cases e
    obtain ⟨cs2, R2⟩ := R.set (o := .fz d) (cs' := []) (Ext.refl R.fh) ⟨rfl, r⟩ New.nil hl
    exact k _ cs2 (wipe_set_in hm) R2
  · cases e
def GCs (X : Cx) (ts : List Expr) (ws : List Nat) (b : DBs) : Prop := PGs X ts (fun vs σ H Q => ∃ F0 H0 ρ F cs ds ρ', RS X.K F0 H0 ρ F σ H cs ∧ Reps X.K F ds vs ∧ b ds ρ = some ρ' ∧ ∀ σ' cs', wipe σ' ws = wipe σ ws → RS X.K F0 H0 ρ' F σ' H cs' → Q σ' H)
theorem gcs_nil {ws : List Nat} : GCs X [] ws nilB := by
  refine PGs.imp pgs_nil fun vs σ H Q ⟨F0, H0, ρ, F, cs, ds, ρ', R, r, e, k⟩ => ?_
  unfold nilB at e
  split at e
  · cases e
    exact ⟨r, k σ cs rfl R⟩
  · cases e
theorem gcs_cons {tg : Expr} {ts : List Expr} {b : DB} {bs : DBs} {ws : List Nat} (h1 : GC X tg ws b) (h2 : GCs X ts ws bs)
    (hs : (assignEach (tg :: ts) X.env).map (·.2) = assign tg X.env :: (assignEach ts X.env).map (·.2) := by rfl) : GCs X (tg :: ts) ws (consB b bs) := by
  refine PGs.imp (pgs_cons h1 h2 hs) fun vs σ H Q ⟨F0, H0, ρ, F, cs, ds, ρ', R, r, e, k⟩ => ?_
  unfold consB at e
  split at e
  · rename_i d ds
    split at e
    · rename_i ρ1 e1
      obtain ⟨v, r', ev, x, y⟩ := r
      exact ⟨v, r', ev, F0, H0, ρ, F, cs, d, ρ1, R, x, e1, fun σ1 cs1 w1 R1 => ⟨F0, H0, ρ1, F, cs1, ds, ρ', R1, y, e, fun σ2 cs2 w2 R2 => k σ2 cs2 (w2.trans w1) R2⟩⟩
    · cases e
  · cases e
theorem gc_tup {es : List Expr} {k : Nat} {bs : DBs} {n : Nat} {ws : List Nat} (hc : X.calm = true) (h : GCs X es ws bs)
    (hn : (assignEach es X.env).length = n := by rfl) (hst : (assignEach es X.env).findIdx? (·.1) = none := by rfl) : GC X (.Tuple es k pos) ws (tupB n bs) := by
  refine PG.imp (pg_tup hc h hn hst) fun v σ H Q ⟨F0, H0, ρ, F, cs, d, ρ', R, r, e, k⟩ => ?_
  unfold tupB at e
  split at e
  · rename_i ds
    split at e
    · rename_i hl
      obtain ⟨p, vs, ev, s, t⟩ := r
      exact ⟨p, vs, ev, SqT.of (R.fh _ _ s), by rw [← t.len]; exact hl, F0, H0, ρ, F, cs, ds, ρ', R, t, e, k⟩
    · cases e
  · cases e
/-- the tests of a clause -/
def GTs (X : Cx) (ifs : List Expr) (f : DT) : Prop := PTs X ifs (tT X W0 f)
theorem PTs.imp {X : Cx} {e : List Expr} {t t' : TT} (h : PTs X e t) (i : ∀ σ H Q, t' σ H Q → t σ H Q) : PTs X e t' := ⟨fun p s σ H Q I q => h.run p s σ H Q I (i σ H Q q)⟩
def yesT : DT := fun _ => .ok true
theorem gts_nil : GTs X [] yesT := PTs.imp pts_nil fun σ H Q ⟨F0, H0, ρ, F, cs, R, p⟩ => p F H (Ext.refl R.fh)
theorem gts_one {ct : DT} (h : GT X W0 c ct) : GTs X [c] ct := pts_one h
inductive Rt where
  | item (o : O) | skip | bad
  deriving Inhabited
def itemT (b : DB) (ct : DT) (fe : DE) (ρ : Rho) (d : D) : Rt := match b d ρ with
  | some ρ' => match ct ρ' with
    | .ok true => match fe ρ' with
      | .ok (.ow o) => .item o
      | _ => .bad
    | .ok false => .skip
    | _ => .bad
  | none => .bad
def compL (t : D → Rt) : List D → List O → Rs
  | [], acc => .ok (.ow (.lst acc))
  | d :: ds, acc => match t d with
    | .item o => compL t ds (acc ++ [o])
    | .skip => compL t ds acc
    | .bad => .bad
def compE (fi : DI) (b : DB) (ct : DT) (fe : DE) (vs : List Nat) : DE := fun ρ => match fi ρ with
  | .ok ds => if okLen ds.length then compL (itemT b ct fe (forget vs ρ)) ds [] else .bad
  | .ex c => .ex c
  | .bad => .bad
theorem tLc_of {tg it elt : Expr} {X' : Cx} {fi : DI} {b : DB} {ct : DT} {vs : List Nat} (hK : X'.K = X.K) : ∀ σ H Q, tE X W (compE fi b ct fe vs) σ H Q →
    tLc (fun σ H R => ∃ F0 H0 ρ F cs, RS X.K F0 H0 ρ F σ H cs ∧ postI X W (fi ρ) F0 H0 ρ σ F H R)
      (fun v σ H Q => ∃ F0 H0 ρ F cs d ρ', RS X'.K F0 H0 ρ F σ H cs ∧ Rep X'.K F d v ∧ b d ρ = some ρ' ∧ ∀ σ' cs', wipe σ' vs = wipe σ vs → RS X'.K F0 H0 ρ' F σ' H cs' → Q σ' H) (tT X' W0 ct) (tE X' W0 fe) vs σ H Q := fun σ H Q ⟨F0, H0, ρ, F, cs, R, p⟩ => by
  rw [hK]
  refine ⟨F0, H0, ρ, F, cs, R, ?_⟩
  unfold compE at p
  cases q : fi ρ with
  | bad => rw [q] at p; exact p
  | ex c => rw [q] at p; exact p
  | ok ds =>
    simp only [q] at p
    intro F1 H1 J cs1 x1 R1 wk D nD
    split at p
    · rename_i hlen
      have hz := okLen_le hlen
      have hD1 : D ∉ cs1 := fun h => R1.sl.there D h nD
      have hD0 : H0 D = none := R1.h0.free nD
      refine ⟨fun i m H2 => m = ds.length - i ∧ i ≤ ds.length ∧ ∃ F2 acc vsa cD, Same F1 F2 ∧ RS X.K F0 H0 ρ F2 σ H2 cs1 ∧ Same H1 H2 ∧ (∀ a, H1 a ≠ none → F2 a = F1 a) ∧ H2 D = some (.lst vsa) ∧ OReps X.K F2 H2 acc vsa cD ∧ (D :: cD).Nodup ∧
        (∀ c ∈ D :: cD, H1 c = none ∧ F2 c = none) ∧ acc.length ≤ i ∧ post X W (compL (itemT b ct fe (forget vs ρ)) (ds.drop i) acc) σ F H Q,
        ⟨ds.length, by simp, Nat.zero_le _, F1, [], [], [], Same.refl _, R1.outCell hD1 (R1.fh.free nD) hD0, same_upd' nD, fun _ _ => rfl, upd_same, ⟨rfl, rfl⟩, by simp, fun c hc => by
          have : c = D := by simpa using hc
          subst this
          exact ⟨nD, R1.fh.free nD⟩, Nat.zero_le _, by rw [List.drop_zero]; exact p⟩, ?_⟩
      rintro i m H2 ⟨rfl, hi, F2, acc, vsa, cD, s2, R2, sh2, nw2, hD, rD, nd2, cf2, hacc, p2⟩
      by_cases hlt : i < ds.length
      · refine .inr ⟨wk.go i H2 (s2.trans R2.fh) hlt, fun H3 => ∃ F2 acc vsa cD, Same F1 F2 ∧ RS X.K F0 H0 ρ F2 σ H3 cs1 ∧ Same H1 H3 ∧ (∀ a, H1 a ≠ none → F2 a = F1 a) ∧ H3 D = some (.lst vsa) ∧ OReps X.K F2 H3 acc vsa cD ∧ (D :: cD).Nodup ∧
          (∀ c ∈ D :: cD, H1 c = none ∧ F2 c = none) ∧ acc.length ≤ i + 1 ∧ post X W (compL (itemT b ct fe (forget vs ρ)) (ds.drop (i + 1)) acc) σ F H Q, fun H' h => ⟨ds.length - (i + 1), by omega, rfl, hlt, h⟩, fun x H3 y => ?_⟩
        have hd : ds[i]? = some ds[i] := List.getElem?_eq_getElem hlt
        obtain ⟨F3, e3, r3⟩ := wk.yl i F2 H2 x H3 ds[i] s2 R2.fh hd y
        obtain ⟨csw, Rw⟩ := (R2.ext e3).forget vs
        have Rw2 := Rw.wipe vs fun j hj hl => forget_at hj (by rw [forget_len] at hl; exact hl)
        rw [List.drop_eq_getElem_cons hlt] at p2
        unfold compL itemT at p2
        cases eb : b ds[i] (forget vs ρ) with
        | none => simp only [eb] at p2; exact p2.elim
        | some ρ3 =>
          simp only [eb] at p2
          refine ⟨F0, H0, _, F3, csw, ds[i], ρ3, Rw2, r3, eb, fun σ4 cs4 w4 R4 => ⟨w4.trans (wipe_wipe σ vs), F0, H0, ρ3, F3, cs4, by rw [hK]; exact R4, ?_⟩⟩
          cases ec : ct ρ3 with
          | bad => simp only [ec] at p2; exact p2.elim
          | ex k => simp only [ec] at p2; exact p2.elim
          | ok k =>
            intro F5 H5 e5
            have e25 := e3.trans e5
            cases k with
            | false =>
              simp only [ec] at p2
              rw [if_neg (by decide)]
              have nn : ∀ c ∈ D :: cD, H2 c ≠ none := fun c hc => by
                rcases List.mem_cons.mp hc with rfl | h
                · rw [hD]; exact fun h => nomatch h
                · exact rD.there c h
              exact ⟨F5, acc, vsa, cD, s2.trans e25.ff, R2.ext e25, sh2.trans e25.hh, fun a ha => by
                have : H2 a ≠ none := by
                  cases q : H1 a with
                  | none => exact absurd q ha
                  | some u => rw [sh2 a u q]; exact fun h => nomatch h
                rw [e25.nw a this]; exact nw2 a ha, e25.hh _ _ hD, rD.frame e25.ff fun c hc => e25.there (rD.there c hc), nd2, fun c hc => ⟨(cf2 c hc).1, e25.nf (nn c hc) (cf2 c hc).2⟩, by omega, p2⟩
            | true =>
              simp only [ec] at p2
              rw [if_pos rfl]
              refine ⟨F0, H0, ρ3, F5, cs4, by rw [hK]; exact R4.ext e5, ?_⟩
              cases ee : fe ρ3 with
              | bad => simp only [ee] at p2; exact p2.elim
              | ex k => simp only [ee] at p2; exact p2.elim
              | ok y =>
                cases y with
                | vw o => simp only [ee] at p2; exact p2.elim
                | ow o =>
                  simp only [ee] at p2
                  intro F6 H6 z c6 e6 r6 n6
                  rw [hK] at r6
                  have e26 := e25.trans e6
                  have nn : ∀ c ∈ D :: cD, H2 c ≠ none := fun c hc => by
                    rcases List.mem_cons.mp hc with rfl | h
                    · rw [hD]; exact fun h => nomatch h
                    · exact rD.there c h
                  have n62 : ∀ c ∈ c6, H2 c = none := fun c hc => e25.hh.free (n6.nw c hc).1
                  have dj : ∀ c ∈ c6, c ∉ D :: cD := fun c hc h => nn c h (n62 c hc)
                  have hD6 : F6 D = none := e26.nf (nn D List.mem_cons_self) (cf2 D List.mem_cons_self).2
                  refine ⟨vsa, e26.hh _ _ hD, by have := rD.len; omega, F6, acc ++ [o], vsa ++ [z], cD ++ c6, s2.trans e26.ff, (R2.ext e26).outCell hD1 hD6 hD0, fun b u q => ?_, fun a ha => ?_, upd_same, ?_, ?_, fun c hc => ?_, ?_, p2⟩
                  · rw [upd_ne (ne_of_none q nD)]
                    exact e26.hh b u (sh2 b u q)
                  · have : H2 a ≠ none := by
                      cases q : H1 a with
                      | none => exact absurd q ha
                      | some u => rw [sh2 a u q]; exact fun h => nomatch h
                    rw [e26.nw a this]; exact nw2 a ha
                  · have ndD : D ∉ cD := (List.nodup_cons.mp nd2).1
                    refine OReps.append ((rD.frame e26.ff fun c hc => e26.there (rD.there c hc)).frame (Same.refl _) fun c hc => upd_ne fun e => ndD (e ▸ hc)) (OReps.one (r6.frame (Same.refl _) fun c hc => upd_ne fun e => dj c hc (by rw [e]; exact List.mem_cons_self)))
                  · have : (D :: (cD ++ c6)) = (D :: cD) ++ c6 := rfl
                    rw [this, List.nodup_append]
                    exact ⟨nd2, n6.nd, fun a ha b hb e => dj b hb (e ▸ ha)⟩
                  · have : c ∈ (D :: cD) ++ c6 := hc
                    rcases List.mem_append.mp this with h | h
                    · exact ⟨(cf2 c h).1, e26.nf (nn c h) (cf2 c h).2⟩
                    · exact ⟨sh2.free (n62 c h), (n6.nw c h).2⟩
                  · rw [List.length_append, List.length_singleton]; omega
      · have e : i = ds.length := by omega
        subst e
        rw [List.drop_length] at p2
        exact .inl ⟨wk.st H2 (s2.trans R2.fh), p2 F2 H2 (.ref D) (D :: cD) ⟨x1.hh.trans sh2, x1.ff.trans s2, R2.fh, fun a ha => by
          have : H1 a ≠ none := by rw [x1.there ha]; exact ha
          rw [nw2 a this]; exact x1.nw a ha⟩ ⟨D, vsa, cD, rfl, rfl, hD, rD⟩ ⟨nd2, fun c hc => ⟨x1.hh.free (cf2 c hc).1, (cf2 c hc).2⟩⟩⟩
    · exact p.elim
theorem ge_lc {elt tg iter : Expr} {ifs : List Expr} {scope : Scope} {own : List (Str × Nat)} {fi : DI} {b : DB} {ct : DT} {k : Nat} (C : Cc X W k) (hi : GI X W tg iter fi) (ok : BlkOk X.N X.env.scope scope own)
    (hg : ∀ X' : Cx, (∃ s H C cl fp, X' = X.blk s H scope (compEnvC scope cl C X.env) fp) → Cc X' W0 k → GC X' tg (own.map (·.2)) b ∧ GTs X' ifs ct ∧ GE X' W0 elt fe)
    (hs : ∀ x, foldedSetIterable iter X.env x = pure x := by intro _; rfl) : GE X W (.ListComp elt [⟨tg, iter, ifs, 0⟩] scope pos) (compE fi b ct fe (own.map (·.2))) := by
  have cc : ∀ s H C0 cl fp, Cc (X.blk s H scope (compEnvC scope cl C0 X.env) fp) W0 k := fun s H C0 cl fp => ⟨C.calm, C.room, C.nd, fun σ pins H s e s' I h => by
    obtain ⟨_, _, _, _, _, _, _, _, _, _, _, _, z⟩ := h
    exact z.elim⟩
  exact PE.imp (pe_lc (g := fun v σ H Q => ∃ F0 H0 ρ F cs d ρ', RS X.K F0 H0 ρ F σ H cs ∧ Rep X.K F d v ∧ b d ρ = some ρ' ∧ ∀ σ' cs', wipe σ' (own.map (·.2)) = wipe σ (own.map (·.2)) → RS X.K F0 H0 ρ' F σ' H cs' → Q σ' H) (tt := tT X W0 ct) (te := tE X W0 fe) C.calm C.nd hi ok (fun s H C0 cl fp => (hg _ ⟨s, H, C0, cl, fp, rfl⟩ (cc s H C0 cl fp)).1) (fun s H C0 cl fp => (hg _ ⟨s, H, C0, cl, fp, rfl⟩ (cc s H C0 cl fp)).2.1) (fun s H C0 cl fp => (hg _ ⟨s, H, C0, cl, fp, rfl⟩ (cc s H C0 cl fp)).2.2) hs) (tLc_of (X' := X) (tg := tg) (it := iter) (elt := elt) rfl)
end
end DL

namespace DL
open PySem PySem.Spec L2
variable {K : PySem.W.Frag} {F F' H H' H0 F0 F1 H1 : Hp} {cs cs' : List Addr} {σ σ' : L2.St} {ρ ρ' : Rho}
/-- a def's body -/
structure Cb (X : Cx) (W : WX) (k : Nat) : Prop where
  cc : Cc X W k
  own : PassesOwn (model X.prog X.w) X.A X.env X.xe
  tk : Takes X W
section
variable {X : Cx} {W : WX} {pos : Pos} {a b c e : Expr} {fa fb fc fe : DE} {f g : DS} {k : Nat}
theorem gs_setLc {i : Nat} {y : Str} {py : Pos} {elt tg iter : Expr} {ifs : List Expr} {scope : Scope} {own : List (Str × Nat)} {spos : Pos} {fi : DI} {bd : DB} {ct : DT} (C : Cc X W k) (hi : GI X W tg iter fi) (ok : BlkOk X.N X.env.scope scope own)
    (hg : ∀ X' : Cx, (∃ s H C cl fp, X' = X.blk s H scope (compEnvC scope cl C X.env) fp) → Cc X' W0 k → GC X' tg (own.map (·.2)) bd ∧ GTs X' ifs ct ∧ GE X' W0 elt fe)
    (hy : X.N[i]? = some y := by rfl) (hyl : X.env.scope.names.lookup y = some .local := by rfl)
    (hsw : swapsWith (.ListComp elt [⟨tg, iter, ifs, 0⟩] scope pos) (some (.Name y py)) spos.line X.env = pure true := by exact sw_true rfl rfl rfl (by decide +kernel))
    (hs : ∀ x, foldedSetIterable iter X.env x = pure x := by intro _; rfl) : GS X W (.Assign [.Name y py] (.ListComp elt [⟨tg, iter, ifs, 0⟩] scope pos) spos) (setS i (compE fi bd ct fe (own.map (·.2)))) := by
  have cc : ∀ s H C0 cl fp, Cc (X.blk s H scope (compEnvC scope cl C0 X.env) fp) W0 k := fun s H C0 cl fp => ⟨C.calm, C.room, C.nd, fun σ pins H s e s' I h => by
    obtain ⟨_, _, _, _, _, _, _, _, _, _, _, _, z⟩ := h
    exact z.elim⟩
  refine PS.imp (ps_setLc (g := fun v σ H Q => ∃ F0 H0 ρ F cs d ρ', RS X.K F0 H0 ρ F σ H cs ∧ Rep X.K F d v ∧ bd d ρ = some ρ' ∧ ∀ σ' cs', wipe σ' (own.map (·.2)) = wipe σ (own.map (·.2)) → RS X.K F0 H0 ρ' F σ' H cs' → Q σ' H) (tt := tT X W0 ct) (te := tE X W0 fe) C.calm C.nd hy hyl hsw hi ok (fun s H C0 cl fp => (hg _ ⟨s, H, C0, cl, fp, rfl⟩ (cc s H C0 cl fp)).1) (fun s H C0 cl fp => (hg _ ⟨s, H, C0, cl, fp, rfl⟩ (cc s H C0 cl fp)).2.1) (fun s H C0 cl fp => (hg _ ⟨s, H, C0, cl, fp, rfl⟩ (cc s H C0 cl fp)).2.2) hs) fun D σ H h => ?_
  have h' := tAsg_of D σ H h
  exact tLc_of (X := X) (X' := X) (tg := tg) (it := iter) (elt := elt) (W := W) rfl σ H _ h'
/-! ### raise -/
/-- an exception class of the text -/
structure XOk (K : PySem.W.Frag) (mg : Str → Option Value) (x : Str) : Prop where
  ex : ∃ (C : Addr) (B newId initId : String) (bmB : List Value), ExcBaseFacts B newId initId bmB ∧ PySem.W.excIn K C bmB newId = true ∧ mg x = some (.ref C) ∧ PySem.W.keepIn K (.ref C) = true ∧ PySem.W.subIn K (.ref C) (.type "BaseException") = some true ∧ PySem.W.typeIn K (.ref C) = some (.type "type")
def raiseS (x : Str) : DS := fun ρ => .ex x ρ
theorem gs_raise {x m : Str} {j : Nat} {p p2 pos2 : Pos} (C : Cb X W k) (xo : XOk X.K X.mg x) (hg : Gl X x := by rfl) (hdb : (x == ("__debug__" : Str)) = false := by decide) : GS X W (.Raise (some (.Call (.Name x p) [.Constant (.str m) j p2] [] pos2)) none pos) (raiseS x) := by
  obtain ⟨Ca, B, newId, initId, bmB, hF, q, gC, kC, h1, h2⟩ := xo.ex
  refine PS.imp (ps_raise C.cc.calm C.tk (pmk_own hF q gC kC (raises_own h1 h2) hg hdb)) fun D σ H ⟨F0, H0, ρ, F, cs, R, p⟩ => ?_
  exact p F H σ cs Ca (Same.refl _) R gC
/-! ### stores -/
def replD {κ : Type} [DecidableEq κ] : List κ → List D → κ → D → List D
  | k' :: ks, d' :: ds, k, d => (if k' = k then d else d') :: replD ks ds k d
  | _, ds, _, _ => ds
def putD {κ : Type} [DecidableEq κ] (ks : List κ) (ds : List D) (k : κ) (d : D) : List κ × List D := if k ∈ ks then (ks, replD ks ds k d) else (ks ++ [k], ds ++ [d])
def replV {κ : Type} [DecidableEq κ] : List κ → List V → κ → V → List V
  | k' :: ks, v' :: vs, k, v => (if k' = k then v else v') :: replV ks vs k v
  | _, vs, _, _ => vs
theorem replV_len {κ : Type} [DecidableEq κ] : ∀ (ks : List κ) (vs : List V) (k : κ) (v : V), (replV ks vs k v).length = vs.length
  | [], vs, _, _ => by cases vs <;> rfl
  | _ :: _, [], _, _ => rfl
  | k' :: ks, v' :: vs, k, v => by unfold replV; rw [List.length_cons, List.length_cons, replV_len ks vs k v]
theorem repl_reps {κ : Type} [DecidableEq κ] : ∀ {ks : List κ} {ds : List D} {vs : List V} {k : κ} {d : D} {v : V}, Reps K F ds vs → Rep K F d v → Reps K F (replD ks ds k d) (replV ks vs k v)
  | [], ds, vs, k, d, v, r, _ => by cases ds <;> cases vs <;> exact r
  | _ :: _, [], vs, k, d, v, e, _ => by cases (show vs = [] from e); rfl
  | k' :: ks, d' :: ds, _, k, d, v, ⟨v', r, e, x, y⟩, h => by
    subst e
    unfold replD replV
    refine ⟨_, _, rfl, ?_, repl_reps y h⟩
    split
    · exact h
    · exact x
theorem zip_any {κ : Type} [DecidableEq κ] (k : κ) : ∀ {ks : List κ} {vs : List V}, ks.length = vs.length → (((ks.zip vs).any fun kv => decide (kv.1 = k)) = true ↔ k ∈ ks)
  | [], [], _ => by simp
  | k' :: ks, v :: vs, h => by
    rw [List.zip_cons_cons, List.any_cons, Bool.or_eq_true, zip_any k (by simpa using h), List.mem_cons]
    simp [eq_comm]
  | [], _ :: _, h => by cases h
  | _ :: _, [], h => by cases h
theorem zip_repl {κ : Type} [DecidableEq κ] (k : κ) (v : V) : ∀ {ks : List κ} {vs : List V}, ks.length = vs.length → ((ks.zip vs).map fun kv => if kv.1 = k then (kv.1, v) else kv) = ks.zip (replV ks vs k v)
  | [], [], _ => rfl
  | k' :: ks, v' :: vs, h => by
    unfold replV
    rw [List.zip_cons_cons, List.map_cons, List.zip_cons_cons, zip_repl k v (by simpa using h)]
    congr 1
    show (if k' = k then (k', v) else (k', v')) = _
    split <;> rfl
  | [], _ :: _, h => by cases h
  | _ :: _, [], h => by cases h
/-- a dict's store, by keys and values -/
theorem put_zip {κ : Type} [DecidableEq κ] {ks : List κ} {ds : List D} {vs : List V} {k : κ} {d : D} {v : V} (l : ks.length = vs.length) (r : Reps K F ds vs) (h : Rep K F d v) : ∃ us, putK (ks.zip vs) k v = (putD ks ds k d).1.zip us ∧ (putD ks ds k d).1.length = us.length ∧ Reps K F (putD ks ds k d).2 us := by
  unfold putK putD
  by_cases hm : k ∈ ks
  · rw [if_pos hm, if_pos ((zip_any k l).mpr hm)]
    exact ⟨replV ks vs k v, zip_repl k v l, by rw [replV_len]; exact l, repl_reps r h⟩
  · rw [if_neg hm, if_neg fun e => hm ((zip_any k l).mp e)]
    refine ⟨vs ++ [v], ?_, by simp [l], r.append ⟨v, [], rfl, h, rfl⟩⟩
    rw [List.zip_append l]
    rfl
@[simp] def setO : O → D → O → Option O
  | .lst os, .int k, o => match ixN os.length k with
    | some j => some (.lst (os.set j o))
    | none => none
  | .dK ks ds, y, .fz d => match keyD y with
    | some k => if ks.length < lim then some (.dK (putD ks ds k d).1 (putD ks ds k d).2) else none
    | none => none
  | .dT ks ds, .tup zs, .fz d => match keysD zs with
    | some k => if ks.length < lim then some (.dT (putD ks ds k d).1 (putD ks ds k d).2) else none
    | none => none
  | _, _, _ => none
def storeS (fv : DV) (fp : DP) (fb : DE) : DS := fun ρ => match fv ρ with
  | .ok o ρ' => match fp ρ' with
    | .ok i p => match fb ρ' with
      | .ok y => match ρ'[i]? with
        | some (some t) => match O.at p t with
          | some s => match setO s y.d o with
            | some s' => .nx (ρ'.set i (some (O.put p s' t)))
            | none => .bad
          | none => .bad
        | _ => .bad
      | _ => .bad
    | _ => .bad
  | .ex c => .ex c ρ
  | .bad => .bad
theorem set_dic (hu : X.A.units + 64 < cLine) : PSet X (fun o i v H Q => ∃ a H4, o = .ref a ∧ DPut H a i v H4 ∧ Q H4) := by
  intro pins s σ H o i v ov iv u Q I ro ri rv ⟨a, H4, e, g, q⟩
  subst e
  cases ro
  exact d_setItem (by omega) I g ri rv fun s' I' => ⟨H4, I', q⟩
theorem PSet.or {t t' : TSet} (h : PSet X t) (h' : PSet X t') : PSet X (fun o i v H Q => t o i v H Q ∨ t' o i v H Q) := by
  intro pins s σ H o i v ov iv u Q I ro ri rv q
  rcases q with q | q
  · exact h pins s σ H o i v ov iv u Q I ro ri rv q
  · exact h' pins s σ H o i v ov iv u Q I ro ri rv q
theorem OReps.setAt : ∀ {os : List O} {vs : List V} {c c1 : List Addr} {o : O} {v : V} (n : Nat), OReps K F H os vs c → ORep K F H o v c1 → n < os.length → (c ++ c1).Nodup → ∃ c2, OReps K F H (os.set n o) (vs.set n v) c2 ∧ c2.Nodup ∧ ∀ b ∈ c2, b ∈ c ++ c1
  | [], _, _, _, _, _, n, _, _, h, _ => absurd h (Nat.not_lt_zero _)
  | x :: os, _, _, c1, o, v, 0, ⟨w, r, d1, d2, e1, e2, p, q⟩, ro, _, nd => by
    subst e1 e2
    rw [List.append_assoc, List.nodup_append] at nd
    obtain ⟨n1, n2, n3⟩ := nd
    rw [List.nodup_append] at n2
    obtain ⟨m1, m2, m3⟩ := n2
    refine ⟨c1 ++ d2, ⟨v, r, c1, d2, rfl, rfl, ro, q⟩, ?_, fun b hb => ?_⟩
    · rw [List.nodup_append]
      exact ⟨m2, m1, fun a ha b hb e => m3 b hb a ha e.symm⟩
    · rcases List.mem_append.mp hb with h | h
      · exact List.mem_append_right _ h
      · exact List.mem_append_left _ (List.mem_append_right _ h)
  | x :: os, _, _, c1, o, v, n + 1, ⟨w, r, d1, d2, e1, e2, p, q⟩, ro, h, nd => by
    subst e1 e2
    rw [List.append_assoc, List.nodup_append] at nd
    obtain ⟨n1, n2, n3⟩ := nd
    obtain ⟨c2, r2, nd2, s2⟩ := OReps.setAt n q ro (by simpa using h) n2
    refine ⟨d1 ++ c2, ⟨w, r.set n v, d1, c2, rfl, rfl, p, r2⟩, ?_, fun b hb => ?_⟩
    · rw [List.nodup_append]
      exact ⟨n1, nd2, fun a ha b hb e => n3 a ha b (s2 b hb) e⟩
    · rcases List.mem_append.mp hb with h | h
      · exact List.mem_append_left _ (List.mem_append_left _ h)
      · rcases List.mem_append.mp (s2 b h) with h | h
        · exact List.mem_append_left _ (List.mem_append_right _ h)
        · exact List.mem_append_right _ h
theorem gs_store {o i : Expr} {p2 : Pos} {fv : DV} {fp : DP} (C : Cc X W k) (he : GV X W e fv) (ho : GP X W o fp) (hi : GE X W i fb) (ha : ∀ v, assign (.Subscript o i p2) X.env v = (do
      let ov ← holding [v] (eval o X.env)
      let iv ← holding [v, ov] (eval i X.env)
      standAt p2
      holding [v, ov, iv] (setItem ov iv v)
      release [v, ov, iv] []) := by intro _; rfl)
    (hs : swapsWithSole [.Subscript o i p2] e pos.line X.env = pure false := by rfl) (hw : swappedStores [.Subscript o i p2] e X.env = pure none := by rfl)
    (h1 : (assignEach [.Subscript o i p2] X.env).map (·.2) = [assign (.Subscript o i p2) X.env] := by rfl) : GS X W (.Assign [.Subscript o i p2] e pos) (storeS fv fp fb) := by
  refine PS.imp (ps_asg he (pg_sub ho hi (PSet.or set_list (set_dic C.hu)) ha) hs hw h1) fun D σ H ⟨F0, H0, ρ, F, cs, R, p⟩ => ?_
  refine ⟨F0, H0, ρ, F, cs, R, ?_⟩
  unfold storeS at p
  cases q1 : fv ρ with
  | bad => simp only [q1] at p; exact p
  | ex c => simp only [q1] at p; exact fun F2 H2 C e m => p F2 H2 σ cs C e.ff (R.ext e) m
  | ok o1 ρ' =>
    simp only [q1] at p
    intro F1 H1 v c1 cs1 e1 R1 r1 t1
    refine ⟨F0, H0, ρ', F1, cs1, R1, ?_⟩
    cases q2 : fp ρ' with
    | bad => simp only [q2] at p; exact p.elim
    | ex c => simp only [q2] at p; exact p.elim
    | ok j pl =>
      simp only [q2] at p
      intro F2 H2 w u e2 hv hat
      refine ⟨F0, H0, ρ', F2, cs1, R1.ext e2, ?_⟩
      cases q3 : fb ρ' with
      | bad => simp only [q3] at p; exact p.elim
      | ex c => simp only [q3] at p; exact p.elim
      | ok y =>
        simp only [q3] at p
        intro F3 H3 z c3 e3 r3 n3
        have R3 := (R1.ext e2).ext e3
        have rz := r3.view e3.fh
        have r1' : ORep X.K F3 H3 o1 v c1 := ORep.ext e3 (ORep.ext e2 r1)
        split at p
        · rename_i t et
          split at p
          · rename_i s es
            split at p
            · rename_i s' eset
              obtain ⟨v', u', d1, d2, d3, g1, g2, g3, g4, kk⟩ := R3.putAt et es
              rw [hv] at g2
              cases g2
              have : u' = u := g3.fun_ (hat.same e3.hh)
              subst this
              subst g1
              have nd := R3.nd
              rw [List.nodup_append] at nd
              obtain ⟨n1, n23, d123⟩ := nd
              rw [List.nodup_append] at n23
              obtain ⟨n2, n3', d23⟩ := n23
              have c1F : ∀ b ∈ c1, F3 b = none ∧ H0 b = none ∧ b ∉ d1 ++ (d2 ++ d3) := fun b hb => by
                have q := t1.fr b hb
                exact ⟨(e2.trans e3).nf (r1.there b hb) q.1, q.2⟩
              have nd21 : (d2 ++ c1).Nodup := by
                rw [List.nodup_append]
                exact ⟨n2, t1.nd, fun a ha b hb e => by subst e; exact (c1F a hb).2.2 (List.mem_append_right _ (List.mem_append_left _ ha))⟩
              -- cells of the new tree
              have okc : ∀ c ∈ d2 ++ c1, F3 c = none ∧ H0 c = none ∧ c ∉ d1 ∧ c ∉ d3 := fun c hc => by
                rcases List.mem_append.mp hc with h | h
                · have q := R3.cf c (List.mem_append_right _ (List.mem_append_left _ h))
                  exact ⟨q.1, q.2, fun h1 => d123 c h1 c (List.mem_append_left _ h) rfl, fun h1 => d23 c h c h1 rfl⟩
                · have q := c1F c h
                  exact ⟨q.1, q.2.1, fun h1 => q.2.2 (List.mem_append_left _ h1), fun h1 => q.2.2 (List.mem_append_right _ (List.mem_append_right _ h1))⟩
              have fin : ∀ H4 c4, (∀ b, b ∉ d2 → H3 b ≠ none → H4 b = H3 b) → ORep X.K F3 H4 s' u' c4 → c4.Nodup → (∀ b ∈ c4, b ∈ d2 ++ c1) → D.nx σ H4 := fun H4 c4 k4 r4 n4 s4 =>
                p F3 H4 σ _ ((e1.ff.trans e2.ff).trans e3.ff) (kk H4 s' c4 k4 r4 n4 fun c hc => okc c (s4 c hc))
              unfold setO at eset
              split at eset
              · rename_i os kx ey
                rw [ey] at rz
                split at eset
                · rename_i n en
                  cases eset
                  obtain ⟨a, vs, c', f1, f2, f3, f4⟩ := g4
                  subst f1 f2
                  rw [f4.len] at en
                  have hn : n < os.length := by rw [f4.len]; exact (ixN_seq en).2.1
                  have nd' := nd21
                  rw [List.cons_append, List.nodup_cons] at nd'
                  obtain ⟨c2, r2, nd2, s2⟩ := OReps.setAt n f4 r1' hn nd'.2
                  refine .inl ⟨a, vs, kx, n, rfl, rz, f3, en, fin _ (a :: c2) (fun b hb hn => upd_ne fun e => hb (by rw [e]; exact List.mem_cons_self)) ⟨a, vs.set n v, c2, rfl, rfl, upd_same, r2.frame (Same.refl _) fun b hb => upd_ne fun e => nd'.1 (e ▸ s2 b hb)⟩ (List.nodup_cons.mpr ⟨fun h => nd'.1 (s2 _ h), nd2⟩) fun b hb => ?_⟩
                  rcases List.mem_cons.mp hb with rfl | h
                  · exact List.mem_cons_self
                  · exact List.mem_cons_of_mem _ (s2 b h)
                · cases eset
              · rename_i ks ds d
                split at eset
                · rename_i ky ek
                  split at eset
                  · rename_i hl
                    cases eset
                    obtain ⟨a, vs, f1, f2, f3, f4, f5⟩ := g4
                    subst f1 f2
                    obtain ⟨us, h1, h2, h3⟩ := put_zip (k := ky) f4 f5 r1'.2
                    refine .inr ⟨a, _, rfl, .inl ⟨_, ky, f3, keyD_v rz ek, ?_, rfl⟩, fin _ [a] (fun b hb hn => upd_ne fun e => hb (by rw [e]; exact List.mem_cons_self)) ⟨a, us, rfl, rfl, by rw [upd_same, h1], h2, h3⟩ (by simp) fun b hb => List.mem_append_left _ hb⟩
                    rw [List.length_zip, ← f4, Nat.min_self, ← lim_eq]
                    exact hl
                  · cases eset
                · cases eset
              · rename_i ks ds zs d ey
                rw [ey] at rz
                split at eset
                · rename_i ky ek
                  split at eset
                  · rename_i hl
                    cases eset
                    obtain ⟨a, vs, f1, f2, f3, f4, f5⟩ := g4
                    subst f1 f2
                    obtain ⟨us, h1, h2, h3⟩ := put_zip (k := ky) f4 f5 r1'.2
                    obtain ⟨b, ws, hb1, hb2, hb3⟩ := rz
                    rw [keysD_v hb3 ek] at hb2
                    refine .inr ⟨a, _, rfl, .inr ⟨_, ky, b, f3, hb1, hb2, ?_, rfl⟩, fin _ [a] (fun b hb hn => upd_ne fun e => hb (by rw [e]; exact List.mem_cons_self)) ⟨a, us, rfl, rfl, by rw [upd_same, h1], h2, h3⟩ (by simp) fun b hb => List.mem_append_left _ hb⟩
                    rw [List.length_zip, ← f4, Nat.min_self, ← lim_eq]
                    exact hl
                  · cases eset
                · cases eset
              · cases eset
            · exact p.elim
          · exact p.elim
        · exact p.elim
/-! ### a def by its body -/
def startR (n : Nat) (ds : List D) : Rho := ds.map (fun d => some (.fz d)) ++ List.replicate (n - ds.length) none
def semOf (n : Nat) (f : DS) : DF := fun ds => match f (startR n ds) with
  | .rt o => .ok o
  | .nx _ => .ok (.fz .non)
  | .ex c _ => .ex c
  | _ => .bad
theorem slots_nones : ∀ (m : Nat), Slots K F H (List.replicate m none) (List.replicate m none) []
  | 0 => ⟨rfl, rfl⟩
  | m + 1 => ⟨none, _, [], [], rfl, rfl, rfl, slots_nones m⟩
theorem slots_start : ∀ {ds vs} (m : Nat), Reps K F ds vs → Slots K F H (ds.map (fun d => some (.fz d)) ++ List.replicate m none) (vs.map some ++ List.replicate m none) []
  | [], _, m, e => by cases e; exact slots_nones m
  | d :: ds, _, m, ⟨v, r, e, x, y⟩ => by subst e; exact ⟨some v, _, [], [], rfl, rfl, ⟨rfl, x⟩, slots_start m y⟩
end
section
variable {P : Program} {w : World} {K : PySem.W.Frag} {mg : Str → Option Value} {base : Heap}
theorem dok_mk {x qual : Str} {st : Stmt} {f : Addr} {fd : FuncData} {N ps : List Str} {k : Nat} {fb : DS} (F : Fun K x qual st f fd) (S : FnScope N ps (defScope st)) (hm : mg x = some (.ref f)) (hb : Binds K fd ps [])
    (hbody : ∀ (X : Cx) (W : WX), X.prog = P → X.w = w → X.K = K → X.mg = mg → X.base = base → X.N = N → X.env.scope = defScope st → (∀ x, X.fn x = true) → Cb X W k → GSs X W (defBody st) fb) :
    DOk P w K mg base (k + 1) x (semOf N.length fb) ps.length := by
  refine ⟨f, fd, ps, F.okX S (fun vs H Q E h => ?_) (fun cdv A outer s H vs Q E hr h => ?_), hm, F.kp, hb⟩
  · obtain ⟨_, _, h, _⟩ := h
    exact h
  · obtain ⟨F0, ds, hl, fh, r, p⟩ := h
    have tk : Takes (cxOf (L2.CX P w) P w K mg base N qual (defScope st) f cdv A outer s H E) (fun cls d _ H => E cls d H) := takes_of rfl rfl rfl rfl
    have C : Cb (cxOf (L2.CX P w) P w K mg base N qual (defScope st) f cdv A outer s H E) (fun cls d _ H => E cls d H) k := ⟨⟨rfl, hr, S.nd, fun σ => passAt tk σ⟩, passes_of rfl, tk⟩
    refine ⟨_, hbody _ _ rfl rfl rfl rfl rfl rfl rfl (fun _ => rfl) C, F0, H, startR N.length ds, F0, [], ⟨fh, Same.refl _, fun _ _ => rfl, Same.refl _, ?_, List.nodup_nil, fun _ h => nomatch h⟩, ?_⟩
    · unfold startR L2.start
      rw [r.len]
      exact slots_start _ r
    · unfold semOf at p
      cases q : fb (startR N.length ds) with
      | bad => rw [q] at p; exact p.elim
      | bk ρ => rw [q] at p; exact p.elim
      | ct ρ => rw [q] at p; exact p.elim
      | nx ρ =>
        rw [q] at p
        exact fun F' H' σ' cs' s' R' => p F' H' .non [] R'.toExt ⟨rfl, rfl⟩ New.nil
      | rt o => rw [q] at p; exact p
      | ex c ρ =>
        rw [q] at p
        exact fun F' H' σ' cs' C' s' R' m => p F' H' C' R'.toExt m
end
end DL

namespace DL
open PySem PySem.Spec L2
variable {K : PySem.W.Frag} {F F' H H' H0 F0 F1 H1 : Hp} {cs cs' : List Addr} {σ σ' : L2.St} {ρ ρ' : Rho}
section
variable {X : Cx} {W : WX} {pos : Pos} {a b c e : Expr} {fa fb fc fe : DE} {f g : DS} {k : Nat}
/-! ### sorted of a list of ints, or of a dict with int keys -/
@[simp] def intKs : List Key → Option (List Int)
  | [] => some []
  | .inl i :: ks => match intKs ks with
    | some ns => some (i :: ns)
    | none => none
  | .inr _ :: _ => none
theorem intKs_eq : ∀ {ks ns}, intKs ks = some ns → ks = ns.map Sum.inl
  | [], _, h => by cases h; rfl
  | .inl i :: ks, ns, h => by
    unfold intKs at h
    cases q : intKs ks with
    | none => rw [q] at h; cases h
    | some is => rw [q] at h; cases h; rw [List.map_cons, ← intKs_eq q]
  | .inr _ :: _, _, h => by cases h
theorem intKs_map : ∀ ns : List Int, intKs (ns.map Sum.inl) = some ns
  | [] => rfl
  | n :: ns => by rw [List.map_cons, intKs, intKs_map ns]
@[simp] def gSortX : List Ar → Rs := fun as => match as with
  | [a] => match a.d with
    | .dK ks _ => match intKs ks with
      | some ns => if ns.length < 64 then .ok (.ow (.lst (((sortI ns).map D.int).map .fz))) else .bad
      | none => .bad
    | _ => gSorted [a]
  | _ => .bad
abbrev rSortX (K : PySem.W.Frag) : List V → Hp → VK → Prop := fun xs H Q => rSortedI K xs H Q ∨ (∃ (a : Addr) (kvs : List (Key × V)) (ks : List Int), xs = [.ref a] ∧ Rd H a (.dK kvs) ∧ kvs.map (·.1) = ks.map Sum.inl ∧ ks.length < 64 ∧
    ∀ (ys : List Int) (p : Addr), ys.Perm ks → ys.Pairwise (· ≤ ·) → H p = none → Q (.ref p) (upd H p (.lst (ys.map V.int))))
theorem call_sortX (hc : X.calm = true) : CallR X (.builtin "sorted") (rSortX X.K) := cr_sortedI.or (call_sortedDI hc)
theorem vc_sortX : VCall X W (rSortX X.K) gSortX := by
  intro σ F H vs as cs Q fh r p
  unfold gSortX at p
  split at p
  · rename_i a
    split at p
    · rename_i ks ds e
      obtain ⟨v, rfl, ra⟩ := areps1 r
      have rv := ra.view fh
      rw [e] at rv
      obtain ⟨u, ws, rfl, h1, h2, h3⟩ := rv
      split at p
      · rename_i ns en
        split at p
        · rename_i h64
          refine .inr ⟨u, _, ns, rfl, h1, ?_, h64, fun ys q pm sd nq => ?_⟩
          · rw [List.map_fst_zip (by omega)]
            exact intKs_eq en
          · rw [sorted_uniq (pm.trans (sortI_perm ns).symm) sd (sortI_sorted ns)]
            exact post_lst fh nq (Reps.ints.mpr rfl) rfl p
        · exact p.elim
      · exact p.elim
    · exact .inl (vc_sorted σ F H vs _ cs Q fh r p)
  · exact p.elim
/-! ### {} -/
@[simp] def newE (o : O) : DE := fun _ => .ok (.ow o)
theorem ge_dK : GE X W (.Dict [] [] pos) (newE (.dK [] [])) := PE.imp pe_dnewK fun σ H Q ⟨F0, H0, ρ, F, cs, R, p⟩ => fun a na =>
  p F _ (.ref a) [a] (ext_new R.fh na) ⟨a, [], rfl, rfl, upd_same, rfl, rfl⟩ ⟨List.nodup_cons.mpr ⟨(nomatch ·), List.nodup_nil⟩, fun c hc => by
    cases List.mem_singleton.mp hc
    exact ⟨na, R.fh.free na⟩⟩
theorem ge_dT : GE X W (.Dict [] [] pos) (newE (.dT [] [])) := PE.imp pe_dnewT fun σ H Q ⟨F0, H0, ρ, F, cs, R, p⟩ => fun a na =>
  p F _ (.ref a) [a] (ext_new R.fh na) ⟨a, [], rfl, rfl, upd_same, rfl, rfl⟩ ⟨List.nodup_cons.mpr ⟨(nomatch ·), List.nodup_nil⟩, fun c hc => by
    cases List.mem_singleton.mp hc
    exact ⟨na, R.fh.free na⟩⟩
end
/-! ### a comprehension's scope, checked -/
def blkB (N : List Str) (sc scope : Scope) (own : List (Str × Nat)) : Bool :=
  decide (scope.kind = .function) && scope.names.all (fun y => decide (scope.names.lookup y.1 = some y.2)) && own.all (fun p => decide (N[p.2]? = some p.1))
    && scope.names.all (fun y => !decide (y.2 = .free) || decide (sc.names.lookup y.1 = some .cell) || decide (sc.names.lookup y.1 = some .free))
    && scope.names.all (fun y => !(decide (y.2 = .local) || decide (y.2 = .cell)) || decide (y.1 ∈ own.map (·.1)) || !decide (y.1 ∈ N))
theorem blk_of {N N' : List Str} {sc sc' scope : Scope} {own : List (Str × Nat)} (hN : N' = N) (hs : sc' = sc) (h : blkB N sc scope own = true) : BlkOk N' sc' scope own := by
  subst hN hs
  unfold blkB at h
  simp only [Bool.and_eq_true, List.all_eq_true, decide_eq_true_eq, Bool.or_eq_true, Bool.not_eq_true', decide_eq_false_iff_not] at h
  obtain ⟨⟨⟨⟨h1, h2⟩, h3⟩, h4⟩, h5⟩ := h
  refine ⟨h1, h2, h3, fun y hy e => ?_, fun y hy e => ?_⟩
  · rcases h4 y hy with (h | h) | h
    · exact absurd e h
    · exact .inl h
    · exact .inr h
  · rcases h5 y hy with (h | h) | h
    · rw [Bool.or_eq_false_iff, decide_eq_false_iff_not, decide_eq_false_iff_not] at h
      rcases e with e | e
      · exact absurd e h.1
      · exact absurd e h.2
    · exact .inl h
    · exact .inr h
/-! ### a def by its body -/
abbrev WEx (E : XK) : WX := fun cls d _ H => E cls d H
section
variable {P : Program} {w : World} {K : PySem.W.Frag} {mg : Str → Option Value} {base : Heap}
theorem dok_of {x qual : Str} {st : Stmt} {f : Addr} {fd : FuncData} {N ps : List Str} {k : Nat} {fb : DS} (F : Fun K x qual st f fd) (S : FnScope N ps (defScope st)) (hm : mg x = some (.ref f)) (hb : Binds K fd ps [])
    (hbody : ∀ (cdv : Value) (A : Around) (outer : List Env) (s : Shared) (H : Hp) (E : XK), Cb (cxOf (L2.CX P w) P w K mg base N qual (defScope st) f cdv A outer s H E) (WEx E) k → GSs (cxOf (L2.CX P w) P w K mg base N qual (defScope st) f cdv A outer s H E) (WEx E) (defBody st) fb) :
    DOk P w K mg base (k + 1) x (semOf N.length fb) ps.length := by
  refine ⟨f, fd, ps, F.okX S (fun vs H Q E h => ?_) (fun cdv A outer s H vs Q E hr h => ?_), hm, F.kp, hb⟩
  · obtain ⟨_, _, h, _⟩ := h
    exact h
  · obtain ⟨F0, ds, hl, fh, r, p⟩ := h
    have tk : Takes (cxOf (L2.CX P w) P w K mg base N qual (defScope st) f cdv A outer s H E) (WEx E) := takes_of rfl rfl rfl rfl
    have C : Cb (cxOf (L2.CX P w) P w K mg base N qual (defScope st) f cdv A outer s H E) (WEx E) k := ⟨⟨rfl, hr, S.nd, fun σ => passAt tk σ⟩, passes_of rfl, tk⟩
    refine ⟨_, hbody cdv A outer s H E C, F0, H, startR N.length ds, F0, [], ⟨fh, Same.refl _, fun _ _ => rfl, Same.refl _, ?_, List.nodup_nil, fun _ h => nomatch h⟩, ?_⟩
    · unfold startR L2.start
      rw [r.len]
      exact slots_start _ r
    · unfold semOf at p
      cases q : fb (startR N.length ds) with
      | bad => rw [q] at p; exact p.elim
      | bk ρ => rw [q] at p; exact p.elim
      | ct ρ => rw [q] at p; exact p.elim
      | nx ρ =>
        rw [q] at p
        exact fun F' H' σ' cs' s' R' => p F' H' .non [] R'.toExt ⟨rfl, rfl⟩ New.nil
      | rt o => rw [q] at p; exact p
      | ex c ρ =>
        rw [q] at p
        exact fun F' H' σ' cs' C' s' R' m => p F' H' C' R'.toExt m
end
end DL

namespace DL
open PySem PySem.Spec L2 PyProof.Rows
/-! ### set(xs), sorted(set(xs)) of a list of ints -/
section
variable {P : Program} {w : World} {A : Around} {E : Value → Shared → Prop} {s : Shared}
/-- the set object that is made first -/
abbrev bareSet (w : World) : Obj := { cls := .type "set", dict := none, data := .set #[] 0 (.fresh 0 0 (!w.params.followText "set-order")) }
set_option maxHeartbeats 3200000 in
theorem call_set_ints {l : Addr} {its : Array Value} (ns : List Int) {Q : Value → Shared → Prop} (quiet : A.handled = none) (lst : s.heap.IsList l its) (hns : IntsAre its.toList ns) (few : ns.length + 1 < scanBound)
    (back : ∀ (g : Heap) (tk c : Nat), SetR w g s.heap.objs.size (fun j => decide (j ∈ ns)) c → c ≤ ns.length → (∀ b o, s.heap.get? b = some o → g.get? b = some o) → Q (.ref s.heap.objs.size) { s with heap := g, toks := tk }) :
    wpAny (model P w) A (call (.type "set") [.ref l]) Q E s := by
  have size_eq : its.size = ns.length := (Array.length_toList (xs := its)).symm.trans (IntsAre.length hns)
  have cs := PySem.F.called_set
  obtain ⟨_, _, mro⟩ := cs.mro
  have made := cs.made; have subty := cs.sub; have nott := cs.notType; have create := cs.canCreate; have tyc := PySem.F.typeCall_set_1 (.ref l)
  refine wpAny_call (codeAny_of_tree (wpAny_pure ⟨Code.quiet_builtin _ (by decide +kernel), codeAny_builtin PySem.F.entry_type_call ?_⟩)); rw [Around.under_plain (weight_type_call_type "set" [.ref l] []) rfl]
  repeat (any_goals (first | assumption | wp_step))
  refine codeAny_mono (code_set_led1 (.ref l) (E := E) (Q₁ := fun ob sh => ob = .ref s.heap.objs.size ∧ sh = { s with heap := s.heap.push (bareSet w) }) ⟨rfl, rfl⟩) fun res mid hres => ?_
  rcases res with er | fl
  · exact hres
  cases fl with
  | ret ob =>
    obtain ⟨rfl, rfl⟩ := hres
    have bare : (s.heap.push (bareSet w)).get? s.heap.objs.size = some (bareSet w) := Heap.get?_push_size _ rfl
    have ty : Shared.TypeIs { s with heap := s.heap.push (bareSet w) } (.ref s.heap.objs.size) "set" := ⟨_, bare, rfl⟩
    have ilook := cs.init.lookup; have ibind := cs.init.bind (.ref s.heap.objs.size)
    repeat (any_goals (first | assumption | wp_step))
    refine codeAny_mono (codeAny_call_builtin (R := wants (fun v sh => v = .none ∧ ∃ g tk c, sh = { s with heap := g, toks := tk } ∧ SetR w g s.heap.objs.size (fun j => decide (j ∈ ns)) c ∧ c ≤ ns.length ∧ (∀ b o, s.heap.get? b = some o → g.get? b = some o)) E)
      cs.init.plain PySem.F.entry_set_init (check_set_init_1 ty ?_)) fun res2 mid2 hres2 => ?_
    · obtain ⟨⟨ocls, odict, odata, oslots⟩, lget, lcls, stamp, ldata⟩ := lst
      dsimp only at lcls ldata
      subst lcls; subst ldata
      have lget1 : (s.heap.push (bareSet w)).get? l = some { cls := .type "list", dict := odict, data := .seq its stamp, slots := oslots } := Heap.get?_push_of_some _ lget
      have n1 := PySem.F.sub_list_set; have n2 := PySem.F.sub_list_frozenset
      have n3 : (Value.type "list" == Value.type "dict") = false := by decide
      have lst1 : (s.heap.push (bareSet w)).IsList l its := ⟨_, lget1, rfl, stamp, rfl⟩
      unfold Builtin.«set.__init__» noKeywords Builtin.Frozenset.updateFrom
      generalize hit : pyIter = iterOf
      wp_walk
      subst hit
      refine wpAny_pyIter_list lst1 (wpAny_bind (wpAny_runValue ?_))
      have lsmall : l < s.heap.objs.size := Heap.lt_size lget
      have psize : (s.heap.push (bareSet w)).objs.size = s.heap.objs.size + 1 := Heap.size_push ..
      have lne : l ≠ (s.heap.push (bareSet w)).objs.size := by
        rw [psize]
        exact Nat.ne_of_lt (Nat.lt_succ_of_lt lsmall)
      have quiet3 : A.in1.in1.in1.handled = none := by simp [quiet]
      have outside : s.heap.objs.size ∉ [(s.heap.push (bareSet w)).objs.size, l] := by
        simp only [psize, List.mem_cons, List.mem_singleton, List.not_mem_nil, or_false, not_or]
        exact ⟨Nat.ne_of_lt (Nat.lt_succ_self _), (Nat.ne_of_lt lsmall).symm⟩
      have each : ∀ (i : Nat) (v : Value), its[i]? = some v → ∃ k t, ns[i]? = some k ∧ v = .int k t := fun i v hv => by
        have hi : i < ns.length := size_eq ▸ (Array.getElem?_eq_some_iff.mp hv).1
        obtain ⟨t, e⟩ := PyProof.Rows.IntsAre.int_at hns i v (by rw [Array.getElem?_toList]; exact hv)
        rw [List.getD_eq_getElem?_getD, List.getElem?_eq_getElem hi] at e
        exact ⟨ns[i], t, List.getElem?_eq_getElem hi, e⟩
      refine set_update_ints ((Walks.list quiet3 _ l lne its).toS) s.heap.objs.size outside ns size_eq few each (its.size - 0) 0 _ (by omega) (Nat.zero_le _) ⟨⟨_, Heap.get?_push_size _ rfl, rfl, rfl⟩, (lst1.push _)⟩
        ⟨0, Nat.le_refl 0, setR_new_at (Heap.get?_push_of_some _ bare)⟩ ?_
      rintro ⟨g, gs, dr, tk, osx⟩ c mv hc R
      obtain rfl : gs = s.gens := mv.gens
      obtain rfl : dr = s.drawn := mv.drawn
      obtain rfl : osx = s.os := mv.os
      show wpAny _ _ _ _ _ _
      refine wpAny_pure ?_
      show wpAny _ _ (ret Value.none) _ _ _
      refine wpAny_pure ⟨rfl, g, tk, c, rfl, R, size_eq ▸ hc, fun b o e => ?_⟩
      have b0 := Heap.lt_size e
      refine mv.heap b o ?_ (Heap.get?_push_of_some _ (Heap.get?_push_of_some _ e))
      simp only [psize, List.mem_cons, List.mem_singleton, List.not_mem_nil, or_false, not_or]
      exact ⟨Nat.ne_of_lt b0, Nat.ne_of_lt (Nat.lt_succ_of_lt b0)⟩
    · rcases res2 with er2 | fl2
      · exact hres2
      cases fl2 with
      | ret v =>
        obtain ⟨rfl, g, tk, c, rfl, R, hc, keep⟩ := hres2
        repeat (any_goals (first | assumption | wp_step))
        exact back _ _ _ R hc keep
      | _ => exact hres2.elim
  | _ => exact hres.elim
end
end DL

namespace DL
open PySem PySem.Spec L2 PyProof.Rows
section
variable {X : Cx}
/-- set(xs) of a list of ints -/
def rSetI (K : PySem.W.Frag) (w : World) : List V → Hp → VK → Prop := fun vs H Q => ∃ (l : Addr) (ns : List Int), vs = [.ref l] ∧ SqL K H l (ns.map V.int) ∧ ns.length < 4000 ∧
  ∀ (p : Addr) (c : Nat), c ≤ ns.length → H p = none → Q (.ref p) (upd H p (SetO w p (fun j => decide (j ∈ ns)) c))
theorem cr_setI (hc : X.calm = true) : CallR X (.type "set") (rSetI X.K X.w) := by
  intro pins s σ H vs us Q I r h
  obtain ⟨l, ns, rfl, sq, few, q⟩ := h
  obtain ⟨its, rv, pl, _⟩ := I.list sq
  rw [Vals.ref1 r]
  refine call_set_ints ns (I.ok.hd hc) pl.isList rv.ints (by unfold scanBound; omega) fun g tk c R hcn keep => ?_
  exact ⟨.ref _, _, I.laid (t' := tk) (fun b o e => keep b o e) (Nat.le_refl _) (setO_new R), rfl, q _ c hcn (I.hok.fresh (Nat.le_refl _))⟩
/-- sorted(found), any number of members -/
def rSrtSet (w : World) : List V → Hp → VK → Prop := fun vs H Q => ∃ (a : Addr) (S : Int → Bool) (n : Nat), vs = [V.ref a] ∧ H a = some (SetO w a S n) ∧
  ∀ (ns : List Int) (p : Addr), ns.Pairwise (· < ·) → (∀ k : Int, k ∈ ns ↔ S k = true) → H p = none → Q (.ref p) (upd H p (.lst (ns.map V.int)))
theorem sorted_set_any {P : Program} {w : World} {A : Around} {E : Value → Shared → Prop} {s : Shared} {a : Addr} {S : Int → Bool} {n : Nat} {Q : Value → Shared → Prop} (R : SetR w s.heap a S n) (quiet : A.handled = none)
    (back : ∀ s' p (out : Array Value) (c : Nat) (ns : List Int), (∀ b o, s.heap.get? b = some o → s'.heap.get? b = some o) → s'.gens = s.gens → s'.os = s.os → s.heap.objs.size ≤ p →
      s'.heap.get? p = some (seqObj "list" out c) → IntsAre out.toList ns → ns.Pairwise (· < ·) → (∀ k, k ∈ ns ↔ S k = true) → ns.length = n → n < scanBound → Q (.ref p) s') :
    wpAny (model P w) A (call (.builtin "sorted") [.ref a]) Q E s := by
  obtain ⟨ob, es, ep, tb, get, exact_, dat, good, uniq, memb, small, fits, many, ris, led⟩ := R
  refine Calls.call_function_entry kind_sorted plain_sorted entry_sorted (args_sorted1 _) ?_
  unfold Builtin.«sorted»
  refine wpAny_bind (m := checkCount "sorted" 1 1 _) (wpAny_pure (wpAny_bind (collect_set (A := A.in1) quiet ⟨ob, get, exact_.1, dat⟩ fits small ris led fun s1 vs k1 hz g1 o1 pm => ?_)))
  have vlen : vs.length = n := by rw [pm.length_eq, List.length_map, Array.length_toList]; exact many
  have vints : IntsAre vs (vs.map Builtin.Re.reRawOf) := ints_of vs fun v hv => by
    obtain ⟨e, he, q⟩ := List.mem_map.mp (pm.mem_iff.mp hv)
    obtain ⟨k, tk, e1, _⟩ := good e he
    exact ⟨k, tk, q ▸ e1⟩
  have raw : (vs.map Builtin.Re.reRawOf).Perm (es.toList.map keyOf) := by
    have q := pm.map Builtin.Re.reRawOf
    rwa [List.map_map] at q
  have vline : vs.length ≤ sizeLine := by rw [vlen, ← many]; exact fits_of_scanBound small
  refine wpAny_bind (wpAny_newList ?_ vline)
  have laid : (s1.heap.push (seqObj "list" vs.toArray 0)).get? s1.heap.objs.size = some (seqObj "list" vs.toArray 0) := Heap.get?_push_size _ rfl
  refine wpAny_bind (wpAny_holding (wpAny_call_entry slot_list_sort ⟨_, laid, rfl⟩ entry_list_sort (SrtO.list_sort_ord SrtO.swo_int laid vline (fun two => SrtO.ints_sortable vints two) fun out e1 e2 => ⟨_, rfl, ?_⟩) (args_list_sort _)))
  obtain ⟨k2, k3, k4⟩ := SrtO.ints_out vints e1 e2
  obtain ⟨c, hc⟩ := sortedHeap_at (vs := vs) (out := out.toArray) laid
  have pn := k3.trans raw
  refine wpAny_pure ⟨_, rfl, back _ s1.heap.objs.size out.toArray c (out.map SrtO.iv) (fun b u e => ?_) g1 o1 hz hc k2 (lt_of_le_nodup _ k4 (pn.nodup_iff.mpr uniq)) (fun k => by rw [pn.mem_iff, ← memb k]) ?_ (many ▸ small)⟩
  · have q := k1 b u e
    have lt := Heap.lt_size q
    show (sortedHeap (s1.heap.push (seqObj "list" vs.toArray 0)) s1.heap.objs.size vs out.toArray).get? b = some u
    rw [sortedHeap_old (Nat.ne_of_lt lt) (by rw [size_push']; exact Nat.lt_succ_of_lt lt)]
    exact Heap.get?_push_of_some _ q
  · rw [pn.length_eq, List.length_map, Array.length_toList]; exact many
theorem cr_srtSet (hc : X.calm = true) : CallR X (.builtin "sorted") (rSrtSet X.w) := by
  intro pins s σ H vs us Q I r h
  obtain ⟨a, S, n, rfl, ha, q⟩ := h
  have R := setO_get I ha
  rw [Vals.ref1 r]
  refine sorted_set_any R (I.ok.hd hc) fun s' p out c ns k g o hp hg hi hs hm hl hb => ?_
  have room : (ns.map V.int).length ≤ sizeLine := by rw [List.length_map, hl, sizeLine_eq]; unfold scanBound at hb; omega
  have free : H p = none := I.hok.fresh hp
  have J : Inv X pins σ (upd H p (.lst (ns.map V.int))) { s with heap := s'.heap, gens := s'.gens, drawn := s'.drawn, toks := s'.toks } :=
    I.call (ch := []) (Un.laid k hp free) (I.hok.laid k hp ⟨room, out.toList, c, vals_of_ints hi, hg⟩) (g ▸ I.bare) (fun _ z => nomatch z)
  obtain ⟨hp1, gs, dr, tk, os1⟩ := s'
  obtain rfl : os1 = s.os := o
  exact ⟨.ref p, _, J, rfl, q ns p hs hm free⟩
end
/-! ### the plain words -/
/-- each once -/
def ddI : List Int → List Int
  | [] => []
  | x :: r => if x ∈ ddI r then ddI r else x :: ddI r
theorem ddI_mem {x : Int} : ∀ {l : List Int}, x ∈ ddI l ↔ x ∈ l
  | [] => Iff.rfl
  | y :: r => by
    unfold ddI
    split
    · rename_i h
      rw [ddI_mem, List.mem_cons]
      exact ⟨.inr, fun h2 => h2.elim (fun e => e ▸ ddI_mem.mp h) id⟩
    · rw [List.mem_cons, List.mem_cons, ddI_mem]
theorem ddI_nodup : ∀ l : List Int, (ddI l).Nodup
  | [] => List.nodup_nil
  | y :: r => by
    unfold ddI
    split
    · exact ddI_nodup r
    · rename_i h
      exact List.nodup_cons.mpr ⟨h, ddI_nodup r⟩
theorem ddI_len : ∀ l : List Int, (ddI l).length ≤ l.length
  | [] => Nat.le_refl _
  | y :: r => by
    have := ddI_len r
    unfold ddI
    split
    · simp; omega
    · simp; omega
/-- the rising row of the members -/
def sortU (l : List Int) : List Int := sortI (ddI l)
theorem sortU_mem {x : Int} {l : List Int} : x ∈ sortU l ↔ x ∈ l := (sortI_perm _).mem_iff.trans ddI_mem
theorem sortU_lt (l : List Int) : (sortU l).Pairwise (· < ·) := lt_of_le_nodup _ (sortI_sorted _) ((sortI_perm _).nodup_iff.mpr (ddI_nodup l))
theorem sortU_len (l : List Int) : (sortU l).length ≤ l.length := by
  unfold sortU
  rw [(sortI_perm _).length_eq]
  exact ddI_len l
theorem strict_uniq : ∀ {l m : List Int}, l.Pairwise (· < ·) → m.Pairwise (· < ·) → (∀ k, k ∈ l ↔ k ∈ m) → l = m
  | [], [], _, _, _ => rfl
  | [], y :: m, _, _, h => nomatch (h y).mpr List.mem_cons_self
  | x :: l, [], _, _, h => nomatch (h x).mp List.mem_cons_self
  | x :: l, y :: m, h1, h2, h => by
    rw [List.pairwise_cons] at h1 h2
    have e : x = y := by
      rcases List.mem_cons.mp ((h x).mp List.mem_cons_self) with e | a1
      · exact e
      · rcases List.mem_cons.mp ((h y).mpr List.mem_cons_self) with e | a2
        · exact e.symm
        · have := h1.1 y a2
          have := h2.1 x a1
          omega
    subst e
    rw [strict_uniq h1.2 h2.2 fun k => ?_]
    constructor
    · intro hk
      rcases List.mem_cons.mp ((h k).mp (List.mem_cons_of_mem _ hk)) with e | hk2
      · have := h1.1 k hk
        omega
      · exact hk2
    · intro hk
      rcases List.mem_cons.mp ((h k).mpr (List.mem_cons_of_mem _ hk)) with e | hk2
      · have := h2.1 k hk
        omega
      · exact hk2
/-! ### sorted(set(e)) -/
variable {K : PySem.W.Frag} {F F' H H' H0 F0 F1 H1 : Hp} {cs cs' : List Addr} {σ σ' : L2.St} {ρ ρ' : Rho}
section
variable {X : Cx} {W : WX} {pos : Pos} {a b c e : Expr} {fa fb fc fe : DE} {fa' : DA}
@[simp] def gSortSet : List Ar → Rs
  | [a] => match intsA a with
    | some ns => if ns.length < 4000 then .ok (.ow (.lst (((sortU ns).map D.int).map .fz))) else .bad
    | none => .bad
  | _ => .bad
/-- the set is laid beside, and forgotten -/
def rSS (K : PySem.W.Frag) (w : World) : List V → Hp → VK → Prop := fun vs H Q => rSetI K w vs H fun v H1 => rSrtSet w [v] H1 Q
theorem vc_sortSet : VCall X W (rSS X.K X.w) gSortSet := by
  intro σ F H vs as cs Q fh r p
  unfold gSortSet at p
  split at p
  · rename_i a
    obtain ⟨v, rfl, ra⟩ := areps1 r
    split at p
    · rename_i ns e
      obtain ⟨u, rfl, sq⟩ := intsA_rep fh ra e
      split at p
      · rename_i few
        refine ⟨u, ns, rfl, sq, few, fun q c hcn nq => ⟨q, _, c, rfl, upd_same, fun ns' t st mem nt => ?_⟩⟩
        obtain rfl : ns' = sortU ns := strict_uniq st (sortU_lt ns) fun k => by rw [mem k, sortU_mem, decide_eq_true_iff]
        have hne : t ≠ q := fun z => by rw [z, upd_same] at nt; cases nt
        have nt0 : H t = none := by rw [upd_ne hne] at nt; exact nt
        have e1 : Ext F H F (upd H q (SetO X.w q (fun j => decide (j ∈ ns)) c)) := ext_new fh nq
        refine p F (upd (upd H q (SetO X.w q (fun j => decide (j ∈ ns)) c)) t (.lst ((sortU ns).map V.int))) (.ref t) [t] ?_ ?_ ?_
        · exact e1.trans (ext_new e1.fh nt)
        · exact ⟨t, _, [], rfl, rfl, upd_same, OReps.fz (Reps.ints.mpr rfl)⟩
        · refine ⟨by simp, fun b hb => ?_⟩
          obtain rfl : b = t := by simpa using hb
          refine ⟨nt0, ?_⟩
          cases z : F b with
          | none => rfl
          | some o => rw [fh b o z] at nt0; cases nt0
      · exact p.elim
    · exact p.elim
  · exact p.elim
theorem ge_sortSet {p p2 q pos : Pos} (hc : X.calm = true) (hm : X.mg "sorted" = none) (hm2 : X.mg "set" = none) (ha : GA X W [e] fa') (hg : Gl X "sorted" := by rfl) (hg2 : Gl X "set" := by rfl)
    (he : starEach [e] X.env = (false, eval e X.env) :: starEach [] X.env := by rfl) : GE X W (.Call (.Name "sorted" p) [.Call (.Name "set" p2) [e] [] q] [] pos) (callB gSortSet fa') := by
  have inner := pe_callTy (pos := q) (p := p2) (cr_setI hc) hg2 hm2 (by decide +kernel) ha (by decide) (by decide) he rfl
  have outer := pe_callB (pos := pos) (p := p) (cr_srtSet hc) hg hm (by decide +kernel) (pa_cons inner pa_nil rfl) (by decide) (by decide) rfl rfl
  refine PE.imp outer fun σ H Q h => ?_
  have h2 := tCB_of vc_sortSet σ H Q h
  exact h2
end
end DL

namespace DL
open PySem PySem.Spec L2
variable {K : PySem.W.Frag} {F F' H H' H0 F0 F1 H1 : Hp} {cs cs' : List Addr} {σ σ' : L2.St} {ρ ρ' : Rho}
/-! ### what only reads, with all slots shut meanwhile -/
def frzAll : Rho → Rho
  | [] => []
  | none :: ρ => none :: frzAll ρ
  | some o :: ρ => some (.fz o.toD) :: frzAll ρ
theorem slots_all (h : Same F H) : ∀ {ρ σ cs}, Slots K F H ρ σ cs → Slots K H H (frzAll ρ) σ []
  | [], _, _, ⟨e, _⟩ => ⟨e, rfl⟩
  | none :: ρ, _, _, ⟨x, r, c1, c2, e1, e2, s, t⟩ => by
    refine ⟨x, r, [], [], e1, rfl, ?_, slots_all h t⟩
    have e3 : c1 = [] := by
      cases x with
      | none => exact s
      | some v => exact s
    subst e3
    exact s
  | some o :: ρ, _, _, ⟨x, r, c1, c2, e1, e2, s, t⟩ => by
    refine ⟨x, r, [], [], e1, rfl, ?_, slots_all h t⟩
    cases x with
    | none => exact s.elim
    | some v => exact ⟨rfl, ORep.view (o := o) h s⟩
def viewE (fe : DE) : DE := fun ρ => match fe (frzAll ρ) with
  | .ok (.ow o) => if leafFlat o then .ok (.ow o) else .bad
  | .ok (.vw _) => .bad
  | .ex c => .ex c
  | .bad => .bad
section
variable {X : Cx} {W : WX} {pos : Pos} {a b c e : Expr} {fa fb fc fe : DE} {f g : DS} {k : Nat}
theorem tE_view : ∀ σ H Q, tE X W (viewE fe) σ H Q → tE X W fe σ H Q := fun σ H Q ⟨F0, H0, ρ, F, cs, R, p⟩ => by
  refine ⟨H, H, frzAll ρ, H, [], ⟨Same.refl _, Same.refl _, fun _ _ => rfl, Same.refl _, slots_all R.fh R.sl, List.nodup_nil, fun _ h => nomatch h⟩, ?_⟩
  unfold viewE at p
  cases q : fe (frzAll ρ) with
  | bad => rw [q] at p; exact p
  | ex c =>
    rw [q] at p
    exact fun F2 H2 C2 e2 m => p (backF F H F2) H2 C2 (backF_ext R.fh e2) m
  | ok a =>
    rw [q] at p
    cases a with
    | vw o => exact p.elim
    | ow o =>
      dsimp only at p
      split at p
      · rename_i hl
        refine fun F2 H2 v c2 e2 r2 n2 => p (backF F H F2) H2 v c2 (backF_ext R.fh e2) (ORep.anyF (o := o) hl r2) ⟨n2.nd, fun c hc => ⟨(n2.nw c hc).1, ?_⟩⟩
        unfold backF
        rw [(n2.nw c hc).1]
        exact (n2.nw c hc).2
      · exact p.elim
theorem ge_view (h : GE X W e fe) : GE X W e (viewE fe) := PE.imp h tE_view
theorem gs_setLcV {i : Nat} {y : Str} {py : Pos} {elt tg iter : Expr} {ifs : List Expr} {scope : Scope} {own : List (Str × Nat)} {spos : Pos} {fi : DI} {bd : DB} {ct : DT} (C : Cc X W k) (hi : GI X W tg iter fi) (ok : BlkOk X.N X.env.scope scope own)
    (hg : ∀ X' : Cx, (∃ s H C cl fp, X' = X.blk s H scope (compEnvC scope cl C X.env) fp) → Cc X' W0 k → GC X' tg (own.map (·.2)) bd ∧ GTs X' ifs ct ∧ GE X' W0 elt fe)
    (hy : X.N[i]? = some y := by rfl) (hyl : X.env.scope.names.lookup y = some .local := by rfl)
    (hsw : swapsWith (.ListComp elt [⟨tg, iter, ifs, 0⟩] scope pos) (some (.Name y py)) spos.line X.env = pure true := by exact sw_true rfl rfl rfl (by decide +kernel))
    (hs : ∀ x, foldedSetIterable iter X.env x = pure x := by intro _; rfl) : GS X W (.Assign [.Name y py] (.ListComp elt [⟨tg, iter, ifs, 0⟩] scope pos) spos) (setS i (viewE (compE fi bd ct fe (own.map (·.2))))) := by
  have cc : ∀ s H C0 cl fp, Cc (X.blk s H scope (compEnvC scope cl C0 X.env) fp) W0 k := fun s H C0 cl fp => ⟨C.calm, C.room, C.nd, fun σ pins H s e s' I h => by
    obtain ⟨_, _, _, _, _, _, _, _, _, _, _, _, z⟩ := h
    exact z.elim⟩
  refine PS.imp (ps_setLc (g := fun v σ H Q => ∃ F0 H0 ρ F cs d ρ', RS X.K F0 H0 ρ F σ H cs ∧ Rep X.K F d v ∧ bd d ρ = some ρ' ∧ ∀ σ' cs', wipe σ' (own.map (·.2)) = wipe σ (own.map (·.2)) → RS X.K F0 H0 ρ' F σ' H cs' → Q σ' H) (tt := tT X W0 ct) (te := tE X W0 fe) C.calm C.nd hy hyl hsw hi ok (fun s H C0 cl fp => (hg _ ⟨s, H, C0, cl, fp, rfl⟩ (cc s H C0 cl fp)).1) (fun s H C0 cl fp => (hg _ ⟨s, H, C0, cl, fp, rfl⟩ (cc s H C0 cl fp)).2.1) (fun s H C0 cl fp => (hg _ ⟨s, H, C0, cl, fp, rfl⟩ (cc s H C0 cl fp)).2.2) hs) fun D σ H h => ?_
  have h' := tAsg_of D σ H h
  exact tLc_of (X := X) (X' := X) (tg := tg) (it := iter) (elt := elt) (W := W) rfl σ H _ (tE_view σ H _ h')
end
end DL

namespace DL
open PySem PySem.Spec L2
variable {K : PySem.W.Frag} {F F' H H' H0 F0 F1 H1 : Hp} {cs cs' : List Addr} {σ σ' : L2.St} {ρ ρ' : Rho}
/-! ### a def whose last parameter has the default None -/
structure DOk1 (P : Program) (w : World) (K : PySem.W.Frag) (mg : Str → Option Value) (base : Heap) (k : Nat) (x : Str) (sem : DF) (n : Nat) : Prop where
  ex : ∃ (f : Addr) (fd : FuncData) (ps : List Str), FnOk P w K mg base (L2.CX P w) k f fd ps (spD K mg sem (n + 1)) ∧ mg x = some (.ref f) ∧ PySem.W.keepIn K (.ref f) = true ∧ Binds K fd ps [.none] ∧ Binds K fd ps []
theorem DOk1.mono {P : Program} {w : World} {mg : Str → Option Value} {base : Heap} {k j : Nat} {x : Str} {sem : DF} {n : Nat} (h : DOk1 P w K mg base k x sem n) (l : k ≤ j) : DOk1 P w K mg base j x sem n := by
  obtain ⟨f, fd, ps, F, r⟩ := h.ex
  exact ⟨f, fd, ps, F.mono l, r⟩
theorem DOk1.all {P : Program} {w : World} {mg : Str → Option Value} {base : Heap} {k : Nat} {x : Str} {sem : DF} {n : Nat} (h : DOk1 P w K mg base k x sem n) : DOk P w K mg base k x sem (n + 1) := by
  obtain ⟨f, fd, ps, F, h1, h2, _, h3⟩ := h.ex
  exact ⟨f, fd, ps, F, h1, h2, h3⟩
theorem reps_snoc : ∀ {ds : List D} {vs : List V}, Reps K F ds vs → Reps K F (ds ++ [.non]) (vs ++ [.non])
  | [], [], _ => ⟨.non, [], rfl, rfl, rfl⟩
  | [], v :: vs, h => nomatch h
  | d :: ds, vs, ⟨v, r, e, h1, h2⟩ => ⟨v, r ++ [.non], by rw [e]; rfl, h1, reps_snoc h2⟩
def semN (sem : DF) : DF := fun ds => sem (ds ++ [.non])
section
variable {X : Cx} {W : WX} {pos : Pos} {a b c e : Expr} {fa fb fc fe : DE}
theorem ge_call1 {k j n : Nat} {x : Str} {p : Pos} {sem : DF} {e : Expr} {es : List Expr} {f : DA} (C : Cc X W j) (D : DOk1 X.prog X.w X.K X.mg X.base k x sem n) (hk : k ≤ j) (ha : GA X W (e :: es) f) (hg : Gl X x := by rfl)
    (hdb : (x == ("__debug__" : Str)) = false := by decide) (he : starEach (e :: es) X.env = (false, eval e X.env) :: starEach es X.env := by rfl) (hpl : (backTo pos (starEach es X.env)).any (·.1) = false := by rfl) :
    GE X W (.Call (.Name x p) (e :: es) [] pos) (callF (semN sem) n f) := by
  obtain ⟨fa, fd, ps, Fo, hm, kp, hb, _⟩ := D.ex
  refine PE.imp (pe_callSD (E := WE W) (dvs := [V.non]) (ds := [Value.none]) Fo (C.room.mono hk) hg hm kp hb (.cons rfl .nil) C.pass ha hdb he hpl) fun σ H Q ⟨F0, H0, ρ, F, cs, R, p⟩ => ?_
  refine ⟨F0, H0, ρ, F, cs, R, ?_⟩
  unfold callF at p
  cases q : f ρ with
  | bad => rw [q] at p; exact p
  | ex c => rw [q] at p; exact p
  | ok as =>
    simp only [q] at p
    split at p
    · rename_i hn
      intro F1 H1 vs c1 e1 r1 n1
      have hvn : (vs ++ [V.non]).length = n + 1 := by rw [List.length_append, ← r1.len, hn]; rfl
      cases hv : noVw as with
      | true =>
        have sm : Same F1 (DL.shut F1 H1 c1) := same_shut fun c hc => (n1.nw c hc).2
        refine ⟨DL.shut F1 H1 c1, as.map Ar.d ++ [.non], hvn, shut_same e1.fh, reps_snoc (areps_shut hv sm (fun c hc => shut_in hc) r1), ?_⟩
        have ex : Ext F H (DL.shut F1 H1 c1) H1 := ⟨e1.hh, e1.ff.trans sm, shut_same e1.fh, fun a h => by
          rw [shut_out fun hc => h (n1.nw a hc).1]
          exact e1.nw a h⟩
        have hs : semN sem (as.map Ar.d) = sem (as.map Ar.d ++ [.non]) := rfl
        rw [hs] at p
        cases qs : sem (as.map Ar.d ++ [.non]) with
        | bad => rw [qs] at p; exact p
        | ex c =>
          rw [qs] at p
          exact fun F2 H2 C2 e2 m => p F2 H2 C2 (ex.trans e2) m
        | ok o =>
          rw [qs] at p
          simp only [toRs, hv, Bool.true_or, if_true] at p
          exact fun F2 H2 v c2 e2 r2 n2 => p F2 H2 v c2 (ex.trans e2) r2 (n2.ext ex)
      | false =>
        refine ⟨H1, as.map Ar.d ++ [.non], hvn, Same.refl _, reps_snoc (r1.view e1.fh), ?_⟩
        have hs : semN sem (as.map Ar.d) = sem (as.map Ar.d ++ [.non]) := rfl
        rw [hs] at p
        cases qs : sem (as.map Ar.d ++ [.non]) with
        | bad => rw [qs] at p; exact p
        | ex c =>
          rw [qs] at p
          exact fun F2 H2 C2 e2 m => p (backF F1 H1 F2) H2 C2 (e1.trans (backF_ext e1.fh e2)) m
        | ok o =>
          rw [qs] at p
          simp only [toRs, hv, Bool.false_or] at p
          split at p
          · rename_i hl
            refine fun F2 H2 v c2 e2 r2 n2 => p (backF F1 H1 F2) H2 v c2 (e1.trans (backF_ext e1.fh e2)) (ORep.anyF (o := o) hl r2) ?_
            refine ⟨n2.nd, fun c hc => ⟨e1.hh.free (n2.nw c hc).1, ?_⟩⟩
            unfold backF
            rw [(n2.nw c hc).1]
            exact (n2.nw c hc).2
          · exact p.elim
    · exact p.elim
end
end DL
namespace DL
open PySem PySem.Spec L2
section
variable {P : Program} {w : World} {K : PySem.W.Frag} {mg : Str → Option Value} {base : Heap}
abbrev FunN (K : PySem.W.Frag) (x qual : Str) (st : Stmt) (f : Addr) (fd : FuncData) : Prop := FunD K x qual (defArgs st) (defBody st) (defScope st) [V.non] [] f fd
theorem funN_mk {x qual : Str} {st : Stmt} {f T : Addr} {oc to : Value} {od td an : Option Addr} {osl ts : Array (Option Value)} {kV doc pm cdv ct : Value} {n : Nat} (l : K.lookup f = some ⟨oc, od, .func (PySem.W.fnOf x qual (defArgs st) (defBody st) (defScope st) (.ref T) kV doc pm an cdv ct), osl⟩)
    (t : K.lookup T = some ⟨to, td, .seq #[.none] n, ts⟩) (c : PySem.W.codeIn K cdv qual = true) (k : PySem.W.keepIn K (.ref f) = true) : FunN K x qual st f (PySem.W.fnOf x qual (defArgs st) (defBody st) (defScope st) (.ref T) kV doc pm an cdv ct) :=
  ⟨⟨oc, od, .ref T, kV, doc, pm, an, cdv, ct, osl, rfl, l, c, .inr ⟨by simp, T, _, [.none], n, rfl, t, rfl, .cons rfl .nil⟩, .inl rfl⟩, k⟩
theorem funN_b0 {x qual : Str} {st : Stmt} {f : Addr} {fd : FuncData} {ps : List Str} {n : Nat} (F : FunN K x qual st f fd) (hn : n = ps.length)
    (h : ∀ (T : Addr) (kV doc pm : Value) (an : Option Addr) (cdv ct : Value) (us its : List Value), us.length = n → its.length = 1 → ∃ k, bindArgs (PySem.W.fnOf x qual (defArgs st) (defBody st) (defScope st) (.ref T) kV doc pm an cdv ct) ⟨us, []⟩ = seqItems? (.ref T) >>= k ∧ k (some its.toArray) = pure (ps.zip (us ++ its.drop 1))) : Binds K fd ps [] := by
  obtain ⟨ds, v, b⟩ := FunD.binds1 F n 1 (by simp) (by simpa using hn) h
  cases v
  exact b
theorem funN_b1 {x qual : Str} {st : Stmt} {f : Addr} {fd : FuncData} {ps : List Str} {n : Nat} (F : FunN K x qual st f fd) (hn : n + 1 = ps.length)
    (h : ∀ (T : Addr) (kV doc pm : Value) (an : Option Addr) (cdv ct : Value) (us its : List Value), us.length = n → its.length = 1 → ∃ k, bindArgs (PySem.W.fnOf x qual (defArgs st) (defBody st) (defScope st) (.ref T) kV doc pm an cdv ct) ⟨us, []⟩ = seqItems? (.ref T) >>= k ∧ k (some its.toArray) = pure (ps.zip (us ++ its.drop 0))) : Binds K fd ps [.none] := by
  obtain ⟨ds, v, b⟩ := FunD.binds1 F n 0 (by simp) (by simpa using hn) h
  cases v with
  | cons r t =>
    cases t
    cases r
    exact b
theorem dok1_of {x qual : Str} {st : Stmt} {f : Addr} {fd : FuncData} {N ps : List Str} {k n : Nat} {fb : DS} (F : FunN K x qual st f fd) (S : FnScope N ps (defScope st)) (hn : ps.length = n + 1) (hm : mg x = some (.ref f)) (hb1 : Binds K fd ps [.none]) (hb : Binds K fd ps [])
    (hbody : ∀ (cdv : Value) (A : Around) (outer : List Env) (s : Shared) (H : Hp) (E : XK), Cb (cxOf (L2.CX P w) P w K mg base N qual (defScope st) f cdv A outer s H E) (WEx E) k → GSs (cxOf (L2.CX P w) P w K mg base N qual (defScope st) f cdv A outer s H E) (WEx E) (defBody st) fb) :
    DOk1 P w K mg base (k + 1) x (semOf N.length fb) n := by
  refine ⟨f, fd, ps, hn ▸ F.ok S (fun vs H Q E h => ?_) (fun cdv A outer s H vs Q E hr h => ?_), hm, F.kp, hb1, hb⟩
  · obtain ⟨_, _, h, _⟩ := h
    exact h
  · obtain ⟨F0, ds, hl, fh, r, p⟩ := h
    have tk : Takes (cxOf (L2.CX P w) P w K mg base N qual (defScope st) f cdv A outer s H E) (WEx E) := takes_of rfl rfl rfl rfl
    have C : Cb (cxOf (L2.CX P w) P w K mg base N qual (defScope st) f cdv A outer s H E) (WEx E) k := ⟨⟨rfl, hr, S.nd, fun σ => passAt tk σ⟩, passes_of rfl, tk⟩
    refine ⟨_, hbody cdv A outer s H E C, F0, H, startR N.length ds, F0, [], ⟨fh, Same.refl _, fun _ _ => rfl, Same.refl _, ?_, List.nodup_nil, fun _ h => nomatch h⟩, ?_⟩
    · unfold startR L2.start
      rw [r.len]
      exact slots_start _ r
    · unfold semOf at p
      cases q : fb (startR N.length ds) with
      | bad => rw [q] at p; exact p.elim
      | bk ρ => rw [q] at p; exact p.elim
      | ct ρ => rw [q] at p; exact p.elim
      | nx ρ =>
        rw [q] at p
        exact fun F' H' σ' cs' s' R' => p F' H' .non [] R'.toExt ⟨rfl, rfl⟩ New.nil
      | ex c ρ => rw [q] at p; exact fun F2 H2 σ2 cs2 C e R2 m => p F2 H2 C (by first | exact R2.toExt | exact e) m
      | rt o => rw [q] at p; exact p
end
end DL

namespace DL
open PySem PySem.Spec L2
variable {K : PySem.W.Frag} {F F' H H' H0 F0 F1 H1 : Hp} {cs cs' : List Addr} {σ σ' : L2.St} {ρ ρ' : Rho}
section
variable {X : Cx} {W : WX} {pos : Pos} {a b c e : Expr} {fa fb fc fe : DE} {f g : DS} {k : Nat} {st : Stmt} {sts rest : List Stmt}
/-! ### statements that change no slot: loops of checks over one's own list -/
inductive Rk where
  | go | rt (o : O) | ex (c : Str) | bad
  deriving Inhabited
abbrev DK := Rho → Rk
def postK (X : Cx) (W : WX) (r : Rk) (F0 H0 : Hp) (σ : L2.St) (F H : Hp) (D : Ends) : Prop := match r with
  | .go => ∀ F' H', Ext F H F' H' → D.nx σ H'
  | .rt o => ∀ F' H' v cs', Ext F0 H0 F' H' → ORep X.K F' H' o v cs' → New H0 F' cs' → D.rt v H'
  | .ex c => ∀ F' H' C, Ext F H F' H' → X.mg c = some (.ref C) → W (.ref C) none σ H'
  | .bad => False
theorem postK_ext {r : Rk} {D : Ends} (e : Ext F H F1 H1) (p : postK X W r F0 H0 σ F H D) : postK X W r F0 H0 σ F1 H1 D := by
  cases r with
  | go => exact fun F' H' x => p F' H' (e.trans x)
  | rt o => exact p
  | ex c => exact fun F' H' C x m => p F' H' C (e.trans x) m
  | bad => exact p
def tK (X : Cx) (W : WX) (g : DK) : TS := fun D σ H => ∃ F0 H0 ρ F cs, RS X.K F0 H0 ρ F σ H cs ∧ postK X W (g ρ) F0 H0 σ F H D
def GK (X : Cx) (W : WX) (st : Stmt) (g : DK) : Prop := PS X st (tK X W g)
def GKs (X : Cx) (W : WX) (sts : List Stmt) (g : DK) : Prop := PSs X sts (tK X W g)
def nilK : DK := fun _ => .go
def seqK (f g : DK) : DK := fun ρ => match f ρ with
  | .go => g ρ
  | r => r
theorem gks_nil : GKs X W [] nilK := PSs.imp pss_nil fun D σ H ⟨F0, H0, ρ, F, cs, R, p⟩ => p F H (Ext.refl R.fh)
theorem gks_one {g : DK} (h : GK X W st g) : GKs X W [st] g := pss_one h
theorem gks_cons {f g : DK} (h : GK X W st f) (h2 : GKs X W rest g) : GKs X W (st :: rest) (seqK f g) := by
  refine PSs.imp (pss_cons h h2) fun D σ H ⟨F0, H0, ρ, F, cs, R, p⟩ => ?_
  refine ⟨F0, H0, ρ, F, cs, R, ?_⟩
  unfold seqK at p
  cases q : f ρ with
  | bad => rw [q] at p; exact p
  | ex c => rw [q] at p; exact p
  | rt o => rw [q] at p; exact p
  | go =>
    rw [q] at p
    exact fun F1 H1 e => ⟨F0, H0, ρ, F1, cs, R.ext e, postK_ext e p⟩
def ifK (c : DT) (f g : DK) : DK := fun ρ => match c ρ with
  | .ok true => f ρ
  | .ok false => g ρ
  | .ex k => .ex k
  | .bad => .bad
theorem gk_if {ct : DT} {A B : List Stmt} {f g : DK} (hc : GT X W c ct) (hA : GKs X W A f) (hB : GKs X W B g) : GK X W (.If c A B pos) (ifK ct f g) := by
  refine PS.imp (ps_if hc hA hB) fun D σ H ⟨F0, H0, ρ, F, cs, R, p⟩ => ?_
  refine ⟨F0, H0, ρ, F, cs, R, ?_⟩
  unfold ifK at p
  cases q : ct ρ with
  | bad => rw [q] at p; exact p
  | ex k => rw [q] at p; exact p
  | ok k =>
    rw [q] at p
    intro F1 H1 e1
    cases k with
    | true => exact iteT ⟨F0, H0, ρ, F1, cs, R.ext e1, postK_ext e1 p⟩
    | false => exact iteF ⟨F0, H0, ρ, F1, cs, R.ext e1, postK_ext e1 p⟩
def stK (f : DS) : DK := fun ρ => match f ρ with
  | .rt o => .rt o
  | _ => .bad
/-- a statement that ends the def -/
theorem gk_st (h : GS X W st f) : GK X W st (stK f) := PS.imp h fun D σ H ⟨F0, H0, ρ, F, cs, R, p⟩ => by
  refine ⟨F0, H0, ρ, F, cs, R, ?_⟩
  unfold stK at p
  cases q : f ρ with
  | rt o => rw [q] at p; exact p
  | nx o => rw [q] at p; exact p.elim
  | bk o => rw [q] at p; exact p.elim
  | ct o => rw [q] at p; exact p.elim
  | ex o _ => rw [q] at p; exact p.elim
  | bad => rw [q] at p; exact p.elim
/-- the data of a list that stands in a slot -/
@[simp] def listAt (ρ : Rho) (i : Nat) : Option (List D) := match ρ[i]? with
  | some (some (.lst os)) => allFz os
  | some (some (.fz (.lst ds))) => some ds
  | _ => none
theorem listAt_rep {i : Nat} {ds : List D} {v : V} (R : RS K F0 H0 ρ F σ H cs) (h : listAt ρ i = some ds) (hv : σ[i]? = some (some v)) : ∃ p vs, v = .ref p ∧ SqL K H p vs ∧ Reps K F ds vs := by
  unfold listAt at h
  split at h
  · rename_i os e
    obtain ⟨c1, c2, c3, o, x, e1, e2, e3, s, _⟩ := R.sl.split i (List.getElem?_eq_some_iff.mp e).1
    rw [e] at e2; cases e2
    rw [hv] at e3; cases e3
    rw [allFz_eq h] at s
    obtain ⟨p, vs, c', rfl, rfl, s1, s2⟩ := s
    obtain ⟨_, t2⟩ := OReps.of_fz s2
    exact ⟨p, vs, rfl, .inl (.inl s1), t2⟩
  · rename_i ds' e
    cases h
    obtain ⟨c1, c2, c3, o, x, e1, e2, e3, s, _⟩ := R.sl.split i (List.getElem?_eq_some_iff.mp e).1
    rw [e] at e2; cases e2
    rw [hv] at e3; cases e3
    obtain ⟨_, p, vs, rfl, s1, s2⟩ := s
    exact ⟨p, vs, rfl, sqL_mono R.fh s1, s2⟩
  · cases h
def chkL (t : Nat) (g : DK) : List D → DS
  | [], ρ => .nx ρ
  | d :: ds, ρ => match g (ρ.set t (some (.fz d))) with
    | .go => chkL t g ds (ρ.set t none)
    | .rt o => .rt o
    | _ => .bad
def chkS (i t : Nat) (g : DK) : DS := fun ρ => match listAt ρ i with
  | some ds => if i = t ∨ ρ.length ≤ t then .bad else chkL t g ds (ρ.set t none)
  | none => .bad
theorem gs_chk {i t : Nat} {x y : Str} {p1 p2 : Pos} {body : List Stmt} {g : DK} {k : Nat} (hp : PassesOwn (model X.prog X.w) X.A X.env X.xe) (C : Cc X W k) (hb : GKs X W body g)
    (hN : X.N[i]? = some x := by rfl) (hv : Vis X.env.scope x := by first | exact Or.inl rfl | exact Or.inr (Or.inl rfl) | exact Or.inr (Or.inr rfl)) (hd : (x == ("__debug__" : Str)) = false := by decide) (hcd : (x == ("__classdict__" : Str)) = false := by decide)
    (hi : X.N[t]? = some y := by rfl) (hx : Loc X.env.scope y := by first | exact Or.inl rfl | exact Or.inr rfl) (hf : X.fn y = true ∨ X.env.scope.names.lookup y = some .local := by first | exact .inl rfl | exact .inr rfl)
    (hs : ∀ z, foldedSetIterable (.Name x p2) X.env z = pure z := by intro _; rfl) : GS X W (.For (.Name y p1) (.Name x p2) body [] pos) (chkS i t g) := by
  refine PS.imp (ps_for hp C.calm (pi_list (pe_var hN hv hd hcd)) (pg_name C.nd hi hx hf) hb hs) fun D σ H ⟨F0, H0, ρ, F, cs, R, p⟩ => ?_
  unfold chkS at p
  split at p
  · rename_i ds el
    split at p
    · exact p.elim
    · rename_i hit
      have hne : i ≠ t := fun e => hit (.inl e)
      have htl : t < ρ.length := Nat.lt_of_not_le fun h => hit (.inr h)
      have hil : i < ρ.length := by
        unfold listAt at el
        rcases Nat.lt_or_ge i ρ.length with h | h
        · exact h
        · rw [List.getElem?_eq_none h] at el; cases el
      -- the value in the slot
      obtain ⟨v, hσ⟩ : ∃ v, σ[i]? = some (some v) := by
        obtain ⟨c1, c2, c3, o, z, e1, e2, e3, s, _⟩ := R.sl.split i hil
        cases z with
        | some v => exact ⟨v, e3⟩
        | none =>
          exfalso
          cases o with
          | some o => exact s.elim
          | none =>
            unfold listAt at el
            rw [e2] at el
            cases el
      obtain ⟨q, vs, rfl, sq, rp⟩ := listAt_rep R el hσ
      refine ⟨.ref q, hσ, q, rfl, ⟨vs, sq⟩, ?_⟩
      obtain ⟨cs1, R1⟩ := R.drop htl
      have hρ : ∀ z, (ρ.set t none).set t z = ρ.set t z := fun z => by rw [List.set_set]
      have el1 : listAt (ρ.set t none) i = some ds := by
        unfold listAt
        rw [List.getElem?_set_ne hne.symm]
        exact el
      refine ⟨fun j m σ H => m = ds.length - j ∧ j ≤ ds.length ∧ σ[i]? = some (some (.ref q)) ∧ ∃ F cs, RS X.K F0 H0 (ρ.set t none) F σ H cs ∧ postS X W (chkL t g (ds.drop j) (ρ.set t none)) F0 H0 F D, ⟨ds.length, by simp, Nat.zero_le _, hσ, F, cs1, R1, by rw [List.drop_zero]; exact p⟩, ?_⟩
      rintro j m σ2 H2 ⟨rfl, hj, hσ2, F2, cs2, R2, p2⟩
      obtain ⟨q', vs2, eq, sq2, rp2⟩ := listAt_rep R2 el1 hσ2
      cases eq
      by_cases hlt : j < ds.length
      · refine .inr ⟨⟨vs2, vs2[j]'(by rw [← rp2.len]; exact hlt), sq2, List.getElem?_eq_getElem _⟩, fun σ3 H3 => σ3[i]? = some (some (.ref q)) ∧ ∃ F cs, RS X.K F0 H0 (ρ.set t none) F σ3 H3 cs ∧ postS X W (chkL t g (ds.drop (j + 1)) (ρ.set t none)) F0 H0 F D, fun σ' H' ⟨h1, F, cs, h2, h3⟩ => ⟨ds.length - (j + 1), by omega, rfl, hlt, h1, F, cs, h2, h3⟩, fun z H' yz => ?_⟩
        obtain ⟨e, yz⟩ := yz
        subst e
        have hd : ds[j]? = some ds[j] := List.getElem?_eq_getElem hlt
        obtain ⟨v, hv, rv⟩ := rp2.get hd
        have := yz vs2 sq2
        rw [hv] at this
        cases this
        rw [List.drop_eq_getElem_cons hlt] at p2
        unfold chkL at p2
        obtain ⟨cs3, R3⟩ := R2.set (i := t) (o := .fz ds[j]) (cs' := []) (Ext.refl R2.fh) ⟨rfl, rv⟩ New.nil (by simpa using htl)
        rw [hρ] at p2 R3
        refine ⟨F0, H0, _, F2, cs3, R3, ?_⟩
        cases eg : g (ρ.set t (some (.fz ds[j]))) with
        | bad => simp only [eg] at p2; exact p2.elim
        | ex c => simp only [eg] at p2; exact p2.elim
        | rt o => simp only [eg] at p2; exact p2
        | go =>
          simp only [eg, hρ] at p2
          intro F4 H4 e4
          obtain ⟨cs5, R5⟩ := (R3.ext e4).drop (i := t) (by simpa using htl)
          rw [List.set_set] at R5
          refine ⟨?_, F4, cs5, R5, postS_same e4.ff p2⟩
          rw [List.getElem?_set_ne hne.symm]
          exact hσ2
      · have e : j = ds.length := by omega
        subst e
        rw [List.drop_length] at p2
        exact .inl ⟨⟨vs2, sq2, by rw [rp2.len]; exact Nat.le_refl _⟩, p2 F2 H2 σ2 cs2 (Same.refl _) R2⟩
  · exact p.elim
end
end DL

namespace DL
open PySem PySem.Spec L2
/-! ### plain evaluation -/
abbrev dI (i : Int) : Ar := .ow (.fz (.int i))
abbrev dB (b : Bool) : Ar := .ow (.fz (.bl b))
theorem bin_ev {g fa fb} {ρ : Rho} : bin g fa fb ρ = (fa ρ).bind fun x => (fb ρ).bind fun y => g x y := rfl
theorem un_ev {g fa} {ρ : Rho} : un g fa ρ = (fa ρ).bind g := rfl
@[simp] theorem sub_I {i j : Int} : gSub (dI i) (dI j) = okI (i - j) := rfl
@[simp] theorem add_I {i j : Int} : gAdd (dI i) (dI j) = okI (i + j) := rfl
@[simp] theorem neg_I {i : Int} : gNeg (dI i) = okI (-i) := rfl
@[simp] theorem mul_I {i j : Int} (h : okMul i j = true) : gMul (dI i) (dI j) = okI (i * j) := by
  show (if okMul i j then okI (i * j) else .bad) = _
  rw [h]; rfl
@[simp] theorem mod_I {i j : Int} (h : 0 < j) : gMod (dI i) (dI j) = okI (i % j) := by
  show (if decide (0 < j) then okI (i % j) else .bad) = _
  rw [decide_eq_true h]; rfl
@[simp] theorem fdiv_I {i j : Int} (h : okDiv j = true) : gFdiv (dI i) (dI j) = okI (i / j) := by
  show (if okDiv j then okI (i / j) else .bad) = _
  rw [h]; rfl
@[simp] theorem pow_I {i j : Int} (h : okPow i j = true) : gPow (dI i) (dI j) = okI (i ^ j.toNat) := by
  show (if okPow i j then okI (i ^ j.toNat) else .bad) = _
  rw [h]; rfl
@[simp] theorem cmp_I {g : Int → Int → Bool} {i j : Int} : cmpI g (dI i) (dI j) = okB (g i j) := rfl
theorem okMul_l {i j : Int} (h : -18446744073709551616 < i ∧ i < 18446744073709551616) : okMul i j = true := by
  unfold okMul
  have : smallI i = true := decide_eq_true (by omega)
  rw [this]; simp
theorem okMul_r {i j : Int} (h : -18446744073709551616 < j ∧ j < 18446744073709551616) : okMul i j = true := by
  unfold okMul
  have : smallI j = true := decide_eq_true (by omega)
  rw [this]; simp
theorem okDiv_of {j : Int} (h : 0 < j) (h2 : j < 18446744073709551616) : okDiv j = true := by
  unfold okDiv
  rw [decide_eq_true h, Bool.true_and]
  refine decide_eq_true ?_
  have : j.natAbs.log2 < 64 := (Nat.log2_lt (by omega)).mpr (by omega)
  omega
/-- the item of a list or tuple -/
theorem ix_seq {x : Ar} {l : Bool} {os : List O} {i : Int} {o : O} (hx : x.o.seq = some (l, os)) (h0 : 0 ≤ i) (h : os[i.toNat]? = some o) : gIx x (dI i) = .ok (itemAr o) := by
  have hl : i.toNat < os.length := (List.getElem?_eq_some_iff.mp h).1
  unfold gIx
  rw [hx]
  show (match L2.atI os i with | some o => Rs.ok (itemAr o) | none => .bad) = _
  unfold L2.atI ixN
  rw [if_pos h0, if_pos (by omega)]
  simp [h]
theorem ix_lst {ds : List D} {i : Int} {d : D} (h0 : 0 ≤ i) (h : ds[i.toNat]? = some d) : gIx (.ow (.fz (.lst ds))) (dI i) = .ok (.ow (.fz d)) :=
  ix_seq (os := ds.map .fz) (o := .fz d) rfl h0 (by rw [List.getElem?_map, h]; rfl)
theorem ix_tup {ds : List D} {i : Int} {d : D} (h0 : 0 ≤ i) (h : ds[i.toNat]? = some d) : gIx (.ow (.fz (.tup ds))) (dI i) = .ok (.ow (.fz d)) :=
  ix_seq (os := ds.map .fz) (o := .fz d) rfl h0 (by rw [List.getElem?_map, h]; rfl)
theorem ix_map {α : Type} {xs : List α} {e : α → D} {i : Int} (h0 : 0 ≤ i) (h : i.toNat < xs.length) : gIx (.ow (.fz (.lst (xs.map e)))) (dI i) = .ok (.ow (.fz (e xs[i.toNat]))) :=
  ix_lst h0 (by rw [List.getElem?_map, List.getElem?_eq_getElem h]; rfl)
theorem ix_own {α : Type} {xs : List α} {e : α → D} {i : Int} (h0 : 0 ≤ i) (h : i.toNat < xs.length) : gIx (.vw (.lst (xs.map fun x => .fz (e x)))) (dI i) = .ok (.ow (.fz (e xs[i.toNat]))) :=
  ix_seq (os := xs.map fun x => .fz (e x)) (o := .fz (e xs[i.toNat])) rfl h0 (by rw [List.getElem?_map, List.getElem?_eq_getElem h]; rfl)
/-- the last item -/
theorem ix_last {x : Ar} {l : Bool} {os : List O} {o : O} (hx : x.o.seq = some (l, os ++ [o])) : gIx x (dI (-1)) = .ok (itemAr o) := by
  unfold gIx
  rw [hx]
  show (match L2.atI (os ++ [o]) (-1) with | some o => Rs.ok (itemAr o) | none => .bad) = _
  unfold L2.atI ixN
  rw [if_neg (by omega), if_pos (by simp; omega)]
  have : ((-1 : Int) + ((os ++ [o]).length : Nat)).toNat = os.length := by simp; omega
  rw [this]
  simp
/-! ### equality -/
def Sh (n : Nat) (d : D) : Prop := (toPy d).canLay0 = true ∧ (toPy d).depth ≤ n
theorem Sh.mono {n m : Nat} {d : D} (h : Sh n d) (l : n ≤ m) : Sh m d := ⟨h.1, Nat.le_trans h.2 l⟩
theorem Sh.shp {d : D} (h : Sh 64 d) : shp d = true := by
  unfold DL.shp SeqAt.shaped
  rw [h.1, Bool.true_and]
  exact decide_eq_true h.2
theorem Sh.int {n : Nat} {i : Int} : Sh n (.int i) := ⟨by simp [toPy, PyData.canLay0], by simp [toPy, PyData.depth]⟩
theorem Sh.non {n : Nat} : Sh n .non := ⟨by simp [toPy, PyData.canLay0], by simp [toPy, PyData.depth]⟩
theorem Sh.bl {n : Nat} {b : Bool} : Sh n (.bl b) := ⟨by simp [toPy, PyData.canLay0], by simp [toPy, PyData.depth]⟩
theorem Sh.all {n : Nat} : ∀ {ds : List D}, (∀ d ∈ ds, Sh n d) → PyData.canLayAll0 (toPys ds) = true ∧ PyData.depthAll (toPys ds) ≤ n
  | [], _ => ⟨by simp [toPys, PyData.canLayAll0], by simp [toPys, PyData.depthAll]⟩
  | d :: ds, h => by
    have h1 := h d List.mem_cons_self
    have h2 := Sh.all (ds := ds) fun x hx => h x (List.mem_cons_of_mem _ hx)
    refine ⟨by simp [toPys, PyData.canLayAll0, h1.1, h2.1], ?_⟩
    simp only [toPys, PyData.depthAll]
    have := h1.2
    have := h2.2
    omega
theorem Sh.lst {n : Nat} {ds : List D} (h : ∀ d ∈ ds, Sh n d) : Sh (n + 1) (.lst ds) := by
  have q := Sh.all h
  exact ⟨by simpa [toPy, PyData.canLay0] using q.1, by simpa [toPy, PyData.depth] using q.2⟩
theorem Sh.tup {n : Nat} {ds : List D} (h : ∀ d ∈ ds, Sh n d) : Sh (n + 1) (.tup ds) := by
  have q := Sh.all h
  exact ⟨by simpa [toPy, PyData.canLay0] using q.1, by simpa [toPy, PyData.depth] using q.2⟩
theorem Sh.map {α : Type} {n : Nat} {xs : List α} {e : α → D} (h : ∀ x ∈ xs, Sh n (e x)) : Sh (n + 1) (.lst (xs.map e)) := Sh.lst fun d hd => by
  obtain ⟨x, hx, rfl⟩ := List.mem_map.mp hd
  exact h x hx
theorem Sh.refl {d : D} (h : Sh 64 d) : eqD d d = true := SeqAt.eqv_refl _ h.1
theorem gEq_self {x y : Ar} (h : Sh 64 x.d) (e : x.d = y.d) : gEq x y = okB true := by
  unfold gEq
  rw [← e, h.shp, h.refl]
  rfl
theorem gNe_self {x y : Ar} (h : Sh 64 x.d) (e : x.d = y.d) : gNe x y = okB false := by
  unfold gNe
  rw [← e, h.shp, h.refl]
  rfl
@[simp] theorem eqD_I {i j : Int} : eqD (.int i) (.int j) = decide (i = j) := by
  unfold eqD
  simp only [toPy, PyData.eqv]
  by_cases h : i = j <;> simp [h]
@[simp] theorem gEq_I {i j : Int} : gEq (dI i) (dI j) = okB (decide (i = j)) := by
  have h : ∀ k : Int, shp (.int k) = true := fun k => Sh.shp Sh.int
  unfold gEq
  show (if shp (.int i) && shp (.int j) then okB (eqD (.int i) (.int j)) else .bad) = _
  rw [h, h, eqD_I]
  rfl
@[simp] theorem gNe_I {i j : Int} : gNe (dI i) (dI j) = okB (!decide (i = j)) := by
  have h : ∀ k : Int, shp (.int k) = true := fun k => Sh.shp Sh.int
  unfold gNe
  show (if shp (.int i) && shp (.int j) then okB (!eqD (.int i) (.int j)) else .bad) = _
  rw [h, h, eqD_I]
  rfl
@[simp] theorem shp_I {i : Int} : shp (.int i) = true := Sh.shp Sh.int
/-! ### loops -/
@[simp] theorem rangeL_zero {n : Int} : rangeL 0 n = (List.range n.toNat).map fun i => .int (i : Nat) := by
  unfold rangeL
  simp
theorem loopS_fold {α β : Type} (enc : α → D) (st : β → Rho) (step : β → α → β) {t : D → DS} : ∀ (xs : List α) (b : β), (∀ b x, x ∈ xs → t (enc x) (st b) = .nx (st (step b x))) → loopS t (xs.map enc) (st b) = .nx (st (xs.foldl step b))
  | [], _, _ => rfl
  | x :: xs, b, h => by
    rw [List.map_cons]
    unfold loopS
    rw [h b x List.mem_cons_self]
    exact loopS_fold enc st step xs _ fun b y hy => h b y (List.mem_cons_of_mem _ hy)
/-- by an invariant -/
theorem loopS_inv {α : Type} {enc : α → D} {t : D → DS} (P : List α → Rho → Prop) : ∀ (ys xs : List α) (ρ : Rho), P ys ρ → (∀ (zs : List α) (x : α) (r : List α) (ρ : Rho), ys ++ xs = zs ++ x :: r → P zs ρ → ∃ ρ', t (enc x) ρ = .nx ρ' ∧ P (zs ++ [x]) ρ') → ∃ ρ', loopS t (xs.map enc) ρ = .nx ρ' ∧ P (ys ++ xs) ρ'
  | ys, [], ρ, h, _ => ⟨ρ, rfl, by simpa using h⟩
  | ys, x :: xs, ρ, h, k => by
    obtain ⟨ρ1, e, h1⟩ := k ys x xs ρ rfl h
    obtain ⟨ρ2, e2, h2⟩ := loopS_inv P (ys ++ [x]) xs ρ1 h1 fun zs y r ρ e h => k zs y r ρ (by rw [← e]; simp) h
    refine ⟨ρ2, ?_, by simpa using h2⟩
    rw [List.map_cons]
    unfold loopS
    rw [e]
    exact e2
theorem compL_map {α : Type} {enc : α → D} {t : D → Rt} (f : α → O) : ∀ (xs : List α) (acc : List O), (∀ x ∈ xs, t (enc x) = .item (f x)) → compL t (xs.map enc) acc = .ok (.ow (.lst (acc ++ xs.map f)))
  | [], acc, _ => by simp [compL]
  | x :: xs, acc, h => by
    rw [List.map_cons]
    unfold compL
    rw [h x List.mem_cons_self]
    dsimp only
    rw [compL_map f xs (acc ++ [f x]) fun y hy => h y (List.mem_cons_of_mem _ hy)]
    simp
/-- with a test -/
theorem compL_filter {α : Type} {enc : α → D} {t : D → Rt} (p : α → Bool) (f : α → O) : ∀ (xs : List α) (acc : List O), (∀ x ∈ xs, t (enc x) = if p x then .item (f x) else .skip) → compL t (xs.map enc) acc = .ok (.ow (.lst (acc ++ (xs.filter p).map f)))
  | [], acc, _ => by simp [compL]
  | x :: xs, acc, h => by
    rw [List.map_cons]
    unfold compL
    rw [h x List.mem_cons_self]
    cases hp : p x with
    | true =>
      simp only [if_true]
      rw [compL_filter p f xs (acc ++ [f x]) fun y hy => h y (List.mem_cons_of_mem _ hy)]
      simp [hp]
    | false =>
      simp only [Bool.false_eq_true, if_false]
      rw [compL_filter p f xs acc fun y hy => h y (List.mem_cons_of_mem _ hy)]
      simp [hp]
/-- by relation: each item's tree is one of those that are let in -/
theorem compL_ex {α β : Type} {enc : α → D} {t : D → Rt} (f : β → O) (P : α → β → Prop) : ∀ (xs : List α) (acc : List O), (∀ x ∈ xs, ∃ y, t (enc x) = .item (f y) ∧ P x y) → ∃ ys : List β, compL t (xs.map enc) acc = .ok (.ow (.lst (acc ++ ys.map f))) ∧ ys.length = xs.length ∧ ∀ i (h : i < xs.length) (h' : i < ys.length), P xs[i] ys[i]
  | [], acc, _ => ⟨[], by simp [compL], rfl, fun i h => absurd h (Nat.not_lt_zero _)⟩
  | x :: xs, acc, h => by
    obtain ⟨y, e, py⟩ := h x List.mem_cons_self
    obtain ⟨ys, e2, l, k⟩ := compL_ex f P xs (acc ++ [f y]) fun z hz => h z (List.mem_cons_of_mem _ hz)
    refine ⟨y :: ys, ?_, by simp [l], fun i h h' => ?_⟩
    · rw [List.map_cons]
      unfold compL
      rw [e]
      dsimp only
      rw [e2]
      simp
    · cases i with
      | zero => exact py
      | succ i => exact k i (by simpa using h) (by simpa using h')
theorem allFz_enc {α : Type} {e : α → D} : ∀ xs : List α, allFz (xs.map fun x => O.fz (e x)) = some (xs.map e)
  | [] => rfl
  | x :: xs => by simp [allFz, allFz_enc xs]
@[simp] theorem allFz_fz (xs : List D) : allFz (xs.map O.fz) = some xs := allFz_map xs
@[simp] theorem allFz_comp {α : Type} {f : α → D} (xs : List α) : allFz (xs.map (O.fz ∘ f)) = some (xs.map f) := allFz_enc xs
@[simp] theorem toDs_fzs (xs : List D) : O.toDs (xs.map O.fz) = xs := toDs_fz xs
@[simp] theorem toDs_comp {α : Type} {f : α → D} (xs : List α) : O.toDs (xs.map (O.fz ∘ f)) = xs.map f := by
  rw [O.toDs_map, List.map_map]
  rfl
@[simp] theorem toDs_append (xs ys : List O) : O.toDs (xs ++ ys) = O.toDs xs ++ O.toDs ys := by
  rw [O.toDs_map, O.toDs_map, O.toDs_map, List.map_append]
theorem allFz_append (xs ys : List O) {a b : List D} (h : allFz xs = some a) (h2 : allFz ys = some b) : allFz (xs ++ ys) = some (a ++ b) := by
  rw [allFz_eq h, allFz_eq h2, ← List.map_append, allFz_fz]
/-- a dict with int keys gets a key -/
def addK (ws : List Int) (k : Int) : List Int := if k ∈ ws then ws else ws ++ [k]
theorem replD_len {κ : Type} [DecidableEq κ] : ∀ (ks : List κ) (ds : List D) (k : κ) (d : D), (replD ks ds k d).length = ds.length
  | [], ds, k, d => by cases ds <;> rfl
  | _ :: _, [], k, d => rfl
  | _ :: ks, _ :: ds, k, d => by simp [replD, replD_len ks ds]
theorem putD_int (ws : List Int) (ds : List D) (k : Int) (d : D) (h : ws.length = ds.length) : ∃ ds', putD (ws.map (Sum.inl : Int → Key)) ds (Sum.inl k) d = ((addK ws k).map Sum.inl, ds') ∧ (addK ws k).length = ds'.length := by
  unfold putD addK
  have e : (Sum.inl k : Key) ∈ ws.map (Sum.inl : Int → Key) ↔ k ∈ ws := by simp
  by_cases hk : k ∈ ws
  · rw [if_pos (e.mpr hk), if_pos hk]
    exact ⟨_, rfl, by rw [replD_len]; exact h⟩
  · rw [if_neg fun z => hk (e.mp z), if_neg hk]
    exact ⟨ds ++ [d], by simp, by simp [h]⟩
theorem addK_mem {ws : List Int} {k w : Int} : w ∈ addK ws k ↔ w ∈ ws ∨ w = k := by
  unfold addK
  by_cases h : k ∈ ws
  · rw [if_pos h]
    exact ⟨.inl, fun z => z.elim id fun e => e ▸ h⟩
  · rw [if_neg h]
    simp
theorem addK_len (ws : List Int) (k : Int) : (addK ws k).length ≤ ws.length + 1 := by
  unfold addK
  split <;> simp
theorem addK_nodup {ws : List Int} {k : Int} (h : ws.Nodup) : (addK ws k).Nodup := by
  unfold addK
  split
  · exact h
  · rename_i hk
    rw [List.nodup_append]
    exact ⟨h, by simp, fun a ha b hb => by rw [List.mem_singleton.mp hb]; exact fun e => hk (e ▸ ha)⟩
theorem addK_ne (ws : List Int) (k : Int) : addK ws k ≠ [] := fun e => by
  have : k ∈ addK ws k := addK_mem.mpr (.inr rfl)
  rw [e] at this
  cases this
theorem sortI_len (ns : List Int) : (sortI ns).length = ns.length := (sortI_perm ns).length_eq
theorem sortI_mem {ns : List Int} {k : Int} : k ∈ sortI ns ↔ k ∈ ns := (sortI_perm ns).mem_iff
theorem cut_to {α : Type} (xs : List α) (k : Int) (h : 0 ≤ k) : cutD xs none (some k) = xs.take k.toNat := by
  have hk : ¬ k < 0 := by omega
  unfold cutD HT.sIx
  simp only [if_neg hk, Nat.sub_zero, List.drop_zero]
  by_cases hl : k.toNat ≤ xs.length
  · rw [Nat.min_eq_left hl]
  · rw [Nat.min_eq_right (by omega), List.take_length, List.take_of_length_le (by omega)]
theorem cut_from {α : Type} (xs : List α) (k : Int) (h : 0 ≤ k) : cutD xs (some k) none = xs.drop k.toNat := by
  have hk : ¬ k < 0 := by omega
  unfold cutD HT.sIx
  simp only [if_neg hk]
  by_cases hl : k.toNat ≤ xs.length
  · rw [Nat.min_eq_left hl]
    exact List.take_of_length_le (by simp)
  · rw [Nat.min_eq_right (by omega)]
    simp [List.drop_eq_nil_of_le (show xs.length ≤ k.toNat by omega)]
@[simp] theorem cut_all {α : Type} (xs : List α) : cutD xs none none = xs := by
  unfold cutD HT.sIx
  simp
@[simp] theorem ix_t0 {a : D} {r : List D} : gIx (.ow (.fz (.tup (a :: r)))) (dI 0) = .ok (.ow (.fz a)) := ix_tup (by decide) rfl
@[simp] theorem ix_t1 {a b : D} {r : List D} : gIx (.ow (.fz (.tup (a :: b :: r)))) (dI 1) = .ok (.ow (.fz b)) := ix_tup (by decide) rfl
@[simp] theorem ix_t2 {a b c : D} {r : List D} : gIx (.ow (.fz (.tup (a :: b :: c :: r)))) (dI 2) = .ok (.ow (.fz c)) := ix_tup (by decide) rfl
@[simp] theorem ix_o0 {a : O} {r : List O} : gIx (.vw (.tup (a :: r))) (dI 0) = .ok (itemAr a) := ix_seq (os := a :: r) (l := false) rfl (by decide) rfl
@[simp] theorem ix_o1 {a b : O} {r : List O} : gIx (.vw (.tup (a :: b :: r))) (dI 1) = .ok (itemAr b) := ix_seq (os := a :: b :: r) (l := false) rfl (by decide) rfl
@[simp] theorem ix_o2 {a b c : O} {r : List O} : gIx (.vw (.tup (a :: b :: c :: r))) (dI 2) = .ok (itemAr c) := ix_seq (os := a :: b :: c :: r) (l := false) rfl (by decide) rfl
theorem range_at {n y : Nat} {zs r : List Nat} (e : List.range n = zs ++ y :: r) : y = zs.length ∧ zs.length < n := by
  have h1 := congrArg (fun l => l[zs.length]?) e
  have h2 := congrArg List.length e
  simp at h1 h2
  have : zs.length < n := by omega
  rw [List.getElem?_range this] at h1
  exact ⟨(Option.some.inj h1).symm, this⟩
theorem okR_of {n : Int} (h0 : 0 ≤ n) (h1 : n ≤ 1000000) : okR n = true := by unfold okR; simp; omega
@[simp] theorem okLen_of {n : Nat} (h : n ≤ 1000000) : okLen n = true := by unfold okLen lim; simp; omega
theorem snoc_all {α : Type} {P : Nat → α → Prop} {l : List α} {x : α} (h : ∀ i (h : i < l.length), P i l[i]) (hx : P l.length x) : ∀ i (h : i < (l ++ [x]).length), P i (l ++ [x])[i] := fun i hi => by
  by_cases hl : i < l.length
  · rw [List.getElem_append_left hl]
    exact h i hl
  · have : i = l.length := by simp at hi; omega
    subst this
    simpa using hx
/-- the item at a place -/
def nth {α : Type} (xs : List α) (i : Int) (d : α) : α := xs.getD i.toNat d
theorem nth_at {α : Type} {xs : List α} {i : Int} {d : α} (h : i.toNat < xs.length) : nth xs i d = xs[i.toNat] := by
  unfold nth
  rw [List.getD_eq_getElem?_getD, List.getElem?_eq_getElem h]
  rfl
theorem nth_mem {α : Type} {xs : List α} {i : Int} {d : α} (h : i.toNat < xs.length) : nth xs i d ∈ xs := by
  rw [nth_at h]
  exact List.getElem_mem h
theorem ix_nth {α : Type} {xs : List α} {e : α → D} {i : Int} (d : α) (h0 : 0 ≤ i) (h : i < xs.length) : gIx (.ow (.fz (.lst (xs.map e)))) (dI i) = .ok (.ow (.fz (e (nth xs i d)))) := by
  rw [nth_at (by omega)]
  exact ix_map h0 (by omega)
theorem ix_nthO {α : Type} {xs : List α} {e : α → D} {i : Int} (d : α) (h0 : 0 ≤ i) (h : i < xs.length) : gIx (.vw (.lst (xs.map (O.fz ∘ e)))) (dI i) = .ok (.ow (.fz (e (nth xs i d)))) := by
  rw [nth_at (by omega)]
  exact ix_own h0 (by omega)
@[simp] theorem isi_int_non : isiD "int" .non = okB false := by
  have h : kitB "NoneType" "int" = some false := by decide +kernel
  show (match kitB "NoneType" "int" with | some b => okB b | none => .bad) = _
  rw [h]
@[simp] theorem isi_int_bl {b : Bool} : isiD "int" (.bl b) = okB true := by
  have h : kitB "bool" "int" = some true := by decide +kernel
  show (match kitB "bool" "int" with | some b => okB b | none => .bad) = _
  rw [h]
@[simp] theorem isi_int_int {i : Int} : isiD "int" (.int i) = okB true := by
  have h : kitB "int" "int" = some true := by decide +kernel
  show (match kitB "int" "int" with | some b => okB b | none => .bad) = _
  rw [h]
@[simp] theorem isi_int_str {x : Str} : isiD "int" (.str x) = okB false := by
  have h : kitB "str" "int" = some false := by decide +kernel
  show (match kitB "str" "int" with | some b => okB b | none => .bad) = _
  rw [h]
@[simp] theorem isi_int_lst {ds : List D} : isiD "int" (.lst ds) = okB false := by
  have h : kitB "list" "int" = some false := by decide +kernel
  show (match kitB "list" "int" with | some b => okB b | none => .bad) = _
  rw [h]
@[simp] theorem isi_int_tup {ds : List D} : isiD "int" (.tup ds) = okB false := by
  have h : kitB "tuple" "int" = some false := by decide +kernel
  show (match kitB "tuple" "int" with | some b => okB b | none => .bad) = _
  rw [h]
@[simp] theorem isi_bool_non : isiD "bool" .non = okB false := by
  have h : kitB "NoneType" "bool" = some false := by decide +kernel
  show (match kitB "NoneType" "bool" with | some b => okB b | none => .bad) = _
  rw [h]
@[simp] theorem isi_bool_bl {b : Bool} : isiD "bool" (.bl b) = okB true := by
  have h : kitB "bool" "bool" = some true := by decide +kernel
  show (match kitB "bool" "bool" with | some b => okB b | none => .bad) = _
  rw [h]
@[simp] theorem isi_bool_int {i : Int} : isiD "bool" (.int i) = okB false := by
  have h : kitB "int" "bool" = some false := by decide +kernel
  show (match kitB "int" "bool" with | some b => okB b | none => .bad) = _
  rw [h]
@[simp] theorem isi_bool_str {x : Str} : isiD "bool" (.str x) = okB false := by
  have h : kitB "str" "bool" = some false := by decide +kernel
  show (match kitB "str" "bool" with | some b => okB b | none => .bad) = _
  rw [h]
@[simp] theorem isi_bool_lst {ds : List D} : isiD "bool" (.lst ds) = okB false := by
  have h : kitB "list" "bool" = some false := by decide +kernel
  show (match kitB "list" "bool" with | some b => okB b | none => .bad) = _
  rw [h]
@[simp] theorem isi_bool_tup {ds : List D} : isiD "bool" (.tup ds) = okB false := by
  have h : kitB "tuple" "bool" = some false := by decide +kernel
  show (match kitB "tuple" "bool" with | some b => okB b | none => .bad) = _
  rw [h]
@[simp] theorem isi_str_non : isiD "str" .non = okB false := by
  have h : kitB "NoneType" "str" = some false := by decide +kernel
  show (match kitB "NoneType" "str" with | some b => okB b | none => .bad) = _
  rw [h]
@[simp] theorem isi_str_bl {b : Bool} : isiD "str" (.bl b) = okB false := by
  have h : kitB "bool" "str" = some false := by decide +kernel
  show (match kitB "bool" "str" with | some b => okB b | none => .bad) = _
  rw [h]
@[simp] theorem isi_str_int {i : Int} : isiD "str" (.int i) = okB false := by
  have h : kitB "int" "str" = some false := by decide +kernel
  show (match kitB "int" "str" with | some b => okB b | none => .bad) = _
  rw [h]
@[simp] theorem isi_str_str {x : Str} : isiD "str" (.str x) = okB true := by
  have h : kitB "str" "str" = some true := by decide +kernel
  show (match kitB "str" "str" with | some b => okB b | none => .bad) = _
  rw [h]
@[simp] theorem isi_str_lst {ds : List D} : isiD "str" (.lst ds) = okB false := by
  have h : kitB "list" "str" = some false := by decide +kernel
  show (match kitB "list" "str" with | some b => okB b | none => .bad) = _
  rw [h]
@[simp] theorem isi_str_tup {ds : List D} : isiD "str" (.tup ds) = okB false := by
  have h : kitB "tuple" "str" = some false := by decide +kernel
  show (match kitB "tuple" "str" with | some b => okB b | none => .bad) = _
  rw [h]
@[simp] theorem isi_list_non : isiD "list" .non = okB false := by
  have h : kitB "NoneType" "list" = some false := by decide +kernel
  show (match kitB "NoneType" "list" with | some b => okB b | none => .bad) = _
  rw [h]
@[simp] theorem isi_list_bl {b : Bool} : isiD "list" (.bl b) = okB false := by
  have h : kitB "bool" "list" = some false := by decide +kernel
  show (match kitB "bool" "list" with | some b => okB b | none => .bad) = _
  rw [h]
@[simp] theorem isi_list_int {i : Int} : isiD "list" (.int i) = okB false := by
  have h : kitB "int" "list" = some false := by decide +kernel
  show (match kitB "int" "list" with | some b => okB b | none => .bad) = _
  rw [h]
@[simp] theorem isi_list_str {x : Str} : isiD "list" (.str x) = okB false := by
  have h : kitB "str" "list" = some false := by decide +kernel
  show (match kitB "str" "list" with | some b => okB b | none => .bad) = _
  rw [h]
@[simp] theorem isi_list_lst {ds : List D} : isiD "list" (.lst ds) = okB true := by
  have h : kitB "list" "list" = some true := by decide +kernel
  show (match kitB "list" "list" with | some b => okB b | none => .bad) = _
  rw [h]
@[simp] theorem isi_list_tup {ds : List D} : isiD "list" (.tup ds) = okB false := by
  have h : kitB "tuple" "list" = some false := by decide +kernel
  show (match kitB "tuple" "list" with | some b => okB b | none => .bad) = _
  rw [h]
@[simp] theorem isi_tuple_non : isiD "tuple" .non = okB false := by
  have h : kitB "NoneType" "tuple" = some false := by decide +kernel
  show (match kitB "NoneType" "tuple" with | some b => okB b | none => .bad) = _
  rw [h]
@[simp] theorem isi_tuple_bl {b : Bool} : isiD "tuple" (.bl b) = okB false := by
  have h : kitB "bool" "tuple" = some false := by decide +kernel
  show (match kitB "bool" "tuple" with | some b => okB b | none => .bad) = _
  rw [h]
@[simp] theorem isi_tuple_int {i : Int} : isiD "tuple" (.int i) = okB false := by
  have h : kitB "int" "tuple" = some false := by decide +kernel
  show (match kitB "int" "tuple" with | some b => okB b | none => .bad) = _
  rw [h]
@[simp] theorem isi_tuple_str {x : Str} : isiD "tuple" (.str x) = okB false := by
  have h : kitB "str" "tuple" = some false := by decide +kernel
  show (match kitB "str" "tuple" with | some b => okB b | none => .bad) = _
  rw [h]
@[simp] theorem isi_tuple_lst {ds : List D} : isiD "tuple" (.lst ds) = okB false := by
  have h : kitB "list" "tuple" = some false := by decide +kernel
  show (match kitB "list" "tuple" with | some b => okB b | none => .bad) = _
  rw [h]
@[simp] theorem isi_tuple_tup {ds : List D} : isiD "tuple" (.tup ds) = okB true := by
  have h : kitB "tuple" "tuple" = some true := by decide +kernel
  show (match kitB "tuple" "tuple" with | some b => okB b | none => .bad) = _
  rw [h]
@[simp] theorem isi_dict_non : isiD "dict" .non = okB false := by
  have h : kitB "NoneType" "dict" = some false := by decide +kernel
  show (match kitB "NoneType" "dict" with | some b => okB b | none => .bad) = _
  rw [h]
@[simp] theorem isi_dict_bl {b : Bool} : isiD "dict" (.bl b) = okB false := by
  have h : kitB "bool" "dict" = some false := by decide +kernel
  show (match kitB "bool" "dict" with | some b => okB b | none => .bad) = _
  rw [h]
@[simp] theorem isi_dict_int {i : Int} : isiD "dict" (.int i) = okB false := by
  have h : kitB "int" "dict" = some false := by decide +kernel
  show (match kitB "int" "dict" with | some b => okB b | none => .bad) = _
  rw [h]
@[simp] theorem isi_dict_str {x : Str} : isiD "dict" (.str x) = okB false := by
  have h : kitB "str" "dict" = some false := by decide +kernel
  show (match kitB "str" "dict" with | some b => okB b | none => .bad) = _
  rw [h]
@[simp] theorem isi_dict_lst {ds : List D} : isiD "dict" (.lst ds) = okB false := by
  have h : kitB "list" "dict" = some false := by decide +kernel
  show (match kitB "list" "dict" with | some b => okB b | none => .bad) = _
  rw [h]
@[simp] theorem isi_dict_tup {ds : List D} : isiD "dict" (.tup ds) = okB false := by
  have h : kitB "tuple" "dict" = some false := by decide +kernel
  show (match kitB "tuple" "dict" with | some b => okB b | none => .bad) = _
  rw [h]
@[simp] theorem toDs_rev (xs : List O) : O.toDs xs.reverse = (O.toDs xs).reverse := by
  rw [O.toDs_map, O.toDs_map, List.map_reverse]
end DL

namespace DL
open PySem PySem.Spec L2
/-! ### what is wanted of an outcome -/
structure Pq where
  nx : Rho → Prop
  rt : O → Prop
  ex : Str → Prop
  bk : Rho → Prop
  ct : Rho → Prop
def SP0 (r : SR) (Q : Pq) : Prop := match r with
  | .nx ρ => Q.nx ρ
  | .rt o => Q.rt o
  | .ex c _ => Q.ex c
  | .bk ρ => Q.bk ρ
  | .ct ρ => Q.ct ρ
  | .bad => False
def RP0 (r : Rs) (k : Ar → Prop) (x : Str → Prop) : Prop := match r with
  | .ok a => k a
  | .ex c => x c
  | .bad => False
def AP0 (r : Rm) (k : List Ar → Prop) (x : Str → Prop) : Prop := match r with
  | .ok a => k a
  | .ex c => x c
  | .bad => False
def TP0 (r : Rb) (k : Bool → Prop) (x : Str → Prop) : Prop := match r with
  | .ok a => k a
  | .ex c => x c
  | .bad => False
def VP0 (r : Rv) (k : O → Rho → Prop) (x : Str → Prop) : Prop := match r with
  | .ok o ρ => k o ρ
  | .ex c => x c
  | .bad => False
def VsP0 (r : Rvs) (k : List O → Rho → Prop) (x : Str → Prop) : Prop := match r with
  | .ok o ρ => k o ρ
  | .ex c => x c
  | .bad => False
def PP0 (r : Rp) (k : Nat → List Nat → Prop) (x : Str → Prop) : Prop := match r with
  | .ok i p => k i p
  | .ex c => x c
  | .bad => False
def IP0 (r : Ri) (k : List D → Prop) (x : Str → Prop) : Prop := match r with
  | .ok a => k a
  | .ex c => x c
  | .bad => False
def FP0 (r : Rf) (k : O → Prop) (x : Str → Prop) : Prop := match r with
  | .ok o => k o
  | .ex c => x c
  | .bad => False
def OP0 {α : Type} (r : Option α) (k : α → Prop) : Prop := match r with
  | some a => k a
  | none => False
section
variable {Q : Pq} {k : Ar → Prop} {kA : List Ar → Prop} {kT : Bool → Prop} {kV : O → Rho → Prop} {kVs : List O → Rho → Prop} {kP : Nat → List Nat → Prop} {kI : List D → Prop} {kF : O → Prop} {x : Str → Prop} {ρ : Rho}
@[local simp] theorem SP_nx0 : SP0 (.nx ρ) Q = Q.nx ρ := rfl
@[local simp] theorem SP_rt0 {o} : SP0 (.rt o) Q = Q.rt o := rfl
@[local simp] theorem SP_ex0 {c} : SP0 (.ex c ρ) Q = Q.ex c := rfl
@[local simp] theorem SP_bk0 : SP0 (.bk ρ) Q = Q.bk ρ := rfl
@[local simp] theorem SP_ct0 : SP0 (.ct ρ) Q = Q.ct ρ := rfl
@[local simp] theorem SP_bad0 : SP0 .bad Q = False := rfl
@[local simp] theorem RP_ok0 {a} : RP0 (.ok a) k x = k a := rfl
@[local simp] theorem RP_ex0 {c} : RP0 (.ex c) k x = x c := rfl
@[local simp] theorem RP_bad0 : RP0 .bad k x = False := rfl
@[local simp] theorem AP_ok0 {a} : AP0 (.ok a) kA x = kA a := rfl
@[local simp] theorem AP_ex0 {c} : AP0 (.ex c) kA x = x c := rfl
@[local simp] theorem TP_ok0 {a} : TP0 (.ok a) kT x = kT a := rfl
@[local simp] theorem TP_ex0 {c} : TP0 (.ex c) kT x = x c := rfl
@[local simp] theorem TP_bad0 : TP0 .bad kT x = False := rfl
@[local simp] theorem VP_ok0 {o} : VP0 (.ok o ρ) kV x = kV o ρ := rfl
@[local simp] theorem VP_ex0 {c} : VP0 (.ex c) kV x = x c := rfl
@[local simp] theorem VsP_ok0 {o} : VsP0 (.ok o ρ) kVs x = kVs o ρ := rfl
@[local simp] theorem PP_ok0 {i p} : PP0 (.ok i p) kP x = kP i p := rfl
@[local simp] theorem IP_ok0 {a} : IP0 (.ok a) kI x = kI a := rfl
@[local simp] theorem FP_ok0 {a} : FP0 (.ok a) kF x = kF a := rfl
@[local simp] theorem FP_ex0 {c} : FP0 (.ex c) kF x = x c := rfl
@[local simp] theorem OP_some0 {α : Type} {a : α} {k : α → Prop} : OP0 (some a) k = k a := rfl
@[local simp] theorem OP_none0 {α : Type} {k : α → Prop} : OP0 none k = False := rfl
theorem FP_sem0 {n : Nat} {f : DS} {ds : List D} : FP0 (semOf n f ds) kF x = SP0 (f (startR n ds)) ⟨fun _ => kF (.fz .non), kF, x, fun _ => False, fun _ => False⟩ := by
  unfold semOf
  cases f (startR n ds) <;> rfl
theorem FP_of0 {r : Rf} {o : O} (h : FP0 r (fun y => y = o) fun _ => False) : r = .ok o := by
  cases r with
  | ok y => exact congrArg Rf.ok h
  | ex c => exact h.elim
  | bad => exact h.elim
theorem FP_ofx0 {r : Rf} {c : Str} (h : FP0 r (fun _ => False) fun y => y = c) : r = .ex c := by
  cases r with
  | ok y => exact h.elim
  | ex y => exact congrArg Rf.ex h
  | bad => exact h.elim
theorem FP_some0 {r : Rf} {P : O → Prop} (h : FP0 r P fun _ => False) : ∃ o, r = .ok o ∧ P o := by
  cases r with
  | ok y => exact ⟨y, rfl, h⟩
  | ex y => exact h.elim
  | bad => exact h.elim
theorem FP_mono0 {r : Rf} {P P' : O → Prop} {x x' : Str → Prop} (h : FP0 r P x) (i : ∀ o, P o → P' o) (j : ∀ c, x c → x' c) : FP0 r P' x' := by
  cases r with
  | ok y => exact i _ h
  | ex y => exact j _ h
  | bad => exact h.elim
/-! ### expressions -/
@[local simp] theorem RP_bin0 {g fa fb} : RP0 (bin g fa fb ρ) k x = RP0 (fa ρ) (fun a => RP0 (fb ρ) (fun b => RP0 (g a b) k x) x) x := by
  unfold bin Rs.bind
  cases fa ρ with
  | ok a => cases fb ρ <;> rfl
  | _ => rfl
@[local simp] theorem RP_un0 {g fa} : RP0 (un g fa ρ) k x = RP0 (fa ρ) (fun a => RP0 (g a) k x) x := by
  unfold un Rs.bind
  cases fa ρ <;> rfl
@[local simp] theorem RP_isi0 {T fa} : RP0 (isiE T fa ρ) k x = RP0 (fa ρ) (fun a => RP0 (isiD T a.d) k x) x := by
  unfold isiE Rs.bind
  cases fa ρ <;> rfl
@[local simp] theorem AP_nil0 : AP0 (nilA ρ) kA x = kA [] := rfl
@[local simp] theorem AP_cons0 {f : DE} {g : DA} : AP0 (consA f g ρ) kA x = RP0 (f ρ) (fun a => AP0 (g ρ) (fun as => kA (a :: as)) x) x := by
  unfold consA
  cases f ρ with
  | ok a => cases g ρ <;> rfl
  | _ => rfl
@[local simp] theorem RP_callB0 {g f} : RP0 (callB g f ρ) k x = AP0 (f ρ) (fun as => RP0 (g as) k x) x := by
  unfold callB
  cases f ρ <;> rfl
@[local simp] theorem RP_callF0 {sem n f} : RP0 (callF sem n f ρ) k x = AP0 (f ρ) (fun as => as.length = n ∧ FP0 (sem (as.map Ar.d)) (fun o => (noVw as || leafFlat o) = true ∧ k (.ow o)) x) x := by
  unfold callF
  cases f ρ with
  | ok as =>
    show RP0 (if as.length = n then toRs as (sem (as.map Ar.d)) else .bad) k x = _
    by_cases h : as.length = n
    · rw [if_pos h]
      show _ = (as.length = n ∧ _)
      cases sem (as.map Ar.d) with
      | ok o =>
        show RP0 (if noVw as || leafFlat o then .ok (.ow o) else .bad) k x = (as.length = n ∧ (_ ∧ k (.ow o)))
        by_cases h2 : (noVw as || leafFlat o) = true
        · rw [if_pos h2]; simp [h, h2]
        · rw [if_neg h2]; simp [h2]
      | ex c => exact propext ⟨fun z => ⟨h, z⟩, fun z => z.2⟩
      | bad => exact propext ⟨fun z => z.elim, fun z => z.2⟩
    · rw [if_neg h]
      exact propext ⟨fun z => z.elim, fun z => (h z.1).elim⟩
  | ex c => rfl
  | bad => rfl
@[local simp] theorem RP_lst0 {f} : RP0 (lstE f ρ) k x = AP0 (f ρ) (fun as => OP0 (owAll as) fun os => okLen os.length = true ∧ k (.ow (.lst os))) x := by
  unfold lstE
  cases f ρ with
  | ok as =>
    cases h : owAll as with
    | none => simp [RP0, h]
    | some os =>
      by_cases h2 : okLen os.length = true
      · simp [RP0, h, h2]
      · simp [RP0, h, h2]
  | ex c => rfl
  | bad => rfl
/-- a tuple of what is given: data, if all is data -/
def mkT (os : List O) : O := match allFz os with
  | some ds => .fz (.tup ds)
  | none => .tup os
@[local simp] theorem RP_tup0 {f} : RP0 (tupE f ρ) k x = AP0 (f ρ) (fun as => OP0 (owAll as) fun os => okLen os.length = true ∧ k (.ow (mkT os))) x := by
  unfold tupE mkT
  cases f ρ with
  | ok as =>
    cases h : owAll as with
    | none => simp [RP0, h]
    | some os =>
      by_cases h2 : okLen os.length = true
      · cases h3 : allFz os <;> simp [RP0, h, h2, h3]
      · simp [RP0, h, h2]
  | ex c => rfl
  | bad => rfl
@[local simp] theorem TP_test0 {fe : DE} : TP0 (testE fe ρ) kT x = RP0 (fe ρ) (fun a => TP0 (Rs.ok a).test kT x) x := by
  unfold testE
  cases fe ρ <;> rfl
@[local simp] theorem TP_not0 {f : DT} : TP0 (notT f ρ) kT x = TP0 (f ρ) (fun b => kT (!b)) x := by
  unfold notT
  cases f ρ <;> rfl
@[local simp] theorem TP_and0 {f g : DT} : TP0 (andT f g ρ) kT x = TP0 (f ρ) (fun b => if b = true then TP0 (g ρ) kT x else kT false) x := by
  unfold andT
  cases f ρ with
  | ok b => cases b <;> rfl
  | _ => rfl
@[local simp] theorem TP_or0 {f g : DT} : TP0 (orT f g ρ) kT x = TP0 (f ρ) (fun b => if b = true then kT true else TP0 (g ρ) kT x) x := by
  unfold orT
  cases f ρ with
  | ok b => cases b <;> rfl
  | _ => rfl
@[local simp] theorem TP_yes0 : TP0 (yesT ρ) kT x = kT true := rfl
theorem boolAr {a : Ar} {h : Ar → Prop} : True := trivial
@[local simp] theorem RP_and0 {fa fb : DE} : RP0 (andV fa fb ρ) k x = TP0 (testE fa ρ) (fun b => if b = true then RP0 (fb ρ) k x else k (dB false)) x := by
  unfold andV testE Rs.bind
  cases fa ρ with
  | ok a =>
    cases a with
    | vw o => rfl
    | ow o => cases o with
      | fz d => cases d with
        | bl b => cases b <;> rfl
        | _ => rfl
      | _ => rfl
  | _ => rfl
@[local simp] theorem RP_or0 {fa fb : DE} : RP0 (orV fa fb ρ) k x = TP0 (testE fa ρ) (fun b => if b = true then k (dB true) else RP0 (fb ρ) k x) x := by
  unfold orV testE Rs.bind
  cases fa ρ with
  | ok a =>
    cases a with
    | vw o => rfl
    | ow o => cases o with
      | fz d => cases d with
        | bl b => cases b <;> rfl
        | _ => rfl
      | _ => rfl
  | _ => rfl
@[local simp] theorem RP_not0 {fa : DE} : RP0 (notV fa ρ) k x = TP0 (testE fa ρ) (fun b => k (dB !b)) x := by
  unfold notV testE Rs.bind
  cases fa ρ with
  | ok a =>
    cases a with
    | vw o => rfl
    | ow o => cases o with
      | fz d => cases d with
        | bl b => cases b <;> rfl
        | _ => rfl
      | _ => rfl
  | _ => rfl
@[local simp] theorem RP_if0 {c : DT} {fa fb : DE} : RP0 (ifE c fa fb ρ) k x = TP0 (c ρ) (fun b => if b = true then RP0 (fa ρ) k x else RP0 (fb ρ) k x) x := by
  unfold ifE
  cases c ρ with
  | ok b => cases b <;> rfl
  | _ => rfl
@[local simp] theorem RP_comp0 {fi : DI} {b : DB} {ct : DT} {fe : DE} {vs : List Nat} : RP0 (compE fi b ct fe vs ρ) k x = IP0 (fi ρ) (fun ds => okLen ds.length = true ∧ RP0 (compL (itemT b ct fe (forget vs ρ)) ds []) k x) x := by
  unfold compE
  cases fi ρ with
  | ok ds =>
    show RP0 (if okLen ds.length then compL (itemT b ct fe (forget vs ρ)) ds [] else .bad) k x = (okLen ds.length = true ∧ _)
    by_cases h : okLen ds.length = true
    · rw [if_pos h]; simp [h]
    · rw [if_neg h]; simp [h]
  | ex c => rfl
  | bad => rfl
/-- a list that is walked -/
def lsA0 (kI : List D → Prop) : Ar → Prop
  | .ow o => match o.toD with
    | .lst ds => kI ds
    | _ => False
  | .vw _ => False
@[local simp] theorem IP_list0 {f : DE} : IP0 (listI f ρ) kI x = RP0 (f ρ) (lsA0 kI) x := by
  unfold listI lsA0
  cases f ρ with
  | ok a =>
    cases a with
    | vw o => rfl
    | ow o =>
      dsimp only [RP_ok0]
      cases o.toD <;> rfl
  | _ => rfl
@[local simp] theorem lsA_fz0 {ds : List D} : lsA0 kI (.ow (.fz (.lst ds))) = kI ds := rfl
@[local simp] theorem lsA_lst0 {os : List O} : lsA0 kI (.ow (.lst os)) = kI (O.toDs os) := rfl
@[local simp] theorem IP_args0 {g : List D → Ri} {f : DA} : IP0 (argsI g f ρ) kI x = AP0 (f ρ) (fun as => noVw as = true ∧ IP0 (g (as.map Ar.d)) kI x) x := by
  unfold argsI
  cases f ρ with
  | ok as =>
    show IP0 (if noVw as then g (as.map Ar.d) else .bad) kI x = _
    by_cases h : noVw as = true
    · rw [if_pos h]; simp [AP0, h]
    · rw [if_neg h]; simp [AP0, h, IP0]
  | ex c => rfl
  | bad => rfl
/-! ### moved values, paths -/
/-- one's own -/
def owA0 (kV : O → Prop) : Ar → Prop
  | .ow o => kV o
  | .vw _ => False
@[local simp] theorem owA_ow0 {kV : O → Prop} {o : O} : owA0 kV (.ow o) = kV o := rfl
@[local simp] theorem VP_ow0 {f : DE} : VP0 (owV f ρ) kV x = RP0 (f ρ) (owA0 fun o => kV o ρ) x := by
  unfold owV
  cases f ρ with
  | ok a => cases a <;> rfl
  | _ => rfl
@[local simp] theorem VsP_nil0 : VsP0 (nilV ρ) kVs x = kVs [] ρ := rfl
@[local simp] theorem VsP_cons0 {f : DV} {g : DVs} : VsP0 (consV f g ρ) kVs x = VP0 (f ρ) (fun o ρ' => VsP0 (g ρ') (fun os ρ2 => kVs (o :: os) ρ2) x) x := by
  unfold consV
  cases f ρ with
  | ok o ρ' =>
    show VsP0 (match g ρ' with | .ok os ρ2 => .ok (o :: os) ρ2 | .ex c => .ex c | .bad => .bad) kVs x = VsP0 (g ρ') (fun os ρ2 => kVs (o :: os) ρ2) x
    cases g ρ' <;> rfl
  | _ => rfl
@[local simp] theorem VP_tup0 {f : DVs} : VP0 (tupV f ρ) kV x = VsP0 (f ρ) (fun os ρ' => okLen os.length = true ∧ kV (.tup os) ρ') x := by
  unfold tupV
  cases f ρ with
  | ok os ρ' =>
    show VP0 (if okLen os.length then .ok (.tup os) ρ' else .bad) kV x = (okLen os.length = true ∧ kV (.tup os) ρ')
    by_cases h : okLen os.length = true
    · rw [if_pos h]; simp [h]
    · rw [if_neg h]; simp [h, VP0]
  | ex c => rfl
  | bad => rfl
@[local simp] theorem VP_lst0 {f : DVs} : VP0 (lstV f ρ) kV x = VsP0 (f ρ) (fun os ρ' => okLen os.length = true ∧ kV (.lst os) ρ') x := by
  unfold lstV
  cases f ρ with
  | ok os ρ' =>
    show VP0 (if okLen os.length then .ok (.lst os) ρ' else .bad) kV x = (okLen os.length = true ∧ kV (.lst os) ρ')
    by_cases h : okLen os.length = true
    · rw [if_pos h]; simp [h]
    · rw [if_neg h]; simp [h, VP0]
  | ex c => rfl
  | bad => rfl
/-! ### statements -/
@[local simp] theorem SP_seq0 {f g : DS} : SP0 (seqS f g ρ) Q = SP0 (f ρ) ⟨fun ρ' => SP0 (g ρ') Q, Q.rt, Q.ex, Q.bk, Q.ct⟩ := by
  unfold seqS
  cases f ρ <;> rfl
@[local simp] theorem SP_nil0 : SP0 (nilS ρ) Q = Q.nx ρ := rfl
@[local simp] theorem SP_frz0 {i f} : SP0 (frzS i f ρ) Q = SP0 (f (frz i ρ)) Q := rfl
@[local simp] theorem SP_fgt0 {l f} : SP0 (fgtS l f ρ) Q = SP0 (f (forget l ρ)) Q := rfl
/-- a slot gets what is one's own -/
def setA0 (i : Nat) (ρ : Rho) (n : Rho → Prop) : Ar → Prop
  | .ow o => i < ρ.length ∧ n (ρ.set i (some o))
  | .vw _ => False
@[local simp] theorem setA_ow0 {i : Nat} {n : Rho → Prop} {o : O} : setA0 i ρ n (.ow o) = (i < ρ.length ∧ n (ρ.set i (some o))) := rfl
@[local simp] theorem SP_set0 {i : Nat} {fe : DE} : SP0 (setS i fe ρ) Q = RP0 (fe ρ) (setA0 i ρ Q.nx) Q.ex := by
  unfold setS
  cases fe ρ with
  | ok a =>
    cases a with
    | vw o => rfl
    | ow o =>
      show SP0 (if i < ρ.length then .nx (ρ.set i (some o)) else .bad) Q = (i < ρ.length ∧ Q.nx (ρ.set i (some o)))
      by_cases h : i < ρ.length
      · rw [if_pos h]; simp [h]
      · rw [if_neg h]; simp [h]
  | ex c => rfl
  | bad => rfl
@[local simp] theorem SP_expr0 {fe : DE} : SP0 (exprS fe ρ) Q = RP0 (fe ρ) (fun _ => Q.nx ρ) Q.ex := by
  unfold exprS
  cases fe ρ <;> rfl
@[local simp] theorem SP_if0 {c : DT} {f g : DS} : SP0 (ifS c f g ρ) Q = TP0 (c ρ) (fun b => if b = true then SP0 (f ρ) Q else SP0 (g ρ) Q) Q.ex := by
  unfold ifS
  cases c ρ with
  | ok b => cases b <;> rfl
  | _ => rfl
@[local simp] theorem SP_ret0 {f : DV} : SP0 (retS f ρ) Q = VP0 (f ρ) (fun o _ => Q.rt o) Q.ex := by
  unfold retS
  cases f ρ <;> rfl
@[local simp] theorem SP_raise0 {c} : SP0 (raiseS c ρ) Q = Q.ex c := rfl
def unpA0 (b : DB) (ρ : Rho) (n : Rho → Prop) : Ar → Prop
  | .ow o => OP0 (b o.toD ρ) n
  | .vw _ => False
@[local simp] theorem unpA_ow0 {b : DB} {n : Rho → Prop} {o : O} : unpA0 b ρ n (.ow o) = OP0 (b o.toD ρ) n := rfl
@[local simp] theorem SP_unp0 {fe : DE} {b : DB} : SP0 (unpS fe b ρ) Q = RP0 (fe ρ) (unpA0 b ρ Q.nx) Q.ex := by
  unfold unpS
  cases fe ρ with
  | ok a =>
    cases a with
    | vw o => rfl
    | ow o =>
      show SP0 (match b o.toD ρ with | some ρ' => .nx ρ' | none => .bad) Q = OP0 (b o.toD ρ) Q.nx
      cases b o.toD ρ <;> rfl
  | ex c => rfl
  | bad => rfl
@[local simp] theorem SP_for0 {fi : DI} {b : DB} {f : DS} {is : List Nat} : SP0 (forS fi b f is ρ) Q = IP0 (fi ρ) (fun ds => SP0 (loopS (turnS b f is) ds ρ) Q) Q.ex := by
  unfold forS
  cases fi ρ <;> rfl
@[local simp] theorem SP_turn0 {b : DB} {f : DS} {is : List Nat} {d : D} (hb : Q.ct = fun _ => False) : SP0 (turnS b f is d ρ) Q = OP0 (b d ρ) (fun ρ' => SP0 (f ρ') ⟨fun ρ2 => Q.nx (forget is ρ2), Q.rt, Q.ex, Q.bk, fun ρ2 => Q.nx (forget is ρ2)⟩) := by
  unfold turnS
  cases b d ρ with
  | none => rfl
  | some ρ' =>
    show SP0 (match f ρ' with | .nx ρ2 => .nx (forget is ρ2) | .ct ρ2 => .nx (forget is ρ2) | r => r) Q = SP0 (f ρ') _
    cases f ρ' <;> rfl
@[simp] theorem varE_ev {i : Nat} : varE i ρ = (match ρ[i]? with
  | some (some (.fz d)) => .ok (.ow (.fz d))
  | some (some o) => .ok (.vw o)
  | _ => .bad) := rfl
@[simp] theorem mvV_ev {i : Nat} : mvV i ρ = (match ρ[i]? with
  | some (some (.fz d)) => .ok (.fz d) ρ
  | some (some o) => .ok o (ρ.set i none)
  | _ => .bad) := rfl
@[simp] theorem cE_ev {d : D} : cE d ρ = .ok (.ow (.fz d)) := rfl
@[simp] theorem newE_ev {o : O} : newE o ρ = .ok (.ow o) := rfl
@[simp] theorem varP_ev {i : Nat} : varP i ρ = (match ρ[i]? with
  | some (some _) => .ok i []
  | _ => .bad) := rfl
/-- the tree at a path -/
def slotAt (ρ : Rho) (i : Nat) (p : List Nat) : Option O := match ρ[i]? with
  | some (some o) => O.at p o
  | _ => none
@[simp] theorem slotAt_some {i : Nat} {p : List Nat} {o : O} (h : ρ[i]? = some (some o)) : slotAt ρ i p = O.at p o := by
  unfold slotAt; rw [h]
@[local simp] theorem PP_ix0 {fp : DP} {fb : DE} : PP0 (ixP fp fb ρ) kP x = PP0 (fp ρ) (fun i p => RP0 (fb ρ) (fun y => match y.d with
    | .int j => OP0 (slotAt ρ i p) fun s => OP0 s.kids fun os => OP0 (ixN os.length j) fun n => n < os.length ∧ kP i (p ++ [n])
    | _ => False) x) x := by
  unfold ixP slotAt
  cases fp ρ with
  | ok i p =>
    simp only [PP_ok0]
    cases fb ρ with
    | ok y =>
      simp only [RP_ok0]
      cases y.d with
      | int j =>
        dsimp only
        cases h1 : ρ[i]? with
        | none => rfl
        | some z =>
          cases z with
          | none => rfl
          | some o =>
            dsimp only
            cases O.at p o with
            | none => rfl
            | some s =>
              dsimp only [OP_some0]
              cases s.kids with
              | none => rfl
              | some os =>
                dsimp only [OP_some0]
                cases ixN os.length j with
                | none => rfl
                | some n =>
                  dsimp only [OP_some0]
                  by_cases h : n < os.length
                  · simp [h, PP0]
                  · simp [h, PP0]
      | _ => rfl
    | _ => rfl
  | _ => rfl
@[local simp] theorem SP_meth0 {T : String} {fp : DP} {fa : DVs} {g : GMt} : SP0 (methS T fp fa g ρ) Q = PP0 (fp ρ) (fun i p => kindAt ρ i p = T ∧ VsP0 (fa ρ) (fun as ρ' => OP0 (slotAt ρ' i p) fun s => OP0 (g s as) fun s' => OP0 (ρ'[i]?.join) fun o => Q.nx (ρ'.set i (some (O.put p s' o)))) Q.ex) Q.ex := by
  unfold methS slotAt
  cases fp ρ with
  | ok i p =>
    simp only [PP_ok0]
    by_cases h : kindAt ρ i p = T
    · rw [if_pos h]
      simp only [h, true_and]
      cases fa ρ with
      | ok as ρ' =>
        simp only [VsP_ok0]
        cases h1 : ρ'[i]? with
        | none => rfl
        | some z =>
          cases z with
          | none => rfl
          | some o =>
            dsimp only
            cases O.at p o with
            | none => rfl
            | some s =>
              dsimp only [OP_some0]
              cases g s as <;> rfl
      | _ => rfl
    · rw [if_neg h]
      exact propext ⟨fun z => z.elim, fun z => (h z.1).elim⟩
  | _ => rfl
@[local simp] theorem SP_store0 {fv : DV} {fp : DP} {fb : DE} : SP0 (storeS fv fp fb ρ) Q = VP0 (fv ρ) (fun o ρ' => PP0 (fp ρ') (fun i p => RP0 (fb ρ') (fun y => OP0 (slotAt ρ' i p) fun s => OP0 (setO s y.d o) fun s' => OP0 (ρ'[i]?.join) fun t => Q.nx (ρ'.set i (some (O.put p s' t)))) fun _ => False) fun _ => False) Q.ex := by
  unfold storeS slotAt
  cases fv ρ with
  | ok o ρ' =>
    simp only [VP_ok0]
    cases fp ρ' with
    | ok i p =>
      simp only [PP_ok0]
      cases fb ρ' with
      | ok y =>
        simp only [RP_ok0]
        cases h1 : ρ'[i]? with
        | none => rfl
        | some z =>
          cases z with
          | none => rfl
          | some t =>
            dsimp only
            cases O.at p t with
            | none => rfl
            | some s =>
              dsimp only [OP_some0]
              cases setO s y.d o <;> rfl
      | _ => rfl
    | _ => rfl
  | _ => rfl
@[local simp] theorem SP_chk0 {i t : Nat} {g : DK} : SP0 (chkS i t g ρ) Q = OP0 (listAt ρ i) fun ds => ¬ (i = t ∨ ρ.length ≤ t) ∧ SP0 (chkL t g ds (ρ.set t none)) Q := by
  unfold chkS
  cases listAt ρ i with
  | none => rfl
  | some ds =>
    dsimp only [OP_some0]
    by_cases h : i = t ∨ ρ.length ≤ t
    · rw [if_pos h]; simp [h]
    · rw [if_neg h]; simp [h]
def XP0 (r : Option (Option Int)) (k : Option Int → Prop) : Prop := match r with
  | some i => k i
  | none => False
@[local simp] theorem XP_no0 {k : Option Int → Prop} : XP0 (noO ρ) k = k none := rfl
@[local simp] theorem XP_int0 {k : Option Int → Prop} {i : Option Int} : XP0 (some i) k = k i := rfl
@[local simp] theorem XP_some0 {k : Option Int → Prop} {f : DE} : XP0 (someO f ρ) k = RP0 (f ρ) (fun a => match a.d with | .int i => k (some i) | _ => False) fun _ => False := by
  unfold someO
  cases f ρ with
  | ok a =>
    dsimp only [RP_ok0]
    generalize a.d = d
    cases d <;> rfl
  | _ => rfl
@[local simp] theorem RP_cut0 {f : DE} {l h : DO} : RP0 (cutE f l h ρ) k x = RP0 (f ρ) (fun a => XP0 (l ρ) fun i => XP0 (h ρ) fun j => RP0 (gCut a i j) k x) x := by
  unfold cutE Rs.bind
  cases f ρ with
  | ok a =>
    cases l ρ with
    | none => rfl
    | some i => cases h ρ <;> rfl
  | _ => rfl
def revA (a : Ar) : Rs := match a.o.seq with
  | some (true, os) => match allFz os with
    | some ds => .ok (.ow (.lst (ds.reverse.map .fz)))
    | none => .bad
  | _ => .bad
@[local simp] theorem RP_rev0 {f : DE} : RP0 (revE f ρ) k x = RP0 (f ρ) (fun a => RP0 (revA a) k x) x := by
  unfold revE Rs.bind revA
  cases f ρ <;> rfl
@[simp] theorem revA_fz {ds : List D} : revA (.ow (.fz (.lst ds))) = .ok (.ow (.lst (ds.reverse.map .fz))) := by
  unfold revA
  simp
@[simp] theorem revA_lst {ds : List D} : revA (.vw (.lst (ds.map .fz))) = .ok (.ow (.lst (ds.reverse.map .fz))) := by
  unfold revA
  simp
@[local simp] theorem RP_chain0 {g g' : Ar → Ar → Rs} {fa fb fc : DE} : RP0 (chainE g g' fa fb fc ρ) k x = RP0 (fa ρ) (fun a => RP0 (fb ρ) (fun b => TP0 (g a b).test (fun z => if z = true then RP0 (fc ρ) (fun c => RP0 (g' b c) k x) x else k (dB false)) x) x) x := by
  unfold chainE Rs.bind
  cases fa ρ with
  | ok a =>
    dsimp only [RP_ok0]
    cases fb ρ with
    | ok b =>
      dsimp only [RP_ok0]
      cases g a b with
      | ok z =>
        cases z with
        | vw o => rfl
        | ow o => cases o with
          | fz d => cases d with
            | bl b =>
              cases b with
              | true => cases fc ρ <;> rfl
              | false => rfl
            | _ => rfl
          | _ => rfl
      | _ => rfl
    | _ => rfl
  | _ => rfl
/-! ### loops -/
theorem sp_for0 {α β : Type} {xs : List α} {enc : α → D} {t : D → DS} (up : β → Rho → Rho) (b0 : β) (P : List α → β → Prop) (hup : up b0 ρ = ρ) (h0 : P [] b0)
    (step : ∀ zs y r b (n : Rho → Prop), xs = zs ++ y :: r → P zs b → (∀ ρ' b', ρ' = up b' ρ → P (zs ++ [y]) b' → n ρ') → SP0 (t (enc y) (up b ρ)) ⟨n, Q.rt, Q.ex, Q.nx, fun _ => False⟩) (fin : ∀ b, P xs b → Q.nx (up b ρ)) : SP0 (loopS t (xs.map enc) ρ) Q := by
  have key : ∀ (ys zs : List α) (b : β), xs = zs ++ ys → P zs b → SP0 (loopS t (ys.map enc) (up b ρ)) Q := by
    intro ys
    induction ys with
    | nil =>
      intro zs b e h
      rw [List.append_nil] at e
      subst e
      exact fin b h
    | cons y ys ih =>
      intro zs b e h
      have s := step zs y ys b (fun ρ' => ∃ b', ρ' = up b' ρ ∧ P (zs ++ [y]) b') e h fun ρ' b' e p => ⟨b', e, p⟩
      rw [List.map_cons]
      unfold loopS
      cases q : t (enc y) (up b ρ) with
      | nx ρ' =>
        rw [q] at s
        obtain ⟨b', rfl, h'⟩ := s
        exact ih (zs ++ [y]) b' (by rw [e]; simp) h'
      | rt o => rw [q] at s; exact s
      | bk ρ' => rw [q] at s; exact s
      | ct ρ' => rw [q] at s; exact s.elim
      | ex c ρ' => rw [q] at s; exact s
      | bad => rw [q] at s; exact s.elim
  have := key xs [] b0 rfl h0
  rw [hup] at this
  exact this
theorem rp_comp0 {α β : Type} {xs : List α} {enc : α → D} {t : D → Rt} (f : β → O) (P : α → β → Prop) (h : ∀ y ∈ xs, ∃ z, t (enc y) = .item (f z) ∧ P y z)
    (fin : ∀ ys : List β, ys.length = xs.length → (∀ i (h : i < xs.length) (h' : i < ys.length), P xs[i] ys[i]) → k (.ow (.lst (ys.map f)))) : RP0 (compL t (xs.map enc) []) k x := by
  obtain ⟨ys, e, l, q⟩ := compL_ex f P xs [] h
  rw [e]
  exact fin ys l q
theorem rp_map0 {α : Type} {xs : List α} {enc : α → D} {t : D → Rt} (f : α → O) (h : ∀ y ∈ xs, t (enc y) = .item (f y)) (fin : k (.ow (.lst (xs.map f)))) : RP0 (compL t (xs.map enc) []) k x := by
  rw [compL_map f xs [] h]
  exact fin
theorem rp_filter0 {α : Type} {xs : List α} {enc : α → D} {t : D → Rt} (p : α → Bool) (f : α → O) (h : ∀ y ∈ xs, t (enc y) = if p y then .item (f y) else .skip) (fin : k (.ow (.lst ((xs.filter p).map f)))) : RP0 (compL t (xs.map enc) []) k x := by
  rw [compL_filter p f xs [] h]
  exact fin
/-- an item of a comprehension, by what is wanted -/
def ItP0 (r : Rt) (k : O → Prop) (s : Prop) : Prop := match r with
  | .item o => k o
  | .skip => s
  | .bad => False
@[local simp] theorem ItP_item0 {b : DB} {ct : DT} {fe : DE} {d : D} {k : O → Prop} {s : Prop} : ItP0 (itemT b ct fe ρ d) k s = OP0 (b d ρ) fun ρ' => TP0 (ct ρ') (fun z => if z = true then RP0 (fe ρ') (owA0 k) (fun _ => False) else s) fun _ => False := by
  unfold itemT
  cases b d ρ with
  | none => rfl
  | some ρ' =>
    dsimp only [OP_some0]
    cases ct ρ' with
    | ok z =>
      cases z with
      | true =>
        dsimp only [TP_ok0]
        cases fe ρ' with
        | ok a => cases a <;> rfl
        | _ => rfl
      | false => rfl
    | _ => rfl
theorem ItP_ex0 {r : Rt} {β : Type} {f : β → O} {P : β → Prop} (h : ItP0 r (fun o => ∃ z, o = f z ∧ P z) False) : ∃ z, r = .item (f z) ∧ P z := by
  cases r with
  | item o => obtain ⟨z, rfl, p⟩ := h; exact ⟨z, rfl, p⟩
  | skip => exact h.elim
  | bad => exact h.elim
theorem ItP_eq0 {r : Rt} {o : O} (h : ItP0 r (fun y => y = o) False) : r = .item o := by
  cases r with
  | item o => cases h; rfl
  | skip => exact h.elim
  | bad => exact h.elim
/-- a row of checks over a list, all passed -/
theorem chk_go {α : Type} {enc : α → D} {t : Nat} {g : DK} : ∀ {xs : List α} {ρ : Rho}, ρ.set t none = ρ → (∀ y ∈ xs, g (ρ.set t (some (.fz (enc y)))) = .go) → chkL t g (xs.map enc) ρ = .nx ρ
  | [], _, _, _ => rfl
  | y :: xs, ρ, e, h => by
    rw [List.map_cons]
    unfold chkL
    rw [h y List.mem_cons_self]
    dsimp only
    rw [e]
    exact chk_go e fun z hz => h z (List.mem_cons_of_mem _ hz)
@[simp] theorem leafsFlat_int {α : Type} {f : α → Int} (xs : List α) : leafsFlat (xs.map fun y => O.fz (.int (f y))) = true := by
  induction xs with
  | nil => rfl
  | cons y xs ih => simp [leafsFlat, leafFlat, flatD, ih]
@[simp] theorem leafsFlat_int' (xs : List Int) : leafsFlat (xs.map (O.fz ∘ D.int)) = true := leafsFlat_int (f := id) xs
@[simp] theorem leafFlat_lst (xs : List O) : leafFlat (.lst xs) = leafsFlat xs := rfl

end
/-- what is fixed -/
abbrev Dep {α : Type} (_ : α) : Type := Unit
structure SP (r : SR) (Q : Pq) (_ : Dep Q := ()) : Prop where
  out : SP0 r Q
structure RP (r : Rs) (k : Ar → Prop) (x : Str → Prop) (_ : Dep k := ()) (_ : Dep x := ()) : Prop where
  out : RP0 r k x
structure AP (r : Rm) (k : List Ar → Prop) (x : Str → Prop) (_ : Dep k := ()) (_ : Dep x := ()) : Prop where
  out : AP0 r k x
structure TP (r : Rb) (k : Bool → Prop) (x : Str → Prop) (_ : Dep k := ()) (_ : Dep x := ()) : Prop where
  out : TP0 r k x
structure VP (r : Rv) (k : O → Rho → Prop) (x : Str → Prop) (_ : Dep k := ()) (_ : Dep x := ()) : Prop where
  out : VP0 r k x
structure VsP (r : Rvs) (k : List O → Rho → Prop) (x : Str → Prop) (_ : Dep k := ()) (_ : Dep x := ()) : Prop where
  out : VsP0 r k x
structure PP (r : Rp) (k : Nat → List Nat → Prop) (x : Str → Prop) (_ : Dep k := ()) (_ : Dep x := ()) : Prop where
  out : PP0 r k x
structure IP (r : Ri) (k : List D → Prop) (x : Str → Prop) (_ : Dep k := ()) (_ : Dep x := ()) : Prop where
  out : IP0 r k x
structure FP (r : Rf) (k : O → Prop) (x : Str → Prop) (_ : Dep k := ()) (_ : Dep x := ()) : Prop where
  out : FP0 r k x
structure OP {α : Type} (r : Option α) (k : α → Prop) (_ : Dep k := ()) : Prop where
  out : OP0 r k
structure XP (r : Option (Option Int)) (k : Option Int → Prop) (_ : Dep k := ()) : Prop where
  out : XP0 r k
structure ItP (r : Rt) (k : O → Prop) (s : Prop) (_ : Dep k := ()) : Prop where
  out : ItP0 r k s
structure SetA (i : Nat) (ρ : Rho) (n : Rho → Prop) (_ : Dep n) (a : Ar) : Prop where
  out : setA0 i ρ n a
structure UnpA (b : DB) (ρ : Rho) (n : Rho → Prop) (_ : Dep n) (a : Ar) : Prop where
  out : unpA0 b ρ n a
structure OwA (k : O → Prop) (_ : Dep k) (a : Ar) : Prop where
  out : owA0 k a
structure LsA (k : List D → Prop) (_ : Dep k) (a : Ar) : Prop where
  out : lsA0 k a
abbrev setA (i : Nat) (ρ : Rho) (n : Rho → Prop) : Ar → Prop := SetA i ρ n ()
abbrev unpA (b : DB) (ρ : Rho) (n : Rho → Prop) : Ar → Prop := UnpA b ρ n ()
abbrev owA (k : O → Prop) : Ar → Prop := OwA k ()
abbrev lsA (k : List D → Prop) : Ar → Prop := LsA k ()
theorem SP_eq {r Q d} : SP r Q d = SP0 r Q := propext ⟨fun h => h.out, fun h => ⟨h⟩⟩
theorem RP_eq {r k x d e} : RP r k x d e = RP0 r k x := propext ⟨fun h => h.out, fun h => ⟨h⟩⟩
theorem AP_eq {r k x d e} : AP r k x d e = AP0 r k x := propext ⟨fun h => h.out, fun h => ⟨h⟩⟩
theorem TP_eq {r k x d e} : TP r k x d e = TP0 r k x := propext ⟨fun h => h.out, fun h => ⟨h⟩⟩
theorem VP_eq {r k x d e} : VP r k x d e = VP0 r k x := propext ⟨fun h => h.out, fun h => ⟨h⟩⟩
theorem VsP_eq {r k x d e} : VsP r k x d e = VsP0 r k x := propext ⟨fun h => h.out, fun h => ⟨h⟩⟩
theorem PP_eq {r k x d e} : PP r k x d e = PP0 r k x := propext ⟨fun h => h.out, fun h => ⟨h⟩⟩
theorem IP_eq {r k x d e} : IP r k x d e = IP0 r k x := propext ⟨fun h => h.out, fun h => ⟨h⟩⟩
theorem FP_eq {r k x d e} : FP r k x d e = FP0 r k x := propext ⟨fun h => h.out, fun h => ⟨h⟩⟩
theorem OP_eq {α : Type} {r : Option α} {k d} : OP r k d = OP0 r k := propext ⟨fun h => h.out, fun h => ⟨h⟩⟩
theorem XP_eq {r k d} : XP r k d = XP0 r k := propext ⟨fun h => h.out, fun h => ⟨h⟩⟩
theorem ItP_eq_ {r k s d} : ItP r k s d = ItP0 r k s := propext ⟨fun h => h.out, fun h => ⟨h⟩⟩
theorem SetA_eq {i ρ n d} : SetA i ρ n d = setA0 i ρ n := funext fun a => propext ⟨fun h => h.out, fun h => ⟨h⟩⟩
theorem UnpA_eq {i ρ n d} : UnpA i ρ n d = unpA0 i ρ n := funext fun a => propext ⟨fun h => h.out, fun h => ⟨h⟩⟩
theorem OwA_eq {k d} : OwA k d = owA0 k := funext fun a => propext ⟨fun h => h.out, fun h => ⟨h⟩⟩
theorem LsA_eq {k d} : LsA k d = lsA0 k := funext fun a => propext ⟨fun h => h.out, fun h => ⟨h⟩⟩
section
variable {Q : Pq} {k : Ar → Prop} {kA : List Ar → Prop} {kT : Bool → Prop} {kV : O → Rho → Prop} {kVs : List O → Rho → Prop} {kP : Nat → List Nat → Prop} {kI : List D → Prop} {kF : O → Prop} {x : Str → Prop} {ρ : Rho}
@[simp] theorem SP_nx : SP (.nx ρ) Q = Q.nx ρ := by
  simp only [SP_eq, RP_eq, AP_eq, TP_eq, VP_eq, VsP_eq, PP_eq, IP_eq, FP_eq, OP_eq, XP_eq, ItP_eq_, SetA_eq, UnpA_eq, OwA_eq, LsA_eq]
  first | exact SP_nx0 | (simp only [SP_nx0, *]; done) | rfl
@[simp] theorem SP_rt {o} : SP (.rt o) Q = Q.rt o := by
  simp only [SP_eq, RP_eq, AP_eq, TP_eq, VP_eq, VsP_eq, PP_eq, IP_eq, FP_eq, OP_eq, XP_eq, ItP_eq_, SetA_eq, UnpA_eq, OwA_eq, LsA_eq]
  first | exact SP_rt0 | (simp only [SP_rt0, *]; done) | rfl
@[simp] theorem SP_ex {c} : SP (.ex c ρ) Q = Q.ex c := by
  simp only [SP_eq, RP_eq, AP_eq, TP_eq, VP_eq, VsP_eq, PP_eq, IP_eq, FP_eq, OP_eq, XP_eq, ItP_eq_, SetA_eq, UnpA_eq, OwA_eq, LsA_eq]
  first | exact SP_ex0 | (simp only [SP_ex0, *]; done) | rfl
@[simp] theorem SP_bk : SP (.bk ρ) Q = Q.bk ρ := by
  simp only [SP_eq, RP_eq, AP_eq, TP_eq, VP_eq, VsP_eq, PP_eq, IP_eq, FP_eq, OP_eq, XP_eq, ItP_eq_, SetA_eq, UnpA_eq, OwA_eq, LsA_eq]
  first | exact SP_bk0 | (simp only [SP_bk0, *]; done) | rfl
@[simp] theorem SP_ct : SP (.ct ρ) Q = Q.ct ρ := by
  simp only [SP_eq, RP_eq, AP_eq, TP_eq, VP_eq, VsP_eq, PP_eq, IP_eq, FP_eq, OP_eq, XP_eq, ItP_eq_, SetA_eq, UnpA_eq, OwA_eq, LsA_eq]
  first | exact SP_ct0 | (simp only [SP_ct0, *]; done) | rfl
@[simp] theorem SP_bad : SP .bad Q = False := by
  simp only [SP_eq, RP_eq, AP_eq, TP_eq, VP_eq, VsP_eq, PP_eq, IP_eq, FP_eq, OP_eq, XP_eq, ItP_eq_, SetA_eq, UnpA_eq, OwA_eq, LsA_eq]
  first | exact SP_bad0 | (simp only [SP_bad0, *]; done) | rfl
@[simp] theorem RP_ok {a} : RP (.ok a) k x = k a := by
  simp only [SP_eq, RP_eq, AP_eq, TP_eq, VP_eq, VsP_eq, PP_eq, IP_eq, FP_eq, OP_eq, XP_eq, ItP_eq_, SetA_eq, UnpA_eq, OwA_eq, LsA_eq]
  first | exact RP_ok0 | (simp only [RP_ok0, *]; done) | rfl
@[simp] theorem RP_ex {c} : RP (.ex c) k x = x c := by
  simp only [SP_eq, RP_eq, AP_eq, TP_eq, VP_eq, VsP_eq, PP_eq, IP_eq, FP_eq, OP_eq, XP_eq, ItP_eq_, SetA_eq, UnpA_eq, OwA_eq, LsA_eq]
  first | exact RP_ex0 | (simp only [RP_ex0, *]; done) | rfl
@[simp] theorem RP_bad : RP .bad k x = False := by
  simp only [SP_eq, RP_eq, AP_eq, TP_eq, VP_eq, VsP_eq, PP_eq, IP_eq, FP_eq, OP_eq, XP_eq, ItP_eq_, SetA_eq, UnpA_eq, OwA_eq, LsA_eq]
  first | exact RP_bad0 | (simp only [RP_bad0, *]; done) | rfl
@[simp] theorem AP_ok {a} : AP (.ok a) kA x = kA a := by
  simp only [SP_eq, RP_eq, AP_eq, TP_eq, VP_eq, VsP_eq, PP_eq, IP_eq, FP_eq, OP_eq, XP_eq, ItP_eq_, SetA_eq, UnpA_eq, OwA_eq, LsA_eq]
  first | exact AP_ok0 | (simp only [AP_ok0, *]; done) | rfl
@[simp] theorem AP_ex {c} : AP (.ex c) kA x = x c := by
  simp only [SP_eq, RP_eq, AP_eq, TP_eq, VP_eq, VsP_eq, PP_eq, IP_eq, FP_eq, OP_eq, XP_eq, ItP_eq_, SetA_eq, UnpA_eq, OwA_eq, LsA_eq]
  first | exact AP_ex0 | (simp only [AP_ex0, *]; done) | rfl
@[simp] theorem TP_ok {a} : TP (.ok a) kT x = kT a := by
  simp only [SP_eq, RP_eq, AP_eq, TP_eq, VP_eq, VsP_eq, PP_eq, IP_eq, FP_eq, OP_eq, XP_eq, ItP_eq_, SetA_eq, UnpA_eq, OwA_eq, LsA_eq]
  first | exact TP_ok0 | (simp only [TP_ok0, *]; done) | rfl
@[simp] theorem TP_ex {c} : TP (.ex c) kT x = x c := by
  simp only [SP_eq, RP_eq, AP_eq, TP_eq, VP_eq, VsP_eq, PP_eq, IP_eq, FP_eq, OP_eq, XP_eq, ItP_eq_, SetA_eq, UnpA_eq, OwA_eq, LsA_eq]
  first | exact TP_ex0 | (simp only [TP_ex0, *]; done) | rfl
@[simp] theorem TP_bad : TP .bad kT x = False := by
  simp only [SP_eq, RP_eq, AP_eq, TP_eq, VP_eq, VsP_eq, PP_eq, IP_eq, FP_eq, OP_eq, XP_eq, ItP_eq_, SetA_eq, UnpA_eq, OwA_eq, LsA_eq]
  first | exact TP_bad0 | (simp only [TP_bad0, *]; done) | rfl
@[simp] theorem VP_ok {o} : VP (.ok o ρ) kV x = kV o ρ := by
  simp only [SP_eq, RP_eq, AP_eq, TP_eq, VP_eq, VsP_eq, PP_eq, IP_eq, FP_eq, OP_eq, XP_eq, ItP_eq_, SetA_eq, UnpA_eq, OwA_eq, LsA_eq]
  first | exact VP_ok0 | (simp only [VP_ok0, *]; done) | rfl
@[simp] theorem VP_ex {c} : VP (.ex c) kV x = x c := by
  simp only [SP_eq, RP_eq, AP_eq, TP_eq, VP_eq, VsP_eq, PP_eq, IP_eq, FP_eq, OP_eq, XP_eq, ItP_eq_, SetA_eq, UnpA_eq, OwA_eq, LsA_eq]
  first | exact VP_ex0 | (simp only [VP_ex0, *]; done) | rfl
@[simp] theorem VsP_ok {o} : VsP (.ok o ρ) kVs x = kVs o ρ := by
  simp only [SP_eq, RP_eq, AP_eq, TP_eq, VP_eq, VsP_eq, PP_eq, IP_eq, FP_eq, OP_eq, XP_eq, ItP_eq_, SetA_eq, UnpA_eq, OwA_eq, LsA_eq]
  first | exact VsP_ok0 | (simp only [VsP_ok0, *]; done) | rfl
@[simp] theorem PP_ok {i p} : PP (.ok i p) kP x = kP i p := by
  simp only [SP_eq, RP_eq, AP_eq, TP_eq, VP_eq, VsP_eq, PP_eq, IP_eq, FP_eq, OP_eq, XP_eq, ItP_eq_, SetA_eq, UnpA_eq, OwA_eq, LsA_eq]
  first | exact PP_ok0 | (simp only [PP_ok0, *]; done) | rfl
@[simp] theorem IP_ok {a} : IP (.ok a) kI x = kI a := by
  simp only [SP_eq, RP_eq, AP_eq, TP_eq, VP_eq, VsP_eq, PP_eq, IP_eq, FP_eq, OP_eq, XP_eq, ItP_eq_, SetA_eq, UnpA_eq, OwA_eq, LsA_eq]
  first | exact IP_ok0 | (simp only [IP_ok0, *]; done) | rfl
@[simp] theorem FP_ok {a} : FP (.ok a) kF x = kF a := by
  simp only [SP_eq, RP_eq, AP_eq, TP_eq, VP_eq, VsP_eq, PP_eq, IP_eq, FP_eq, OP_eq, XP_eq, ItP_eq_, SetA_eq, UnpA_eq, OwA_eq, LsA_eq]
  first | exact FP_ok0 | (simp only [FP_ok0, *]; done) | rfl
@[simp] theorem FP_ex {c} : FP (.ex c) kF x = x c := by
  simp only [SP_eq, RP_eq, AP_eq, TP_eq, VP_eq, VsP_eq, PP_eq, IP_eq, FP_eq, OP_eq, XP_eq, ItP_eq_, SetA_eq, UnpA_eq, OwA_eq, LsA_eq]
  first | exact FP_ex0 | (simp only [FP_ex0, *]; done) | rfl
@[simp] theorem OP_some {α : Type} {a : α} {k : α → Prop} : OP (some a) k = k a := by
  simp only [SP_eq, RP_eq, AP_eq, TP_eq, VP_eq, VsP_eq, PP_eq, IP_eq, FP_eq, OP_eq, XP_eq, ItP_eq_, SetA_eq, UnpA_eq, OwA_eq, LsA_eq]
  first | exact OP_some0 | (simp only [OP_some0, *]; done) | rfl
@[simp] theorem OP_none {α : Type} {k : α → Prop} : OP none k = False := by
  simp only [SP_eq, RP_eq, AP_eq, TP_eq, VP_eq, VsP_eq, PP_eq, IP_eq, FP_eq, OP_eq, XP_eq, ItP_eq_, SetA_eq, UnpA_eq, OwA_eq, LsA_eq]
  first | exact OP_none0 | (simp only [OP_none0, *]; done) | rfl
theorem FP_sem {n : Nat} {f : DS} {ds : List D} : FP (semOf n f ds) kF x = SP (f (startR n ds)) ⟨fun _ => kF (.fz .non), kF, x, fun _ => False, fun _ => False⟩ := by
  simp only [SP_eq, RP_eq, AP_eq, TP_eq, VP_eq, VsP_eq, PP_eq, IP_eq, FP_eq, OP_eq, XP_eq, ItP_eq_, SetA_eq, UnpA_eq, OwA_eq, LsA_eq]
  first | exact FP_sem0 | (simp only [FP_sem0, *]; done) | rfl
theorem FP_of {r : Rf} {o : O} (h : FP r (fun y => y = o) fun _ => False) : r = .ok o := FP_of0 h.out
theorem FP_ofx {r : Rf} {c : Str} (h : FP r (fun _ => False) fun y => y = c) : r = .ex c := FP_ofx0 h.out
theorem FP_some {r : Rf} {P : O → Prop} (h : FP r P fun _ => False) : ∃ o, r = .ok o ∧ P o := FP_some0 h.out
theorem FP_mono {r : Rf} {P P' : O → Prop} {x x' : Str → Prop} (h : FP r P x) (i : ∀ o, P o → P' o) (j : ∀ c, x c → x' c) : FP r P' x' := ⟨FP_mono0 h.out i j⟩
@[simp] theorem RP_bin {g fa fb} : RP (bin g fa fb ρ) k x = RP (fa ρ) (fun a => RP (fb ρ) (fun b => RP (g a b) k x) x) x := by
  simp only [SP_eq, RP_eq, AP_eq, TP_eq, VP_eq, VsP_eq, PP_eq, IP_eq, FP_eq, OP_eq, XP_eq, ItP_eq_, SetA_eq, UnpA_eq, OwA_eq, LsA_eq]
  first | exact RP_bin0 | (simp only [RP_bin0, *]; done) | rfl
@[simp] theorem RP_un {g fa} : RP (un g fa ρ) k x = RP (fa ρ) (fun a => RP (g a) k x) x := by
  simp only [SP_eq, RP_eq, AP_eq, TP_eq, VP_eq, VsP_eq, PP_eq, IP_eq, FP_eq, OP_eq, XP_eq, ItP_eq_, SetA_eq, UnpA_eq, OwA_eq, LsA_eq]
  first | exact RP_un0 | (simp only [RP_un0, *]; done) | rfl
@[simp] theorem RP_isi {T fa} : RP (isiE T fa ρ) k x = RP (fa ρ) (fun a => RP (isiD T a.d) k x) x := by
  simp only [SP_eq, RP_eq, AP_eq, TP_eq, VP_eq, VsP_eq, PP_eq, IP_eq, FP_eq, OP_eq, XP_eq, ItP_eq_, SetA_eq, UnpA_eq, OwA_eq, LsA_eq]
  first | exact RP_isi0 | (simp only [RP_isi0, *]; done) | rfl
@[simp] theorem AP_nil : AP (nilA ρ) kA x = kA [] := by
  simp only [SP_eq, RP_eq, AP_eq, TP_eq, VP_eq, VsP_eq, PP_eq, IP_eq, FP_eq, OP_eq, XP_eq, ItP_eq_, SetA_eq, UnpA_eq, OwA_eq, LsA_eq]
  first | exact AP_nil0 | (simp only [AP_nil0, *]; done) | rfl
@[simp] theorem AP_cons {f : DE} {g : DA} : AP (consA f g ρ) kA x = RP (f ρ) (fun a => AP (g ρ) (fun as => kA (a :: as)) x) x := by
  simp only [SP_eq, RP_eq, AP_eq, TP_eq, VP_eq, VsP_eq, PP_eq, IP_eq, FP_eq, OP_eq, XP_eq, ItP_eq_, SetA_eq, UnpA_eq, OwA_eq, LsA_eq]
  first | exact AP_cons0 | (simp only [AP_cons0, *]; done) | rfl
@[simp] theorem RP_callB {g f} : RP (callB g f ρ) k x = AP (f ρ) (fun as => RP (g as) k x) x := by
  simp only [SP_eq, RP_eq, AP_eq, TP_eq, VP_eq, VsP_eq, PP_eq, IP_eq, FP_eq, OP_eq, XP_eq, ItP_eq_, SetA_eq, UnpA_eq, OwA_eq, LsA_eq]
  first | exact RP_callB0 | (simp only [RP_callB0, *]; done) | rfl
@[simp] theorem RP_callF {sem n f} : RP (callF sem n f ρ) k x = AP (f ρ) (fun as => as.length = n ∧ FP (sem (as.map Ar.d)) (fun o => (noVw as || leafFlat o) = true ∧ k (.ow o)) x) x := by
  simp only [SP_eq, RP_eq, AP_eq, TP_eq, VP_eq, VsP_eq, PP_eq, IP_eq, FP_eq, OP_eq, XP_eq, ItP_eq_, SetA_eq, UnpA_eq, OwA_eq, LsA_eq]
  first | exact RP_callF0 | (simp only [RP_callF0, *]; done) | rfl
@[simp] theorem RP_lst {f} : RP (lstE f ρ) k x = AP (f ρ) (fun as => OP (owAll as) fun os => okLen os.length = true ∧ k (.ow (.lst os))) x := by
  simp only [SP_eq, RP_eq, AP_eq, TP_eq, VP_eq, VsP_eq, PP_eq, IP_eq, FP_eq, OP_eq, XP_eq, ItP_eq_, SetA_eq, UnpA_eq, OwA_eq, LsA_eq]
  first | exact RP_lst0 | (simp only [RP_lst0, *]; done) | rfl
@[simp] theorem RP_tup {f} : RP (tupE f ρ) k x = AP (f ρ) (fun as => OP (owAll as) fun os => okLen os.length = true ∧ k (.ow (mkT os))) x := by
  simp only [SP_eq, RP_eq, AP_eq, TP_eq, VP_eq, VsP_eq, PP_eq, IP_eq, FP_eq, OP_eq, XP_eq, ItP_eq_, SetA_eq, UnpA_eq, OwA_eq, LsA_eq]
  first | exact RP_tup0 | (simp only [RP_tup0, *]; done) | rfl
@[simp] theorem TP_test {fe : DE} : TP (testE fe ρ) kT x = RP (fe ρ) (fun a => TP (Rs.ok a).test kT x) x := by
  simp only [SP_eq, RP_eq, AP_eq, TP_eq, VP_eq, VsP_eq, PP_eq, IP_eq, FP_eq, OP_eq, XP_eq, ItP_eq_, SetA_eq, UnpA_eq, OwA_eq, LsA_eq]
  first | exact TP_test0 | (simp only [TP_test0, *]; done) | rfl
@[simp] theorem TP_not {f : DT} : TP (notT f ρ) kT x = TP (f ρ) (fun b => kT (!b)) x := by
  simp only [SP_eq, RP_eq, AP_eq, TP_eq, VP_eq, VsP_eq, PP_eq, IP_eq, FP_eq, OP_eq, XP_eq, ItP_eq_, SetA_eq, UnpA_eq, OwA_eq, LsA_eq]
  first | exact TP_not0 | (simp only [TP_not0, *]; done) | rfl
@[simp] theorem TP_and {f g : DT} : TP (andT f g ρ) kT x = TP (f ρ) (fun b => if b = true then TP (g ρ) kT x else kT false) x := by
  simp only [SP_eq, RP_eq, AP_eq, TP_eq, VP_eq, VsP_eq, PP_eq, IP_eq, FP_eq, OP_eq, XP_eq, ItP_eq_, SetA_eq, UnpA_eq, OwA_eq, LsA_eq]
  first | exact TP_and0 | (simp only [TP_and0, *]; done) | rfl
@[simp] theorem TP_or {f g : DT} : TP (orT f g ρ) kT x = TP (f ρ) (fun b => if b = true then kT true else TP (g ρ) kT x) x := by
  simp only [SP_eq, RP_eq, AP_eq, TP_eq, VP_eq, VsP_eq, PP_eq, IP_eq, FP_eq, OP_eq, XP_eq, ItP_eq_, SetA_eq, UnpA_eq, OwA_eq, LsA_eq]
  first | exact TP_or0 | (simp only [TP_or0, *]; done) | rfl
@[simp] theorem TP_yes : TP (yesT ρ) kT x = kT true := by
  simp only [SP_eq, RP_eq, AP_eq, TP_eq, VP_eq, VsP_eq, PP_eq, IP_eq, FP_eq, OP_eq, XP_eq, ItP_eq_, SetA_eq, UnpA_eq, OwA_eq, LsA_eq]
  first | exact TP_yes0 | (simp only [TP_yes0, *]; done) | rfl
@[simp] theorem RP_and {fa fb : DE} : RP (andV fa fb ρ) k x = TP (testE fa ρ) (fun b => if b = true then RP (fb ρ) k x else k (dB false)) x := by
  simp only [SP_eq, RP_eq, AP_eq, TP_eq, VP_eq, VsP_eq, PP_eq, IP_eq, FP_eq, OP_eq, XP_eq, ItP_eq_, SetA_eq, UnpA_eq, OwA_eq, LsA_eq]
  first | exact RP_and0 | (simp only [RP_and0, *]; done) | rfl
@[simp] theorem RP_or {fa fb : DE} : RP (orV fa fb ρ) k x = TP (testE fa ρ) (fun b => if b = true then k (dB true) else RP (fb ρ) k x) x := by
  simp only [SP_eq, RP_eq, AP_eq, TP_eq, VP_eq, VsP_eq, PP_eq, IP_eq, FP_eq, OP_eq, XP_eq, ItP_eq_, SetA_eq, UnpA_eq, OwA_eq, LsA_eq]
  first | exact RP_or0 | (simp only [RP_or0, *]; done) | rfl
@[simp] theorem RP_not {fa : DE} : RP (notV fa ρ) k x = TP (testE fa ρ) (fun b => k (dB !b)) x := by
  simp only [SP_eq, RP_eq, AP_eq, TP_eq, VP_eq, VsP_eq, PP_eq, IP_eq, FP_eq, OP_eq, XP_eq, ItP_eq_, SetA_eq, UnpA_eq, OwA_eq, LsA_eq]
  first | exact RP_not0 | (simp only [RP_not0, *]; done) | rfl
@[simp] theorem RP_if {c : DT} {fa fb : DE} : RP (ifE c fa fb ρ) k x = TP (c ρ) (fun b => if b = true then RP (fa ρ) k x else RP (fb ρ) k x) x := by
  simp only [SP_eq, RP_eq, AP_eq, TP_eq, VP_eq, VsP_eq, PP_eq, IP_eq, FP_eq, OP_eq, XP_eq, ItP_eq_, SetA_eq, UnpA_eq, OwA_eq, LsA_eq]
  first | exact RP_if0 | (simp only [RP_if0, *]; done) | rfl
@[simp] theorem RP_comp {fi : DI} {b : DB} {ct : DT} {fe : DE} {vs : List Nat} : RP (compE fi b ct fe vs ρ) k x = IP (fi ρ) (fun ds => okLen ds.length = true ∧ RP (compL (itemT b ct fe (forget vs ρ)) ds []) k x) x := by
  simp only [SP_eq, RP_eq, AP_eq, TP_eq, VP_eq, VsP_eq, PP_eq, IP_eq, FP_eq, OP_eq, XP_eq, ItP_eq_, SetA_eq, UnpA_eq, OwA_eq, LsA_eq]
  first | exact RP_comp0 | (simp only [RP_comp0, *]; done) | rfl
@[simp] theorem IP_list {f : DE} : IP (listI f ρ) kI x = RP (f ρ) (lsA kI) x := by
  simp only [SP_eq, RP_eq, AP_eq, TP_eq, VP_eq, VsP_eq, PP_eq, IP_eq, FP_eq, OP_eq, XP_eq, ItP_eq_, SetA_eq, UnpA_eq, OwA_eq, LsA_eq]
  first | exact IP_list0 | (simp only [IP_list0, *]; done) | rfl
@[simp] theorem lsA_fz {ds : List D} : lsA kI (.ow (.fz (.lst ds))) = kI ds := by
  simp only [SP_eq, RP_eq, AP_eq, TP_eq, VP_eq, VsP_eq, PP_eq, IP_eq, FP_eq, OP_eq, XP_eq, ItP_eq_, SetA_eq, UnpA_eq, OwA_eq, LsA_eq]
  first | exact lsA_fz0 | (simp only [lsA_fz0, *]; done) | rfl
@[simp] theorem lsA_lst {os : List O} : lsA kI (.ow (.lst os)) = kI (O.toDs os) := by
  simp only [SP_eq, RP_eq, AP_eq, TP_eq, VP_eq, VsP_eq, PP_eq, IP_eq, FP_eq, OP_eq, XP_eq, ItP_eq_, SetA_eq, UnpA_eq, OwA_eq, LsA_eq]
  first | exact lsA_lst0 | (simp only [lsA_lst0, *]; done) | rfl
@[simp] theorem IP_args {g : List D → Ri} {f : DA} : IP (argsI g f ρ) kI x = AP (f ρ) (fun as => noVw as = true ∧ IP (g (as.map Ar.d)) kI x) x := by
  simp only [SP_eq, RP_eq, AP_eq, TP_eq, VP_eq, VsP_eq, PP_eq, IP_eq, FP_eq, OP_eq, XP_eq, ItP_eq_, SetA_eq, UnpA_eq, OwA_eq, LsA_eq]
  first | exact IP_args0 | (simp only [IP_args0, *]; done) | rfl
@[simp] theorem owA_ow {kV : O → Prop} {o : O} : owA kV (.ow o) = kV o := by
  simp only [SP_eq, RP_eq, AP_eq, TP_eq, VP_eq, VsP_eq, PP_eq, IP_eq, FP_eq, OP_eq, XP_eq, ItP_eq_, SetA_eq, UnpA_eq, OwA_eq, LsA_eq]
  first | exact owA_ow0 | (simp only [owA_ow0, *]; done) | rfl
@[simp] theorem VP_ow {f : DE} : VP (owV f ρ) kV x = RP (f ρ) (owA fun o => kV o ρ) x := by
  simp only [SP_eq, RP_eq, AP_eq, TP_eq, VP_eq, VsP_eq, PP_eq, IP_eq, FP_eq, OP_eq, XP_eq, ItP_eq_, SetA_eq, UnpA_eq, OwA_eq, LsA_eq]
  first | exact VP_ow0 | (simp only [VP_ow0, *]; done) | rfl
@[simp] theorem VsP_nil : VsP (nilV ρ) kVs x = kVs [] ρ := by
  simp only [SP_eq, RP_eq, AP_eq, TP_eq, VP_eq, VsP_eq, PP_eq, IP_eq, FP_eq, OP_eq, XP_eq, ItP_eq_, SetA_eq, UnpA_eq, OwA_eq, LsA_eq]
  first | exact VsP_nil0 | (simp only [VsP_nil0, *]; done) | rfl
@[simp] theorem VsP_cons {f : DV} {g : DVs} : VsP (consV f g ρ) kVs x = VP (f ρ) (fun o ρ' => VsP (g ρ') (fun os ρ2 => kVs (o :: os) ρ2) x) x := by
  simp only [SP_eq, RP_eq, AP_eq, TP_eq, VP_eq, VsP_eq, PP_eq, IP_eq, FP_eq, OP_eq, XP_eq, ItP_eq_, SetA_eq, UnpA_eq, OwA_eq, LsA_eq]
  first | exact VsP_cons0 | (simp only [VsP_cons0, *]; done) | rfl
@[simp] theorem VP_tup {f : DVs} : VP (tupV f ρ) kV x = VsP (f ρ) (fun os ρ' => okLen os.length = true ∧ kV (.tup os) ρ') x := by
  simp only [SP_eq, RP_eq, AP_eq, TP_eq, VP_eq, VsP_eq, PP_eq, IP_eq, FP_eq, OP_eq, XP_eq, ItP_eq_, SetA_eq, UnpA_eq, OwA_eq, LsA_eq]
  first | exact VP_tup0 | (simp only [VP_tup0, *]; done) | rfl
@[simp] theorem VP_lst {f : DVs} : VP (lstV f ρ) kV x = VsP (f ρ) (fun os ρ' => okLen os.length = true ∧ kV (.lst os) ρ') x := by
  simp only [SP_eq, RP_eq, AP_eq, TP_eq, VP_eq, VsP_eq, PP_eq, IP_eq, FP_eq, OP_eq, XP_eq, ItP_eq_, SetA_eq, UnpA_eq, OwA_eq, LsA_eq]
  first | exact VP_lst0 | (simp only [VP_lst0, *]; done) | rfl
@[simp] theorem SP_seq {f g : DS} : SP (seqS f g ρ) Q = SP (f ρ) ⟨fun ρ' => SP (g ρ') Q, Q.rt, Q.ex, Q.bk, Q.ct⟩ := by
  simp only [SP_eq, RP_eq, AP_eq, TP_eq, VP_eq, VsP_eq, PP_eq, IP_eq, FP_eq, OP_eq, XP_eq, ItP_eq_, SetA_eq, UnpA_eq, OwA_eq, LsA_eq]
  first | exact SP_seq0 | (simp only [SP_seq0, *]; done) | rfl
@[simp] theorem SP_nil : SP (nilS ρ) Q = Q.nx ρ := by
  simp only [SP_eq, RP_eq, AP_eq, TP_eq, VP_eq, VsP_eq, PP_eq, IP_eq, FP_eq, OP_eq, XP_eq, ItP_eq_, SetA_eq, UnpA_eq, OwA_eq, LsA_eq]
  first | exact SP_nil0 | (simp only [SP_nil0, *]; done) | rfl
@[simp] theorem SP_frz {i f} : SP (frzS i f ρ) Q = SP (f (frz i ρ)) Q := by
  simp only [SP_eq, RP_eq, AP_eq, TP_eq, VP_eq, VsP_eq, PP_eq, IP_eq, FP_eq, OP_eq, XP_eq, ItP_eq_, SetA_eq, UnpA_eq, OwA_eq, LsA_eq]
  first | exact SP_frz0 | (simp only [SP_frz0, *]; done) | rfl
@[simp] theorem SP_fgt {l f} : SP (fgtS l f ρ) Q = SP (f (forget l ρ)) Q := by
  simp only [SP_eq, RP_eq, AP_eq, TP_eq, VP_eq, VsP_eq, PP_eq, IP_eq, FP_eq, OP_eq, XP_eq, ItP_eq_, SetA_eq, UnpA_eq, OwA_eq, LsA_eq]
  first | exact SP_fgt0 | (simp only [SP_fgt0, *]; done) | rfl
@[simp] theorem setA_ow {i : Nat} {n : Rho → Prop} {o : O} : setA i ρ n (.ow o) = (i < ρ.length ∧ n (ρ.set i (some o))) := by
  simp only [SP_eq, RP_eq, AP_eq, TP_eq, VP_eq, VsP_eq, PP_eq, IP_eq, FP_eq, OP_eq, XP_eq, ItP_eq_, SetA_eq, UnpA_eq, OwA_eq, LsA_eq]
  first | exact setA_ow0 | (simp only [setA_ow0, *]; done) | rfl
@[simp] theorem SP_set {i : Nat} {fe : DE} : SP (setS i fe ρ) Q = RP (fe ρ) (setA i ρ Q.nx) Q.ex := by
  simp only [SP_eq, RP_eq, AP_eq, TP_eq, VP_eq, VsP_eq, PP_eq, IP_eq, FP_eq, OP_eq, XP_eq, ItP_eq_, SetA_eq, UnpA_eq, OwA_eq, LsA_eq]
  first | exact SP_set0 | (simp only [SP_set0, *]; done) | rfl
@[simp] theorem SP_expr {fe : DE} : SP (exprS fe ρ) Q = RP (fe ρ) (fun _ => Q.nx ρ) Q.ex := by
  simp only [SP_eq, RP_eq, AP_eq, TP_eq, VP_eq, VsP_eq, PP_eq, IP_eq, FP_eq, OP_eq, XP_eq, ItP_eq_, SetA_eq, UnpA_eq, OwA_eq, LsA_eq]
  first | exact SP_expr0 | (simp only [SP_expr0, *]; done) | rfl
@[simp] theorem SP_if {c : DT} {f g : DS} : SP (ifS c f g ρ) Q = TP (c ρ) (fun b => if b = true then SP (f ρ) Q else SP (g ρ) Q) Q.ex := by
  simp only [SP_eq, RP_eq, AP_eq, TP_eq, VP_eq, VsP_eq, PP_eq, IP_eq, FP_eq, OP_eq, XP_eq, ItP_eq_, SetA_eq, UnpA_eq, OwA_eq, LsA_eq]
  first | exact SP_if0 | (simp only [SP_if0, *]; done) | rfl
@[simp] theorem SP_ret {f : DV} : SP (retS f ρ) Q = VP (f ρ) (fun o _ => Q.rt o) Q.ex := by
  simp only [SP_eq, RP_eq, AP_eq, TP_eq, VP_eq, VsP_eq, PP_eq, IP_eq, FP_eq, OP_eq, XP_eq, ItP_eq_, SetA_eq, UnpA_eq, OwA_eq, LsA_eq]
  first | exact SP_ret0 | (simp only [SP_ret0, *]; done) | rfl
@[simp] theorem SP_raise {c} : SP (raiseS c ρ) Q = Q.ex c := by
  simp only [SP_eq, RP_eq, AP_eq, TP_eq, VP_eq, VsP_eq, PP_eq, IP_eq, FP_eq, OP_eq, XP_eq, ItP_eq_, SetA_eq, UnpA_eq, OwA_eq, LsA_eq]
  first | exact SP_raise0 | (simp only [SP_raise0, *]; done) | rfl
@[simp] theorem unpA_ow {b : DB} {n : Rho → Prop} {o : O} : unpA b ρ n (.ow o) = OP (b o.toD ρ) n := by
  simp only [SP_eq, RP_eq, AP_eq, TP_eq, VP_eq, VsP_eq, PP_eq, IP_eq, FP_eq, OP_eq, XP_eq, ItP_eq_, SetA_eq, UnpA_eq, OwA_eq, LsA_eq]
  first | exact unpA_ow0 | (simp only [unpA_ow0, *]; done) | rfl
@[simp] theorem SP_unp {fe : DE} {b : DB} : SP (unpS fe b ρ) Q = RP (fe ρ) (unpA b ρ Q.nx) Q.ex := by
  simp only [SP_eq, RP_eq, AP_eq, TP_eq, VP_eq, VsP_eq, PP_eq, IP_eq, FP_eq, OP_eq, XP_eq, ItP_eq_, SetA_eq, UnpA_eq, OwA_eq, LsA_eq]
  first | exact SP_unp0 | (simp only [SP_unp0, *]; done) | rfl
@[simp] theorem SP_for {fi : DI} {b : DB} {f : DS} {is : List Nat} : SP (forS fi b f is ρ) Q = IP (fi ρ) (fun ds => SP (loopS (turnS b f is) ds ρ) Q) Q.ex := by
  simp only [SP_eq, RP_eq, AP_eq, TP_eq, VP_eq, VsP_eq, PP_eq, IP_eq, FP_eq, OP_eq, XP_eq, ItP_eq_, SetA_eq, UnpA_eq, OwA_eq, LsA_eq]
  first | exact SP_for0 | (simp only [SP_for0, *]; done) | rfl
@[simp] theorem SP_turn {b : DB} {f : DS} {is : List Nat} {d : D} (hb : Q.ct = fun _ => False) : SP (turnS b f is d ρ) Q = OP (b d ρ) (fun ρ' => SP (f ρ') ⟨fun ρ2 => Q.nx (forget is ρ2), Q.rt, Q.ex, Q.bk, fun ρ2 => Q.nx (forget is ρ2)⟩) := by
  simp only [SP_eq, RP_eq, AP_eq, TP_eq, VP_eq, VsP_eq, PP_eq, IP_eq, FP_eq, OP_eq, XP_eq, ItP_eq_, SetA_eq, UnpA_eq, OwA_eq, LsA_eq]
  first | exact SP_turn0 | (simp only [SP_turn0, *]; done) | rfl
@[simp] theorem PP_ix {fp : DP} {fb : DE} : PP (ixP fp fb ρ) kP x = PP (fp ρ) (fun i p => RP (fb ρ) (fun y => match y.d with
    | .int j => OP (slotAt ρ i p) fun s => OP s.kids fun os => OP (ixN os.length j) fun n => n < os.length ∧ kP i (p ++ [n])
    | _ => False) x) x := by
  simp only [SP_eq, RP_eq, AP_eq, TP_eq, VP_eq, VsP_eq, PP_eq, IP_eq, FP_eq, OP_eq, XP_eq, ItP_eq_, SetA_eq, UnpA_eq, OwA_eq, LsA_eq]
  first | exact PP_ix0 | (simp only [PP_ix0, *]; done) | rfl
@[simp] theorem SP_meth {T : String} {fp : DP} {fa : DVs} {g : GMt} : SP (methS T fp fa g ρ) Q = PP (fp ρ) (fun i p => kindAt ρ i p = T ∧ VsP (fa ρ) (fun as ρ' => OP (slotAt ρ' i p) fun s => OP (g s as) fun s' => OP (ρ'[i]?.join) fun o => Q.nx (ρ'.set i (some (O.put p s' o)))) Q.ex) Q.ex := by
  simp only [SP_eq, RP_eq, AP_eq, TP_eq, VP_eq, VsP_eq, PP_eq, IP_eq, FP_eq, OP_eq, XP_eq, ItP_eq_, SetA_eq, UnpA_eq, OwA_eq, LsA_eq]
  first | exact SP_meth0 | (simp only [SP_meth0, *]; done) | rfl
@[simp] theorem SP_store {fv : DV} {fp : DP} {fb : DE} : SP (storeS fv fp fb ρ) Q = VP (fv ρ) (fun o ρ' => PP (fp ρ') (fun i p => RP (fb ρ') (fun y => OP (slotAt ρ' i p) fun s => OP (setO s y.d o) fun s' => OP (ρ'[i]?.join) fun t => Q.nx (ρ'.set i (some (O.put p s' t)))) fun _ => False) fun _ => False) Q.ex := by
  simp only [SP_eq, RP_eq, AP_eq, TP_eq, VP_eq, VsP_eq, PP_eq, IP_eq, FP_eq, OP_eq, XP_eq, ItP_eq_, SetA_eq, UnpA_eq, OwA_eq, LsA_eq]
  first | exact SP_store0 | (simp only [SP_store0, *]; done) | rfl
@[simp] theorem SP_chk {i t : Nat} {g : DK} : SP (chkS i t g ρ) Q = OP (listAt ρ i) fun ds => ¬ (i = t ∨ ρ.length ≤ t) ∧ SP (chkL t g ds (ρ.set t none)) Q := by
  simp only [SP_eq, RP_eq, AP_eq, TP_eq, VP_eq, VsP_eq, PP_eq, IP_eq, FP_eq, OP_eq, XP_eq, ItP_eq_, SetA_eq, UnpA_eq, OwA_eq, LsA_eq]
  first | exact SP_chk0 | (simp only [SP_chk0, *]; done) | rfl
@[simp] theorem XP_no {k : Option Int → Prop} : XP (noO ρ) k = k none := by
  simp only [SP_eq, RP_eq, AP_eq, TP_eq, VP_eq, VsP_eq, PP_eq, IP_eq, FP_eq, OP_eq, XP_eq, ItP_eq_, SetA_eq, UnpA_eq, OwA_eq, LsA_eq]
  first | exact XP_no0 | (simp only [XP_no0, *]; done) | rfl
@[simp] theorem XP_int {k : Option Int → Prop} {i : Option Int} : XP (some i) k = k i := by
  simp only [SP_eq, RP_eq, AP_eq, TP_eq, VP_eq, VsP_eq, PP_eq, IP_eq, FP_eq, OP_eq, XP_eq, ItP_eq_, SetA_eq, UnpA_eq, OwA_eq, LsA_eq]
  first | exact XP_int0 | (simp only [XP_int0, *]; done) | rfl
@[simp] theorem XP_some {k : Option Int → Prop} {f : DE} : XP (someO f ρ) k = RP (f ρ) (fun a => match a.d with | .int i => k (some i) | _ => False) fun _ => False := by
  simp only [SP_eq, RP_eq, AP_eq, TP_eq, VP_eq, VsP_eq, PP_eq, IP_eq, FP_eq, OP_eq, XP_eq, ItP_eq_, SetA_eq, UnpA_eq, OwA_eq, LsA_eq]
  first | exact XP_some0 | (simp only [XP_some0, *]; done) | rfl
@[simp] theorem RP_cut {f : DE} {l h : DO} : RP (cutE f l h ρ) k x = RP (f ρ) (fun a => XP (l ρ) fun i => XP (h ρ) fun j => RP (gCut a i j) k x) x := by
  simp only [SP_eq, RP_eq, AP_eq, TP_eq, VP_eq, VsP_eq, PP_eq, IP_eq, FP_eq, OP_eq, XP_eq, ItP_eq_, SetA_eq, UnpA_eq, OwA_eq, LsA_eq]
  first | exact RP_cut0 | (simp only [RP_cut0, *]; done) | rfl
@[simp] theorem RP_rev {f : DE} : RP (revE f ρ) k x = RP (f ρ) (fun a => RP (revA a) k x) x := by
  simp only [SP_eq, RP_eq, AP_eq, TP_eq, VP_eq, VsP_eq, PP_eq, IP_eq, FP_eq, OP_eq, XP_eq, ItP_eq_, SetA_eq, UnpA_eq, OwA_eq, LsA_eq]
  first | exact RP_rev0 | (simp only [RP_rev0, *]; done) | rfl
@[simp] theorem RP_chain {g g' : Ar → Ar → Rs} {fa fb fc : DE} : RP (chainE g g' fa fb fc ρ) k x = RP (fa ρ) (fun a => RP (fb ρ) (fun b => TP (g a b).test (fun z => if z = true then RP (fc ρ) (fun c => RP (g' b c) k x) x else k (dB false)) x) x) x := by
  simp only [SP_eq, RP_eq, AP_eq, TP_eq, VP_eq, VsP_eq, PP_eq, IP_eq, FP_eq, OP_eq, XP_eq, ItP_eq_, SetA_eq, UnpA_eq, OwA_eq, LsA_eq]
  first | exact RP_chain0 | (simp only [RP_chain0, *]; done) | rfl
theorem sp_for {α β : Type} {xs : List α} {enc : α → D} {t : D → DS} (up : β → Rho → Rho) (b0 : β) (P : List α → β → Prop) (hup : up b0 ρ = ρ) (h0 : P [] b0)
    (step : ∀ zs y r b (n : Rho → Prop), xs = zs ++ y :: r → P zs b → (∀ ρ' b', ρ' = up b' ρ → P (zs ++ [y]) b' → n ρ') → SP (t (enc y) (up b ρ)) ⟨n, Q.rt, Q.ex, Q.nx, fun _ => False⟩) (fin : ∀ b, P xs b → Q.nx (up b ρ)) : SP (loopS t (xs.map enc) ρ) Q := ⟨sp_for0 up b0 P hup h0 (fun zs y r b n e h k => (step zs y r b n e h k).out) fin⟩
theorem rp_comp {α β : Type} {xs : List α} {enc : α → D} {t : D → Rt} (f : β → O) (P : α → β → Prop) (h : ∀ y ∈ xs, ∃ z, t (enc y) = .item (f z) ∧ P y z)
    (fin : ∀ ys : List β, ys.length = xs.length → (∀ i (h : i < xs.length) (h' : i < ys.length), P xs[i] ys[i]) → k (.ow (.lst (ys.map f)))) : RP (compL t (xs.map enc) []) k x := ⟨rp_comp0 f P h fin⟩
theorem rp_map {α : Type} {xs : List α} {enc : α → D} {t : D → Rt} (f : α → O) (h : ∀ y ∈ xs, t (enc y) = .item (f y)) (fin : k (.ow (.lst (xs.map f)))) : RP (compL t (xs.map enc) []) k x := ⟨rp_map0 f h fin⟩
theorem rp_filter {α : Type} {xs : List α} {enc : α → D} {t : D → Rt} (p : α → Bool) (f : α → O) (h : ∀ y ∈ xs, t (enc y) = if p y then .item (f y) else .skip) (fin : k (.ow (.lst ((xs.filter p).map f)))) : RP (compL t (xs.map enc) []) k x := ⟨rp_filter0 p f h fin⟩
@[simp] theorem ItP_item {b : DB} {ct : DT} {fe : DE} {d : D} {k : O → Prop} {s : Prop} : ItP (itemT b ct fe ρ d) k s = OP (b d ρ) fun ρ' => TP (ct ρ') (fun z => if z = true then RP (fe ρ') (owA k) (fun _ => False) else s) fun _ => False := by
  simp only [SP_eq, RP_eq, AP_eq, TP_eq, VP_eq, VsP_eq, PP_eq, IP_eq, FP_eq, OP_eq, XP_eq, ItP_eq_, SetA_eq, UnpA_eq, OwA_eq, LsA_eq]
  first | exact ItP_item0 | (simp only [ItP_item0, *]; done) | rfl
theorem ItP_ex {r : Rt} {β : Type} {f : β → O} {P : β → Prop} (h : ItP r (fun o => ∃ z, o = f z ∧ P z) False) : ∃ z, r = .item (f z) ∧ P z := ItP_ex0 h.out
theorem ItP_eq {r : Rt} {o : O} (h : ItP r (fun y => y = o) False) : r = .item o := ItP_eq0 h.out
end
end DL

namespace DL
open PySem PySem.Spec L2
variable {K : PySem.W.Frag} {F F' H H' H0 F0 F1 H1 : Hp} {cs cs' : List Addr} {σ σ' : L2.St} {ρ ρ' : Rho}
section
variable {X : Cx} {W : WX} {pos : Pos} {a b c e : Expr} {fa fb fc fe : DE} {f g : DS} {k : Nat}
/-! ### list(range(n)), list(range(a, b)) -/
def mkRg (i j : Int) : Rs := if okR i && okR j && okLen (j - i).toNat then .ok (.ow (.lst ((rangeL i j).map .fz))) else .bad
def rg1E (fa : DE) : DE := fun ρ => (fa ρ).bind fun x => match x.d with
  | .int n => mkRg 0 n
  | _ => .bad
theorem rgV_rep {i j : Int} : Reps K F (rangeL i j) (rgV i j) := by
  have : rgV i j = ((List.range (j - i).toNat).map fun m => i + (m : Nat)).map V.int := by
    unfold rgV
    first | rfl | simp
  rw [this]
  have e : rangeL i j = ((List.range (j - i).toNat).map fun m => i + (m : Nat)).map D.int := by unfold rangeL; simp
  rw [e]
  exact Reps.ints.mpr rfl
theorem ge_listRg1 {x p2 : Pos} {q : Pos} {ps : Pos} (hc : X.calm = true) (hm : X.mg "list" = none) (hm2 : X.mg "range" = none) (ha : GE X W a fa) (hg : Gl X "list" := by rfl) (hg2 : Gl X "range" := by rfl)
    (na : starEach [a] X.env = (false, eval a X.env) :: starEach [] X.env := by rfl) (nb : starEach [.Call (.Name "range" p2) [a] [] q] X.env = (false, eval (.Call (.Name "range" p2) [a] [] q) X.env) :: starEach [] X.env := by rfl) :
    GE X W (.Call (.Name "list" ps) [.Call (.Name "range" p2) [a] [] q] [] pos) (rg1E fa) := by
  refine PE.imp (pe_listRg hc hg hm (prg_1 hg2 hm2 ha na) nb) fun σ H Q ⟨F0, H0, ρ, F, cs, R, p⟩ => ?_
  refine ⟨F0, H0, ρ, F, cs, R, ?_⟩
  unfold rg1E at p
  cases q : fa ρ with
  | bad => rw [q] at p; exact p
  | ex c => rw [q] at p; exact p
  | ok x =>
    simp only [q, Rs.bind] at p
    intro F1 H1 v c1 e1 r1 n1
    have p := post_ext (X := X) (W := W) e1 p
    have r2 := r1.view e1.fh
    split at p
    · rename_i n e
      rw [e] at r2
      unfold mkRg at p
      split at p
      · rename_i h
        rw [Bool.and_eq_true, Bool.and_eq_true] at h
        have h1 := h.1.2
        have h2 := okLen_le h.2
        unfold okR at h1
        rw [Bool.and_eq_true, decide_eq_true_eq, decide_eq_true_eq] at h1
        rw [sizeLine_eq] at h2
        exact ⟨n, r2, ⟨by omega, by omega, by omega, by omega, by omega⟩, fun q nq => post_lst e1.fh nq rgV_rep rfl p⟩
      · exact p.elim
    · exact p.elim
/-! ### methods that only read -/
abbrev GR := Ar → List Ar → Rs
/-- what such a method asks and gives -/
def VMt (X : Cx) (W : WX) (r : V → List V → Hp → VK → Prop) (g : GR) : Prop := ∀ (σ : L2.St) (F H : Hp) (x : V) (vs : List V) (a : Ar) (as : List Ar) (c c' : List Addr) (Q : VK), Same F H → ARep X.K F H a x c → AReps X.K F H as vs c' → post X W (g a as) σ F H Q → r x vs H Q
/-- the type that a method is looked up at -/
def tyA (a : Ar) : String := match a.d with
  | .lst _ => "list" | .str _ => "str" | _ => ""
def methE (T : String) (fa : DE) (fv : DA) (g : GR) : DE := fun ρ => (fa ρ).bind fun x => if tyA x = T then (match fv ρ with
  | .ok as => g x as
  | .ex c => .ex c
  | .bad => .bad) else .bad
theorem tyA_v {a : Ar} {v : V} {T : String} {c} (hT : T ≠ "") (fh : Same F H) (r : ARep K F H a v c) (e : tyA a = T) : tyV K T v H := by
  have rv := r.view fh
  subst e
  unfold tyA at hT ⊢
  revert hT
  generalize a.d = d at rv
  intro hT
  cases d with
  | non => exact absurd rfl hT
  | bl b => exact absurd rfl hT
  | int b => exact absurd rfl hT
  | tup b => exact absurd rfl hT
  | str x => cases (show v = .str x from rv); rfl
  | lst ds =>
    obtain ⟨p, vs, rfl, s, _⟩ := rv
    exact .inl ⟨rfl, vs, s⟩
  | dK ks vs => exact absurd rfl hT
  | dT ks vs => exact absurd rfl hT
  | exc c => exact absurd rfl hT
theorem ge_meth {T : String} {id : String} {name : Str} {es : List Expr} {apos cpos : Pos} {r : V → List V → Hp → VK → Prop} {g : GR} {o e : Expr} {fv : DA} (pa : PlainAttrs T) (slot : Slot T name id) (hty : typeOf (.builtin id) = pure (.type "method_descriptor")) (hm : MtR X id r) (mt : VMt X W r g) (hT : T ≠ "") (ho : GE X W o fa) (ha : GA X W (e :: es) fv)
    (hbase : attributeBase o name X.env (eval o X.env) = eval o X.env := by rfl)
    (hfew : ((backTo cpos (starEach (e :: es) X.env)).all (fun x => !x.1) && (backToKw cpos (keywordEach [] X.env)).all (fun x => x.1.isSome)
      && decide ((e :: es).length + ([] : List Keyword).length + (if ([] : List Keyword).isEmpty then 0 else 1) < 30)) = true := by rfl)
    (hline : (apos.endLine == cpos.line) = true := by rfl) (hs : starEach (e :: es) X.env = (false, eval e X.env) :: starEach es X.env := by rfl) (hplain : (backTo cpos (starEach es X.env)).any (·.1) = false := by rfl) :
    GE X W (.Call (.Attribute o name apos) (e :: es) [] cpos) (methE T fa fv g) := by
  refine PE.imp (pe_bm pa slot hty hm ho ha hbase hfew hline hs hplain) fun σ H Q ⟨F0, H0, ρ, F, cs, R, p⟩ => ?_
  refine ⟨F0, H0, ρ, F, cs, R, ?_⟩
  unfold methE at p
  cases q : fa ρ with
  | bad => rw [q] at p; exact p
  | ex c => rw [q] at p; exact p
  | ok x =>
    simp only [q, Rs.bind] at p
    intro F1 H1 v c1 e1 r1 n1
    split at p
    · rename_i hk
      refine ⟨tyA_v hT e1.fh r1 hk, F0, H0, ρ, F1, cs, R.ext e1, ?_⟩
      cases q2 : fv ρ with
      | bad => simp only [q2] at p; exact p.elim
      | ex c => simp only [q2] at p; exact fun F2 H2 C e m => p F2 H2 C (e1.trans e) m
      | ok as =>
        simp only [q2] at p
        intro F2 H2 vs c2 e2 r2 n2
        exact mt σ F2 H2 v vs x as c1 c2 Q e2.fh (r1.ext e2) r2 (post_ext (X := X) (W := W) (e1.trans e2) p)
    · exact p.elim
/-- xs.index(y), flat items -/
def idxL : List D → D → Option Nat
  | [], _ => none
  | z :: zs, y => if eqV (vOf z) (vOf y) then some 0 else (idxL zs y).map (· + 1)
def gIndex : GR := fun x as => match as with
  | [y] => match x.o.seq with
    | some (true, os) => match allFz os with
      | some ds => if flatD y.d && flats ds then (match idxL ds y.d with
        | some j => okI (j : Nat)
        | none => .bad) else .bad
      | none => .bad
    | _ => .bad
  | _ => .bad
theorem idxL_spec : ∀ {ds : List D} {y : D} {j : Nat}, idxL ds y = some j → (∃ z, ds[j]? = some z ∧ eqV (vOf z) (vOf y) = true) ∧ ∀ m z, m < j → ds[m]? = some z → eqV (vOf z) (vOf y) = false
  | [], _, _, h => by cases h
  | d :: ds, y, j, h => by
    unfold idxL at h
    split at h
    · rename_i e
      cases h
      exact ⟨⟨d, rfl, e⟩, fun m z hm _ => absurd hm (Nat.not_lt_zero _)⟩
    · rename_i e
      cases q : idxL ds y with
      | none => rw [q] at h; cases h
      | some k =>
        rw [q] at h
        cases h
        obtain ⟨⟨z, h1, h2⟩, h3⟩ := idxL_spec q
        refine ⟨⟨z, by simpa using h1, h2⟩, fun m z hm hz => ?_⟩
        cases m with
        | zero =>
          have : d = z := by simpa using hz
          subst this
          simpa using e
        | succ m => exact h3 m z (by simpa using hm) (by simpa using hz)
theorem vmt_index : VMt X W (rIndex X.K) gIndex := by
  intro σ F H x vs a as c c' Q fh ra rs p
  unfold gIndex at p
  split at p
  · rename_i y
    obtain ⟨u, rfl, ru⟩ := areps1 rs
    split at p
    · rename_i os e
      obtain ⟨c2, q⟩ := ra.some
      obtain ⟨l, ws, c3, rfl, s, t⟩ := seq_rep fh q e
      split at p
      · rename_i ds ed
        rw [allFz_eq ed] at t
        obtain ⟨_, t2⟩ := OReps.of_fz t
        split at p
        · rename_i hf
          rw [Bool.and_eq_true] at hf
          split at p
          · rename_i j ej
            obtain ⟨⟨z, h1, h2⟩, h3⟩ := idxL_spec ej
            have ew := reps_flat t2 hf.2
            have eu := rep_flat (ru.view fh) hf.1
            subst ew eu
            refine ⟨l, ds.map vOf, vOf y.d, j, vOf z, rfl, rfl, s, flatV_vOf hf.1, flatV_all hf.2, by rw [List.getElem?_map, h1]; rfl, h2, fun m z' hm hz => ?_, post_flat (d := .int _) fh rfl p⟩
            rw [List.getElem?_map] at hz
            cases hd : ds[m]? with
            | none => rw [hd] at hz; cases hz
            | some w =>
              rw [hd] at hz
              cases hz
              exact h3 m w hm hd
          · exact p.elim
        · exact p.elim
      · exact p.elim
    · exact p.elim
  · exact p.elim
/-! ### constants of the top -/
structure GlI (mg : Str → Option Value) (x : Str) (n : Int) : Prop where
  ex : ∃ t, mg x = some (.int n t)
theorem ge_glob {x : Str} {n : Int} (h : GlI X.mg x n) (hg : Gl X x := by rfl) (hd : (x == ("__debug__" : Str)) = false := by decide) : GE X W (.Name x pos) (cE (.int n)) := by
  obtain ⟨t, hm⟩ := h.ex
  exact ge_cst (pe_glob (v := .int n) hg hm ⟨t, rfl⟩ hd) fun _ => rfl
end
end DL

namespace DL
open PySem PySem.Spec L2
section
variable {k : Ar → Prop} {x : Str → Prop} {ρ : Rho}
@[simp] theorem AP_bad {kA : List Ar → Prop} : AP .bad kA x = False := propext ⟨fun h => h.out, fun h => ⟨h⟩⟩
@[simp] theorem FP_bad {kF : O → Prop} : FP .bad kF x = False := propext ⟨fun h => h.out, fun h => ⟨h⟩⟩
def rgA (a : Ar) : Rs := match a.d with
  | .int n => mkRg 0 n
  | _ => .bad
@[simp] theorem rgA_int {n : Int} : rgA (dI n) = mkRg 0 n := rfl
theorem rg1_eq {fa : DE} : rg1E fa ρ = (fa ρ).bind rgA := rfl
@[simp] theorem RP_bind {r : Rs} {g : Ar → Rs} : RP (r.bind g) k x = RP r (fun a => RP (g a) k x) x := by
  cases r <;> simp [Rs.bind]
@[simp] theorem RP_rg1 {fa : DE} : RP (rg1E fa ρ) k x = RP (fa ρ) (fun a => RP (rgA a) k x) x := by
  rw [rg1_eq, RP_bind]
@[simp] theorem RP_meth {T : String} {fa : DE} {fv : DA} {g : GR} : RP (methE T fa fv g ρ) k x = RP (fa ρ) (fun a => tyA a = T ∧ AP (fv ρ) (fun as => RP (g a as) k x) x) x := by
  unfold methE
  rw [RP_bind]
  congr 1
  funext a
  by_cases h : tyA a = T
  · rw [if_pos h]
    cases fv ρ <;> simp [h]
  · rw [if_neg h]
    simp [h]
end
end DL

namespace DL
open PySem PySem.Spec L2
variable {K : PySem.W.Frag} {F F' H H' H0 F0 F1 H1 : Hp} {cs cs' : List Addr} {σ σ' : L2.St} {ρ ρ' : Rho}
section
variable {X : Cx} {W : WX} {pos : Pos} {a b c e : Expr} {fa fb fc fe : DE} {f g : DS} {k : Nat}
/-! ### a method of no arguments that changes its list -/
def meth0S (T : String) (fp : DP) (g : GMt) : DS := methS T fp nilV g
theorem gs_meth0 {T : String} {id : String} {name : Str} {apos cpos : Pos} {r : V → List V → Hp → VK → Prop} {g : GMt} {o : Expr} {fp : DP} (pa : PlainAttrs T) (slot : Slot T name id) (hty : typeOf (.builtin id) = pure (.type "method_descriptor")) (hm : MtR X id r) (mt : MtT X r g) (hT : T ≠ "") (ho : GP X W o fp)
    (hbase : attributeBase o name X.env (eval o X.env) = eval o X.env := by rfl) (hline : (apos.endLine == cpos.line) = true := by rfl)
    (hsw : swapsWith (.Call (.Attribute o name apos) [] [] cpos) none pos.line X.env = pure false := by rfl) :
    GS X W (.Expr (.Call (.Attribute o name apos) [] [] cpos) pos) (meth0S T fp g) := by
  refine PS.imp (ps_expr (pe_bm0 pa slot hty hm ho hbase hline) hsw) fun D σ H ⟨F0, H0, ρ, F, cs, R, p⟩ => ?_
  refine ⟨F0, H0, ρ, F, cs, R, ?_⟩
  unfold meth0S methS nilV at p
  cases q1 : fp ρ with
  | bad => simp only [q1] at p; exact p
  | ex c => simp only [q1] at p; exact fun F2 H2 C e m => p F2 H2 σ cs C e.ff (R.ext e) m
  | ok i pl =>
    simp only [q1] at p
    intro F1 H1 v u e1 hv hat
    split at p
    · rename_i hk
      refine ⟨kindAt_ty hT (R.ext e1) hk hv hat, ?_⟩
      have R2 := R.ext e1
      split at p
      · rename_i o eo
        split at p
        · rename_i s es
          split at p
          · rename_i s' eg
            obtain ⟨v', u', d1, d2, d3, g1, g2, g3, g4, kk⟩ := R2.putAt eo es
            rw [hv] at g2
            cases g2
            have : u' = u := g3.fun_ hat
            subst this
            subst g1
            have nd := R2.nd
            rw [List.nodup_append] at nd
            obtain ⟨n1, n23, d123⟩ := nd
            rw [List.nodup_append] at n23
            obtain ⟨n2, n3, d23⟩ := n23
            refine mt F1 H1 s s' [] u' [] d2 [] _ e1.fh g4 ⟨rfl, rfl⟩ (by rw [List.append_nil]; exact n2) (fun b hb => ?_) eg fun H3 w c3 k3 r3 n4 s3 => ?_
            · rw [List.append_nil] at hb
              exact (R2.cf b (List.mem_append_right _ (List.mem_append_left _ hb))).1
            · have := kk H3 s' c3 k3 r3 n4 fun c hc => by
                have h : c ∈ d2 := by simpa using s3 c hc
                have q := R2.cf c (List.mem_append_right _ (List.mem_append_left _ h))
                exact ⟨q.1, q.2, fun h1 => d123 c h1 c (List.mem_append_left _ h) rfl, fun h1 => d23 c h c h1 rfl⟩
              exact p F1 H3 σ _ e1.ff this
          · exact p.elim
        · exact p.elim
      · exact p.elim
    · exact p.elim
/-! ### what such methods do -/
theorem OReps.splitAt : ∀ {os : List O} {vs : List V} {c : List Addr} (n : Nat), OReps K F H os vs c → ∃ c1 c2, c = c1 ++ c2 ∧ OReps K F H (os.take n) (vs.take n) c1 ∧ OReps K F H (os.drop n) (vs.drop n) c2
  | os, vs, c, 0, r => ⟨[], c, rfl, ⟨rfl, rfl⟩, r⟩
  | [], _, _, n + 1, ⟨e1, e2⟩ => by subst e1 e2; exact ⟨[], [], rfl, ⟨rfl, rfl⟩, ⟨rfl, rfl⟩⟩
  | x :: os, _, _, n + 1, ⟨v, r, d1, d2, e1, e2, p, q⟩ => by
    subst e1 e2
    obtain ⟨c1, c2, e, h1, h2⟩ := OReps.splitAt n q
    exact ⟨d1 ++ c1, c2, by rw [e, List.append_assoc], ⟨v, _, d1, c1, rfl, rfl, p, h1⟩, h2⟩
/-- the list's cell gets other items, out of those that stood there and those handed in -/
theorem mt_cell {s' : O} {c c' c2 : List Addr} {a : Addr} {os' : List O} {vs' : List V} {Q : VK} {w : V} (nd : (a :: c ++ c').Nodup) (r : OReps K F H os' vs' c2) (n2 : c2.Nodup) (h2 : ∀ b ∈ c2, b ∈ c ++ c')
    (k : ∀ H2 w c2, (∀ b, b ∉ a :: c → H b ≠ none → H2 b = H b) → ORep K F H2 (.lst os') (.ref a) c2 → c2.Nodup → (∀ b ∈ c2, b ∈ a :: c ++ c') → Q w H2) : Q w (upd H a (.lst vs')) := by
  rw [List.cons_append, List.nodup_cons] at nd
  refine k _ w (a :: c2) (fun b hb hn => upd_ne fun e => hb (by rw [e]; exact List.mem_cons_self)) ⟨a, vs', c2, rfl, rfl, upd_same, r.frame (Same.refl _) fun b hb => upd_ne fun e => nd.1 (e ▸ h2 b hb)⟩ (List.nodup_cons.mpr ⟨fun h => nd.1 (h2 _ h), n2⟩) fun b hb => ?_
  rcases List.mem_cons.mp hb with rfl | h
  · exact List.mem_cons_self
  · exact List.mem_cons_of_mem _ (h2 b h)
def gClear : GMt
  | .lst _, [] => some (.lst [])
  | _, _ => none
theorem mtt_clear : MtT X rClear gClear := by
  intro F H s s' as u vs c c' Q fh rs ra nd cf eg k
  unfold gClear at eg
  split at eg
  · rename_i os
    cases eg
    obtain ⟨a, ys, c2, e1, e2, e3, q⟩ := rs
    obtain ⟨e4, e5⟩ := ra
    subst e1 e2 e4 e5
    exact ⟨a, ys, rfl, rfl, e3, mt_cell (K := X.K) (F := F) (s' := .lst []) (os' := []) (vs' := []) (c2 := []) nd (show OReps X.K F H [] [] [] from ⟨rfl, rfl⟩) List.nodup_nil (fun _ h => nomatch h) k⟩
  · cases eg
def gPop : GMt
  | .lst os, [] => if os = [] then none else some (.lst os.dropLast)
  | _, _ => none
theorem mtt_pop : MtT X rPop gPop := by
  intro F H s s' as u vs c c' Q fh rs ra nd cf eg k
  unfold gPop at eg
  split at eg
  · rename_i os
    split at eg
    · cases eg
    · rename_i hne
      cases eg
      obtain ⟨a, ys, c2, e1, e2, e3, q⟩ := rs
      obtain ⟨e4, e5⟩ := ra
      subst e1 e2 e4 e5
      have hl := q.len
      have hp : 0 < os.length := List.length_pos_iff.mpr hne
      obtain ⟨d1, d2, f1, f2, f3⟩ := OReps.splitAt (os.length - 1) q
      subst f1
      rw [← List.dropLast_eq_take, hl, ← List.dropLast_eq_take] at f2
      have nd2 := nd
      rw [List.append_nil, List.nodup_cons, List.nodup_append] at nd2
      refine ⟨a, ys, ys[ys.length - 1]'(by omega), rfl, rfl, e3, List.getElem?_eq_getElem _, mt_cell (K := X.K) (F := F) (s' := .lst os.dropLast) nd f2 nd2.2.1 (fun b hb => List.mem_append_left _ (List.mem_append_left _ hb)) k⟩
  · cases eg
def gPopAt : GMt
  | .lst os, [.fz (.int i)] => if decide (-(2 ^ 63) ≤ i) && decide (i < 2 ^ 63) then (match ixN os.length i with
    | some j => if j < os.length then some (.lst (os.eraseIdx j)) else none
    | none => none) else none
  | _, _ => none
theorem mtt_popAt : MtT X rPopAt gPopAt := by
  intro F H s s' as u vs c c' Q fh rs ra nd cf eg k
  unfold gPopAt at eg
  split at eg
  · rename_i os i
    split at eg
    · rename_i hb
      rw [Bool.and_eq_true, decide_eq_true_eq, decide_eq_true_eq] at hb
      split at eg
      · rename_i j ej
        split at eg
        · rename_i hj
          cases eg
          obtain ⟨a, ys, c2, e1, e2, e3, q⟩ := rs
          obtain ⟨y, r', d1, d2, f1, f2, f3, f4, f5⟩ := ra
          obtain ⟨f6, f7⟩ := f3
          cases (show y = .int i from f7)
          subst e1 e2 f1 f2 f4 f5 f6
          have hl := q.len
          obtain ⟨x1, x2, g1, g2, g3⟩ := OReps.splitAt j q
          obtain ⟨y1, y2, h1, h2, h3⟩ := OReps.splitAt 1 g3
          subst g1 h1
          rw [List.drop_drop] at h3
          rw [List.drop_drop] at h3
          have nd2 := nd
          simp only [List.append_nil] at nd2
          rw [List.nodup_cons, List.nodup_append] at nd2
          obtain ⟨_, n1, n2, n3⟩ := nd2
          rw [List.nodup_append] at n2
          rw [hl] at ej
          refine ⟨a, ys, i, j, ys[j]'(by omega), rfl, rfl, e3, hb.1, hb.2, (ixN_seq ej).1, List.getElem?_eq_getElem _, ?_⟩
          rw [List.eraseIdx_eq_take_drop_succ] at k ⊢
          refine mt_cell (K := X.K) (F := F) (s' := .lst (os.take j ++ os.drop (j + 1))) nd (g2.append h3) ?_ (fun b hb => ?_) k
          · rw [List.nodup_append]
            exact ⟨n1, n2.2.1, fun a ha b hb => n3 a ha b (List.mem_append_right _ hb)⟩
          · rcases List.mem_append.mp hb with h | h
            · exact List.mem_append_left _ (List.mem_append_left _ h)
            · exact List.mem_append_left _ (List.mem_append_right _ (List.mem_append_right _ h))
        · cases eg
      · cases eg
    · cases eg
  · cases eg
theorem OReps.rev : ∀ {os : List O} {vs : List V} {c : List Addr}, OReps K F H os vs c → ∃ c2, OReps K F H os.reverse vs.reverse c2 ∧ c2.Perm c
  | [], _, _, ⟨e1, e2⟩ => by subst e1 e2; exact ⟨[], ⟨rfl, rfl⟩, List.Perm.refl _⟩
  | x :: os, _, _, ⟨v, r, d1, d2, e1, e2, p, q⟩ => by
    subst e1 e2
    obtain ⟨c2, h, pm⟩ := OReps.rev q
    refine ⟨c2 ++ d1, ?_, (List.perm_append_comm).trans (List.Perm.append_left _ pm)⟩
    rw [List.reverse_cons, List.reverse_cons]
    exact h.append (OReps.one p)
def gReverse : GMt
  | .lst os, [] => some (.lst os.reverse)
  | _, _ => none
theorem mtt_reverse : MtT X rReverse gReverse := by
  intro F H s s' as u vs c c' Q fh rs ra nd cf eg k
  unfold gReverse at eg
  split at eg
  · rename_i os
    cases eg
    obtain ⟨a, ys, c2, e1, e2, e3, q⟩ := rs
    obtain ⟨e4, e5⟩ := ra
    subst e1 e2 e4 e5
    obtain ⟨d, h, pm⟩ := q.rev
    have nd2 := nd
    rw [List.append_nil, List.nodup_cons] at nd2
    exact ⟨a, ys, rfl, rfl, e3, mt_cell (K := X.K) (F := F) (s' := .lst os.reverse) nd h (pm.nodup_iff.mpr nd2.2) (fun b hb => List.mem_append_left _ (pm.mem_iff.mp hb)) k⟩
  · cases eg
def gInsert : GMt
  | .lst os, [.fz (.int i), o] => if os.length < lim ∧ 0 ≤ i ∧ i < 2 ^ 63 then some (.lst (os.take i.toNat ++ [o] ++ os.drop i.toNat)) else none
  | _, _ => none
theorem mtt_insert : MtT X (fun x vs H Q => ∃ (l : Addr) (xs : List V) (i : Int) (y : V), x = .ref l ∧ vs = [.int i, y] ∧ H l = some (.lst xs) ∧ xs.length < sizeLine ∧ 0 ≤ i ∧ i < 2 ^ 63 ∧
    Q .non (upd H l (.lst (xs.take i.toNat ++ [y] ++ xs.drop i.toNat)))) gInsert := by
  intro F H s s' as u vs c c' Q fh rs ra nd cf eg k
  unfold gInsert at eg
  split at eg
  · rename_i os i o
    split at eg
    · rename_i hh
      cases eg
      obtain ⟨a, ys, c2, e1, e2, e3, q⟩ := rs
      obtain ⟨y, r', d1, d2, f1, f2, f3, f4⟩ := ra
      obtain ⟨z, r2, d3, d4, g1, g2, g3, g4, g5⟩ := f4
      obtain ⟨f6, f7⟩ := f3
      cases (show y = .int i from f7)
      subst e1 e2 f1 f2 f6 g1 g2 g4 g5
      obtain ⟨x1, x2, h1, h2, h3⟩ := OReps.splitAt i.toNat q
      subst h1
      have nd2 := nd
      simp only [List.append_nil, List.nil_append] at nd2
      rw [List.cons_append, List.nodup_cons, List.nodup_append, List.nodup_append] at nd2
      obtain ⟨_, ⟨n1, n2, n3⟩, n4, n5⟩ := nd2
      refine ⟨a, ys, i, z, rfl, rfl, e3, by rw [← q.len, ← lim_eq]; exact hh.1, hh.2.1, hh.2.2, ?_⟩
      refine mt_cell (K := X.K) (F := F) (s' := .lst (os.take i.toNat ++ [o] ++ os.drop i.toNat)) nd ((h2.append (OReps.one g3)).append h3) ?_ (fun b hb => ?_) k
      · rw [List.nodup_append, List.nodup_append]
        refine ⟨⟨n1, n4, fun a ha b hb => n5 a (List.mem_append_left _ ha) b hb⟩, n2, fun a ha b hb => ?_⟩
        rcases List.mem_append.mp ha with h | h
        · exact n3 a h b hb
        · exact fun e => n5 b (List.mem_append_right _ hb) a h e.symm
      · simp only [List.append_nil, List.nil_append]
        rcases List.mem_append.mp hb with h | h
        · rcases List.mem_append.mp h with h | h
          · exact List.mem_append_left _ (List.mem_append_left _ h)
          · exact List.mem_append_right _ h
        · exact List.mem_append_left _ (List.mem_append_right _ h)
    · cases eg
  · cases eg
def gExtend : GMt
  | .lst os, [.lst zs] => if os.length + zs.length ≤ lim then some (.lst (os ++ zs)) else none
  | _, _ => none
theorem mtt_extend : MtT X rExtend gExtend := by
  intro F H s s' as u vs c c' Q fh rs ra nd cf eg k
  unfold gExtend at eg
  split at eg
  · rename_i os zs
    split at eg
    · rename_i hh
      cases eg
      obtain ⟨a, ys, c2, e1, e2, e3, q⟩ := rs
      obtain ⟨y, r', d1, d2, f1, f2, f3, f4, f5⟩ := ra
      obtain ⟨b, ws, c3, g1, g2, g3, g4⟩ := f3
      subst e1 e2 f1 f2 f4 f5 g1 g2
      have nd2 := nd
      simp only [List.append_nil] at nd2
      rw [List.cons_append, List.nodup_cons, List.nodup_append, List.nodup_cons] at nd2
      obtain ⟨_, n1, n2, n3⟩ := nd2
      refine ⟨a, b, ys, ws, rfl, rfl, e3, g3, by rw [← q.len, ← g4.len, ← lim_eq]; exact hh, mt_cell (K := X.K) (F := F) (s' := .lst (os ++ zs)) nd (q.append g4) ?_ (fun x hx => ?_) k⟩
      · rw [List.nodup_append]
        exact ⟨n1, n2.2, fun x hx y hy => n3 x hx y (List.mem_cons_of_mem _ hy)⟩
      · simp only [List.append_nil]
        rcases List.mem_append.mp hx with h | h
        · exact List.mem_append_left _ h
        · exact List.mem_append_right _ (List.mem_cons_of_mem _ h)
    · cases eg
  · cases eg
end
end DL

namespace DL
open PySem PySem.Spec L2
/-! ### the typed mirror: outcomes -/
inductive M (α : Type) where
  | ok (a : α) | ex (c : Str) | bad
def M.bind {α β : Type} : M α → (α → M β) → M β
  | .ok a, f => f a
  | .ex c, _ => .ex c
  | .bad, _ => .bad
@[simp] theorem M.bind_ok {α β : Type} {a : α} {f : α → M β} : (M.ok a).bind f = f a := Eq.symm (Eq.symm rfl)
@[simp] theorem M.bind_ex {α β : Type} {c : Str} {f : α → M β} : (M.ex c).bind f = .ex c := Eq.symm (Eq.symm rfl)
@[simp] theorem M.bind_bad {α β : Type} {f : α → M β} : M.bad.bind f = .bad := Eq.symm (Eq.symm rfl)
def lt {α β : Type} (a : α) (f : α → M β) : M β := f a
@[simp] theorem lt_eq {α β : Type} {a : α} {f : α → M β} : lt a f = f a := Eq.symm (Eq.symm rfl)
inductive Fl (β γ : Type) where
  | nx (b : β) | rt (a : γ)
def M.fl {β γ : Type} (m : M (Fl β γ)) (f : β → M γ) : M γ := m.bind fun
  | .nx b => f b
  | .rt a => .ok a
@[simp] theorem M.fl_nx {β γ : Type} {b : β} {f : β → M γ} : (M.ok (Fl.nx b)).fl f = f b := Eq.symm (Eq.symm rfl)
@[simp] theorem M.fl_rt {β γ : Type} {a : γ} {f : β → M γ} : (M.ok (Fl.rt a)).fl f = .ok a := Eq.symm (Eq.symm rfl)
@[simp] theorem M.fl_ex {β γ : Type} {c : Str} {f : β → M γ} : (M.ex c).fl f = .ex c := Eq.symm (Eq.symm rfl)
@[simp] theorem M.fl_bad {β γ : Type} {f : β → M γ} : (M.bad : M (Fl β γ)).fl f = .bad := Eq.symm (Eq.symm rfl)
def forM {α β : Type} (step : α → β → M β) : List α → β → M β
  | [], b => .ok b
  | x :: xs, b => (step x b).bind fun b => forM step xs b
def forF {α β γ : Type} (step : α → β → M (Fl β γ)) : List α → β → M (Fl β γ)
  | [], b => .ok (.nx b)
  | x :: xs, b => (step x b).bind fun
    | .nx b => forF step xs b
    | .rt a => .ok (.rt a)
def whileM {β : Type} (c : β → M Bool) (t : β → M β) : Nat → β → M β
  | 0, _ => .bad
  | n + 1, b => (c b).bind fun z => if z then (t b).bind fun b => whileM c t n b else .ok b
def whileF {β γ : Type} (c : β → M Bool) (t : β → M (Fl β γ)) : Nat → β → M (Fl β γ)
  | 0, _ => .bad
  | n + 1, b => (c b).bind fun z => if z then (t b).bind (fun
    | .nx b => whileF c t n b
    | .rt a => .ok (.rt a)) else .ok (.nx b)
def mapM {α β : Type} (f : α → M β) : List α → M (List β)
  | [] => .ok []
  | x :: xs => (f x).bind fun y => (mapM f xs).bind fun ys => .ok (y :: ys)
def filtM {α β : Type} (p : α → M Bool) (f : α → M β) : List α → M (List β)
  | [] => .ok []
  | x :: xs => (p x).bind fun z => if z then (f x).bind fun y => (filtM p f xs).bind fun ys => .ok (y :: ys) else filtM p f xs
def optC {α β : Type} (x : Option α) (a : β) (f : α → β) : β := match x with
  | none => a
  | some y => f y
@[simp] theorem optC_none {α β : Type} {a : β} {f : α → β} : optC (none : Option α) a f = a := Eq.symm (Eq.symm rfl)
@[simp] theorem optC_some {α β : Type} {x : α} {a : β} {f : α → β} : optC (some x) a f = f x := Eq.symm (Eq.symm rfl)
def unO {α : Type} (x : Option α) : M α := optC x .bad .ok
@[simp] theorem unO_some {α : Type} {x : α} : unO (some x) = .ok x := Eq.symm (Eq.symm rfl)
/-- a condition of the model -/
def grd {α : Type} (b : Bool) (a : α) : M α := if b then .ok a else .bad
@[simp] theorem grd_true {α : Type} {a : α} : grd true a = .ok a := Eq.symm (Eq.symm rfl)
theorem grd_ok {α : Type} {b : Bool} {a : α} (h : b = true) : grd b a = .ok a := by rw [h]; rfl
/-! ### operations -/
def ix {α : Type} (xs : List α) (i : Int) : M α := match L2.atI xs i with
  | some a => .ok a
  | none => .bad
def mulM (i j : Int) : M Int := if okMul i j then .ok (i * j) else .bad
def modM (i j : Int) : M Int := if 0 < j then .ok (i % j) else .bad
def fdivM (i j : Int) : M Int := if okDiv j then .ok (i / j) else .bad
def powM (i j : Int) : M Int := if okPow i j then .ok (i ^ j.toNat) else .bad
def shlM (i j : Int) : M Int := if okPow i j then .ok (i * 2 ^ j.toNat) else .bad
def shrM (i j : Int) : M Int := if 0 ≤ j then .ok (i / 2 ^ j.toNat) else .bad
def catM {α : Type} (xs ys : List α) : M (List α) := if okLen (xs.length + ys.length) then .ok (xs ++ ys) else .bad
def repM {α : Type} (xs : List α) (k : Int) : M (List α) := if decide (-(2 ^ 63) ≤ k) && decide (k < 2 ^ 63) && okLen (xs.length * k.toNat) then .ok (List.replicate k.toNat xs).flatten else .bad
def appM {α : Type} (xs : List α) (x : α) : M (List α) := if xs.length < lim then .ok (xs ++ [x]) else .bad
def compP {α β : Type} (f : α → β) (xs : List α) : M (List β) := if okLen xs.length then .ok (xs.map f) else .bad
def compM {α β : Type} (f : α → M β) (xs : List α) : M (List β) := if okLen xs.length then mapM f xs else .bad
def compFP {α β : Type} (p : α → Bool) (f : α → β) (xs : List α) : M (List β) := if okLen xs.length then .ok ((xs.filter p).map f) else .bad
def compF {α β : Type} (p : α → M Bool) (f : α → M β) (xs : List α) : M (List β) := if okLen xs.length then filtM p f xs else .bad
def rng (lo hi : Int) : List Int := (List.range (hi - lo).toNat).map fun i => lo + (i : Nat)
def rngM (lo hi : Int) : M (List Int) := if okR lo && okR hi then .ok (rng lo hi) else .bad
def rngL (lo hi : Int) : M (List Int) := if okR lo && okR hi && okLen (hi - lo).toNat then .ok (rng lo hi) else .bad
def enumL {α : Type} (xs : List α) : List (Int × α) := xs.zipIdx.map fun p => ((p.2 : Nat), p.1)
def maxM (xs : List Int) : M Int := match xs with
  | [] => .bad
  | n :: ns => .ok (maxI (n :: ns))
def minM (xs : List Int) : M Int := match xs with
  | [] => .bad
  | n :: ns => .ok (minI (n :: ns))
def setM {α : Type} (xs : List α) (i : Int) (x : α) : M (List α) := match ixN xs.length i with
  | some j => .ok (xs.set j x)
  | none => .bad
/-- one item is changed -/
def updM {α : Type} (xs : List α) (i : Int) (f : α → M α) : M (List α) := match ixN xs.length i with
  | some j => match xs[j]? with
    | some x => (f x).bind fun y => .ok (xs.set j y)
    | none => .bad
  | none => .bad
def idxI (xs : List Int) (i : Int) : M Int := match xs.findIdx? (· == i) with
  | some j => .ok (j : Nat)
  | none => .bad
/-! ### encoders, shapes -/
def eI : Int → D := .int
def eB : Bool → D := .bl
def eS : Str → D := .str
def eN : Unit → D := fun _ => .non
def eO {α : Type} (e : α → D) : Option α → D := fun
  | none => .non
  | some a => e a
def eL {α : Type} (e : α → D) : List α → D := fun xs => .lst (xs.map e)
def eT1 {α : Type} (e : α → D) : α → D := fun a => .tup [e a]
def eT2 {α β : Type} (e : α → D) (f : β → D) : α × β → D := fun p => .tup [e p.1, f p.2]
def eT3 {α β γ : Type} (e : α → D) (f : β → D) (g : γ → D) : α × β × γ → D := fun p => .tup [e p.1, f p.2.1, g p.2.2]
def eT4 {α β γ δ : Type} (e : α → D) (f : β → D) (g : γ → D) (h : δ → D) : α × β × γ × δ → D := fun p => .tup [e p.1, f p.2.1, g p.2.2.1, h p.2.2.2]
def oF {α : Type} (e : α → D) : α → O := fun a => .fz (e a)
def oO {α : Type} (s : α → O) : Option α → O := fun
  | none => .fz .non
  | some a => s a
def oL {α : Type} (s : α → O) : List α → O := fun xs => .lst (xs.map s)
def oT1 {α : Type} (e : α → O) : α → O := fun a => .tup [e a]
def oT2 {α β : Type} (e : α → O) (f : β → O) : α × β → O := fun p => .tup [e p.1, f p.2]
def oT3 {α β γ : Type} (e : α → O) (f : β → O) (g : γ → O) : α × β × γ → O := fun p => .tup [e p.1, f p.2.1, g p.2.2]
def oT4 {α β γ δ : Type} (e : α → O) (f : β → O) (g : γ → O) (h : δ → O) : α × β × γ × δ → O := fun p => .tup [e p.1, f p.2.1, g p.2.2.1, h p.2.2.2]
class ToD {α : Type} (s : α → O) (e : outParam (α → D)) : Prop where
  td : ∀ a, (s a).toD = e a
instance {α : Type} {e : α → D} : ToD (oF e) e := ⟨fun _ => rfl⟩
theorem toDs_of {α : Type} {s : α → O} {e : α → D} (h : ∀ a, (s a).toD = e a) (xs : List α) : O.toDs (xs.map s) = xs.map e := by
  rw [O.toDs_map, List.map_map]
  exact List.map_congr_left fun a _ => h a
instance {α : Type} {s : α → O} {e : α → D} [ToD s e] : ToD (oL s) (eL e) := ⟨fun xs => congrArg D.lst (toDs_of ToD.td xs)⟩
instance {α : Type} {s : α → O} {e : α → D} [ToD s e] : ToD (oO s) (eO e) := ⟨fun x => by
  cases x with
  | none => rfl
  | some a => exact ToD.td a⟩
instance {α : Type} {s : α → O} {e : α → D} [ToD s e] : ToD (oT1 s) (eT1 e) := ⟨fun p => by simp [oT1, eT1, ToD.td (s := s)]⟩
instance {α β : Type} {s : α → O} {e : α → D} {t : β → O} {f : β → D} [ToD s e] [ToD t f] : ToD (oT2 s t) (eT2 e f) := ⟨fun p => by simp [oT2, eT2, ToD.td (s := s), ToD.td (s := t)]⟩
instance {α β γ : Type} {s : α → O} {e : α → D} {t : β → O} {f : β → D} {u : γ → O} {g : γ → D} [ToD s e] [ToD t f] [ToD u g] : ToD (oT3 s t u) (eT3 e f g) := ⟨fun p => by simp [oT3, eT3, ToD.td (s := s), ToD.td (s := t), ToD.td (s := u)]⟩
instance {α β γ δ : Type} {s : α → O} {e : α → D} {t : β → O} {f : β → D} {u : γ → O} {g : γ → D} {v : δ → O} {h : δ → D} [ToD s e] [ToD t f] [ToD u g] [ToD v h] : ToD (oT4 s t u v) (eT4 e f g h) := ⟨fun p => by simp [oT4, eT4, ToD.td (s := s), ToD.td (s := t), ToD.td (s := u), ToD.td (s := v)]⟩
/-- data whose leaves are flat -/
class LeafF {α : Type} (s : α → O) : Prop where
  lf : ∀ a, leafFlat (s a) = true
class FlatE {α : Type} (e : α → D) : Prop where
  fl : ∀ a, flatD (e a) = true
instance : FlatE eI := ⟨fun _ => rfl⟩
instance : FlatE eB := ⟨fun _ => rfl⟩
instance : FlatE eS := ⟨fun _ => rfl⟩
instance : FlatE eN := ⟨fun _ => rfl⟩
instance {α : Type} {e : α → D} [FlatE e] : FlatE (eO e) := ⟨fun x => by
  cases x with
  | none => rfl
  | some a => exact FlatE.fl a⟩
instance {α : Type} {e : α → D} [FlatE e] : LeafF (oF e) := ⟨fun a => FlatE.fl a⟩
theorem leafs_of {α : Type} {s : α → O} (h : ∀ a, leafFlat (s a) = true) : ∀ xs : List α, leafsFlat (xs.map s) = true
  | [] => rfl
  | x :: xs => by simp [leafsFlat, h x, leafs_of h xs]
instance {α : Type} {s : α → O} [LeafF s] : LeafF (oL s) := ⟨fun xs => leafs_of LeafF.lf xs⟩
instance {α : Type} {s : α → O} [LeafF s] : LeafF (oO s) := ⟨fun x => by
  cases x with
  | none => rfl
  | some a => exact LeafF.lf a⟩
instance {α : Type} {s : α → O} [LeafF s] : LeafF (oT1 s) := ⟨fun p => by simp [oT1, leafFlat, leafsFlat, LeafF.lf]⟩
instance {α β : Type} {s : α → O} {t : β → O} [LeafF s] [LeafF t] : LeafF (oT2 s t) := ⟨fun p => by simp [oT2, leafFlat, leafsFlat, LeafF.lf]⟩
instance {α β γ : Type} {s : α → O} {t : β → O} {u : γ → O} [LeafF s] [LeafF t] [LeafF u] : LeafF (oT3 s t u) := ⟨fun p => by simp [oT3, leafFlat, leafsFlat, LeafF.lf]⟩
instance {α β γ δ : Type} {s : α → O} {t : β → O} {u : γ → O} {v : δ → O} [LeafF s] [LeafF t] [LeafF u] [LeafF v] : LeafF (oT4 s t u v) := ⟨fun p => by simp [oT4, leafFlat, leafsFlat, LeafF.lf]⟩
/-- data that == compares -/
class EqE {α : Type} (e : α → D) (n : outParam Nat) : Prop where
  sh : ∀ a, Sh n (e a)
  eq : ∀ a b, eqD (e a) (e b) = true ↔ a = b
class NnE {α : Type} (e : α → D) : Prop where
  nn : ∀ a, e a ≠ .non
instance : NnE eI := ⟨fun _ h => nomatch h⟩
instance : NnE eB := ⟨fun _ h => nomatch h⟩
instance : NnE eS := ⟨fun _ h => nomatch h⟩
instance {α : Type} {e : α → D} : NnE (eL e) := ⟨fun _ h => nomatch h⟩
instance {α : Type} {e : α → D} : NnE (eT1 e) := ⟨fun _ h => nomatch h⟩
instance {α β : Type} {e : α → D} {f : β → D} : NnE (eT2 e f) := ⟨fun _ h => nomatch h⟩
instance {α β γ : Type} {e : α → D} {f : β → D} {g : γ → D} : NnE (eT3 e f g) := ⟨fun _ h => nomatch h⟩
instance {α β γ δ : Type} {e : α → D} {f : β → D} {g : γ → D} {h : δ → D} : NnE (eT4 e f g h) := ⟨fun _ h => nomatch h⟩
theorem eqD_bl {a b : Bool} : eqD (.bl a) (.bl b) = true ↔ a = b := by
  unfold eqD
  cases a <;> cases b <;> simp [toPy, PyData.eqv]
instance : EqE eI 0 := ⟨fun _ => Sh.int, fun a b => by simp [eI]⟩
instance : EqE eB 0 := ⟨fun _ => Sh.bl, fun a b => eqD_bl⟩
end DL

namespace DL
open PySem PySem.Spec L2
theorem eqD_non {d : D} (h : d ≠ .non) : eqD .non d = false ∧ eqD d .non = false := by
  unfold eqD
  cases d <;> first | exact absurd rfl h | simp [toPy, PyData.eqv]
theorem eqDs {α : Type} {e : α → D} (h : ∀ a b, eqD (e a) (e b) = true ↔ a = b) : ∀ xs ys : List α, PyData.eqvAll (toPys (xs.map e)) (toPys (ys.map e)) = true ↔ xs = ys
  | [], [] => by simp [toPys, PyData.eqvAll]
  | [], _ :: _ => by simp [toPys, PyData.eqvAll]
  | _ :: _, [] => by simp [toPys, PyData.eqvAll]
  | x :: xs, y :: ys => by
    have h1 := h x y
    unfold eqD at h1
    simp [toPys, PyData.eqvAll, h1, eqDs h xs ys]
instance {α : Type} {e : α → D} {n : Nat} [EqE e n] : EqE (eL e) (n + 1) := ⟨fun xs => Sh.map fun x _ => EqE.sh x, fun xs ys => by
  have := eqDs (e := e) EqE.eq xs ys
  simpa [eL, eqD, toPy, PyData.eqv] using this⟩
instance {α : Type} {e : α → D} {n : Nat} [EqE e n] : EqE (eT1 e) (n + 1) := ⟨fun p => Sh.tup fun d hd => by
  simp at hd
  subst hd
  exact EqE.sh _, fun a b => by
  have h1 := EqE.eq (e := e) a b
  unfold eqD at h1 ⊢
  simp [eT1, toPy, toPys, PyData.eqv, PyData.eqvAll, h1]⟩
instance {α β : Type} {e : α → D} {f : β → D} {n m : Nat} [EqE e n] [EqE f m] : EqE (eT2 e f) (max n m + 1) := ⟨fun p => Sh.tup fun d hd => by
  simp at hd
  rcases hd with rfl | rfl
  · exact (EqE.sh (e := e) _).mono (by omega)
  · exact (EqE.sh (e := f) _).mono (by omega), fun a b => by
  have h1 := EqE.eq (e := e) a.1 b.1
  have h2 := EqE.eq (e := f) a.2 b.2
  unfold eqD at h1 h2 ⊢
  simp [eT2, toPy, toPys, PyData.eqv, PyData.eqvAll, h1, h2, Prod.ext_iff]⟩
instance {α β γ : Type} {e : α → D} {f : β → D} {g : γ → D} {n m k : Nat} [EqE e n] [EqE f m] [EqE g k] : EqE (eT3 e f g) (max n (max m k) + 1) := ⟨fun p => Sh.tup fun d hd => by
  simp at hd
  rcases hd with rfl | rfl | rfl
  · exact (EqE.sh (e := e) _).mono (by omega)
  · exact (EqE.sh (e := f) _).mono (by omega)
  · exact (EqE.sh (e := g) _).mono (by omega), fun a b => by
  have h1 := EqE.eq (e := e) a.1 b.1
  have h2 := EqE.eq (e := f) a.2.1 b.2.1
  have h3 := EqE.eq (e := g) a.2.2 b.2.2
  unfold eqD at h1 h2 h3 ⊢
  simp [eT3, toPy, toPys, PyData.eqv, PyData.eqvAll, h1, h2, h3, Prod.ext_iff]⟩
instance {α β γ δ : Type} {e : α → D} {f : β → D} {g : γ → D} {h : δ → D} {n m k l : Nat} [EqE e n] [EqE f m] [EqE g k] [EqE h l] : EqE (eT4 e f g h) (max n (max m (max k l)) + 1) := ⟨fun p => Sh.tup fun d hd => by
  simp at hd
  rcases hd with rfl | rfl | rfl | rfl
  · exact (EqE.sh (e := e) _).mono (by omega)
  · exact (EqE.sh (e := f) _).mono (by omega)
  · exact (EqE.sh (e := g) _).mono (by omega)
  · exact (EqE.sh (e := h) _).mono (by omega), fun a b => by
  have h1 := EqE.eq (e := e) a.1 b.1
  have h2 := EqE.eq (e := f) a.2.1 b.2.1
  have h3 := EqE.eq (e := g) a.2.2.1 b.2.2.1
  have h4 := EqE.eq (e := h) a.2.2.2 b.2.2.2
  unfold eqD at h1 h2 h3 h4 ⊢
  simp [eT4, toPy, toPys, PyData.eqv, PyData.eqvAll, h1, h2, h3, h4, Prod.ext_iff]⟩
instance {α : Type} {e : α → D} {n : Nat} [EqE e n] [NnE e] : EqE (eO e) n := ⟨fun x => by
  cases x with
  | none => exact Sh.non
  | some a => exact EqE.sh a, fun x y => by
  cases x with
  | none => cases y with
    | none => simp [eO, eqD, toPy, PyData.eqv]
    | some b => simp [eO, (eqD_non (NnE.nn (e := e) b)).1]
  | some a => cases y with
    | none => simp [eO, (eqD_non (NnE.nn (e := e) a)).2]
    | some b => simp [eO, EqE.eq (e := e) a b]⟩
instance : EqE eN 0 := ⟨fun _ => Sh.non, fun a b => by simp [eN, eqD, toPy, PyData.eqv]⟩
end DL

namespace DL
open PySem PySem.Spec L2
/-! ### the relations -/
abbrev rO {α : Type} (s : α → O) : α → Ar := fun a => .ow (s a)
abbrev rV {α : Type} (s : α → O) : α → Ar := fun a => itemAr (s a)
def RQ0 {α : Type} (r : Rs) (m : M α) (s : α → Ar) : Prop := match m with
  | .ok a => r = .ok (s a)
  | .ex c => r = .ex c
  | .bad => True
def AQ0 {α : Type} (r : Rm) (m : M α) (s : α → List Ar) : Prop := match m with
  | .ok a => r = .ok (s a)
  | .ex c => r = .ex c
  | .bad => True
def TQ0 (r : Rb) (m : M Bool) : Prop := match m with
  | .ok a => r = .ok a
  | .ex c => r = .ex c
  | .bad => True
def VQ0 {α : Type} (r : Rv) (m : M α) (s : α → O) (ρ' : Rho) : Prop := match m with
  | .ok a => r = .ok (s a) ρ'
  | .ex c => r = .ex c
  | .bad => True
def VsQ0 {α : Type} (r : Rvs) (m : M α) (s : α → List O) (ρ' : Rho) : Prop := match m with
  | .ok a => r = .ok (s a) ρ'
  | .ex c => r = .ex c
  | .bad => True
def IQ0 {α : Type} (r : Ri) (m : M (List α)) (e : α → D) : Prop := match m with
  | .ok xs => r = .ok (xs.map e)
  | .ex c => r = .ex c
  | .bad => True
def FQ0 {α : Type} (r : Rf) (m : M α) (s : α → O) : Prop := match m with
  | .ok a => r = .ok (s a)
  | .ex c => r = .ex c
  | .bad => True
structure FQ {α : Type} (r : Rf) (m : M α) (s : α → O) : Prop where
  out : FQ0 r m s
def XQ0 (r : Option (Option Int)) (m : M (Option Int)) : Prop := match m with
  | .ok a => r = some a
  | .ex _ => True
  | .bad => True
section
variable {α β γ : Type} {ρ ρ' : Rho} {g : Ar → Ar → Rs} {u : Ar → Rs} {fa fb fc : DE} {a b : Ar} {ma : M α} {mb : M β} {sa : α → Ar} {sb : β → Ar} {s : γ → Ar} {m : M γ}
/-! ### expressions -/
theorem pq_var {i : Nat} {o : O} (h : ρ[i]? = some (some o)) : varE i ρ = .ok (itemAr o) := by
  unfold varE
  rw [h]
  cases o <;> rfl
theorem pq_varF {i : Nat} {d : D} (h : ρ[i]? = some (some (.fz d))) : varE i ρ = .ok (.ow (.fz d)) := by
  unfold varE
  rw [h]
theorem pq_bin {r : Ar} (ha : fa ρ = .ok a) (hb : fb ρ = .ok b) (ho : g a b = .ok r) : bin g fa fb ρ = .ok r := by
  unfold bin Rs.bind
  rw [ha, hb]
  exact ho
theorem rq_pp_z (ha : fa ρ = .ok a) (hb : fb ρ = .ok b) (ho : RQ0 (g a b) m s) : RQ0 (bin g fa fb ρ) m s := by
  have : bin g fa fb ρ = g a b := by unfold bin Rs.bind; rw [ha, hb]
  rw [this]; exact ho
theorem rq_mp_z {mo : α → M γ} (ha : RQ0 (fa ρ) ma sa) (hb : fb ρ = .ok b) (ho : ∀ x, RQ0 (g (sa x) b) (mo x) s) : RQ0 (bin g fa fb ρ) (ma.bind mo) s := by
  cases ma with
  | ok x => exact rq_pp_z ha hb (ho x)
  | ex c =>
    have ha : fa ρ = .ex c := ha
    show bin g fa fb ρ = .ex c
    unfold bin Rs.bind
    rw [ha]
  | bad => trivial
theorem rq_pm_z {mo : β → M γ} (ha : fa ρ = .ok a) (hb : RQ0 (fb ρ) mb sb) (ho : ∀ y, RQ0 (g a (sb y)) (mo y) s) : RQ0 (bin g fa fb ρ) (mb.bind mo) s := by
  cases mb with
  | ok x => exact rq_pp_z ha hb (ho x)
  | ex c =>
    have hb : fb ρ = .ex c := hb
    show bin g fa fb ρ = .ex c
    unfold bin Rs.bind
    rw [ha, hb]
  | bad => trivial
theorem rq_mm_z {mo : α → β → M γ} (ha : RQ0 (fa ρ) ma sa) (hb : RQ0 (fb ρ) mb sb) (ho : ∀ x y, RQ0 (g (sa x) (sb y)) (mo x y) s) : RQ0 (bin g fa fb ρ) (ma.bind fun x => mb.bind fun y => mo x y) s := by
  cases ma with
  | ok x =>
    have t := rq_pm_z (g := g) (show fa ρ = .ok (sa x) from ha) hb (ho x)
    exact t
  | ex c =>
    have ha : fa ρ = .ex c := ha
    show bin g fa fb ρ = .ex c
    unfold bin Rs.bind
    rw [ha]
  | bad => trivial
theorem pq_un {r : Ar} (ha : fa ρ = .ok a) (ho : u a = .ok r) : un u fa ρ = .ok r := by
  unfold un Rs.bind
  rw [ha]
  exact ho
theorem rq_un1_z {mo : α → M γ} (ha : RQ0 (fa ρ) ma sa) (ho : ∀ x, RQ0 (u (sa x)) (mo x) s) : RQ0 (un u fa ρ) (ma.bind mo) s := by
  cases ma with
  | ok x =>
    have ha : fa ρ = .ok (sa x) := ha
    have : un u fa ρ = u (sa x) := by unfold un Rs.bind; rw [ha]
    show RQ0 (un u fa ρ) (mo x) s
    rw [this]; exact ho x
  | ex c =>
    have ha : fa ρ = .ex c := ha
    show un u fa ρ = .ex c
    unfold un Rs.bind
    rw [ha]
  | bad => trivial
/-- an optional value is wanted -/
theorem rq_unO_z {e : α → O} {x : Option α} (h : fa ρ = .ok (itemAr (oO e x))) : RQ0 (fa ρ) (unO x) (rV e) := by
  cases x with
  | none => trivial
  | some y => exact h
theorem rq_unOw_z {e : α → O} {x : Option α} (h : fa ρ = .ok (.ow (oO e x))) : RQ0 (fa ρ) (unO x) (rO e) := by
  cases x with
  | none => trivial
  | some y => exact h
theorem rq_unF_z {e : α → D} {x : Option α} (h : fa ρ = .ok (.ow (.fz (eO e x)))) : RQ0 (fa ρ) (unO x) (rO (oF e)) := by
  cases x with
  | none => trivial
  | some y => exact h
theorem rq_bind_z {mo : α → M γ} {r : Rs} (h : RQ0 r ma sa) (k : ∀ x, r = .ok (sa x) → RQ0 r (mo x) s) : RQ0 r (ma.bind mo) s := by
  cases ma with
  | ok x => exact k x h
  | ex c => exact h
  | bad => trivial
theorem rq_of_z {r : Rs} {x : γ} (h : r = .ok (s x)) : RQ0 r (.ok x) s := h
theorem rq_ok_z {r : Rs} {x : γ} (h : RQ0 r (.ok x) s) : r = .ok (s x) := h
theorem xq_of_z {r : Option (Option Int)} {x : Option Int} (h : r = some x) : XQ0 r (.ok x) := h
/-! ### argument lists -/
variable {f : DE} {ga : DA} {as : List Ar} {mas : M β} {ss : β → List Ar}
theorem aq_nil : nilA ρ = .ok [] := rfl
theorem aq_pp (hf : f ρ = .ok a) (hg : ga ρ = .ok as) : consA f ga ρ = .ok (a :: as) := by
  unfold consA
  rw [hf, hg]
theorem aq_pm_z (hf : f ρ = .ok a) (hg : AQ0 (ga ρ) mas ss) : AQ0 (consA f ga ρ) mas (fun y => a :: ss y) := by
  cases mas with
  | ok y => exact aq_pp hf hg
  | ex c =>
    have hg : ga ρ = .ex c := hg
    show consA f ga ρ = .ex c
    unfold consA
    rw [hf, hg]
  | bad => trivial
theorem aq_mp_z (hf : RQ0 (f ρ) ma sa) (hg : ga ρ = .ok as) : AQ0 (consA f ga ρ) ma (fun x => sa x :: as) := by
  cases ma with
  | ok y => exact aq_pp hf hg
  | ex c =>
    have hf : f ρ = .ex c := hf
    show consA f ga ρ = .ex c
    unfold consA
    rw [hf]
  | bad => trivial
theorem aq_mm_z (hf : RQ0 (f ρ) ma sa) (hg : AQ0 (ga ρ) mas ss) : AQ0 (consA f ga ρ) (ma.bind fun x => mas.bind fun y => .ok (x, y)) (fun p => sa p.1 :: ss p.2) := by
  cases ma with
  | ok x =>
    cases mas with
    | ok y => exact aq_pp hf hg
    | ex c =>
      have hf : f ρ = .ok (sa x) := hf
      have hg : ga ρ = .ex c := hg
      show consA f ga ρ = .ex c
      unfold consA
      rw [hf, hg]
    | bad => trivial
  | ex c =>
    have hf : f ρ = .ex c := hf
    show consA f ga ρ = .ex c
    unfold consA
    rw [hf]
  | bad => trivial
theorem pq_callB {g : List Ar → Rs} {r : Ar} (ha : ga ρ = .ok as) (ho : g as = .ok r) : callB g ga ρ = .ok r := by
  unfold callB
  rw [ha]; exact ho
theorem rq_callB0_z {g : List Ar → Rs} (ha : ga ρ = .ok as) (ho : RQ0 (g as) m s) : RQ0 (callB g ga ρ) m s := by
  have : callB g ga ρ = g as := by unfold callB; rw [ha]
  rw [this]; exact ho
theorem rq_callB_z {g : List Ar → Rs} {mo : β → M γ} (ha : AQ0 (ga ρ) mas ss) (ho : ∀ y, RQ0 (g (ss y)) (mo y) s) : RQ0 (callB g ga ρ) (mas.bind mo) s := by
  cases mas with
  | ok y => exact rq_callB0_z ha (ho y)
  | ex c =>
    have ha : ga ρ = .ex c := ha
    show callB g ga ρ = .ex c
    unfold callB
    rw [ha]
  | bad => trivial
/-- calls of own defs -/
theorem fq_toRs_z {sem : DF} {o : γ → O} {as : List Ar} (hv : noVw as = true ∨ ∀ a, leafFlat (o a) = true) (h : FQ (sem (as.map Ar.d)) m o) : RQ0 (toRs as (sem (as.map Ar.d))) m (rO o) := by
  cases m with
  | ok x =>
    have h : sem (as.map Ar.d) = .ok (o x) := h.out
    show toRs as (sem (as.map Ar.d)) = .ok (.ow (o x))
    have : (noVw as || leafFlat (o x)) = true := by
      rcases hv with hv | hv
      · rw [hv]; rfl
      · rw [hv x, Bool.or_true]
    rw [h]
    exact if_pos this
  | ex c =>
    have h : sem (as.map Ar.d) = .ex c := h.out
    show toRs as (sem (as.map Ar.d)) = .ex c
    rw [h]; rfl
  | bad => trivial
theorem rq_callF0_z {sem : DF} {n : Nat} {o : γ → O} {ds : List D} (ha : ga ρ = .ok as) (hn : as.length = n) (hd : as.map Ar.d = ds) (hv : noVw as = true ∨ ∀ a, leafFlat (o a) = true) (h : FQ (sem ds) m o) : RQ0 (callF sem n ga ρ) m (rO o) := by
  have : callF sem n ga ρ = toRs as (sem (as.map Ar.d)) := by unfold callF; rw [ha]; exact if_pos hn
  rw [this]
  subst hd
  exact fq_toRs_z hv h
theorem rq_callF_z {sem : DF} {n : Nat} {o : γ → O} {mo : β → M γ} {ds : β → List D} (ha : AQ0 (ga ρ) mas ss) (hn : ∀ y, (ss y).length = n) (hd : ∀ y, (ss y).map Ar.d = ds y) (hv : (∀ y, noVw (ss y) = true) ∨ ∀ a, leafFlat (o a) = true) (h : ∀ y, FQ (sem (ds y)) (mo y) o) : RQ0 (callF sem n ga ρ) (mas.bind mo) (rO o) := by
  cases mas with
  | ok y => exact rq_callF0_z ha (hn y) (hd y) (hv.imp (fun h => h y) id) (h y)
  | ex c =>
    have ha : ga ρ = .ex c := ha
    show callF sem n ga ρ = .ex c
    unfold callF
    rw [ha]
  | bad => trivial
/-- displays -/
theorem pq_lst {os : List O} (ha : ga ρ = .ok as) (ho : owAll as = some os) (hl : okLen os.length = true) : lstE ga ρ = .ok (.ow (.lst os)) := by
  unfold lstE
  rw [ha]
  show (match owAll as with | some os => if okLen os.length then Rs.ok (.ow (.lst os)) else .bad | none => .bad) = _
  rw [ho]
  exact if_pos hl
theorem rq_lst_z {os : β → List O} {mo : β → γ} {s : γ → O} (ha : AQ0 (ga ρ) mas ss) (ho : ∀ y, owAll (ss y) = some (os y)) (hl : ∀ y, okLen (os y).length = true) (hs : ∀ y, s (mo y) = .lst (os y)) : RQ0 (lstE ga ρ) (mas.bind fun y => .ok (mo y)) (rO s) := by
  cases mas with
  | ok y =>
    show lstE ga ρ = .ok (.ow (s (mo y)))
    rw [hs]
    exact pq_lst ha (ho y) (hl y)
  | ex c =>
    have ha : ga ρ = .ex c := ha
    show lstE ga ρ = .ex c
    unfold lstE
    rw [ha]
  | bad => trivial
theorem pq_tupF {os : List O} {ds : List D} (ha : ga ρ = .ok as) (ho : owAll as = some os) (hl : okLen os.length = true) (hz : allFz os = some ds) : tupE ga ρ = .ok (.ow (.fz (.tup ds))) := by
  unfold tupE
  rw [ha]
  show (match owAll as with | some os => if okLen os.length then (match allFz os with | some ds => Rs.ok (.ow (.fz (.tup ds))) | none => .ok (.ow (.tup os))) else .bad | none => .bad) = _
  rw [ho]
  show (if okLen os.length then (match allFz os with | some ds => Rs.ok (.ow (.fz (.tup ds))) | none => .ok (.ow (.tup os))) else .bad) = _
  rw [if_pos hl, hz]
theorem pq_tupO {os : List O} (ha : ga ρ = .ok as) (ho : owAll as = some os) (hl : okLen os.length = true) (hz : allFz os = none) : tupE ga ρ = .ok (.ow (.tup os)) := by
  unfold tupE
  rw [ha]
  show (match owAll as with | some os => if okLen os.length then (match allFz os with | some ds => Rs.ok (.ow (.fz (.tup ds))) | none => .ok (.ow (.tup os))) else .bad | none => .bad) = _
  rw [ho]
  show (if okLen os.length then (match allFz os with | some ds => Rs.ok (.ow (.fz (.tup ds))) | none => .ok (.ow (.tup os))) else .bad) = _
  rw [if_pos hl, hz]
theorem rq_tup_z {mo : β → γ} {s : γ → O} (ha : AQ0 (ga ρ) mas ss) (h : ∀ y, ga ρ = .ok (ss y) → tupE ga ρ = .ok (.ow (s (mo y)))) : RQ0 (tupE ga ρ) (mas.bind fun y => .ok (mo y)) (rO s) := by
  cases mas with
  | ok y => exact h y ha
  | ex c =>
    have ha : ga ρ = .ex c := ha
    show tupE ga ρ = .ex c
    unfold tupE
    rw [ha]
  | bad => trivial
/-! ### tests -/
variable {p q : Bool} {t1 t2 : DT} {mp mq : M Bool}
theorem tq_p (h : fa ρ = .ok (dB p)) : testE fa ρ = .ok p := by
  unfold testE
  rw [h]; rfl
theorem tq_m_z (h : RQ0 (fa ρ) mp (rO (oF eB))) : TQ0 (testE fa ρ) mp := by
  cases mp with
  | ok b => exact tq_p h
  | ex c =>
    have h : fa ρ = .ex c := h
    show testE fa ρ = .ex c
    unfold testE
    rw [h]; rfl
  | bad => trivial
theorem tq_of_z {r : Rb} (h : r = .ok p) : TQ0 r (.ok p) := h
theorem tq_not_p (h : t1 ρ = .ok p) : notT t1 ρ = .ok (!p) := by
  unfold notT
  rw [h]
theorem tq_not_m_z (h : TQ0 (t1 ρ) mp) : TQ0 (notT t1 ρ) (mp.bind fun b => .ok (!b)) := by
  cases mp with
  | ok b => exact tq_not_p h
  | ex c =>
    have h : t1 ρ = .ex c := h
    show notT t1 ρ = .ex c
    unfold notT
    rw [h]
  | bad => trivial
theorem tq_and_pp (h : t1 ρ = .ok p) (h2 : t2 ρ = .ok q) : andT t1 t2 ρ = .ok (p && q) := by
  unfold andT
  rw [h]
  cases p
  · rfl
  · exact h2
theorem tq_or_pp (h : t1 ρ = .ok p) (h2 : t2 ρ = .ok q) : orT t1 t2 ρ = .ok (p || q) := by
  unfold orT
  rw [h]
  cases p
  · exact h2
  · rfl
theorem tq_and_pm_z (h : t1 ρ = .ok p) (h2 : TQ0 (t2 ρ) mq) : TQ0 (andT t1 t2 ρ) (if p then mq else .ok false) := by
  cases p with
  | false =>
    show andT t1 t2 ρ = .ok false
    unfold andT; rw [h]
  | true =>
    have : andT t1 t2 ρ = t2 ρ := by unfold andT; rw [h]
    rw [if_pos rfl, this]; exact h2
theorem tq_or_pm_z (h : t1 ρ = .ok p) (h2 : TQ0 (t2 ρ) mq) : TQ0 (orT t1 t2 ρ) (if p then .ok true else mq) := by
  cases p with
  | true =>
    show orT t1 t2 ρ = .ok true
    unfold orT; rw [h]
  | false =>
    have : orT t1 t2 ρ = t2 ρ := by unfold orT; rw [h]
    rw [if_neg (by decide), this]; exact h2
theorem tq_and_mm_z (h : TQ0 (t1 ρ) mp) (h2 : TQ0 (t2 ρ) mq) : TQ0 (andT t1 t2 ρ) (mp.bind fun p => if p then mq else .ok false) := by
  cases mp with
  | ok p => exact tq_and_pm_z h h2
  | ex c =>
    have h : t1 ρ = .ex c := h
    show andT t1 t2 ρ = .ex c
    unfold andT; rw [h]
  | bad => trivial
theorem tq_or_mm_z (h : TQ0 (t1 ρ) mp) (h2 : TQ0 (t2 ρ) mq) : TQ0 (orT t1 t2 ρ) (mp.bind fun p => if p then .ok true else mq) := by
  cases mp with
  | ok p => exact tq_or_pm_z h h2
  | ex c =>
    have h : t1 ρ = .ex c := h
    show orT t1 t2 ρ = .ex c
    unfold orT; rw [h]
  | bad => trivial
/-- values that are truths: by the tests -/
theorem notV_eq {fa : DE} : notV fa ρ = (match notT (testE fa) ρ with | .ok b => okB b | .ex c => .ex c | .bad => .bad) := by
  unfold notV notT testE Rs.bind
  cases fa ρ with
  | ok a =>
    cases a with
    | vw o => rfl
    | ow o => cases o with
      | fz d => cases d <;> rfl
      | _ => rfl
  | _ => rfl
theorem vq_not_z {mo : M Bool} (h : TQ0 (notT (testE fa) ρ) mo) : RQ0 (notV fa ρ) mo (rO (oF eB)) := by
  rw [notV_eq]
  cases mo with
  | ok b => have h : _ = _ := h; show _ = _; rw [h]; rfl
  | ex c => have h : _ = _ := h; show _ = _; rw [h]
  | bad => trivial
theorem test_ok {r : Rs} {b : Bool} (h : r.test = .ok b) : r = okB b := by
  cases r with
  | ok a =>
    cases a with
    | vw o => cases h
    | ow o => cases o with
      | fz d => cases d with
        | bl k => cases h; rfl
        | _ => cases h
      | _ => cases h
  | ex c => cases h
  | bad => cases h
theorem test_ex {r : Rs} {c : Str} (h : r.test = .ex c) : r = .ex c := by
  cases r with
  | ok a =>
    cases a with
    | vw o => cases h
    | ow o => cases o with
      | fz d => cases d with
        | bl k => cases h
        | _ => cases h
      | _ => cases h
  | ex k => cases h; rfl
  | bad => cases h
theorem vq_and_z {mo : M Bool} (h : TQ0 (andT (testE fa) (testE fb) ρ) mo) : RQ0 (andV fa fb ρ) mo (rO (oF eB)) := by
  unfold andT at h
  cases q : testE fa ρ with
  | bad =>
    rw [q] at h
    cases mo with
    | ok b => have h : Rb.bad = _ := h; cases h
    | ex c => have h : Rb.bad = _ := h; cases h
    | bad => trivial
  | ex c =>
    rw [q] at h
    have e := test_ex q
    have : andV fa fb ρ = .ex c := by unfold andV Rs.bind; rw [e]
    rw [this]
    cases mo with
    | ok b => have h : Rb.ex c = _ := h; cases h
    | ex k => have h : Rb.ex c = .ex k := h; cases h; rfl
    | bad => trivial
  | ok k =>
    rw [q] at h
    have e := test_ok q
    cases k with
    | false =>
      have : andV fa fb ρ = okB false := by unfold andV Rs.bind; rw [e]
      rw [this]
      cases mo with
      | ok b => have h : Rb.ok false = .ok b := h; cases h; rfl
      | ex k => have h : Rb.ok false = .ex k := h; cases h
      | bad => trivial
    | true =>
      have : andV fa fb ρ = fb ρ := by unfold andV Rs.bind; rw [e]
      rw [this]
      cases mo with
      | ok b => exact test_ok h
      | ex k => exact test_ex h
      | bad => trivial
theorem vq_or_z {mo : M Bool} (h : TQ0 (orT (testE fa) (testE fb) ρ) mo) : RQ0 (orV fa fb ρ) mo (rO (oF eB)) := by
  unfold orT at h
  cases q : testE fa ρ with
  | bad =>
    rw [q] at h
    cases mo with
    | ok b => have h : Rb.bad = _ := h; cases h
    | ex c => have h : Rb.bad = _ := h; cases h
    | bad => trivial
  | ex c =>
    rw [q] at h
    have e := test_ex q
    have : orV fa fb ρ = .ex c := by unfold orV Rs.bind; rw [e]
    rw [this]
    cases mo with
    | ok b => have h : Rb.ex c = _ := h; cases h
    | ex k => have h : Rb.ex c = .ex k := h; cases h; rfl
    | bad => trivial
  | ok k =>
    rw [q] at h
    have e := test_ok q
    cases k with
    | true =>
      have : orV fa fb ρ = okB true := by unfold orV Rs.bind; rw [e]
      rw [this]
      cases mo with
      | ok b => have h : Rb.ok true = .ok b := h; cases h; rfl
      | ex k => have h : Rb.ok true = .ex k := h; cases h
      | bad => trivial
    | false =>
      have : orV fa fb ρ = fb ρ := by unfold orV Rs.bind; rw [e]
      rw [this]
      cases mo with
      | ok b => exact test_ok h
      | ex k => exact test_ex h
      | bad => trivial
/-- if else -/
theorem rq_ife_p_z {m2 : M γ} {t : DT} (h : t ρ = .ok p) (ha : RQ0 (fa ρ) m s) (hb : RQ0 (fb ρ) m2 s) : RQ0 (ifE t fa fb ρ) (if p then m else m2) s := by
  unfold ifE
  rw [h]
  cases p
  · exact hb
  · exact ha
theorem rq_ife_m_z {m2 : M γ} {t : DT} (h : TQ0 (t ρ) mp) (ha : RQ0 (fa ρ) m s) (hb : RQ0 (fb ρ) m2 s) : RQ0 (ifE t fa fb ρ) (mp.bind fun p => if p then m else m2) s := by
  cases mp with
  | ok p => exact rq_ife_p_z h ha hb
  | ex c =>
    have h : t ρ = .ex c := h
    show ifE t fa fb ρ = .ex c
    unfold ifE; rw [h]
  | bad => trivial
/-- chains: both comparisons give truths -/
theorem rq_chain {g1 g2 : Ar → Ar → Rs} {z w : Ar} {p q : Bool} (ha : fa ρ = .ok a) (hb : fb ρ = .ok b) (hc : fc ρ = .ok z) (h1 : g1 a b = okB p) (h2 : g2 b z = okB q) : chainE g1 g2 fa fb fc ρ = okB (p && q) := by
  unfold chainE Rs.bind
  rw [ha, hb]
  show (match g1 a b with | .ok a => _ | .ex c => _ | .bad => _) = _
  rw [h1]
  cases p with
  | false => rfl
  | true =>
    show (match fc ρ with | .ok a => _ | .ex c => _ | .bad => _) = _
    rw [hc]
    exact h2
theorem rq_chain_m_z {δ : Type} {g1 g2 : Ar → Ar → Rs} {mc : M δ} {sc : δ → Ar} {p : α → β → Bool} {q : β → δ → Bool} (ha : RQ0 (fa ρ) ma sa) (hb : RQ0 (fb ρ) mb sb) (hc : RQ0 (fc ρ) mc sc) (h1 : ∀ x y, g1 (sa x) (sb y) = okB (p x y)) (h2 : ∀ y z, g2 (sb y) (sc z) = okB (q y z)) :
    RQ0 (chainE g1 g2 fa fb fc ρ) (ma.bind fun x => mb.bind fun y => if p x y then mc.bind fun z => .ok (q y z) else .ok false) (rO (oF eB)) := by
  cases ma with
  | bad => trivial
  | ex c =>
    have ha : fa ρ = .ex c := ha
    show chainE g1 g2 fa fb fc ρ = .ex c
    unfold chainE Rs.bind; rw [ha]
  | ok x =>
    have ha : fa ρ = .ok (sa x) := ha
    cases mb with
    | bad => trivial
    | ex c =>
      have hb : fb ρ = .ex c := hb
      show chainE g1 g2 fa fb fc ρ = .ex c
      unfold chainE Rs.bind; rw [ha, hb]
    | ok y =>
      have hb : fb ρ = .ok (sb y) := hb
      have e : chainE g1 g2 fa fb fc ρ = (if p x y then (match fc ρ with | .ok w => g2 (sb y) w | .ex c => .ex c | .bad => .bad) else okB false) := by
        unfold chainE Rs.bind
        rw [ha, hb]
        show (match g1 (sa x) (sb y) with | .ok a => _ | .ex c => _ | .bad => _) = _
        rw [h1]
        cases p x y <;> rfl
      rw [e]
      show RQ0 _ (if p x y then _ else _) _
      cases p x y with
      | false => rfl
      | true =>
        rw [if_pos rfl, if_pos rfl]
        cases mc with
        | ok z =>
          have hc : fc ρ = .ok (sc z) := hc
          rw [hc]
          exact h2 y z
        | ex c =>
          have hc : fc ρ = .ex c := hc
          rw [hc]
          rfl
        | bad => trivial
end
end DL

namespace DL
open PySem PySem.Spec L2
/-! ### ghosts -/
inductive Gh where
  | fgt (i : Nat) | frz (i : Nat)
@[simp] def gh : List Gh → Rho → Rho
  | [], ρ => ρ
  | .fgt i :: l, ρ => gh l (ρ.set i none)
  | .frz i :: l, ρ => gh l (frz i ρ)
def ghS (l : List Gh) (f : DS) : DS := fun ρ => f (gh l ρ)
theorem gss_gh {X : Cx} {W : WX} {sts : List Stmt} {f : DS} (l : List Gh) (h : GSs X W sts f) : GSs X W sts (ghS l f) := by
  induction l with
  | nil => exact h
  | cons x l ih => cases x with
    | fgt i => exact gss_fgt [i] ih
    | frz i => exact gss_frz i ih
theorem gh_n {ρ : Rho} : gh [] ρ = ρ := rfl
theorem gh_f {i : Nat} {l : List Gh} {ρ ρ' : Rho} (h : gh l (ρ.set i none) = ρ') : gh (.fgt i :: l) ρ = ρ' := h
theorem gh_z {α : Type} {s : α → O} {e : α → D} [t : ToD s e] {x : α} {i : Nat} {l : List Gh} {ρ ρ' : Rho} (hi : ρ[i]? = some (some (s x))) (h : gh l (ρ.set i (some (.fz (e x)))) = ρ') : gh (.frz i :: l) ρ = ρ' := by
  show gh l (frz i ρ) = ρ'
  have : frz i ρ = ρ.set i (some (.fz (e x))) := by
    unfold frz
    rw [hi]
    show ρ.set i (some (.fz (s x).toD)) = _
    rw [ToD.td (s := s)]
  rw [this]; exact h
/-! ### statements -/
def Sim0 {γ : Type} (r : SR) (m : M γ) (P : γ → SR → Prop) : Prop := match m with
  | .ok a => P a r
  | .ex c => ∃ ρ, r = .ex c ρ
  | .bad => True
def Tp {γ : Type} (so : γ → O) : γ → SR → Prop := fun a r => r = .rt (so a) ∨ (so a = .fz .non ∧ ∃ ρ, r = .nx ρ)
def Np {β : Type} (up : β → Rho) : β → SR → Prop := fun b r => r = .nx (up b)
def Jp {β : Type} (l : List Gh) (up : β → Rho) : β → SR → Prop := fun b r => ∃ ρ, r = .nx ρ ∧ gh l ρ = up b
def Lp {β : Type} (is : List Nat) (up : β → Rho) : β → SR → Prop := fun b r => ∃ ρ, (r = .nx ρ ∨ r = .ct ρ) ∧ forget is ρ = up b
def Ep {γ : Type} (P : γ → SR → Prop) : γ → SR → Prop := fun a r => (∃ o, r = .rt o) ∧ P a r
def Fp {β γ : Type} (N : β → SR → Prop) (P : γ → SR → Prop) : Fl β γ → SR → Prop := fun c r => match c with
  | .nx b => N b r
  | .rt a => Ep P a r
section
variable {α β γ δ : Type} {ρ ρ' ρ1 ρ2 : Rho} {f g R A B K : DS} {l : List Gh} {m : M α} {mR : α → M γ} {P : γ → SR → Prop} {upd up : α → Rho} {mA mB : M γ}
theorem Sim.of_z {r : SR} {a : γ} (h : P a r) : Sim0 r (.ok a) P := h
theorem sim_end_z {b : γ} (h : P b (.nx ρ)) : Sim0 (nilS ρ) (.ok b) P := h
theorem sim_gend_z {b : γ} (h : P b (.nx (gh l ρ))) : Sim0 (ghS l nilS ρ) (.ok b) P := h
theorem sim_gh_z {m : M γ} (h : gh l ρ = ρ1) (k : Sim0 (R ρ1) m P) : Sim0 (ghS l R ρ) m P := by
  show Sim0 (R (gh l ρ)) m P
  rw [h]; exact k
theorem sim_s_z (hf : Sim0 (f ρ) m (Np upd)) (hu : ∀ a, gh l (upd a) = up a) (hR : ∀ a, Sim0 (R (up a)) (mR a) P) : Sim0 (seqS f (ghS l R) ρ) (m.bind mR) P := by
  cases m with
  | ok a =>
    have hf : f ρ = .nx (upd a) := hf
    have : seqS f (ghS l R) ρ = R (up a) := by
      unfold seqS ghS
      rw [hf]
      show R (gh l (upd a)) = _
      rw [hu]
    show Sim0 (seqS f (ghS l R) ρ) (mR a) P
    rw [this]; exact hR a
  | ex c =>
    obtain ⟨ρ', hf⟩ := hf
    refine ⟨ρ', ?_⟩
    unfold seqS
    rw [hf]
  | bad => trivial
theorem sim_l_z {x : α} (hf : f ρ = .nx (upd x)) (hu : ∀ a, gh l (upd a) = up a) (hR : ∀ a, Sim0 (R (up a)) (mR a) P) : Sim0 (seqS f (ghS l R) ρ) (lt x mR) P := sim_s_z (m := .ok x) hf hu hR
theorem sim_p_z {m : M γ} (hf : f ρ = .nx ρ1) (hu : gh l ρ1 = ρ2) (hR : Sim0 (R ρ2) m P) : Sim0 (seqS f (ghS l R) ρ) m P := by
  have : seqS f (ghS l R) ρ = R ρ2 := by
    unfold seqS ghS
    rw [hf]
    show R (gh l ρ1) = _
    rw [hu]
  rw [this]; exact hR
theorem sim_j_z (hf : Sim0 (f ρ) m (Jp l up)) (hR : ∀ a, Sim0 (R (up a)) (mR a) P) : Sim0 (seqS f (ghS l R) ρ) (m.bind mR) P := by
  cases m with
  | ok a =>
    obtain ⟨ρ', hf, hu⟩ := hf
    have : seqS f (ghS l R) ρ = R (up a) := by
      unfold seqS ghS
      rw [hf]
      show R (gh l ρ') = _
      rw [hu]
    show Sim0 (seqS f (ghS l R) ρ) (mR a) P
    rw [this]; exact hR a
  | ex c =>
    obtain ⟨ρ', hf⟩ := hf
    refine ⟨ρ', ?_⟩
    unfold seqS
    rw [hf]
  | bad => trivial
theorem Ep.seq {a : γ} {r : SR} (h : Ep P a r) (e : f ρ = r) : P a (seqS f g ρ) := by
  obtain ⟨⟨o, rfl⟩, h⟩ := h
  have : seqS f g ρ = .rt o := by unfold seqS; rw [e]
  rw [this]; exact h
theorem sim_jF_z {m : M (Fl α γ)} (hf : Sim0 (f ρ) m (Fp (Jp l up) P)) (hR : ∀ a, Sim0 (R (up a)) (mR a) P) : Sim0 (seqS f (ghS l R) ρ) (m.fl mR) P := by
  cases m with
  | ok c => cases c with
    | nx a => exact sim_j_z (m := .ok a) hf hR
    | rt a => exact Ep.seq (g := ghS l R) hf rfl
  | ex c =>
    obtain ⟨ρ', hf⟩ := hf
    refine ⟨ρ', ?_⟩
    unfold seqS
    rw [hf]
  | bad => trivial
theorem sim_sF_z {m : M (Fl α γ)} (hf : Sim0 (f ρ) m (Fp (Np upd) P)) (hu : ∀ a, gh l (upd a) = up a) (hR : ∀ a, Sim0 (R (up a)) (mR a) P) : Sim0 (seqS f (ghS l R) ρ) (m.fl mR) P := by
  cases m with
  | ok c => cases c with
    | nx a => exact sim_s_z (m := .ok a) hf hu hR
    | rt a => exact Ep.seq (g := ghS l R) hf rfl
  | ex c =>
    obtain ⟨ρ', hf⟩ := hf
    refine ⟨ρ', ?_⟩
    unfold seqS
    rw [hf]
  | bad => trivial
theorem sim_seq_end_z {m : M γ} (h : Sim0 (f ρ) m (Ep P)) : Sim0 (seqS f g ρ) m P := by
  cases m with
  | ok a => exact Ep.seq h rfl
  | ex c =>
    obtain ⟨ρ', hf⟩ := h
    refine ⟨ρ', ?_⟩
    unfold seqS
    rw [hf]
  | bad => trivial
theorem sim_nil_z {m : M γ} (h : Sim0 (g ρ) m P) : Sim0 (seqS nilS g ρ) m P := h
/-! ### small statements -/
variable {i : Nat} {fe : DE} {s : α → O} {o : O}
theorem set_p (h : fe ρ = .ok (.ow o)) (hi : decide (i < ρ.length) = true := by rfl) : setS i fe ρ = .nx (ρ.set i (some o)) := by
  unfold setS
  rw [h]
  exact if_pos (of_decide_eq_true hi)
theorem set_m_z (h : RQ0 (fe ρ) m (rO s)) (hi : decide (i < ρ.length) = true := by rfl) : Sim0 (setS i fe ρ) m (Np fun a => ρ.set i (some (s a))) := by
  cases m with
  | ok a => exact set_p h hi
  | ex c =>
    have h : fe ρ = .ex c := h
    exact ⟨ρ, by unfold setS; rw [h]⟩
  | bad => trivial
theorem unp_p {b : DB} {e : α → D} [ToD s e] {x : α} (h : fe ρ = .ok (.ow (s x))) (hb : b (e x) ρ = some ρ1) : unpS fe b ρ = .nx ρ1 := by
  unfold unpS
  rw [h]
  show (match b (s x).toD ρ with | some ρ' => SR.nx ρ' | none => .bad) = _
  rw [ToD.td (s := s), hb]
theorem unp_m_z {b : DB} {e : α → D} [ToD s e] (h : RQ0 (fe ρ) m (rO s)) (hb : ∀ a, b (e a) ρ = some (upd a)) : Sim0 (unpS fe b ρ) m (Np upd) := by
  cases m with
  | ok a => exact unp_p (s := s) h (hb a)
  | ex c =>
    have h : fe ρ = .ex c := h
    exact ⟨ρ, by unfold unpS; rw [h]⟩
  | bad => trivial
theorem expr_m_z {sa : α → Ar} (h : RQ0 (fe ρ) m sa) : Sim0 (exprS fe ρ) m (Np fun _ => ρ) := by
  cases m with
  | ok a =>
    have h : fe ρ = .ok (sa a) := h
    show exprS fe ρ = .nx ρ
    unfold exprS
    rw [h]
  | ex c =>
    have h : fe ρ = .ex c := h
    exact ⟨ρ, by unfold exprS; rw [h]⟩
  | bad => trivial
variable {c : DT} {p : Bool} {mc : M Bool}
theorem sim_if_p_z (h : c ρ = .ok p) (hA : Sim0 (A ρ) mA P) (hB : Sim0 (B ρ) mB P) : Sim0 (ifS c A B ρ) (if p then mA else mB) P := by
  unfold ifS
  rw [h]
  cases p
  · exact hB
  · exact hA
theorem sim_if_m_z (h : TQ0 (c ρ) mc) (hA : Sim0 (A ρ) mA P) (hB : Sim0 (B ρ) mB P) : Sim0 (ifS c A B ρ) (mc.bind fun p => if p then mA else mB) P := by
  cases mc with
  | ok p => exact sim_if_p_z h hA hB
  | ex k =>
    have h : c ρ = .ex k := h
    exact ⟨ρ, by unfold ifS; rw [h]⟩
  | bad => trivial
theorem seq_if : seqS (ifS c A B) K ρ = ifS c (seqS A K) (seqS B K) ρ := by
  unfold seqS ifS
  cases c ρ with
  | ok b => cases b <;> rfl
  | _ => rfl
theorem sim_ifK_p_z (h : c ρ = .ok p) (hA : Sim0 (seqS A K ρ) mA P) (hB : Sim0 (seqS B K ρ) mB P) : Sim0 (seqS (ifS c A B) K ρ) (if p then mA else mB) P := by
  rw [seq_if]; exact sim_if_p_z h hA hB
theorem sim_ifK_m_z (h : TQ0 (c ρ) mc) (hA : Sim0 (seqS A K ρ) mA P) (hB : Sim0 (seqS B K ρ) mB P) : Sim0 (seqS (ifS c A B) K ρ) (mc.bind fun p => if p then mA else mB) P := by
  rw [seq_if]; exact sim_if_m_z h hA hB
/-- by None or not -/
theorem sim_optN_z {mB : δ → M γ} {x : Option δ} (ρf : Option δ → Rho) (h : ∀ x, c (ρf x) = .ok x.isNone) (hA : Sim0 (A (ρf none)) mA P) (hB : ∀ y, Sim0 (B (ρf (some y))) (mB y) P) : Sim0 (ifS c A B (ρf x)) (optC x mA mB) P := by
  cases x with
  | none =>
    have := h none
    unfold ifS
    rw [this]
    exact hA
  | some y =>
    have := h (some y)
    unfold ifS
    rw [this]
    exact hB y
theorem sim_optS_z {mA : δ → M γ} {mB : M γ} {x : Option δ} (ρf : Option δ → Rho) (h : ∀ x, c (ρf x) = .ok (!x.isNone)) (hA : ∀ y, Sim0 (A (ρf (some y))) (mA y) P) (hB : Sim0 (B (ρf none)) mB P) : Sim0 (ifS c A B (ρf x)) (optC x mB mA) P := by
  cases x with
  | none =>
    have := h none
    unfold ifS
    rw [this]
    exact hB
  | some y =>
    have := h (some y)
    unfold ifS
    rw [this]
    exact hA y
theorem sim_optKN_z {mB : δ → M γ} {x : Option δ} (ρf : Option δ → Rho) (h : ∀ x, c (ρf x) = .ok x.isNone) (hA : Sim0 (seqS A K (ρf none)) mA P) (hB : ∀ y, Sim0 (seqS B K (ρf (some y))) (mB y) P) : Sim0 (seqS (ifS c A B) K (ρf x)) (optC x mA mB) P := by
  rw [seq_if]; exact sim_optN_z ρf h hA hB
theorem sim_optKS_z {mA : δ → M γ} {mB : M γ} {x : Option δ} (ρf : Option δ → Rho) (h : ∀ x, c (ρf x) = .ok (!x.isNone)) (hA : ∀ y, Sim0 (seqS A K (ρf (some y))) (mA y) P) (hB : Sim0 (seqS B K (ρf none)) mB P) : Sim0 (seqS (ifS c A B) K (ρf x)) (optC x mB mA) P := by
  rw [seq_if]; exact sim_optS_z ρf h hA hB
/-! ### values that are moved -/
theorem vq_ow_z {fe : DE} (h : RQ0 (fe ρ) m (rO s)) : VQ0 (owV fe ρ) m s ρ := by
  cases m with
  | ok a =>
    have h : fe ρ = .ok (.ow (s a)) := h
    show owV fe ρ = .ok (s a) ρ
    unfold owV
    rw [h]
  | ex c =>
    have h : fe ρ = .ex c := h
    show owV fe ρ = .ex c
    unfold owV
    rw [h]
  | bad => trivial
theorem vp_ow {fe : DE} (h : fe ρ = .ok (.ow o)) : owV fe ρ = .ok o ρ := by
  unfold owV
  rw [h]
theorem vp_mvF {d : D} (h : ρ[i]? = some (some (.fz d))) : mvV i ρ = .ok (.fz d) ρ := by
  unfold mvV
  rw [h]
theorem vp_mvL {os : List O} (h : ρ[i]? = some (some (.lst os))) : mvV i ρ = .ok (.lst os) (ρ.set i none) := by
  unfold mvV
  rw [h]
theorem vp_mvT {os : List O} (h : ρ[i]? = some (some (.tup os))) : mvV i ρ = .ok (.tup os) (ρ.set i none) := by
  unfold mvV
  rw [h]
theorem vp_mvK {ks : List Key} {ds : List D} (h : ρ[i]? = some (some (.dK ks ds))) : mvV i ρ = .ok (.dK ks ds) (ρ.set i none) := by
  unfold mvV
  rw [h]
theorem vp_mvTd {ks : List (List Key)} {ds : List D} (h : ρ[i]? = some (some (.dT ks ds))) : mvV i ρ = .ok (.dT ks ds) (ρ.set i none) := by
  unfold mvV
  rw [h]
theorem mv_ex (h : ρ[i]? = some (some o)) : ∃ ρ', mvV i ρ = .ok o ρ' := by
  unfold mvV
  rw [h]
  cases o <;> exact ⟨_, rfl⟩
variable {fv : DV} {gv : DVs} {os : List O} {ss : β → List O} {ms : M β}
theorem vs_nil : nilV ρ = .ok [] ρ := rfl
theorem vs_pp (hf : fv ρ = .ok o ρ1) (hg : gv ρ1 = .ok os ρ2) : consV fv gv ρ = .ok (o :: os) ρ2 := by
  unfold consV
  rw [hf]
  show (match gv ρ1 with | .ok os ρ2 => Rvs.ok (o :: os) ρ2 | .ex c => .ex c | .bad => .bad) = _
  rw [hg]
theorem vs_mp_z (hf : VQ0 (fv ρ) m s ρ1) (hg : gv ρ1 = .ok os ρ2) : VsQ0 (consV fv gv ρ) m (fun a => s a :: os) ρ2 := by
  cases m with
  | ok a => exact vs_pp hf hg
  | ex c =>
    have hf : fv ρ = .ex c := hf
    show consV fv gv ρ = .ex c
    unfold consV
    rw [hf]
  | bad => trivial
theorem vs_pm_z (hf : fv ρ = .ok o ρ1) (hg : VsQ0 (gv ρ1) ms ss ρ2) : VsQ0 (consV fv gv ρ) ms (fun b => o :: ss b) ρ2 := by
  cases ms with
  | ok b => exact vs_pp hf hg
  | ex c =>
    have hg : gv ρ1 = .ex c := hg
    show consV fv gv ρ = .ex c
    unfold consV
    rw [hf]
    show (match gv ρ1 with | .ok os ρ2 => Rvs.ok (o :: os) ρ2 | .ex c => .ex c | .bad => .bad) = _
    rw [hg]
  | bad => trivial
theorem vs_mm_z (hf : VQ0 (fv ρ) m s ρ1) (hg : VsQ0 (gv ρ1) ms ss ρ2) : VsQ0 (consV fv gv ρ) (m.bind fun a => ms.bind fun b => .ok (a, b)) (fun p => s p.1 :: ss p.2) ρ2 := by
  cases m with
  | ok a =>
    have t := vs_pm_z (gv := gv) (show fv ρ = .ok (s a) ρ1 from hf) hg
    cases ms with
    | ok b => exact t
    | ex c => exact t
    | bad => trivial
  | ex c =>
    have hf : fv ρ = .ex c := hf
    show consV fv gv ρ = .ex c
    unfold consV
    rw [hf]
  | bad => trivial
theorem vp_tup (h : gv ρ = .ok os ρ1) (hl : okLen os.length = true) : tupV gv ρ = .ok (.tup os) ρ1 := by
  unfold tupV
  rw [h]
  exact if_pos hl
theorem vp_lst (h : gv ρ = .ok os ρ1) (hl : okLen os.length = true) : lstV gv ρ = .ok (.lst os) ρ1 := by
  unfold lstV
  rw [h]
  exact if_pos hl
theorem vm_tup_z {mo : β → α} (h : VsQ0 (gv ρ) ms ss ρ1) (hl : ∀ y, okLen (ss y).length = true) (hs : ∀ y, s (mo y) = .tup (ss y)) : VQ0 (tupV gv ρ) (ms.bind fun y => .ok (mo y)) s ρ1 := by
  cases ms with
  | ok y =>
    show tupV gv ρ = .ok (s (mo y)) ρ1
    rw [hs]
    exact vp_tup h (hl y)
  | ex c =>
    have h : gv ρ = .ex c := h
    show tupV gv ρ = .ex c
    unfold tupV
    rw [h]
  | bad => trivial
theorem vm_lst_z {mo : β → α} (h : VsQ0 (gv ρ) ms ss ρ1) (hl : ∀ y, okLen (ss y).length = true) (hs : ∀ y, s (mo y) = .lst (ss y)) : VQ0 (lstV gv ρ) (ms.bind fun y => .ok (mo y)) s ρ1 := by
  cases ms with
  | ok y =>
    show lstV gv ρ = .ok (s (mo y)) ρ1
    rw [hs]
    exact vp_lst h (hl y)
  | ex c =>
    have h : gv ρ = .ex c := h
    show lstV gv ρ = .ex c
    unfold lstV
    rw [h]
  | bad => trivial
theorem sim_ret_z {so : α → O} {inj : α → γ} (h : VQ0 (fv ρ) m so ρ1) (hP : ∀ a, P (inj a) (.rt (so a))) : Sim0 (retS fv ρ) (m.bind fun a => .ok (inj a)) P := by
  cases m with
  | ok a =>
    have h : fv ρ = .ok (so a) ρ1 := h
    have : retS fv ρ = .rt (so a) := by unfold retS; rw [h]
    show Sim0 (retS fv ρ) (.ok (inj a)) P
    rw [this]; exact hP a
  | ex c =>
    have h : fv ρ = .ex c := h
    exact ⟨ρ, by unfold retS; rw [h]⟩
  | bad => trivial
theorem sim_ret_id_z {so : γ → O} {m : M γ} (h : VQ0 (fv ρ) m so ρ1) (hP : ∀ a, P a (.rt (so a))) : Sim0 (retS fv ρ) m P := by
  cases m with
  | ok a =>
    have h : fv ρ = .ok (so a) ρ1 := h
    have : retS fv ρ = .rt (so a) := by unfold retS; rw [h]
    rw [this]; exact hP a
  | ex c =>
    have h : fv ρ = .ex c := h
    exact ⟨ρ, by unfold retS; rw [h]⟩
  | bad => trivial
theorem sim_ret_p_z {b : γ} (h : fv ρ = .ok o ρ1) (hP : P b (.rt o)) : Sim0 (retS fv ρ) (.ok b) P := by
  have : retS fv ρ = .rt o := by unfold retS; rw [h]
  rw [this]; exact hP
theorem sim_ret_v_z {b : γ} (h : ρ[i]? = some (some o)) (hP : P b (.rt o)) : Sim0 (retS (mvV i) ρ) (.ok b) P := by
  obtain ⟨ρ', e⟩ := mv_ex h
  exact sim_ret_p_z e hP
theorem sim_retN_z {b : γ} (hP : P b (.rt (.fz .non))) : Sim0 (retN ρ) (.ok b) P := hP
theorem sim_raise_z {k : Str} : Sim0 (raiseS k ρ) (.ex k : M γ) P := ⟨ρ, rfl⟩
/-! ### loops -/
variable {fi : DI} {e : α → D} {tb : DB} {is : List Nat} {mi : M (List α)}
theorem sim_turn_z {b : β} {upb : β → Rho} {m : M β} {d : D} (hb : tb d ρ = some ρ1) (hf : Sim0 (f ρ1) m (Lp is upb)) : Sim0 (turnS tb f is d ρ) m (Np upb) := by
  unfold turnS
  rw [hb]
  cases m with
  | ok a =>
    obtain ⟨ρ', h, e⟩ := hf
    show (match f ρ1 with | .nx ρ2 => SR.nx (forget is ρ2) | .ct ρ2 => .nx (forget is ρ2) | r => r) = .nx (upb a)
    rcases h with h | h
    · rw [h]; show SR.nx _ = _; rw [e]
    · rw [h]; show SR.nx _ = _; rw [e]
  | ex c =>
    obtain ⟨ρ', h⟩ := hf
    refine ⟨ρ', ?_⟩
    show (match f ρ1 with | .nx ρ2 => SR.nx (forget is ρ2) | .ct ρ2 => .nx (forget is ρ2) | r => r) = _
    rw [h]
  | bad => trivial
theorem sim_turnF_z {upb : β → Rho} {m : M (Fl β γ)} {d : D} (hb : tb d ρ = some ρ1) (hf : Sim0 (f ρ1) m (Fp (Lp is upb) P)) : Sim0 (turnS tb f is d ρ) m (Fp (Np upb) P) := by
  cases m with
  | ok c => cases c with
    | nx b => exact sim_turn_z (b := b) (m := .ok b) (upb := upb) hb hf
    | rt a =>
      obtain ⟨⟨o, h⟩, q⟩ := hf
      have : turnS tb f is d ρ = .rt o := by
        unfold turnS
        rw [hb]
        show (match f ρ1 with | .nx ρ2 => SR.nx (forget is ρ2) | .ct ρ2 => .nx (forget is ρ2) | r => r) = _
        rw [h]
      exact ⟨⟨o, this⟩, by rw [this, ← h]; exact q⟩
  | ex c =>
    obtain ⟨ρ', h⟩ := hf
    refine ⟨ρ', ?_⟩
    unfold turnS
    rw [hb]
    show (match f ρ1 with | .nx ρ2 => SR.nx (forget is ρ2) | .ct ρ2 => .nx (forget is ρ2) | r => r) = _
    rw [h]
  | bad => trivial
theorem sim_loop_z {t : D → DS} {upb : β → Rho} {step : α → β → M β} (h : ∀ x b, Sim0 (t (e x) (upb b)) (step x b) (Np upb)) : ∀ (xs : List α) (b : β), Sim0 (loopS t (xs.map e) (upb b)) (forM step xs b) (Np upb)
  | [], b => rfl
  | x :: xs, b => by
    have s := h x b
    unfold forM
    rw [List.map_cons]
    unfold loopS
    cases q : step x b with
    | ok b' =>
      rw [q] at s
      have s : t (e x) (upb b) = .nx (upb b') := s
      rw [s]
      exact sim_loop_z h xs b'
    | ex c =>
      rw [q] at s
      obtain ⟨ρ', s⟩ := s
      exact ⟨ρ', by rw [s]⟩
    | bad => trivial
theorem sim_loopF_z {t : D → DS} {upb : β → Rho} {step : α → β → M (Fl β γ)} (h : ∀ x b, Sim0 (t (e x) (upb b)) (step x b) (Fp (Np upb) P)) : ∀ (xs : List α) (b : β), Sim0 (loopS t (xs.map e) (upb b)) (forF step xs b) (Fp (Np upb) P)
  | [], b => rfl
  | x :: xs, b => by
    have s := h x b
    unfold forF
    rw [List.map_cons]
    unfold loopS
    cases q : step x b with
    | ok c =>
      rw [q] at s
      cases c with
      | nx b' =>
        have s : t (e x) (upb b) = .nx (upb b') := s
        rw [s]
        exact sim_loopF_z h xs b'
      | rt a =>
        obtain ⟨⟨o, s1⟩, s2⟩ := s
        rw [s1] at s2 ⊢
        exact ⟨⟨o, rfl⟩, s2⟩
    | ex c =>
      rw [q] at s
      obtain ⟨ρ', s⟩ := s
      exact ⟨ρ', by rw [s]⟩
    | bad => trivial
theorem sim_for_z {upb : β → Rho} {b0 : β} {step : α → β → M β} {upx : α → β → Rho} {xs : List α} (hi : IQ0 (fi ρ) (.ok xs) e) (h0 : upb b0 = ρ) (hb : ∀ x b, tb (e x) (upb b) = some (upx x b)) (hs : ∀ x b, Sim0 (f (upx x b)) (step x b) (Lp is upb)) : Sim0 (forS fi tb f is ρ) (forM step xs b0) (Np upb) := by
  have hi : fi ρ = .ok (xs.map e) := hi
  have : forS fi tb f is ρ = loopS (turnS tb f is) (xs.map e) (upb b0) := by unfold forS; rw [hi, h0]
  rw [this]
  exact sim_loop_z (fun x b => sim_turn_z (b := b) (hb x b) (hs x b)) xs b0
theorem sim_forF_z {upb : β → Rho} {b0 : β} {step : α → β → M (Fl β γ)} {upx : α → β → Rho} {xs : List α} (hi : IQ0 (fi ρ) (.ok xs) e) (h0 : upb b0 = ρ) (hb : ∀ x b, tb (e x) (upb b) = some (upx x b)) (hs : ∀ x b, Sim0 (f (upx x b)) (step x b) (Fp (Lp is upb) P)) : Sim0 (forS fi tb f is ρ) (forF step xs b0) (Fp (Np upb) P) := by
  have hi : fi ρ = .ok (xs.map e) := hi
  have : forS fi tb f is ρ = loopS (turnS tb f is) (xs.map e) (upb b0) := by unfold forS; rw [hi, h0]
  rw [this]
  exact sim_loopF_z (fun x b => sim_turnF_z (hb x b) (hs x b)) xs b0
theorem sim_forI_z {mo : List α → M γ} {Q : γ → SR → Prop} (hi : IQ0 (fi ρ) mi e) (h : ∀ xs, IQ0 (fi ρ) (.ok xs) e → Sim0 (forS fi tb f is ρ) (mo xs) Q) : Sim0 (forS fi tb f is ρ) (mi.bind mo) Q := by
  cases mi with
  | ok xs => exact h xs hi
  | ex c =>
    have hi : fi ρ = .ex c := hi
    exact ⟨ρ, by unfold forS; rw [hi]⟩
  | bad => trivial
theorem sim_body_z {upb : β → Rho} {m : M β} (hf : Sim0 (f ρ) m (Lp is upb)) : Sim0 (bodyS f is ρ) m (Np upb) := by
  unfold bodyS
  cases m with
  | ok a =>
    obtain ⟨ρ', h, e⟩ := hf
    show (match f ρ with | .nx ρ2 => SR.nx (forget is ρ2) | .ct ρ2 => .nx (forget is ρ2) | r => r) = .nx (upb a)
    rcases h with h | h
    · rw [h]; show SR.nx _ = _; rw [e]
    · rw [h]; show SR.nx _ = _; rw [e]
  | ex c =>
    obtain ⟨ρ', h⟩ := hf
    refine ⟨ρ', ?_⟩
    show (match f ρ with | .nx ρ2 => SR.nx (forget is ρ2) | .ct ρ2 => .nx (forget is ρ2) | r => r) = _
    rw [h]
  | bad => trivial
theorem sim_bodyF_z {upb : β → Rho} {m : M (Fl β γ)} (hf : Sim0 (f ρ) m (Fp (Lp is upb) P)) : Sim0 (bodyS f is ρ) m (Fp (Np upb) P) := by
  cases m with
  | ok c => cases c with
    | nx b => exact sim_body_z (m := .ok b) hf
    | rt a =>
      obtain ⟨⟨o, h⟩, q⟩ := hf
      have : bodyS f is ρ = .rt o := by unfold bodyS; rw [h]
      exact ⟨⟨o, this⟩, by rw [this, ← h]; exact q⟩
  | ex c =>
    obtain ⟨ρ', h⟩ := hf
    exact ⟨ρ', by unfold bodyS; rw [h]⟩
  | bad => trivial
theorem sim_while_z {upb : β → Rho} {step : β → M β} {mc : β → M Bool} (hc : ∀ b, TQ0 (c (upb b)) (mc b)) (hs : ∀ b, Sim0 (f (upb b)) (step b) (Lp is upb)) : ∀ (n : Nat) (b : β), Sim0 (whileL c (bodyS f is) n (upb b)) (whileM mc step n b) (Np upb)
  | 0, b => trivial
  | n + 1, b => by
    have h := hc b
    have s := sim_body_z (hs b)
    unfold whileM whileL
    cases q : mc b with
    | bad => trivial
    | ex k =>
      rw [q] at h
      have h : c (upb b) = .ex k := h
      exact ⟨upb b, by rw [h]⟩
    | ok z =>
      rw [q] at h
      have h : c (upb b) = .ok z := h
      rw [h]
      cases z with
      | false => rfl
      | true =>
        show Sim0 (match bodyS f is (upb b) with | .nx ρ' => whileL c (bodyS f is) n ρ' | .bk ρ' => .nx ρ' | .ct _ => .bad | r => r) ((step b).bind fun b => whileM mc step n b) _
        cases q2 : step b with
        | ok b' =>
          rw [q2] at s
          have s : bodyS f is (upb b) = .nx (upb b') := s
          rw [s]
          exact sim_while_z hc hs n b'
        | ex k =>
          rw [q2] at s
          obtain ⟨ρ', s⟩ := s
          exact ⟨ρ', by rw [s]⟩
        | bad => trivial
theorem sim_whileF_z {upb : β → Rho} {step : β → M (Fl β γ)} {mc : β → M Bool} (hc : ∀ b, TQ0 (c (upb b)) (mc b)) (hs : ∀ b, Sim0 (f (upb b)) (step b) (Fp (Lp is upb) P)) : ∀ (n : Nat) (b : β), Sim0 (whileL c (bodyS f is) n (upb b)) (whileF mc step n b) (Fp (Np upb) P)
  | 0, b => trivial
  | n + 1, b => by
    have h := hc b
    have s := sim_bodyF_z (hs b)
    unfold whileF whileL
    cases q : mc b with
    | bad => trivial
    | ex k =>
      rw [q] at h
      have h : c (upb b) = .ex k := h
      exact ⟨upb b, by rw [h]⟩
    | ok z =>
      rw [q] at h
      have h : c (upb b) = .ok z := h
      rw [h]
      cases z with
      | false => rfl
      | true =>
        show Sim0 (match bodyS f is (upb b) with | .nx ρ' => whileL c (bodyS f is) n ρ' | .bk ρ' => .nx ρ' | .ct _ => .bad | r => r) ((step b).bind fun
          | .nx b => whileF mc step n b
          | .rt a => .ok (.rt a)) _
        cases q2 : step b with
        | ok k =>
          rw [q2] at s
          cases k with
          | nx b' =>
            have s : bodyS f is (upb b) = .nx (upb b') := s
            rw [s]
            exact sim_whileF_z hc hs n b'
          | rt a =>
            obtain ⟨⟨o, s1⟩, s2⟩ := s
            rw [s1] at s2 ⊢
            exact ⟨⟨o, rfl⟩, s2⟩
        | ex k =>
          rw [q2] at s
          obtain ⟨ρ', s⟩ := s
          exact ⟨ρ', by rw [s]⟩
        | bad => trivial
theorem sim_wh_z {upb : β → Rho} {b0 : β} {n : Nat} {step : β → M β} {mc : β → M Bool} (h0 : upb b0 = ρ) (hc : ∀ b, TQ0 (c (upb b)) (mc b)) (hs : ∀ b, Sim0 (f (upb b)) (step b) (Lp is upb)) : Sim0 (whileL c (bodyS f is) n ρ) (whileM mc step n b0) (Np upb) := by
  subst h0
  exact sim_while_z hc hs n b0
theorem sim_whF_z {upb : β → Rho} {b0 : β} {n : Nat} {step : β → M (Fl β γ)} {mc : β → M Bool} (h0 : upb b0 = ρ) (hc : ∀ b, TQ0 (c (upb b)) (mc b)) (hs : ∀ b, Sim0 (f (upb b)) (step b) (Fp (Lp is upb) P)) : Sim0 (whileL c (bodyS f is) n ρ) (whileF mc step n b0) (Fp (Np upb) P) := by
  subst h0
  exact sim_whileF_z hc hs n b0
/-! ### what is walked -/
theorem iq_list_z {sL : List α → O} [ToD sL (eL e)] {fe : DE} (h : RQ0 (fe ρ) mi (rO sL)) : IQ0 (listI fe ρ) mi e := by
  cases mi with
  | ok xs =>
    have h : fe ρ = .ok (.ow (sL xs)) := h
    show listI fe ρ = .ok (xs.map e)
    unfold listI
    rw [h]
    show (match (sL xs).toD with | .lst ds => Ri.ok ds | _ => .bad) = _
    rw [ToD.td (s := sL)]
    rfl
  | ex c =>
    have h : fe ρ = .ex c := h
    show listI fe ρ = .ex c
    unfold listI
    rw [h]
  | bad => trivial
theorem iq_args0_z {G : List D → Ri} {fa : DA} {as : List Ar} {ds : List D} (ha : fa ρ = .ok as) (hv : noVw as = true) (hd : as.map Ar.d = ds) (hg : IQ0 (G ds) mi e) : IQ0 (argsI G fa ρ) mi e := by
  have : argsI G fa ρ = G (as.map Ar.d) := by unfold argsI; rw [ha]; exact if_pos hv
  rw [this, hd]; exact hg
theorem iq_args_z {G : List D → Ri} {fa : DA} {ma : M β} {ss : β → List Ar} {ds : β → List D} {mo : β → M (List α)} (ha : AQ0 (fa ρ) ma ss) (hv : ∀ y, noVw (ss y) = true) (hd : ∀ y, (ss y).map Ar.d = ds y) (hg : ∀ y, IQ0 (G (ds y)) (mo y) e) : IQ0 (argsI G fa ρ) (ma.bind mo) e := by
  cases ma with
  | ok y => exact iq_args0_z ha (hv y) (hd y) (hg y)
  | ex c =>
    have ha : fa ρ = .ex c := ha
    show argsI G fa ρ = .ex c
    unfold argsI
    rw [ha]
  | bad => trivial
/-! ### a def -/
theorem fq_sem_z {n : Nat} {d : DS} {ds : List D} {m : M γ} {so : γ → O} (h0 : startR n ds = ρ) (h : Sim0 (d ρ) m (Tp so)) : FQ (semOf n d ds) m so := by
  subst h0
  refine ⟨?_⟩
  unfold semOf
  cases m with
  | ok a =>
    rcases h with h | ⟨e, ρ', h⟩
    · show (match d (startR n ds) with | .rt o => Rf.ok o | .nx _ => .ok (.fz .non) | .ex c _ => .ex c | _ => .bad) = _
      rw [h]
    · show (match d (startR n ds) with | .rt o => Rf.ok o | .nx _ => .ok (.fz .non) | .ex c _ => .ex c | _ => .bad) = _
      rw [h, e]
  | ex c =>
    obtain ⟨ρ', h⟩ := h
    show (match d (startR n ds) with | .rt o => Rf.ok o | .nx _ => .ok (.fz .non) | .ex c _ => .ex c | _ => .bad) = _
    rw [h]
  | bad => trivial
end
end DL

namespace DL
open PySem PySem.Spec L2
/-! ### typed operations -/
theorem d_nil : ([] : List Ar).map Ar.d = [] := rfl
theorem d_cons {a : Ar} {d : D} {as : List Ar} {ds : List D} (h : a.d = d) (t : as.map Ar.d = ds) : (a :: as).map Ar.d = d :: ds := by
  rw [List.map_cons, h, t]
section
variable {α β γ δ : Type}
theorem td_o {s : α → O} {e : α → D} [ToD s e] {x : α} : (Ar.ow (s x)).d = e x := ToD.td x
theorem td_v {s : α → O} {e : α → D} [ToD s e] {x : α} : (itemAr (s x)).d = e x := by
  rw [← ToD.td (s := s) x]
  cases s x <;> rfl
theorem itemAr_o {o : O} : (itemAr o).o = o := by cases o <;> rfl
theorem itemAr_d {o : O} : (itemAr o).d = o.toD := by cases o <;> rfl
/-- ints -/
theorem o_mulp {i j : Int} (h : okMul i j = true) : gMul (dI i) (dI j) = okI (i * j) := mul_I h
theorem o_mul_z {i j : Int} : RQ0 (gMul (dI i) (dI j)) (mulM i j) (rO (oF eI)) := by
  unfold mulM
  by_cases h : okMul i j = true
  · rw [if_pos h]; exact mul_I h
  · rw [if_neg h]; trivial
theorem o_mod_z {i j : Int} : RQ0 (gMod (dI i) (dI j)) (modM i j) (rO (oF eI)) := by
  unfold modM
  by_cases h : 0 < j
  · rw [if_pos h]; exact mod_I h
  · rw [if_neg h]; trivial
theorem o_fdiv_z {i j : Int} : RQ0 (gFdiv (dI i) (dI j)) (fdivM i j) (rO (oF eI)) := by
  unfold fdivM
  by_cases h : okDiv j = true
  · rw [if_pos h]; exact fdiv_I h
  · rw [if_neg h]; trivial
theorem o_pow_z {i j : Int} : RQ0 (gPow (dI i) (dI j)) (powM i j) (rO (oF eI)) := by
  unfold powM
  by_cases h : okPow i j = true
  · rw [if_pos h]; exact pow_I h
  · rw [if_neg h]; trivial
theorem o_shl_z {i j : Int} : RQ0 (gShl (dI i) (dI j)) (shlM i j) (rO (oF eI)) := by
  unfold shlM
  by_cases h : okPow i j = true
  · rw [if_pos h]
    show (if okPow i j then okI (i * 2 ^ j.toNat) else .bad) = _
    rw [if_pos h]; rfl
  · rw [if_neg h]; trivial
theorem o_shr_z {i j : Int} : RQ0 (gShr (dI i) (dI j)) (shrM i j) (rO (oF eI)) := by
  unfold shrM
  by_cases h : 0 ≤ j
  · rw [if_pos h]
    show (if decide (0 ≤ j) then okI (i / 2 ^ j.toNat) else .bad) = _
    rw [decide_eq_true h]; rfl
  · rw [if_neg h]; trivial
theorem o_band {i j : Int} : gBand (dI i) (dI j) = okI (Builtin.bitAnd i j) := rfl
theorem o_lt {i j : Int} : gLt (dI i) (dI j) = okB (decide (i < j)) := rfl
theorem o_le {i j : Int} : gLe (dI i) (dI j) = okB (decide (i ≤ j)) := rfl
theorem o_gt {i j : Int} : gGt (dI i) (dI j) = okB (decide (j < i)) := rfl
theorem o_ge {i j : Int} : gGe (dI i) (dI j) = okB (decide (j ≤ i)) := rfl
/-- equality -/
theorem o_eq {e : α → D} {n : Nat} [EqE e n] [DecidableEq α] {a b : Ar} {x y : α} (hn : n ≤ 64 := by decide) (ha : a.d = e x) (hb : b.d = e y) : gEq a b = okB (decide (x = y)) := by
  unfold gEq
  rw [ha, hb, ((EqE.sh (e := e) x).mono hn).shp, ((EqE.sh (e := e) y).mono hn).shp]
  show okB (eqD (e x) (e y)) = _
  have := EqE.eq (e := e) x y
  congr 1
  congr 1
  congr 1
  congr 1
  rw [Bool.eq_iff_iff, this]
  simp
theorem o_ne {e : α → D} {n : Nat} [EqE e n] [DecidableEq α] {a b : Ar} {x y : α} (hn : n ≤ 64 := by decide) (ha : a.d = e x) (hb : b.d = e y) : gNe a b = okB (!decide (x = y)) := by
  unfold gNe
  rw [ha, hb, ((EqE.sh (e := e) x).mono hn).shp, ((EqE.sh (e := e) y).mono hn).shp]
  show okB (!eqD (e x) (e y)) = _
  have := EqE.eq (e := e) x y
  congr 1
  congr 1
  congr 1
  congr 1
  congr 1
  rw [Bool.eq_iff_iff, this]
  simp
/-- is None -/
theorem isNon_O {e : α → D} [NnE e] {x : Option α} : isNon (eO e x) = x.isNone := by
  cases x with
  | none => rfl
  | some a =>
    show isNon (e a) = false
    have := NnE.nn (e := e) a
    cases q : e a <;> first | (exact absurd q this) | rfl
theorem o_isn {e : α → D} [NnE e] {a b : Ar} {x : Option α} (ha : a.d = eO e x) (hb : b.d = .non) : gIsN a b = okB x.isNone := by
  unfold gIsN
  rw [hb]
  show okB (isNon a.d) = _
  rw [ha, isNon_O]
theorem o_isnt {e : α → D} [NnE e] {a b : Ar} {x : Option α} (ha : a.d = eO e x) (hb : b.d = .non) : gNotN a b = okB (!x.isNone) := by
  unfold gNotN
  rw [hb]
  show okB (!isNon a.d) = _
  rw [ha, isNon_O]
theorem o_isn_no {e : α → D} [NnE e] {a b : Ar} {x : α} (ha : a.d = e x) (hb : b.d = .non) : gIsN a b = okB false := o_isn (e := e) (x := some x) ha hb
theorem o_isnt_no {e : α → D} [NnE e] {a b : Ar} {x : α} (ha : a.d = e x) (hb : b.d = .non) : gNotN a b = okB true := o_isnt (e := e) (x := some x) ha hb
/-- sequences -/
theorem seq_oL {s : α → O} {xs : List α} : (itemAr (oL s xs)).o.seq = some (true, xs.map s) := rfl
theorem seq_fL {e : α → D} {xs : List α} : (Ar.ow (.fz (eL e xs))).o.seq = some (true, (xs.map e).map .fz) := rfl
theorem atI_map {s : α → β} {xs : List α} {i : Int} : L2.atI (xs.map s) i = (L2.atI xs i).map s := by
  unfold L2.atI
  rw [List.length_map]
  cases ixN xs.length i with
  | none => rfl
  | some j => simp
theorem o_ixL_z {s : α → O} {a : Ar} {xs : List α} {i : Int} (ha : a.o.seq = some (true, xs.map s)) : RQ0 (gIx a (dI i)) (ix xs i) (rV s) := by
  unfold ix gIx
  rw [ha]
  show RQ0 (match L2.atI (xs.map s) i with | some o => .ok (itemAr o) | none => .bad) _ _
  rw [atI_map]
  cases L2.atI xs i with
  | none => trivial
  | some a => rfl
theorem o_ixLF_z {e : α → D} {a : Ar} {xs : List α} {i : Int} (ha : a.o.seq = some (true, xs.map (oF e))) : RQ0 (gIx a (dI i)) (ix xs i) (rO (oF e)) := o_ixL_z ha
theorem o_ixF_z {e : α → D} {a : Ar} {xs : List α} {i : Int} (ha : a.o.seq = some (true, (xs.map e).map .fz)) : RQ0 (gIx a (dI i)) (ix xs i) (rO (oF e)) := by
  rw [List.map_map] at ha
  exact o_ixL_z (s := O.fz ∘ e) ha
theorem o_t0 {a : Ar} {o : O} {os : List O} {k : Bool} (ha : a.o.seq = some (k, o :: os)) : gIx a (dI 0) = .ok (itemAr o) := ix_seq ha (by decide) rfl
theorem o_t1 {a : Ar} {o p : O} {os : List O} {k : Bool} (ha : a.o.seq = some (k, p :: o :: os)) : gIx a (dI 1) = .ok (itemAr o) := ix_seq ha (by decide) rfl
theorem o_t2 {a : Ar} {o p q : O} {os : List O} {k : Bool} (ha : a.o.seq = some (k, p :: q :: o :: os)) : gIx a (dI 2) = .ok (itemAr o) := ix_seq ha (by decide) rfl
theorem o_t3 {a : Ar} {o p q r : O} {os : List O} {k : Bool} (ha : a.o.seq = some (k, p :: q :: r :: o :: os)) : gIx a (dI 3) = .ok (itemAr o) := ix_seq ha (by decide) rfl
theorem o_len {a : Ar} {k : Bool} {os : List O} {n : Nat} (ha : a.o.seq = some (k, os)) (hn : os.length = n) : gLen [a] = okI n := by
  unfold gLen
  dsimp only
  rw [ha, ← hn]
theorem inV_int {i : Int} {xs : List Int} : inV (V.int i) (xs.map fun x => V.int x) = decide (i ∈ xs) := by
  induction xs with
  | nil => rfl
  | cons x xs ih =>
    have : inV (V.int i) ((x :: xs).map fun x => V.int x) = (eqV (V.int x) (V.int i) || inV (V.int i) (xs.map fun x => V.int x)) := by
      first | rfl | simp [inV]
    rw [this, ih]
    have : eqV (V.int x) (V.int i) = decide (x = i) := by first | rfl | simp [eqV]
    rw [this]
    by_cases h : x = i
    · subst h; simp
    · have : ¬ i = x := fun e => h e.symm
      simp [h, this]
theorem o_in_ {neg : Bool} {a b : Ar} {i : Int} {xs : List Int} {k : Bool} {os : List O} (ha : a.d = .int i) (hb : b.o.seq = some (k, os)) (ho : allFz os = some (xs.map D.int)) : gIn neg a b = okB (xor neg (decide (i ∈ xs))) := by
  unfold gIn
  rw [hb]
  show (match allFz os with | some ds => if flatD a.d && flats ds then okB (xor neg (inV (vOf a.d) (ds.map vOf))) else .bad | none => .bad) = _
  rw [ho, ha]
  have hf : flats (xs.map D.int) = true := by
    unfold flats
    rw [List.all_map, List.all_eq_true]
    intro x _
    rfl
  show (if flatD (.int i) && flats (xs.map D.int) then okB (xor neg (inV (vOf (.int i)) ((xs.map D.int).map vOf))) else .bad) = _
  rw [hf]
  show okB (xor neg (inV (V.int i) ((xs.map D.int).map vOf))) = _
  rw [List.map_map]
  have : (vOf ∘ D.int) = fun x => V.int x := rfl
  rw [this, inV_int]
theorem o_in {a b : Ar} {i : Int} {xs : List Int} {k : Bool} {os : List O} (ha : a.d = .int i) (hb : b.o.seq = some (k, os)) (ho : allFz os = some (xs.map eI)) : gIn false a b = okB (decide (i ∈ xs)) := by
  rw [o_in_ ha hb ho]
  cases decide (i ∈ xs) <;> rfl
theorem o_nin {a b : Ar} {i : Int} {xs : List Int} {k : Bool} {os : List O} (ha : a.d = .int i) (hb : b.o.seq = some (k, os)) (ho : allFz os = some (xs.map eI)) : gIn true a b = okB (!decide (i ∈ xs)) := by
  rw [o_in_ ha hb ho]
  cases decide (i ∈ xs) <;> rfl
theorem fz_L {e : α → D} {xs : List α} : allFz ((xs.map e).map .fz) = some (xs.map e) := allFz_fz _
theorem fz_oL {e : α → D} {xs : List α} : allFz (xs.map (oF e)) = some (xs.map e) := allFz_enc xs
/-- + of lists, [..] * n, slices -/
theorem o_cat_z {e : α → D} {a b : Ar} {xs ys : List α} {os us : List O} (hi : ∀ i j, (a.d = .int i → b.d = .int j → False)) (hs : ∀ i j, (a.d = .str i → b.d = .str j → False)) (ha : a.o.seq = some (true, os)) (hb : b.o.seq = some (true, us)) (h1 : allFz os = some (xs.map e)) (h2 : allFz us = some (ys.map e)) : RQ0 (gAdd a b) (catM xs ys) (rO (oL (oF e))) := by
  have q : gAdd a b = (if okLen (xs.length + ys.length) then .ok (.ow (.lst (((xs.map e) ++ (ys.map e)).map .fz))) else .bad) := by
    unfold gAdd
    split
    · rename_i i j e1 e2; exact (hi i j e1 e2).elim
    · rename_i i j e1 e2; exact (hs i j e1 e2).elim
    · rw [ha, hb]
      show (match allFz os, allFz us with | some ds, some es => if okLen (ds.length + es.length) then Rs.ok (.ow (.lst ((ds ++ es).map .fz))) else .bad | _, _ => .bad) = _
      rw [h1, h2]
      simp
  rw [q]
  unfold catM
  by_cases h : okLen (xs.length + ys.length) = true
  · rw [if_pos h, if_pos h]
    show Rs.ok _ = Rs.ok (.ow (.lst ((xs ++ ys).map (oF e))))
    rw [← List.map_append, List.map_map]
    rfl
  · rw [if_neg h, if_neg h]; trivial
theorem o_rep_z {e : α → D} {xs : List α} {k : Int} {os : List O} (h1 : allFz os = some (xs.map e)) : RQ0 (gMul (.ow (.lst os)) (dI k)) (repM xs k) (rO (oL (oF e))) := by
  have q : gMul (.ow (.lst os)) (dI k) = (if decide (-(2 ^ 63) ≤ k) && decide (k < 2 ^ 63) && okLen (xs.length * k.toNat) then .ok (.ow (.lst ((List.replicate k.toNat (xs.map e)).flatten.map .fz))) else .bad) := by
    show (match allFz os with | some ds => if decide (-(2 ^ 63) ≤ k) && decide (k < 2 ^ 63) && okLen (ds.length * k.toNat) then Rs.ok (.ow (.lst ((List.replicate k.toNat ds).flatten.map .fz))) else .bad | none => .bad) = _
    rw [h1]
    simp
  rw [q]
  unfold repM
  by_cases h : (decide (-(2 ^ 63) ≤ k) && decide (k < 2 ^ 63) && okLen (xs.length * k.toNat)) = true
  · rw [if_pos h, if_pos h]
    show Rs.ok _ = Rs.ok (.ow (.lst ((List.replicate k.toNat xs).flatten.map (oF e))))
    have : (List.replicate k.toNat (xs.map e)).flatten.map O.fz = (List.replicate k.toNat xs).flatten.map (oF e) := by
      rw [List.map_flatten, List.map_flatten]
      simp [Function.comp_def]
      rfl
    rw [this]
  · rw [if_neg h, if_neg h]; trivial
theorem cutD_map {e : α → β} {xs : List α} {lo hi : Option Int} : cutD (xs.map e) lo hi = (cutD xs lo hi).map e := by
  unfold cutD
  rw [List.length_map, List.map_take, List.map_drop]
theorem o_cut {e : α → D} {a : Ar} {xs : List α} {os : List O} {lo hi : Option Int} (ha : a.o.seq = some (true, os)) (h1 : allFz os = some (xs.map e)) : gCut a lo hi = .ok (.ow (oL (oF e) (cutD xs lo hi))) := by
  unfold gCut
  rw [ha]
  show (match allFz os with | some ds => Rs.ok (.ow (.lst ((cutD ds lo hi).map .fz))) | none => .bad) = _
  rw [h1]
  show Rs.ok (.ow (.lst ((cutD (xs.map e) lo hi).map .fz))) = _
  rw [cutD_map, List.map_map]
  rfl
theorem pq_rev {fe : DE} {ρ : Rho} {e : α → D} {a : Ar} {xs : List α} {os : List O} (h : fe ρ = .ok a) (ha : a.o.seq = some (true, os)) (h1 : allFz os = some (xs.map e)) : revE fe ρ = .ok (.ow (oL (oF e) xs.reverse)) := by
  unfold revE Rs.bind
  rw [h]
  show (match a.o.seq with | some (true, os) => (match allFz os with | some ds => Rs.ok (.ow (.lst (ds.reverse.map .fz))) | none => .bad) | _ => .bad) = _
  rw [ha]
  show (match allFz os with | some ds => Rs.ok (.ow (.lst (ds.reverse.map .fz))) | none => .bad) = _
  rw [h1]
  show Rs.ok (.ow (.lst ((xs.map e).reverse.map .fz))) = _
  rw [← List.map_reverse, List.map_map]
  rfl
theorem xq_no {ρ : Rho} : noO ρ = some none := rfl
theorem xq_p {fe : DE} {ρ : Rho} {i : Int} (h : fe ρ = .ok (dI i)) : someO fe ρ = some (some i) := by
  unfold someO
  rw [h]; rfl
theorem xq_m_z {fe : DE} {ρ : Rho} {m : M Int} (h : RQ0 (fe ρ) m (rO (oF eI))) : XQ0 (someO fe ρ) (m.bind fun i => .ok (some i)) := by
  cases m with
  | ok i => exact xq_p h
  | ex c => trivial
  | bad => trivial
theorem pq_cut {fe : DE} {l h : DO} {ρ : Rho} {a : Ar} {r : Ar} {lo hi : Option Int} (hf : fe ρ = .ok a) (h1 : l ρ = some lo) (h2 : h ρ = some hi) (hg : gCut a lo hi = .ok r) : cutE fe l h ρ = .ok r := by
  unfold cutE Rs.bind
  rw [hf, h1, h2]
  exact hg
theorem rq_cut_z {fe : DE} {l h : DO} {ρ : Rho} {m : M α} {sa : α → Ar} {m1 m2 : M (Option Int)} {mo : α → Option Int → Option Int → γ} {s : γ → Ar} (nx : ∀ c, m1 ≠ .ex c ∧ m2 ≠ .ex c) (hf : RQ0 (fe ρ) m sa) (h1 : XQ0 (l ρ) m1) (h2 : XQ0 (h ρ) m2) (hg : ∀ x lo hi, gCut (sa x) lo hi = .ok (s (mo x lo hi))) : RQ0 (cutE fe l h ρ) (m.bind fun x => m1.bind fun lo => m2.bind fun hi => .ok (mo x lo hi)) s := by
  cases m with
  | bad => trivial
  | ex c =>
    have hf : fe ρ = .ex c := hf
    show cutE fe l h ρ = .ex c
    unfold cutE Rs.bind
    rw [hf]
  | ok x =>
    cases m1 with
    | bad => trivial
    | ex c => exact absurd rfl (nx c).1
    | ok lo =>
      cases m2 with
      | bad => trivial
      | ex c => exact absurd rfl (nx c).2
      | ok hi => exact pq_cut hf h1 h2 (hg x lo hi)
/-! ### built-ins -/
theorem o_max2 {i j : Int} : g2I (fun i j => if j > i then j else i) [dI i, dI j] = okI (if j > i then j else i) := rfl
theorem o_min2 {i j : Int} : g2I (fun i j => if j < i then j else i) [dI i, dI j] = okI (if j < i then j else i) := rfl
theorem o_abs {i : Int} : g1I (fun i => if i < 0 then -i else i) [dI i] = okI (if i < 0 then -i else i) := rfl
theorem intsA_of {a : Ar} {xs : List Int} {os : List O} (ha : a.o.seq = some (true, os)) (h1 : allFz os = some (xs.map D.int)) : intsA a = some xs := by
  unfold intsA
  rw [ha]
  show (match allFz os with | some ds => intsD ds | none => none) = _
  rw [h1]
  exact intsD_map xs
theorem o_max1_z {a : Ar} {xs : List Int} (h : intsA a = some xs) : RQ0 (gL1 maxI [a]) (maxM xs) (rO (oF eI)) := by
  unfold gL1
  dsimp only
  rw [h]
  cases xs with
  | nil => trivial
  | cons n ns => rfl
theorem o_min1_z {a : Ar} {xs : List Int} (h : intsA a = some xs) : RQ0 (gL1 minI [a]) (minM xs) (rO (oF eI)) := by
  unfold gL1
  dsimp only
  rw [h]
  cases xs with
  | nil => trivial
  | cons n ns => rfl
theorem o_sortL {a : Ar} {xs : List Int} (hd : ∀ ks vs, a.d ≠ .dK ks vs) (h : intsA a = some xs) : gSortX [a] = .ok (.ow (oL (oF eI) (sortI xs))) := by
  have : gSortX [a] = gSorted [a] := by
    unfold gSortX
    dsimp only
    generalize a.d = d at hd
    cases d <;> first | rfl | exact absurd rfl (hd _ _)
  rw [this]
  unfold gSorted
  dsimp only
  rw [h]
  show Rs.ok (.ow (.lst (((sortI xs).map D.int).map .fz))) = _
  rw [List.map_map]
  rfl
theorem o_list {e : α → D} {a : Ar} {xs : List α} {k : Bool} {os : List O} (ha : a.o.seq = some (k, os)) (h1 : allFz os = some (xs.map e)) : gList [a] = .ok (.ow (oL (oF e) xs)) := by
  unfold gList
  dsimp only
  rw [ha]
  show (match allFz os with | some ds => Rs.ok (.ow (.lst (ds.map .fz))) | none => .bad) = _
  rw [h1]
  show Rs.ok (.ow (.lst ((xs.map e).map .fz))) = _
  rw [List.map_map]
  rfl
theorem o_int_i {i : Int} : gInt1 [dI i] = okI i := rfl
theorem o_int_b {b : Bool} : gInt1 [dB b] = okI (if b then 1 else 0) := rfl
theorem rq_rg1_z {fe : DE} {ρ : Rho} {i : Int} (h : fe ρ = .ok (dI i)) : RQ0 (rg1E fe ρ) (rngL 0 i) (rO (oL (oF eI))) := by
  have : rg1E fe ρ = mkRg 0 i := by unfold rg1E Rs.bind; rw [h]; rfl
  rw [this]
  unfold rngL mkRg
  by_cases h : (okR 0 && okR i && okLen (i - 0).toNat) = true
  · rw [if_pos h, if_pos h]
    show Rs.ok (.ow (.lst ((rangeL 0 i).map .fz))) = Rs.ok (.ow (.lst ((rng 0 i).map (oF eI))))
    unfold rangeL rng
    simp [oF, eI]
  · rw [if_neg h, if_neg h]; trivial
theorem rq_rg1m_z {fe : DE} {ρ : Rho} {m : M Int} (h : RQ0 (fe ρ) m (rO (oF eI))) : RQ0 (rg1E fe ρ) (m.bind fun i => rngL 0 i) (rO (oL (oF eI))) := by
  cases m with
  | ok i => exact rq_rg1_z h
  | ex c =>
    have h : fe ρ = .ex c := h
    show rg1E fe ρ = .ex c
    unfold rg1E Rs.bind
    rw [h]
  | bad => trivial
/-- xs.index(i) -/
theorem pq_meth_z {T : String} {fa : DE} {fv : DA} {g : GR} {ρ : Rho} {a : Ar} {as : List Ar} {m : M γ} {s : γ → Ar} (ha : fa ρ = .ok a) (ht : tyA a = T) (hv : fv ρ = .ok as) (hg : RQ0 (g a as) m s) : RQ0 (methE T fa fv g ρ) m s := by
  have : methE T fa fv g ρ = g a as := by
    unfold methE Rs.bind
    rw [ha]
    show (if tyA a = T then _ else _) = _
    rw [if_pos ht, hv]
  rw [this]; exact hg
theorem rq_meth_z {T : String} {fa : DE} {fv : DA} {g : GR} {ρ : Rho} {ma : M α} {sa : α → Ar} {mv : M β} {ss : β → List Ar} {mo : α → β → M γ} {s : γ → Ar} (ha : RQ0 (fa ρ) ma sa) (ht : ∀ x, tyA (sa x) = T) (hv : AQ0 (fv ρ) mv ss) (hg : ∀ x y, RQ0 (g (sa x) (ss y)) (mo x y) s) : RQ0 (methE T fa fv g ρ) (ma.bind fun x => mv.bind fun y => mo x y) s := by
  cases ma with
  | bad => trivial
  | ex c =>
    have ha : fa ρ = .ex c := ha
    show methE T fa fv g ρ = .ex c
    unfold methE Rs.bind
    rw [ha]
  | ok x =>
    have ha : fa ρ = .ok (sa x) := ha
    cases mv with
    | bad => trivial
    | ex c =>
      have hv : fv ρ = .ex c := hv
      show methE T fa fv g ρ = .ex c
      unfold methE Rs.bind
      rw [ha]
      show (if tyA (sa x) = T then _ else _) = _
      rw [if_pos (ht x), hv]
    | ok y =>
      have hv : fv ρ = .ok (ss y) := hv
      exact pq_meth_z ha (ht x) hv (hg x y)
theorem idxL_int {i : Int} : ∀ {xs : List Int}, idxL (xs.map D.int) (.int i) = xs.findIdx? (· == i)
  | [] => rfl
  | x :: xs => by
    rw [List.map_cons]
    unfold idxL
    have : eqV (vOf (.int x)) (vOf (.int i)) = (x == i) := by
      have e : eqV (V.int x) (V.int i) = decide (x = i) := by first | rfl | simp [eqV]
      show eqV (V.int x) (V.int i) = _
      rw [e]
      by_cases h : x = i <;> simp [h]
    rw [this, idxL_int, List.findIdx?_cons]
theorem o_index_z {a b : Ar} {i : Int} {xs : List Int} {os : List O} (ha : a.o.seq = some (true, os)) (h1 : allFz os = some (xs.map D.int)) (hb : b.d = .int i) : RQ0 (gIndex a [b]) (idxI xs i) (rO (oF eI)) := by
  have hf : flats (xs.map D.int) = true := by
    unfold flats
    rw [List.all_map, List.all_eq_true]
    intro x _
    rfl
  have : gIndex a [b] = (match xs.findIdx? (· == i) with | some j => okI (j : Nat) | none => .bad) := by
    unfold gIndex
    rw [ha]
    show (match allFz os with | some ds => if flatD b.d && flats ds then (match idxL ds b.d with | some j => okI (j : Nat) | none => .bad) else .bad | none => .bad) = _
    rw [h1, hb]
    show (if flatD (.int i) && flats (xs.map D.int) then (match idxL (xs.map D.int) (.int i) with | some j => okI (j : Nat) | none => .bad) else .bad) = _
    rw [hf, idxL_int]
    rfl
  rw [this]
  unfold idxI
  cases xs.findIdx? (· == i) with
  | none => trivial
  | some j => rfl
/-! ### walks -/
theorem g_range1_z {n : Int} : IQ0 (gRange1 [.int n]) (rngM 0 n) eI := by
  unfold rngM gRange1
  dsimp only
  by_cases h : okR n = true
  · have h0 : (okR 0 && okR n) = true := by rw [h]; decide
    rw [if_pos h, if_pos h0]
    show Ri.ok (rangeL 0 n) = .ok ((rng 0 n).map eI)
    unfold rangeL rng
    simp [eI]
  · have h0 : ¬ (okR 0 && okR n) = true := fun e => h (by rw [Bool.and_eq_true] at e; exact e.2)
    rw [if_neg h0]; trivial
theorem g_range2_z {i j : Int} : IQ0 (gRange2 [.int i, .int j]) (rngM i j) eI := by
  unfold rngM gRange2
  dsimp only
  by_cases h : (okR i && okR j) = true
  · rw [if_pos h, if_pos h]
    show Ri.ok (rangeL i j) = .ok ((rng i j).map eI)
    unfold rangeL rng
    simp [eI]
  · rw [if_neg h, if_neg h]; trivial
theorem g_zip_z {e : α → D} {f : β → D} {xs : List α} {ys : List β} : IQ0 (gZip [eL e xs, eL f ys]) (.ok (xs.zip ys)) (eT2 e f) := by
  show Ri.ok (((xs.map e).zip (ys.map f)).map fun p => D.tup [p.1, p.2]) = .ok ((xs.zip ys).map (eT2 e f))
  rw [List.zip_map, List.map_map]
  rfl
theorem g_enum_z {e : α → D} {xs : List α} : IQ0 (gEnum [eL e xs]) (.ok (enumL xs)) (eT2 eI e) := by
  show Ri.ok ((xs.map e).zipIdx.map fun p => D.tup [.int (p.2 : Nat), p.1]) = .ok ((enumL xs).map (eT2 eI e))
  unfold enumL
  rw [List.zipIdx_map, List.map_map, List.map_map]
  rfl
theorem g_rev_z {e : α → D} {xs : List α} : IQ0 (gRev [eL e xs]) (.ok xs.reverse) e := by
  show Ri.ok ((xs.map e).reverse) = .ok (xs.reverse.map e)
  rw [List.map_reverse]
/-! ### comprehensions -/
def M.nox {α : Type} : M α → M α
  | .ex _ => .bad
  | m => m
@[simp] theorem nox_ok {a : α} : (M.ok a).nox = .ok a := Eq.symm (Eq.symm rfl)
@[simp] theorem nox_ex {c : Str} : (M.ex c : M α).nox = .bad := Eq.symm (Eq.symm rfl)
@[simp] theorem nox_bad : (M.bad : M α).nox = .bad := Eq.symm (Eq.symm rfl)
def ItQ (r : Rt) (mp : M Bool) (me : M α) (s : α → O) : Prop := match mp with
  | .ok true => (match me with
    | .ok a => r = .item (s a)
    | _ => True)
  | .ok false => r = .skip
  | _ => True
theorem itq_z {tb : DB} {ct : DT} {fe : DE} {ρ0 ρ1 : Rho} {d : D} {mp : M Bool} {me : M α} {s : α → O} (hb : tb d ρ0 = some ρ1) (hc : TQ0 (ct ρ1) mp) (he : RQ0 (fe ρ1) me (rO s)) : ItQ (itemT tb ct fe ρ0 d) mp me s := by
  unfold itemT
  rw [hb]
  cases mp with
  | bad => trivial
  | ex c => trivial
  | ok z =>
    have hc : ct ρ1 = .ok z := hc
    cases z with
    | false =>
      show (match ct ρ1 with | .ok true => _ | .ok false => Rt.skip | _ => .bad) = .skip
      rw [hc]
    | true =>
      cases me with
      | bad => trivial
      | ex c => trivial
      | ok a =>
        have he : fe ρ1 = .ok (.ow (s a)) := he
        show (match ct ρ1 with | .ok true => _ | .ok false => Rt.skip | _ => .bad) = .item (s a)
        rw [hc]
        show (match fe ρ1 with | .ok (.ow o) => Rt.item o | _ => .bad) = _
        rw [he]
theorem comp_pp {t : D → Rt} {e : α → D} {s : β → O} {p : α → Bool} {f : α → β} (h : ∀ x, ItQ (t (e x)) (.ok (p x)) (.ok (f x)) s) (xs : List α) : compL t (xs.map e) [] = .ok (.ow (oL s ((xs.filter p).map f))) := by
  have key : ∀ (xs : List α) (acc : List O), compL t (xs.map e) acc = .ok (.ow (.lst (acc ++ ((xs.filter p).map f).map s))) := by
    intro xs
    induction xs with
    | nil => intro acc; simp [compL]
    | cons x xs ih =>
      intro acc
      have hx := h x
      rw [List.map_cons]
      unfold compL
      cases q : p x with
      | true =>
        rw [q] at hx
        have hx : t (e x) = .item (s (f x)) := hx
        rw [hx]
        show compL t (xs.map e) (acc ++ [s (f x)]) = _
        rw [ih]
        simp [q]
      | false =>
        rw [q] at hx
        have hx : t (e x) = .skip := hx
        rw [hx]
        show compL t (xs.map e) acc = _
        rw [ih]
        simp [q]
  have := key xs []
  rw [this, List.nil_append]
  rfl
theorem comp_mm {t : D → Rt} {e : α → D} {s : β → O} {p : α → M Bool} {f : α → M β} (h : ∀ x, ItQ (t (e x)) (p x) (f x) s) (xs : List α) (acc : List O) : match (filtM (fun x => (p x).nox) (fun x => (f x).nox) xs : M (List β)) with
    | .ok ys => compL t (xs.map e) acc = .ok (.ow (.lst (acc ++ ys.map s)))
    | .ex _ => False
    | .bad => True := by
  induction xs generalizing acc with
  | nil => simp [filtM, compL]
  | cons x xs ih =>
    have hx := h x
    unfold filtM
    rw [List.map_cons]
    unfold compL
    cases q : p x with
    | bad => trivial
    | ex c => trivial
    | ok z =>
      rw [q] at hx
      cases z with
      | false =>
        have hx : t (e x) = .skip := hx
        simp only [nox_ok, M.bind_ok, if_neg (Bool.false_ne_true)]
        rw [hx]
        exact ih acc
      | true =>
        simp only [nox_ok, M.bind_ok, if_true]
        cases q2 : f x with
        | bad => trivial
        | ex c => trivial
        | ok y =>
          rw [q2] at hx
          have hx : t (e x) = .item (s y) := hx
          rw [hx]
          have := ih (acc ++ [s y])
          revert this
          simp only [nox_ok, M.bind_ok]
          generalize filtM (fun x => (p x).nox) (fun x => (f x).nox) xs = r
          cases r with
          | bad => exact fun _ => trivial
          | ex c => exact False.elim
          | ok ys =>
            intro this
            show compL t (xs.map e) (acc ++ [s y]) = _
            have this : compL t (xs.map e) (acc ++ [s y]) = .ok (.ow (.lst ((acc ++ [s y]) ++ ys.map s))) := this
            rw [this]
            simp
theorem compE_ok_z {fi : DI} {tb : DB} {ct : DT} {fe : DE} {vs : List Nat} {ρ : Rho} {e : α → D} {xs : List α} (hi : IQ0 (fi ρ) (.ok xs) e) (hl : okLen xs.length = true) : compE fi tb ct fe vs ρ = compL (itemT tb ct fe (forget vs ρ)) (xs.map e) [] := by
  have hi : fi ρ = .ok (xs.map e) := hi
  unfold compE
  rw [hi]
  show (if okLen (xs.map e).length then _ else _) = _
  rw [if_pos (by simpa using hl)]
theorem rq_compP_z {fi : DI} {tb : DB} {fe : DE} {vs : List Nat} {ρ : Rho} {e : α → D} {s : β → O} {f : α → β} {ρx : α → Rho} {xs : List α} (hi : IQ0 (fi ρ) (.ok xs) e) (hb : ∀ x, tb (e x) (forget vs ρ) = some (ρx x)) (he : ∀ x, fe (ρx x) = .ok (.ow (s (f x)))) : RQ0 (compE fi tb yesT fe vs ρ) (compP f xs) (rO (oL s)) := by
  unfold compP
  by_cases hl : okLen xs.length = true
  · rw [if_pos hl]
    show compE fi tb yesT fe vs ρ = _
    rw [compE_ok_z hi hl]
    have := comp_pp (p := fun _ => true) (fun x => itq_z (ct := yesT) (mp := .ok true) (me := .ok (f x)) (hb x) rfl (he x)) xs
    rw [this]
    have e2 : xs.filter (fun _ => true) = xs := by simp
    rw [e2]
  · rw [if_neg hl]; trivial
theorem rq_compFP_z {fi : DI} {tb : DB} {ct : DT} {fe : DE} {vs : List Nat} {ρ : Rho} {e : α → D} {s : β → O} {p : α → Bool} {f : α → β} {ρx : α → Rho} {xs : List α} (hi : IQ0 (fi ρ) (.ok xs) e) (hb : ∀ x, tb (e x) (forget vs ρ) = some (ρx x)) (hc : ∀ x, ct (ρx x) = .ok (p x)) (he : ∀ x, fe (ρx x) = .ok (.ow (s (f x)))) : RQ0 (compE fi tb ct fe vs ρ) (compFP p f xs) (rO (oL s)) := by
  unfold compFP
  by_cases hl : okLen xs.length = true
  · rw [if_pos hl]
    show compE fi tb ct fe vs ρ = _
    rw [compE_ok_z hi hl]
    exact comp_pp (p := p) (fun x => itq_z (mp := .ok (p x)) (me := .ok (f x)) (hb x) (hc x) (he x)) xs
  · rw [if_neg hl]; trivial
theorem rq_compF_z {fi : DI} {tb : DB} {ct : DT} {fe : DE} {vs : List Nat} {ρ : Rho} {e : α → D} {s : β → O} {p : α → M Bool} {f : α → M β} {ρx : α → Rho} {xs : List α} (hi : IQ0 (fi ρ) (.ok xs) e) (hb : ∀ x, tb (e x) (forget vs ρ) = some (ρx x)) (hc : ∀ x, TQ0 (ct (ρx x)) (p x)) (he : ∀ x, RQ0 (fe (ρx x)) (f x) (rO s)) : RQ0 (compE fi tb ct fe vs ρ) (compF (fun x => (p x).nox) (fun x => (f x).nox) xs) (rO (oL s)) := by
  unfold compF
  by_cases hl : okLen xs.length = true
  · rw [if_pos hl, compE_ok_z hi hl]
    have := comp_mm (p := p) (f := f) (s := s) (t := itemT tb ct fe (forget vs ρ)) (fun x => itq_z (hb x) (hc x) (he x)) xs []
    revert this
    cases filtM (fun x => (p x).nox) (fun x => (f x).nox) xs with
    | bad => exact fun _ => trivial
    | ex c => exact False.elim
    | ok ys => exact fun this => this
  · rw [if_neg hl]; trivial
theorem filtM_true {f : α → M β} : ∀ xs : List α, filtM (fun _ => (M.ok true).nox) f xs = mapM f xs
  | [] => rfl
  | x :: xs => by
    unfold filtM mapM
    rw [filtM_true xs]
    rfl
theorem rq_compM_z {fi : DI} {tb : DB} {fe : DE} {vs : List Nat} {ρ : Rho} {e : α → D} {s : β → O} {f : α → M β} {ρx : α → Rho} {xs : List α} (hi : IQ0 (fi ρ) (.ok xs) e) (hb : ∀ x, tb (e x) (forget vs ρ) = some (ρx x)) (he : ∀ x, RQ0 (fe (ρx x)) (f x) (rO s)) : RQ0 (compE fi tb yesT fe vs ρ) (compM (fun x => (f x).nox) xs) (rO (oL s)) := by
  have := rq_compF_z (ct := yesT) (p := fun _ => .ok true) hi hb (fun _ => rfl) he
  unfold compF at this
  unfold compM
  rw [filtM_true] at this
  exact this
theorem rq_compI_z {fi : DI} {tb : DB} {ct : DT} {fe : DE} {vs : List Nat} {ρ : Rho} {e : α → D} {mi : M (List α)} {mo : List α → M γ} {s : γ → Ar} (hi : IQ0 (fi ρ) mi e) (h : ∀ xs, IQ0 (fi ρ) (.ok xs) e → RQ0 (compE fi tb ct fe vs ρ) (mo xs) s) : RQ0 (compE fi tb ct fe vs ρ) (mi.bind mo) s := by
  cases mi with
  | ok xs => exact h xs hi
  | ex c =>
    have hi : fi ρ = .ex c := hi
    show compE fi tb ct fe vs ρ = .ex c
    unfold compE
    rw [hi]
  | bad => trivial
end
end DL

namespace DL
open PySem PySem.Spec L2
/-! ### places, methods, stores -/
theorem at_snoc : ∀ {p : List Nat} {o s x : O} {os : List O} {n : Nat}, O.at p o = some s → s.kids = some os → os[n]? = some x → O.at (p ++ [n]) o = some x
  | [], o, s, x, os, n, h, hk, hn => by
    cases h
    show (match o.kids with | some os => (match os[n]? with | some x => O.at [] x | none => none) | none => none) = _
    rw [hk]
    show (match os[n]? with | some x => O.at [] x | none => none) = _
    rw [hn]
    rfl
  | m :: p, o, s, x, os, n, h, hk, hn => by
    unfold O.at at h
    rw [List.cons_append]
    unfold O.at
    cases q : o.kids with
    | none => rw [q] at h; cases h
    | some us =>
      rw [q] at h
      dsimp only at h ⊢
      cases q2 : us[m]? with
      | none => rw [q2] at h; cases h
      | some w =>
        rw [q2] at h
        exact at_snoc h hk hn
theorem put_snoc : ∀ {p : List Nat} {o s x y : O} {os : List O} {n : Nat}, O.at p o = some s → s.kids = some os → os[n]? = some x → O.put (p ++ [n]) y o = O.put p (s.withKids (os.set n y)) o
  | [], o, s, x, y, os, n, h, hk, hn => by
    cases h
    show (match o.kids with | some os => (match os[n]? with | some x => o.withKids (os.set n (O.put [] y x)) | none => o) | none => o) = _
    rw [hk]
    show (match os[n]? with | some x => o.withKids (os.set n (O.put [] y x)) | none => o) = _
    rw [hn]
    rfl
  | m :: p, o, s, x, y, os, n, h, hk, hn => by
    unfold O.at at h
    rw [List.cons_append]
    unfold O.put
    cases q : o.kids with
    | none => rw [q] at h; first | done | cases h
    | some us =>
      rw [q] at h
      dsimp only at h ⊢
      cases q2 : us[m]? with
      | none => rw [q2] at h; first | done | cases h
      | some w =>
        rw [q2] at h
        dsimp only
        rw [put_snoc h hk hn]
section
variable {A α β γ δ : Type} {ρ ρ' : Rho} {i : Nat} {sA : A → O} {s : α → O} {fp : DP} {fb : DE}
def Nex (f : α → M β) : Prop := ∀ y c, f y ≠ .ex c
def MQ (r : Rp) (ρ : Rho) (i : Nat) (sA : A → O) (s : α → O) (md : (α → M α) → M A) : Prop := ∀ f : α → M α, Nex f → match md f with
  | .ok x' => ∃ p o cur new, r = .ok i p ∧ ρ[i]? = some (some o) ∧ O.at p o = some (s cur) ∧ f cur = .ok new ∧ O.put p (s new) o = sA x'
  | .ex _ => False
  | .bad => True
theorem mq_var {x : α} (h : ρ[i]? = some (some (s x))) : MQ (varP i ρ) ρ i s s (fun f => f x) := by
  intro f nx
  dsimp only
  cases q : f x with
  | bad => trivial
  | ex c => exact nx x c q
  | ok y => exact ⟨[], s x, x, y, by unfold varP; rw [h], h, rfl, q, rfl⟩
theorem updM_ok {xs : List α} {j : Int} {f : α → M α} {ys : List α} (h : updM xs j f = .ok ys) : ∃ n x y, ixN xs.length j = some n ∧ xs[n]? = some x ∧ f x = .ok y ∧ ys = xs.set n y := by
  unfold updM at h
  cases q : ixN xs.length j with
  | none => rw [q] at h; cases h
  | some n =>
    rw [q] at h
    dsimp only at h
    cases q2 : xs[n]? with
    | none => rw [q2] at h; cases h
    | some x =>
      rw [q2] at h
      dsimp only at h
      cases q3 : f x with
      | bad => rw [q3] at h; cases h
      | ex c => rw [q3] at h; cases h
      | ok y => rw [q3] at h; cases h; exact ⟨n, x, y, rfl, q2, q3, rfl⟩
theorem updM_nex {j : Int} {f : α → M α} (h : Nex f) : Nex (fun xs => updM xs j f) := by
  intro xs c e
  unfold updM at e
  dsimp only at e
  cases q : ixN xs.length j with
  | none => rw [q] at e; cases e
  | some n =>
    rw [q] at e
    dsimp only at e
    cases q2 : xs[n]? with
    | none => rw [q2] at e; cases e
    | some x =>
      rw [q2] at e
      dsimp only at e
      cases q3 : f x with
      | bad => rw [q3] at e; cases e
      | ex k => exact h x k q3
      | ok y => rw [q3] at e; cases e
theorem mq_ixL {md : (List α → M (List α)) → M A} {j : Int} (hp : MQ (fp ρ) ρ i sA (oL s) md) (hb : fb ρ = .ok (dI j)) : MQ (ixP fp fb ρ) ρ i sA s (fun f => md (fun xs => updM xs j f)) := by
  intro f nx
  have := hp (fun xs => updM xs j f) (updM_nex nx)
  dsimp only
  cases q : md (fun xs => updM xs j f) with
  | bad => trivial
  | ex c => rw [q] at this; exact this
  | ok x' =>
    rw [q] at this
    obtain ⟨p, o, xs, ys, h1, h2, h3, h4, h5⟩ := this
    obtain ⟨n, x, y, e1, e2, e3, rfl⟩ := updM_ok h4
    have hn : n < xs.length := (List.getElem?_eq_some_iff.mp e2).1
    have g : (xs.map s)[n]? = some (s x) := by rw [List.getElem?_map, e2]; rfl
    refine ⟨p ++ [n], o, x, y, ?_, h2, at_snoc h3 rfl g, e3, ?_⟩
    · unfold ixP
      rw [h1]
      dsimp only
      rw [hb]
      show (match ρ[i]? with | some (some o) => _ | _ => _) = _
      rw [h2]
      dsimp only
      rw [h3]
      show (match ixN (xs.map s).length j with | some n => _ | none => _) = _
      rw [List.length_map, e1]
      dsimp only
      rw [if_pos hn]
    · rw [put_snoc h3 rfl g, ← h5]
      show O.put p (.lst ((xs.map s).set n (s y))) o = O.put p (.lst ((xs.set n y).map s)) o
      rw [List.map_set]
/-- a component of a tuple -/
theorem mq_tup {σ : Type} {t : σ → O} {md : (α → M α) → M A} {k : Int} {n : Nat} {ks : α → List O} {g : α → σ} {st : α → σ → α} (hp : MQ (fp ρ) ρ i sA s md) (hb : fb ρ = .ok (dI k)) (hk : ∀ y, (s y).kids = some (ks y)) (hg : ∀ y, (ks y)[n]? = some (t (g y))) (hx : ∀ y, ixN (ks y).length k = some n) (hs : ∀ y z, (s y).withKids ((ks y).set n (t z)) = s (st y z)) : MQ (ixP fp fb ρ) ρ i sA t (fun f => md (fun y => (f (g y)).bind fun z => .ok (st y z))) := by
  intro f nx
  have := hp (fun y => (f (g y)).bind fun z => .ok (st y z)) (fun y c e => by
    dsimp only at e
    cases q : f (g y) with
    | bad => rw [q] at e; cases e
    | ex k => exact nx _ k q
    | ok z => rw [q] at e; cases e)
  dsimp only
  cases q : md (fun y => (f (g y)).bind fun z => .ok (st y z)) with
  | bad => trivial
  | ex c => rw [q] at this; exact this
  | ok x' =>
    rw [q] at this
    obtain ⟨p, o, y, y', h1, h2, h3, h4, h5⟩ := this
    cases q2 : f (g y) with
    | bad => rw [q2] at h4; cases h4
    | ex c => rw [q2] at h4; cases h4
    | ok z =>
      rw [q2] at h4
      have h4 : st y z = y' := by cases h4; rfl
      subst h4
      refine ⟨p ++ [n], o, g y, z, ?_, h2, at_snoc h3 (hk y) (hg y), q2, ?_⟩
      · unfold ixP
        rw [h1]
        dsimp only
        rw [hb]
        show (match ρ[i]? with | some (some o) => _ | _ => _) = _
        rw [h2]
        dsimp only
        rw [h3]
        dsimp only
        rw [hk y]
        dsimp only
        rw [hx y]
        dsimp only
        rw [if_pos (List.getElem?_eq_some_iff.mp (hg y)).1]
      · rw [put_snoc h3 (hk y) (hg y), hs, h5]
/-- what a method does to a tree -/
def GQ (g : GMt) (s : α → O) (as : List O) (F : α → M α) : Prop := Nex F ∧ ∀ y y', F y = .ok y' → g (s y) as = some (s y')
theorem sim_meth__z {T : String} {fa : DVs} {g : GMt} {as : List O} {F : α → M α} {md : (α → M α) → M A} (hp : MQ (fp ρ) ρ i sA s md) (hk : ∀ y, tyO (s y) = T) (ha : fa ρ = .ok as ρ') (hρ : ρ'[i]? = ρ[i]?) (hg : GQ g s as F) : Sim0 (methS T fp fa g ρ) (md F) (Np fun x => ρ'.set i (some (sA x))) := by
  have := hp F hg.1
  cases q : md F with
  | bad => trivial
  | ex c => rw [q] at this; exact this.elim
  | ok x' =>
    rw [q] at this
    obtain ⟨p, o, y, y', h1, h2, h3, h4, h5⟩ := this
    show methS T fp fa g ρ = .nx _
    have hkd : kindAt ρ i p = T := by
      unfold kindAt
      rw [h2]
      dsimp only
      rw [h3]
      exact hk y
    unfold methS
    rw [h1]
    dsimp only
    rw [if_pos hkd, ha]
    dsimp only
    rw [hρ, h2]
    dsimp only
    rw [h3]
    dsimp only
    rw [hg.2 y y' h4]
    dsimp only
    rw [h5]
theorem sim_meth_z {T : String} {fa : DVs} {g : GMt} {as : List O} {F : α → M α} {md : (α → M α) → M A} (hp : MQ (fp ρ) ρ i sA s md) (hk : ∀ y, tyO (s y) = T) (ha : fa ρ = .ok as ρ') (hρ : ρ'[i]? = ρ[i]?) (hg : GQ g s as F) {upd : A → Rho} (hu : ∀ x, ρ'.set i (some (sA x)) = upd x) : Sim0 (methS T fp fa g ρ) (md F) (Np upd) := by
  have e : (fun x => ρ'.set i (some (sA x))) = upd := funext hu
  rw [← e]
  exact sim_meth__z hp hk ha hρ hg
theorem sim_meth_m__z {T : String} {fa : DVs} {g : GMt} {ss : β → List O} {F : β → α → M α} {m : M β} {x : α} (hx : ρ[i]? = some (some (s x))) (hk : ∀ y, tyO (s y) = T) (ha : VsQ0 (fa ρ) m ss ρ') (hρ : ρ'[i]? = ρ[i]?) (hg : ∀ b, GQ g s (ss b) (F b)) : Sim0 (methS T (varP i) fa g ρ) (m.bind fun b => F b x) (Np fun x => ρ'.set i (some (s x))) := by
  cases m with
  | bad => trivial
  | ok b => exact sim_meth__z (md := fun f => f x) (mq_var hx) hk ha hρ (hg b)
  | ex c =>
    have ha : fa ρ = .ex c := ha
    refine ⟨ρ, ?_⟩
    have hkd : kindAt ρ i [] = T := by
      unfold kindAt
      rw [hx]
      exact hk x
    unfold methS varP
    rw [hx]
    dsimp only
    rw [if_pos hkd, ha]
theorem sim_meth_m_z {T : String} {fa : DVs} {g : GMt} {ss : β → List O} {F : β → α → M α} {m : M β} {x : α} (hx : ρ[i]? = some (some (s x))) (hk : ∀ y, tyO (s y) = T) (ha : VsQ0 (fa ρ) m ss ρ') (hρ : ρ'[i]? = ρ[i]?) (hg : ∀ b, GQ g s (ss b) (F b)) {upd : α → Rho} (hu : ∀ x, ρ'.set i (some (s x)) = upd x) : Sim0 (methS T (varP i) fa g ρ) (m.bind fun b => F b x) (Np upd) := by
  have e : (fun x => ρ'.set i (some (s x))) = upd := funext hu
  rw [← e]
  exact sim_meth_m__z hx hk ha hρ hg
theorem gq_append {t : α → O} {v : α} : GQ gAppend (oL t) [t v] (fun xs => appM xs v) := by
  refine ⟨fun y c e => ?_, fun y y' e => ?_⟩
  · unfold appM at e
    dsimp only at e
    split at e <;> cases e
  · unfold appM at e
    dsimp only at e
    split at e
    · rename_i h
      cases e
      show (if (y.map t).length < lim then some (O.lst (y.map t ++ [t v])) else none) = _
      rw [if_pos (by simpa using h)]
      unfold oL
      simp
    · cases e
theorem gq_clear {t : α → O} : GQ gClear (oL t) [] (fun _ => .ok []) := by
  refine ⟨fun y c e => (nomatch e), fun y y' e => ?_⟩
  cases e
  rfl
def popM (xs : List α) : M (List α) := if xs.length = 0 then .bad else .ok xs.dropLast
theorem gq_pop {t : α → O} : GQ gPop (oL t) [] popM := by
  refine ⟨fun y c e => ?_, fun y y' e => ?_⟩
  · unfold popM at e
    split at e <;> cases e
  · unfold popM at e
    split at e
    · cases e
    · rename_i h
      cases e
      show (if y.map t = [] then none else some (O.lst (y.map t).dropLast)) = some (.lst (y.dropLast.map t))
      rw [if_neg (by intro e; apply h; simpa using congrArg List.length e), List.map_dropLast]
def popAtM (xs : List α) (i : Int) : M (List α) := if decide (-(2 ^ 63) ≤ i) && decide (i < 2 ^ 63) then (match ixN xs.length i with
  | some j => if j < xs.length then .ok (xs.eraseIdx j) else .bad
  | none => .bad) else .bad
theorem gq_popAt {t : α → O} {k : Int} : GQ gPopAt (oL t) [.fz (.int k)] (fun xs => popAtM xs k) := by
  refine ⟨fun y c e => ?_, fun y y' e => ?_⟩
  · unfold popAtM at e
    dsimp only at e
    split at e
    · split at e
      · split at e <;> cases e
      · cases e
    · cases e
  · unfold popAtM at e
    dsimp only at e
    split at e
    · rename_i h
      split at e
      · rename_i j hj
        split at e
        · rename_i hl
          cases e
          show (if decide (-(2 ^ 63) ≤ k) && decide (k < 2 ^ 63) then (match ixN (y.map t).length k with | some j => if j < (y.map t).length then some (O.lst ((y.map t).eraseIdx j)) else none | none => none) else none) = some (.lst ((y.eraseIdx j).map t))
          rw [if_pos h, List.length_map, hj]
          dsimp only
          rw [if_pos hl]
          congr 1
          congr 1
          apply List.ext_getElem?
          intro m
          simp only [List.getElem?_eraseIdx, List.getElem?_map]
          split <;> rfl
        · cases e
      · cases e
    · cases e
theorem gq_reverse {t : α → O} : GQ gReverse (oL t) [] (fun xs => .ok xs.reverse) := by
  refine ⟨fun y c e => (nomatch e), fun y y' e => ?_⟩
  cases e
  show some (O.lst (y.map t).reverse) = some (.lst (y.reverse.map t))
  rw [List.map_reverse]
def insM (xs : List α) (i : Int) (x : α) : M (List α) := if xs.length < lim ∧ 0 ≤ i ∧ i < 2 ^ 63 then .ok (xs.take i.toNat ++ [x] ++ xs.drop i.toNat) else .bad
theorem gq_insert {t : α → O} {k : Int} {v : α} : GQ gInsert (oL t) [.fz (.int k), t v] (fun xs => insM xs k v) := by
  refine ⟨fun y c e => ?_, fun y y' e => ?_⟩
  · unfold insM at e
    dsimp only at e
    split at e <;> cases e
  · unfold insM at e
    dsimp only at e
    split at e
    · rename_i h
      cases e
      show (if (y.map t).length < lim ∧ 0 ≤ k ∧ k < 2 ^ 63 then some (O.lst ((y.map t).take k.toNat ++ [t v] ++ (y.map t).drop k.toNat)) else none) = some (.lst ((y.take k.toNat ++ [v] ++ y.drop k.toNat).map t))
      rw [if_pos (by simpa using h)]
      simp
    · cases e
def extM (xs ys : List α) : M (List α) := if xs.length + ys.length ≤ lim then .ok (xs ++ ys) else .bad
theorem gq_extend {t : α → O} {v : List α} : GQ gExtend (oL t) [oL t v] (fun xs => extM xs v) := by
  refine ⟨fun y c e => ?_, fun y y' e => ?_⟩
  · unfold extM at e
    dsimp only at e
    split at e <;> cases e
  · unfold extM at e
    dsimp only at e
    split at e
    · rename_i h
      cases e
      show (if (y.map t).length + (v.map t).length ≤ lim then some (O.lst (y.map t ++ v.map t)) else none) = some (.lst ((y ++ v).map t))
      rw [if_pos (by simpa using h), List.map_append]
    · cases e
/-- a store -/
def SQ (s : α → O) (y : D) (o : O) (F : α → M α) : Prop := Nex F ∧ ∀ x x', F x = .ok x' → setO (s x) y o = some (s x')
theorem sim_store__z {fv : DV} {o : O} {y : Ar} {F : α → M α} {md : (α → M α) → M A} (hv : fv ρ = .ok o ρ') (hp : MQ (fp ρ') ρ' i sA s md) (hb : fb ρ' = .ok y) (hg : SQ s y.d o F) : Sim0 (storeS fv fp fb ρ) (md F) (Np fun x => ρ'.set i (some (sA x))) := by
  have := hp F hg.1
  cases q : md F with
  | bad => trivial
  | ex c => rw [q] at this; exact this.elim
  | ok x' =>
    rw [q] at this
    obtain ⟨p, t, x, x2, h1, h2, h3, h4, h5⟩ := this
    show storeS fv fp fb ρ = .nx _
    unfold storeS
    rw [hv]
    dsimp only
    rw [h1]
    dsimp only
    rw [hb]
    dsimp only
    rw [h2]
    dsimp only
    rw [h3]
    dsimp only
    rw [hg.2 x x2 h4]
    dsimp only
    rw [h5]
theorem sim_store_z {fv : DV} {o : O} {y : Ar} {F : α → M α} {md : (α → M α) → M A} (hv : fv ρ = .ok o ρ') (hp : MQ (fp ρ') ρ' i sA s md) (hb : fb ρ' = .ok y) (hg : SQ s y.d o F) {upd : A → Rho} (hu : ∀ x, ρ'.set i (some (sA x)) = upd x) : Sim0 (storeS fv fp fb ρ) (md F) (Np upd) := by
  have e : (fun x => ρ'.set i (some (sA x))) = upd := funext hu
  rw [← e]
  exact sim_store__z hv hp hb hg
theorem sim_store_m__z {fv : DV} {t : β → O} {m : M β} {y : Ar} {F : β → α → M α} {md : (α → M α) → M A} (hv : VQ0 (fv ρ) m t ρ') (hp : MQ (fp ρ') ρ' i sA s md) (hb : fb ρ' = .ok y) (hg : ∀ v, SQ s y.d (t v) (F v)) : Sim0 (storeS fv fp fb ρ) (m.bind fun v => md (F v)) (Np fun x => ρ'.set i (some (sA x))) := by
  cases m with
  | bad => trivial
  | ok v => exact sim_store__z hv hp hb (hg v)
  | ex c =>
    have hv : fv ρ = .ex c := hv
    refine ⟨ρ, ?_⟩
    unfold storeS
    rw [hv]
theorem sim_store_m_z {fv : DV} {t : β → O} {m : M β} {y : Ar} {F : β → α → M α} {md : (α → M α) → M A} (hv : VQ0 (fv ρ) m t ρ') (hp : MQ (fp ρ') ρ' i sA s md) (hb : fb ρ' = .ok y) (hg : ∀ v, SQ s y.d (t v) (F v)) {upd : A → Rho} (hu : ∀ x, ρ'.set i (some (sA x)) = upd x) : Sim0 (storeS fv fp fb ρ) (m.bind fun v => md (F v)) (Np upd) := by
  have e : (fun x => ρ'.set i (some (sA x))) = upd := funext hu
  rw [← e]
  exact sim_store_m__z hv hp hb hg
theorem sim_store_i__z {fv : DV} {o : O} {m : M β} {sy : β → Ar} {F : β → α → M α} {md : (α → M α) → M A} (hv : fv ρ = .ok o ρ') (hp : MQ (fp ρ') ρ' i sA s md) (hb : RQ0 (fb ρ') m sy) (hg : ∀ b, SQ s (sy b).d o (F b)) : Sim0 (storeS fv fp fb ρ) (m.nox.bind fun b => md (F b)) (Np fun x => ρ'.set i (some (sA x))) := by
  cases m with
  | bad => trivial
  | ex c => trivial
  | ok b => exact sim_store__z hv hp hb (hg b)
theorem sim_store_i_z {fv : DV} {o : O} {m : M β} {sy : β → Ar} {F : β → α → M α} {md : (α → M α) → M A} (hv : fv ρ = .ok o ρ') (hp : MQ (fp ρ') ρ' i sA s md) (hb : RQ0 (fb ρ') m sy) (hg : ∀ b, SQ s (sy b).d o (F b)) {upd : A → Rho} (hu : ∀ x, ρ'.set i (some (sA x)) = upd x) : Sim0 (storeS fv fp fb ρ) (m.nox.bind fun b => md (F b)) (Np upd) := by
  have e : (fun x => ρ'.set i (some (sA x))) = upd := funext hu
  rw [← e]
  exact sim_store_i__z hv hp hb hg
theorem sim_store_mi__z {fv : DV} {t : δ → O} {mv : M δ} {m : M β} {sy : β → Ar} {F : δ → β → α → M α} {md : (α → M α) → M A} (hv : VQ0 (fv ρ) mv t ρ') (hp : MQ (fp ρ') ρ' i sA s md) (hb : RQ0 (fb ρ') m sy) (hg : ∀ v b, SQ s (sy b).d (t v) (F v b)) : Sim0 (storeS fv fp fb ρ) (mv.bind fun v => m.nox.bind fun b => md (F v b)) (Np fun x => ρ'.set i (some (sA x))) := by
  cases mv with
  | bad => trivial
  | ok v => exact sim_store_i__z hv hp hb (hg v)
  | ex c =>
    have hv : fv ρ = .ex c := hv
    refine ⟨ρ, ?_⟩
    unfold storeS
    rw [hv]
theorem sim_store_mi_z {fv : DV} {t : δ → O} {mv : M δ} {m : M β} {sy : β → Ar} {F : δ → β → α → M α} {md : (α → M α) → M A} (hv : VQ0 (fv ρ) mv t ρ') (hp : MQ (fp ρ') ρ' i sA s md) (hb : RQ0 (fb ρ') m sy) (hg : ∀ v b, SQ s (sy b).d (t v) (F v b)) {upd : A → Rho} (hu : ∀ x, ρ'.set i (some (sA x)) = upd x) : Sim0 (storeS fv fp fb ρ) (mv.bind fun v => m.nox.bind fun b => md (F v b)) (Np upd) := by
  have e : (fun x => ρ'.set i (some (sA x))) = upd := funext hu
  rw [← e]
  exact sim_store_mi__z hv hp hb hg
theorem sq_list {t : α → O} {k : Int} {v : α} : SQ (oL t) (.int k) (t v) (fun xs => setM xs k v) := by
  refine ⟨fun y c e => ?_, fun y y' e => ?_⟩
  · unfold setM at e
    dsimp only at e
    split at e <;> cases e
  · unfold setM at e
    dsimp only at e
    split at e
    · rename_i j hj
      cases e
      show (match ixN (y.map t).length k with | some j => some (O.lst ((y.map t).set j (t v))) | none => none) = some (.lst ((y.set j v).map t))
      rw [List.length_map, hj, List.map_set]
    · cases e
/-! ### dicts -/
variable {κ : Type} [DecidableEq κ]
abbrev Dc (κ α : Type) := List (κ × α)
def kI : Int → Key := Sum.inl
def kS : Str → Key := Sum.inr
def eDk (ke : κ → Key) (e : α → D) : Dc κ α → D := fun d => .dK (d.map fun p => ke p.1) (d.map fun p => e p.2)
def oDk (ke : κ → Key) (e : α → D) : Dc κ α → O := fun d => .dK (d.map fun p => ke p.1) (d.map fun p => e p.2)
instance {ke : κ → Key} {e : α → D} : ToD (oDk ke e) (eDk ke e) := ⟨fun _ => rfl⟩
instance {ke : κ → Key} {e : α → D} : NnE (eDk ke e) := ⟨fun _ h => nomatch h⟩
instance {ke : κ → Key} {e : α → D} [FlatE e] : LeafF (oDk ke e) := ⟨fun d => by
  show flats (d.map fun p => e p.2) = true
  unfold flats
  rw [List.all_map, List.all_eq_true]
  exact fun p _ => FlatE.fl p.2⟩
def dg : Dc κ α → κ → Option α
  | [], _ => none
  | (k', v) :: d, k => if k' = k then some v else dg d k
def dp (d : Dc κ α) (k : κ) (v : α) : Dc κ α := if k ∈ d.map (·.1) then d.map (fun p => if p.1 = k then (p.1, v) else p) else d ++ [(k, v)]
def dgM (d : Dc κ α) (k : κ) : M α := optC (dg d k) .bad .ok
def dpM (d : Dc κ α) (k : κ) (v : α) : M (Dc κ α) := if d.length < lim then .ok (dp d k v) else .bad
class Inj (ke : κ → Key) : Prop where
  inj : ∀ a b, ke a = ke b → a = b
instance : Inj kI := ⟨fun a b h => Sum.inl.inj h⟩
instance : Inj kS := ⟨fun a b h => Sum.inr.inj h⟩
theorem look_dg {ke : κ → Key} [Inj ke] {e : α → D} : ∀ (d : Dc κ α) (k : κ), look (d.map fun p => ke p.1) (d.map fun p => e p.2) (ke k) = (dg d k).map e
  | [], k => by simp [look, dg]
  | (k', v) :: d, k => by
    rw [List.map_cons, List.map_cons]
    unfold look dg
    by_cases h : k' = k
    · subst h; simp
    · have : ¬ ke k' = ke k := fun q => h (Inj.inj _ _ q)
      rw [if_neg this, if_neg h]
      exact look_dg d k
theorem replD_dp {ke : κ → Key} [Inj ke] {e : α → D} : ∀ (d : Dc κ α) (k : κ) (v : α), replD (d.map fun p => ke p.1) (d.map fun p => e p.2) (ke k) (e v) = (d.map fun p => if p.1 = k then (p.1, v) else p).map fun p => e p.2
  | [], k, v => rfl
  | (k', w) :: d, k, v => by
    simp only [List.map_cons]
    unfold replD
    rw [replD_dp d k v]
    by_cases h : k' = k
    · subst h; simp
    · have : ¬ ke k' = ke k := fun q => h (Inj.inj _ _ q)
      simp [h, this]
theorem putD_dp {ke : κ → Key} [Inj ke] {e : α → D} (d : Dc κ α) (k : κ) (v : α) : putD (d.map fun p => ke p.1) (d.map fun p => e p.2) (ke k) (e v) = ((dp d k v).map (fun (p : κ × α) => ke p.1), (dp d k v).map fun (p : κ × α) => e p.2) := by
  have hm : ke k ∈ (d.map fun p => ke p.1) ↔ k ∈ d.map (·.1) := by
    simp only [List.mem_map]
    exact ⟨fun ⟨p, hp, q⟩ => ⟨p, hp, Inj.inj _ _ q⟩, fun ⟨p, hp, q⟩ => ⟨p, hp, by rw [q]⟩⟩
  unfold putD dp
  by_cases h : k ∈ d.map (·.1)
  · rw [if_pos (hm.mpr h), if_pos h, replD_dp]
    congr 1
    rw [List.map_map]
    refine List.map_congr_left fun p _ => ?_
    dsimp only [Function.comp]
    split <;> rfl
  · rw [if_neg fun q => h (hm.mp q), if_neg h]
    simp
class KeyE (ke : κ → Key) (f : outParam (κ → D)) : Prop where
  kd : ∀ k, keyD (f k) = some (ke k)
instance : KeyE kI eI := ⟨fun _ => rfl⟩
instance : KeyE kS eS := ⟨fun _ => rfl⟩
theorem dget_D {ke : κ → Key} [Inj ke] {f : κ → D} [KeyE ke f] {e : α → D} {a b : Ar} {d : Dc κ α} {k : κ} (ha : a.o.dic = eDk ke e d) (hb : b.d = f k) : dget a b = some ((dg d k).map e) := by
  unfold dget
  rw [ha]
  show (match keyD b.d with | some k => some (look (d.map fun (p : κ × α) => ke p.1) (d.map fun (p : κ × α) => e p.2) k) | none => none) = _
  rw [hb, KeyE.kd (ke := ke), ← look_dg (ke := ke)]
theorem o_inD {ke : κ → Key} [Inj ke] {f : κ → D} [KeyE ke f] {e : α → D} {neg : Bool} {a b : Ar} {d : Dc κ α} {k : κ} (hb : b.d = eDk ke e d) (hs : b.o.seq = none) (hc : b.o.dic = eDk ke e d) (ha : a.d = f k) : gIn neg a b = okB (xor neg (dg d k).isSome) := by
  unfold gIn
  rw [hs]
  dsimp only
  split
  · rename_i s t e1 e2; rw [hb] at e2; cases e2
  · rw [dget_D (ke := ke) hc ha]
    cases dg d k <;> rfl
theorem o_inDt {ke : κ → Key} [Inj ke] {f : κ → D} [KeyE ke f] {e : α → D} {a b : Ar} {d : Dc κ α} {k : κ} (hb : b.d = eDk ke e d) (hs : b.o.seq = none) (hc : b.o.dic = eDk ke e d) (ha : a.d = f k) : gIn false a b = okB (dg d k).isSome := by
  rw [o_inD (ke := ke) hb hs hc ha]
  cases (dg d k).isSome <;> rfl
theorem o_ninD {ke : κ → Key} [Inj ke] {f : κ → D} [KeyE ke f] {e : α → D} {a b : Ar} {d : Dc κ α} {k : κ} (hb : b.d = eDk ke e d) (hs : b.o.seq = none) (hc : b.o.dic = eDk ke e d) (ha : a.d = f k) : gIn true a b = okB (!(dg d k).isSome) := by
  rw [o_inD (ke := ke) hb hs hc ha]
  cases (dg d k).isSome <;> rfl
theorem o_ixD_z {ke : κ → Key} [Inj ke] {f : κ → D} [KeyE ke f] {e : α → D} {a b : Ar} {d : Dc κ α} {k : κ} (hb : a.d = eDk ke e d) (hs : a.o.seq = none) (hc : a.o.dic = eDk ke e d) (ha : b.d = f k) : RQ0 (gIx a b) (dgM d k) (rO (oF e)) := by
  have q : gIx a b = (match dget a b with | some (some d) => .ok (.ow (.fz d)) | _ => .bad) := by
    unfold gIx
    rw [hs]
    dsimp only
    split
    · rename_i s i e1 e2; rw [hb] at e1; cases e1
    · rfl
  rw [q, dget_D (ke := ke) hc ha]
  unfold dgM
  cases dg d k with
  | none => trivial
  | some v => rfl
theorem sq_dict {ke : κ → Key} [Inj ke] {f : κ → D} [KeyE ke f] {e : α → D} {k : κ} {v : α} : SQ (oDk ke e) (f k) (.fz (e v)) (fun d => dpM d k v) := by
  refine ⟨fun y c e => ?_, fun y y' e' => ?_⟩
  · unfold dpM at e
    dsimp only at e
    split at e <;> cases e
  · unfold dpM at e'
    dsimp only at e'
    split at e'
    · rename_i h
      cases e'
      show setO (.dK (y.map fun p => ke p.1) (y.map fun p => e p.2)) (f k) (.fz (e v)) = some (oDk ke e (dp y k v))
      unfold setO
      dsimp only
      rw [KeyE.kd (ke := ke)]
      dsimp only
      rw [if_pos (by simpa using h), putD_dp]
      rfl
    · cases e'
theorem o_lenD {ke : κ → Key} {e : α → D} {a : Ar} {d : Dc κ α} (hs : a.o.seq = none) (hc : a.o.dic = eDk ke e d) : gLen [a] = okI d.length := by
  unfold gLen
  dsimp only
  rw [hs, hc]
  show okI ((d.map fun p => ke p.1).length : Nat) = _
  rw [List.length_map]
def sortD (d : Dc Int α) : M (List Int) := if d.length < 64 then .ok (sortI (d.map (·.1))) else .bad
theorem o_sortD_z {e : α → D} {a : Ar} {d : Dc Int α} (hb : a.d = eDk kI e d) : RQ0 (gSortX [a]) (sortD d) (rO (oL (oF eI))) := by
  have : gSortX [a] = (if d.length < 64 then .ok (.ow (.lst (((sortI (d.map (·.1))).map D.int).map .fz))) else .bad) := by
    unfold gSortX
    dsimp only
    rw [hb]
    show (match intKs (d.map fun p => kI p.1) with | some ns => if ns.length < 64 then Rs.ok (.ow (.lst (((sortI ns).map D.int).map .fz))) else .bad | none => .bad) = _
    have : (d.map fun p => kI p.1) = (d.map (·.1)).map Sum.inl := by rw [List.map_map]; rfl
    rw [this, intKs_map]
    simp
  rw [this]
  unfold sortD
  split
  · show Rs.ok _ = Rs.ok (.ow (.lst ((sortI (d.map (·.1))).map (oF eI))))
    rw [List.map_map]
    rfl
  · trivial
end
/-! ### and, or that tell None apart -/
section
variable {δ : Type} {t1 t2 : DT} {q : δ → Bool} {mq : δ → M Bool} {x : Option δ}
theorem tq_andS_p (ρf : Option δ → Rho) (h : ∀ x, t1 (ρf x) = .ok (!x.isNone)) (h2 : ∀ y, t2 (ρf (some y)) = .ok (q y)) : andT t1 t2 (ρf x) = .ok (optC x false q) := by
  unfold andT
  rw [h]
  cases x with
  | none => rfl
  | some y => exact h2 y
theorem tq_orN_p (ρf : Option δ → Rho) (h : ∀ x, t1 (ρf x) = .ok x.isNone) (h2 : ∀ y, t2 (ρf (some y)) = .ok (q y)) : orT t1 t2 (ρf x) = .ok (optC x true q) := by
  unfold orT
  rw [h]
  cases x with
  | none => rfl
  | some y => exact h2 y
theorem tq_andS_z (ρf : Option δ → Rho) (h : ∀ x, t1 (ρf x) = .ok (!x.isNone)) (h2 : ∀ y, TQ0 (t2 (ρf (some y))) (mq y)) : TQ0 (andT t1 t2 (ρf x)) (optC x (.ok false) mq) := by
  unfold andT
  rw [h]
  cases x with
  | none => rfl
  | some y => exact h2 y
theorem tq_orN_z (ρf : Option δ → Rho) (h : ∀ x, t1 (ρf x) = .ok x.isNone) (h2 : ∀ y, TQ0 (t2 (ρf (some y))) (mq y)) : TQ0 (orT t1 t2 (ρf x)) (optC x (.ok true) mq) := by
  unfold orT
  rw [h]
  cases x with
  | none => rfl
  | some y => exact h2 y
end
end DL

namespace DL
open PySem PySem.Spec L2
@[irreducible] def fuel : Nat := 1000000000
section
variable {ρ : Rho} {t1 t2 : DT} {q b : Bool} {mq : M Bool}
theorem tq_and_f (h : t1 ρ = .ok false) : andT t1 t2 ρ = .ok false := by unfold andT; rw [h]
theorem tq_or_t (h : t1 ρ = .ok true) : orT t1 t2 ρ = .ok true := by unfold orT; rw [h]
theorem tq_and_t (h : t1 ρ = .ok true) (h2 : t2 ρ = .ok q) : andT t1 t2 ρ = .ok q := by unfold andT; rw [h]; exact h2
theorem tq_or_f (h : t1 ρ = .ok false) (h2 : t2 ρ = .ok q) : orT t1 t2 ρ = .ok q := by unfold orT; rw [h]; exact h2
theorem tq_and_tm_z (h : t1 ρ = .ok true) (h2 : TQ0 (t2 ρ) mq) : TQ0 (andT t1 t2 ρ) mq := by
  have : andT t1 t2 ρ = t2 ρ := by unfold andT; rw [h]
  rw [this]; exact h2
theorem tq_or_fm_z (h : t1 ρ = .ok false) (h2 : TQ0 (t2 ρ) mq) : TQ0 (orT t1 t2 ρ) mq := by
  have : orT t1 t2 ρ = t2 ρ := by unfold orT; rw [h]
  rw [this]; exact h2
theorem pq_isi {T : String} {fa : DE} {a : Ar} {d : D} (ha : fa ρ = .ok a) (hd : a.d = d) (h : isiD T d = okB b) : isiE T fa ρ = okB b := by
  unfold isiE Rs.bind
  rw [ha]
  show isiD T a.d = _
  rw [hd, h]
theorem isi_some {α : Type} {T : String} {e : α → D} {x : Option α} (h0 : isiD T .non = okB false) (h1 : ∀ a, isiD T (e a) = okB true) : isiD T (eO e x) = okB x.isSome := by
  cases x with
  | none => exact h0
  | some a => exact h1 a
theorem xq_mn_z {fe : DE} {m : M Int} (h : RQ0 (fe ρ) m (rO (oF eI))) : XQ0 (someO fe ρ) (m.nox.bind fun i => .ok (some i)) := by
  cases m with
  | ok i => exact xq_p h
  | ex c => trivial
  | bad => trivial
theorem xnx {m : M Int} {c : Str} : (m.nox.bind fun i => M.ok (some i)) ≠ .ex c := by
  cases m <;> exact (nomatch ·)
theorem onx {α : Type} {a : α} {c : Str} : M.ok a ≠ .ex c := (nomatch ·)
variable {A B K' : DS} {γ : Type} {m : M γ} {P : γ → SR → Prop} {c : DT}
theorem sim_deadT_z (h : c ρ = .ok true) (k : Sim0 (seqS A K' ρ) m P) : Sim0 (seqS (ifS c A B) K' ρ) m P := by
  have : seqS (ifS c A B) K' ρ = seqS A K' ρ := by
    rw [seq_if]
    unfold ifS
    rw [h]
  rw [this]; exact k
theorem sim_deadF_z (h : c ρ = .ok false) (k : Sim0 (seqS B K' ρ) m P) : Sim0 (seqS (ifS c A B) K' ρ) m P := by
  have : seqS (ifS c A B) K' ρ = seqS B K' ρ := by
    rw [seq_if]
    unfold ifS
    rw [h]
  rw [this]; exact k
theorem if_or : ifS (orT t1 t2) A B ρ = ifS t1 A (ifS t2 A B) ρ := by
  unfold ifS orT
  cases t1 ρ with
  | ok b => cases b <;> rfl
  | _ => rfl
theorem if_and : ifS (andT t1 t2) A B ρ = ifS t1 (ifS t2 A B) B ρ := by
  unfold ifS andT
  cases t1 ρ with
  | ok b => cases b <;> rfl
  | _ => rfl
theorem seq_cong {f g : DS} (h : f ρ = g ρ) : seqS f K' ρ = seqS g K' ρ := by unfold seqS; rw [h]
theorem sim_or_z (h : Sim0 (ifS t1 A (ifS t2 A B) ρ) m P) : Sim0 (ifS (orT t1 t2) A B ρ) m P := by rw [if_or]; exact h
theorem sim_and_z (h : Sim0 (ifS t1 (ifS t2 A B) B ρ) m P) : Sim0 (ifS (andT t1 t2) A B ρ) m P := by rw [if_and]; exact h
theorem sim_orK_z (h : Sim0 (seqS (ifS t1 A (ifS t2 A B)) K' ρ) m P) : Sim0 (seqS (ifS (orT t1 t2) A B) K' ρ) m P := by rw [seq_cong if_or]; exact h
theorem sim_andK_z (h : Sim0 (seqS (ifS t1 (ifS t2 A B) B) K' ρ) m P) : Sim0 (seqS (ifS (andT t1 t2) A B) K' ρ) m P := by rw [seq_cong if_and]; exact h
end
/-! ### loops that change the items of one's own list -/
variable {K : PySem.W.Frag} {F F' H H' H0 F0 F1 H1 : Hp} {cs cs' : List Addr} {σ σ' : L2.St} {ρ ρ' : Rho}
/-- ways within p stay where the cells ahead of p stay -/
def Keeps (K : PySem.W.Frag) (H : Hp) (p : List Nat) (v : V) (c1 : List Addr) : Prop := ∀ H', (∀ b ∈ c1, H' b = H b) → ∀ p1 p2 w, p = p1 ++ p2 → VAt K H p1 v w → VAt K H' p1 v w
theorem ORep.focus2 : ∀ {p : List Nat} {o s : O} {v : V} {c}, ORep K F H o v c → O.at p o = some s → ∃ u c1 c2 c3, VAt K H p v u ∧ c = c1 ++ (c2 ++ c3) ∧ ORep K F H s u c2 ∧ Keeps K H p v c1 ∧
    ∀ F' H' s' c2', Same F F' → (∀ b ∈ c1, H' b = H b) → (∀ b ∈ c3, H' b = H b) → ORep K F' H' s' u c2' → ORep K F' H' (O.put p s' o) v (c1 ++ (c2' ++ c3))
  | [], o, s, v, c, r, h => by
    cases h
    refine ⟨v, [], c, [], rfl, by simp, r, fun H' _ p1 p2 w e hw => ?_, fun F' H' s' c2' _ _ _ q => by simpa [O.put] using q⟩
    have : p1 = [] := (List.append_eq_nil_iff.mp e.symm).1
    subst this
    exact hw
  | n :: p, o, s, v, c, r, h => by
    unfold O.at at h
    split at h
    · rename_i os ek
      split at h
      · rename_i x ex
        have key : ∀ (a : Addr) (vs : List V) (c' : List Addr), v = .ref a → c = a :: c' → (H a = some (.lst vs) ∨ H a = some (.tup vs)) → OReps K F H os vs c' →
            (∀ F' H' os' c2', Same F F' → H' a = H a → OReps K F' H' os' vs c2' → ORep K F' H' (o.withKids os') v (a :: c2')) →
            ∃ u c1 c2 c3, VAt K H (n :: p) v u ∧ c = c1 ++ (c2 ++ c3) ∧ ORep K F H s u c2 ∧ Keeps K H (n :: p) v c1 ∧
              ∀ F' H' s' c2', Same F F' → (∀ b ∈ c1, H' b = H b) → (∀ b ∈ c3, H' b = H b) → ORep K F' H' s' u c2' → ORep K F' H' (O.put (n :: p) s' o) v (c1 ++ (c2' ++ c3)) := by
          intro a vs c' e1 e2 e3 q mk
          obtain ⟨w, d1, d2, d3, g1, g2, g3, k⟩ := q.focus n ex
          obtain ⟨u, f1, f2, f3, h1, h2, h3, kp, k2⟩ := ORep.focus2 g3 h
          subst g2 h2 e2
          refine ⟨u, a :: (d1 ++ f1), f2, f3 ++ d3, ⟨a, vs, w, e1, e3, g1, h1⟩, by simp [List.append_assoc], h3, fun H' hk p1 p2 z ep hz => ?_, fun F' H' s' c2' hF k1 k3 q2 => ?_⟩
          · cases p1 with
            | nil => exact hz
            | cons m p1 =>
              have em : m = n ∧ p = p1 ++ p2 := by
                have := List.cons.inj ep
                exact ⟨this.1.symm, this.2⟩
              obtain ⟨rfl, ep2⟩ := em
              obtain ⟨a', vs', w', z1, z2, z3, z4⟩ := hz
              have ea : a' = a := by rw [e1] at z1; exact (V.ref.inj z1).symm
              subst ea
              have ha : H' a' = H a' := hk a' List.mem_cons_self
              have evs : vs' = vs := by
                rcases e3 with e3 | e3 <;> rcases z2 with z2 | z2 <;> rw [e3] at z2 <;> cases z2 <;> rfl
              subst evs
              have ew : w' = w := by rw [g1] at z3; exact (Option.some.inj z3).symm
              subst ew
              exact ⟨a', vs', w', z1, by rw [ha]; exact z2, z3, kp H' (fun b hb => hk b (List.mem_cons_of_mem _ (List.mem_append_right _ hb))) p1 p2 z ep2 z4⟩
          · have z := k F' H' (O.put p s' x) (f1 ++ (c2' ++ f3)) hF (fun b hb => k1 b (List.mem_cons_of_mem _ (List.mem_append_left _ hb))) (fun b hb => k3 b (List.mem_append_right _ hb))
              (k2 F' H' s' c2' hF (fun b hb => k1 b (List.mem_cons_of_mem _ (List.mem_append_right _ hb))) (fun b hb => k3 b (List.mem_append_left _ hb)) q2)
            have e : O.put (n :: p) s' o = o.withKids (os.set n (O.put p s' x)) := by
              simp only [O.put, ek, ex]
            rw [e]
            have := mk F' H' _ _ hF (k1 a List.mem_cons_self) z
            simpa [List.append_assoc] using this
        cases o with
        | lst ys =>
          cases ek
          obtain ⟨a, vs, c', e1, e2, e3, q⟩ := r
          exact key a vs c' e1 e2 (.inl e3) q fun F' H' os' c2' hF ha q' => ⟨a, vs, c2', e1, rfl, by rw [ha]; exact e3, q'⟩
        | tup ys =>
          cases ek
          obtain ⟨a, vs, c', e1, e2, e3, q⟩ := r
          exact key a vs c' e1 e2 (.inr e3) q fun F' H' os' c2' hF ha q' => ⟨a, vs, c2', e1, rfl, by rw [ha]; exact e3, q'⟩
        | fz d => cases ek
        | dK _ _ => cases ek
        | dT _ _ => cases ek
      · cases h
    · cases h
theorem RS.putAt2 {i : Nat} {p : List Nat} {o s : O} (R : RS K F0 H0 ρ F σ H cs) (hi : ρ[i]? = some (some o)) (hp : O.at p o = some s) : ∃ v u c1 c2 c3, cs = c1 ++ (c2 ++ c3) ∧ σ[i]? = some (some v) ∧ VAt K H p v u ∧ ORep K F H s u c2 ∧ Keeps K H p v c1 ∧
    ∀ H2 s2 c2', (∀ b, b ∉ c2 → H b ≠ none → H2 b = H b) → ORep K F H2 s2 u c2' → c2'.Nodup → (∀ c ∈ c2', F c = none ∧ H0 c = none ∧ c ∉ c1 ∧ c ∉ c3) → (∀ b ∈ c1, H2 b = H b) ∧ RS K F0 H0 (ρ.set i (some (O.put p s2 o))) F σ H2 (c1 ++ (c2' ++ c3)) := by
  obtain ⟨v, d1, d2, d3, e1, e2, r, k⟩ := R.put hi
  obtain ⟨u, f1, f2, f3, h1, h2, h3, kp, k2⟩ := r.focus2 hp
  subst e1 h2
  have nd := R.nd
  refine ⟨v, u, d1 ++ f1, f2, f3 ++ d3, by simp [List.append_assoc], e2, h1, h3, fun H' hk p1 p2 w ep hw => kp H' (fun b hb => hk b (List.mem_append_right _ hb)) p1 p2 w ep hw, fun H2 s2 c2' kb ro nd2 fr => ?_⟩
  have ndA : (d1 ++ ((f1 ++ (f2 ++ f3)) ++ d3)).Nodup := nd
  rw [List.nodup_append] at nd
  obtain ⟨n1, n23, d123⟩ := nd
  rw [List.nodup_append] at n23
  obtain ⟨n2, n3, d23⟩ := n23
  rw [List.nodup_append] at n2
  obtain ⟨m1, m2, m3⟩ := n2
  rw [List.nodup_append] at m2
  obtain ⟨q1, q2, q3⟩ := m2
  have thF : ∀ b, b ∈ f1 ++ (f2 ++ f3) → H b ≠ none := fun b hb => r.there b hb
  have hf1 : ∀ b ∈ f1, H2 b = H b := fun b hb => kb b (fun h => m3 b hb b (List.mem_append_left _ h) rfl) (thF b (List.mem_append_left _ hb))
  have hf3 : ∀ b ∈ f3, H2 b = H b := fun b hb => kb b (fun h => q3 b h b hb rfl) (thF b (List.mem_append_right _ (List.mem_append_right _ hb)))
  have hd1 : ∀ b ∈ d1, H2 b = H b := fun b hb => kb b (fun h => d123 b hb b (by simp [h]) rfl) (R.sl.there b (List.mem_append_left _ hb))
  have z := k2 F H2 s2 c2' (Same.refl _) hf1 hf3 ro
  have w := k H2 (O.put p s2 o) (f1 ++ (c2' ++ f3)) (fun b hb hn => kb b (fun h => hb (List.mem_append_right _ (List.mem_append_left _ h))) hn) z ?_ ?_
  · have : d1 ++ f1 ++ (c2' ++ (f3 ++ d3)) = d1 ++ ((f1 ++ (c2' ++ f3)) ++ d3) := by simp [List.append_assoc]
    rw [this]
    refine ⟨fun b hb => ?_, w⟩
    rcases List.mem_append.mp hb with h | h
    · exact hd1 b h
    · exact hf1 b h
  · rw [List.nodup_append]
    refine ⟨m1, ?_, fun a ha b hb e => ?_⟩
    · rw [List.nodup_append]
      exact ⟨nd2, q2, fun a ha b hb e => by subst e; exact (fr a ha).2.2.2 (List.mem_append_left _ hb)⟩
    · subst e
      rcases List.mem_append.mp hb with h | h
      · exact (fr a h).2.2.1 (List.mem_append_right _ ha)
      · exact m3 a ha a (List.mem_append_right _ h) rfl
  · intro c hc
    rcases List.mem_append.mp hc with h | h
    · have := R.cf c (by simp [h])
      exact ⟨this.1, this.2, fun h1 => d123 c h1 c (by simp [h]) rfl, fun h1 => d23 c (by simp [h]) c h1 rfl⟩
    · rcases List.mem_append.mp h with h | h
      · exact ⟨(fr c h).1, (fr c h).2.1, fun h1 => (fr c h).2.2.1 (List.mem_append_left _ h1), fun h1 => (fr c h).2.2.2 (List.mem_append_right _ h1)⟩
      · have := R.cf c (by simp [h])
        exact ⟨this.1, this.2, fun h1 => d123 c h1 c (by simp [h]) rfl, fun h1 => d23 c (by simp [h]) c h1 rfl⟩
end DL

namespace DL
open PySem PySem.Spec L2
variable {K : PySem.W.Frag} {F F' H H' H0 F0 F1 H1 : Hp} {cs cs' : List Addr} {σ σ' : L2.St} {ρ ρ' : Rho}
/-- slot t holds the item j of the list at q, which stands at the place p of slot i -/
structure Al (K : PySem.W.Frag) (H : Hp) (σ : L2.St) (i t : Nat) (p : List Nat) (j : List Nat) (q : Addr) : Prop where
  ex : ∃ v0 v, σ[i]? = some (some v0) ∧ σ[t]? = some (some v) ∧ VAt K H p v0 (.ref q) ∧ VAt K H (p ++ j) v0 v
theorem Al.same {i t p j q} (A : Al K H σ i t p j q) (h : Same H H') : Al K H' σ i t p j q := by
  obtain ⟨v0, v, h1, h2, h3, h4⟩ := A.ex
  exact ⟨v0, v, h1, h2, h3.same h, h4.same h⟩
theorem RS.setNone {t : Nat} {x : Option V} (R : RS K F0 H0 ρ F σ H cs) (h : ρ[t]? = some none) : RS K F0 H0 ρ F (σ.set t x) H cs :=
  ⟨R.fh, R.f0, R.nw, R.h0, R.sl.setNone h, R.nd, R.cf⟩
abbrev DPa := Nat → List Nat → DP
abbrev DSa := Nat → List Nat → DS
section
variable {X : Cx} {W : WX} {pos : Pos} {a b c e : Expr} {fa fb fc fe : DE} {t : Nat} {st : Stmt} {sts rest : List Stmt}
def GPa (X : Cx) (W : WX) (t : Nat) (e : Expr) (f : DPa) : Prop := PE X e (fun σ H Q => ∃ F0 H0 ρ F cs i p j q, RS X.K F0 H0 ρ F σ H cs ∧ Al X.K H σ i t p j q ∧ postP X W (f i (p ++ j) ρ) σ F H Q)
def alP : DPa := fun i p _ => .ok i p
theorem gpa_var (t : Nat) {x : Str} (hN : X.N[t]? = some x := by rfl) (hv : Vis X.env.scope x := by first | exact Or.inl rfl | exact Or.inr (Or.inl rfl) | exact Or.inr (Or.inr rfl)) (hd : (x == ("__debug__" : Str)) = false := by decide)
    (hcd : (x == ("__classdict__" : Str)) = false := by decide) : GPa X W t (.Name x pos) alP := by
  refine PE.imp (pe_var hN hv hd hcd) fun σ H Q ⟨F0, H0, ρ, F, cs, i, p, j, q, R, A, k⟩ => ?_
  obtain ⟨v0, v, h1, h2, h3, h4⟩ := A.ex
  exact ⟨v, h2, k F H v0 v (Ext.refl R.fh) h1 h4⟩
def ixPa (fp : DPa) (fb : DE) : DPa := fun i p => ixP (fp i p) fb
theorem gpa_ix {fp : DPa} (ha : GPa X W t a fp) (hb : GE X W b fb) (hs : PlainIx b := by intro _ _; rfl) : GPa X W t (.Subscript a b pos) (ixPa fp fb) := by
  refine PE.imp (pe_ix L2.ix_seq ha hb hs) fun σ H Q ⟨F0, H0, ρ, F, cs, i0, p0, j0, q0, R, A, p⟩ => ?_
  refine ⟨F0, H0, ρ, F, cs, i0, p0, j0, q0, R, A, ?_⟩
  unfold ixPa ixP at p
  cases q1 : fp i0 (p0 ++ j0) ρ with
  | bad => simp only [q1] at p; exact p
  | ex c => simp only [q1] at p; exact p
  | ok i pl =>
    simp only [q1] at p
    intro F1 H1 v u e1 hv hat
    refine ⟨F0, H0, ρ, F1, cs, R.ext e1, ?_⟩
    cases q2 : fb ρ with
    | bad => simp only [q2] at p; exact p
    | ex c => simp only [q2] at p; exact fun F2 H2 C e2 m => p F2 H2 C (e1.trans e2) m
    | ok y =>
      simp only [q2] at p
      intro F2 H2 w c2 e2 r2 n2
      have rw2 := r2.view e2.fh
      split at p
      · rename_i j ej
        rw [ej] at rw2
        split at p
        · rename_i o eo
          split at p
          · rename_i s es
            split at p
            · rename_i os ek
              split at p
              · rename_i n en
                split at p
                · rename_i hn
                  have R2 := (R.ext e1).ext e2
                  obtain ⟨v', u', c1, c2', c3, _, g2, g3, g4, _⟩ := R2.putAt eo es
                  have ev : v' = v := by rw [hv] at g2; exact (Option.some.inj (Option.some.inj g2)).symm
                  subst ev
                  have eu : u' = u := g3.fun_ (hat.same e2.hh)
                  subst eu
                  have hu : ∃ a vs, u' = .ref a ∧ os.length = vs.length ∧ (H2 a = some (.lst vs) ∨ H2 a = some (.tup vs)) := by
                    cases s with
                    | lst os' => cases ek; obtain ⟨a, vs, c', e1, e2, e3, q⟩ := g4; exact ⟨a, vs, e1, q.len, .inl e3⟩
                    | tup os' => cases ek; obtain ⟨a, vs, c', e1, e2, e3, q⟩ := g4; exact ⟨a, vs, e1, q.len, .inr e3⟩
                    | fz d => cases ek
                    | dK _ _ => cases ek
                    | dT _ _ => cases ek
                  obtain ⟨a, vs, eu, el, es2⟩ := hu
                  have hn' : n < vs.length := by rw [← el]; exact hn
                  have gv : vs[n]? = some vs[n] := List.getElem?_eq_getElem hn'
                  have at1 : atI vs j = some vs[n] := by
                    unfold atI
                    rw [← el, en]
                    exact gv
                  have fin := p F2 H2 v' vs[n] (e1.trans e2) hv (g3.snoc eu es2 gv)
                  rcases es2 with s2 | s2
                  · exact .inl ⟨a, vs, j, _, eu, rw2, SqL.of s2, at1, fin⟩
                  · exact .inr (.inl ⟨a, vs, j, _, eu, rw2, SqT.of s2, at1, fin⟩)
                · exact p.elim
              · exact p.elim
            · exact p.elim
          · exact p.elim
        · exact p.elim
      · exact p.elim
/-- what follows a statement of such a body -/
def postSa (X : Cx) (r : SR) (F0 H0 F : Hp) (i t : Nat) (p : List Nat) (j : List Nat) (q : Addr) (D : Ends) : Prop := match r with
  | .nx ρ => ∀ F' H' σ' cs', Same F F' → RS X.K F0 H0 ρ F' σ' H' cs' → Al X.K H' σ' i t p j q → D.nx σ' H'
  | _ => False
theorem postSa_same {r : SR} {D : Ends} {i p j q} (s : Same F F') (h : postSa X r F0 H0 F i t p j q D) : postSa X r F0 H0 F' i t p j q D := by
  cases r with
  | nx ρ => exact fun F2 H2 σ2 cs2 e R => h F2 H2 σ2 cs2 (s.trans e) R
  | _ => exact h.elim
def tSa (X : Cx) (t : Nat) (f : DSa) : TS := fun D σ H => ∃ F0 H0 ρ F cs i p j q, RS X.K F0 H0 ρ F σ H cs ∧ Al X.K H σ i t p j q ∧ postSa X (f i (p ++ j) ρ) F0 H0 F i t p j q D
def GSa (X : Cx) (t : Nat) (st : Stmt) (f : DSa) : Prop := PS X st (tSa X t f)
def GSas (X : Cx) (t : Nat) (sts : List Stmt) (f : DSa) : Prop := PSs X sts (tSa X t f)
def seqA (f g : DSa) : DSa := fun i p => seqS (f i p) (g i p)
theorem gsa_one {f : DSa} (h : GSa X t st f) : GSas X t [st] f := pss_one h
theorem gsa_cons {f g : DSa} (h : GSa X t st f) (h2 : GSas X t rest g) : GSas X t (st :: rest) (seqA f g) := by
  refine PSs.imp (pss_cons h h2) fun D σ H ⟨F0, H0, ρ, F, cs, i, p, j, q, R, A, k⟩ => ?_
  refine ⟨F0, H0, ρ, F, cs, i, p, j, q, R, A, ?_⟩
  unfold seqA seqS at k
  cases e : f i (p ++ j) ρ with
  | nx ρ' =>
    rw [e] at k
    exact fun F2 H2 σ2 cs2 e R2 A2 => ⟨F0, H0, ρ', F2, cs2, i, p, j, q, R2, A2, postSa_same e k⟩
  | bk ρ' => rw [e] at k; exact k
  | ct ρ' => rw [e] at k; exact k
  | rt o => rw [e] at k; exact k
  | ex c ρ' => rw [e] at k; exact k
  | bad => rw [e] at k; exact k
def methA (T : String) (fp : DPa) (fa : DVs) (g : GMt) : DSa := fun i p ρ => match fp i p ρ with
  | .ok i' p' => if i' = i ∧ p <+: p' then methS T (fp i p) fa g ρ else .bad
  | _ => .bad
/-- the method's step, its arguments once reckoned -/
theorem meth_step {r : V → List V → Hp → VK → Prop} {g : GMt} {i : Nat} {p pl j : List Nat} {q : Addr} {ρ' : Rho} {as : List O} {cs1 c1 : List Addr} {vs : List V} {D : Ends} {v u : V} {Q : V → Hp → Prop} (mt : MtT X r g) (fh : Same F H) (hpre : p ++ j <+: pl)
    (R2 : RS X.K F0 H0 ρ' F σ H cs1) (A : Al X.K H σ i t p j q) (hv : σ[i]? = some (some v)) (hat : VAt X.K H pl v u) (r2 : OReps X.K F H as vs c1) (t2 : Tk H0 F c1 cs1)
    (k : postSa X (match ρ'[i]? with
      | some (some o) => match O.at pl o with
        | some s => match g s as with
          | some s' => .nx (ρ'.set i (some (O.put pl s' o)))
          | none => .bad
        | none => .bad
      | _ => .bad) F0 H0 F i t p j q D) (hQ : ∀ w H3, D.nx σ H3 → Q w H3) : r u vs H Q := by
  split at k
  · rename_i o eo
    split at k
    · rename_i s es
      split at k
      · rename_i s' eg
        obtain ⟨v', u', d1, d2, d3, g1, g2, g3, g4, kp, kk⟩ := R2.putAt2 eo es
        rw [hv] at g2
        cases g2
        have : u' = u := g3.fun_ hat
        subst this
        subst g1
        have nd := R2.nd
        rw [List.nodup_append] at nd
        obtain ⟨n1, n23, d123⟩ := nd
        rw [List.nodup_append] at n23
        obtain ⟨n2, n3, d23⟩ := n23
        refine mt F H s s' as u' vs d2 c1 _ fh g4 r2 ?_ ?_ eg fun H3 w c3 k3 r3 n4 s3 => hQ w H3 ?_
        · rw [List.nodup_append]
          exact ⟨n2, t2.nd, fun a ha b hb e => by subst e; exact (t2.fr a hb).2.2 (List.mem_append_right _ (List.mem_append_left _ ha))⟩
        · intro b hb
          rcases List.mem_append.mp hb with h | h
          · exact (R2.cf b (List.mem_append_right _ (List.mem_append_left _ h))).1
          · exact (t2.fr b h).1
        · obtain ⟨kc, R3⟩ := kk H3 s' c3 k3 r3 n4 fun c hc => by
            rcases List.mem_append.mp (s3 c hc) with h | h
            · have q := R2.cf c (List.mem_append_right _ (List.mem_append_left _ h))
              exact ⟨q.1, q.2, fun h1 => d123 c h1 c (List.mem_append_left _ h) rfl, fun h1 => d23 c h c h1 rfl⟩
            · have q := t2.fr c h
              exact ⟨q.1, q.2.1, fun h1 => q.2.2 (List.mem_append_left _ h1), fun h1 => q.2.2 (List.mem_append_right _ (List.mem_append_right _ h1))⟩
          obtain ⟨w0, w1, a1, a2, a3, a4⟩ := A.ex
          have ew : w0 = v := by rw [hv] at a1; exact (Option.some.inj (Option.some.inj a1)).symm
          subst ew
          obtain ⟨tl, et⟩ := hpre
          refine k F H3 σ _ (Same.refl _) R3 ⟨w0, w1, a1, a2, ?_, ?_⟩
          · exact kp H3 kc p (j ++ tl) _ (by rw [← et, List.append_assoc]) a3
          · exact kp H3 kc (p ++ j) tl _ et.symm a4
      · exact k.elim
    · exact k.elim
  · exact k.elim
theorem gsa_meth {T : String} {id : String} {name : Str} {es : List Expr} {apos cpos : Pos} {r : V → List V → Hp → VK → Prop} {g : GMt} {o : Expr} {fp : DPa} {fv : DVs} (pa : PlainAttrs T) (slot : Slot T name id) (hty : typeOf (.builtin id) = pure (.type "method_descriptor")) (hm : MtR X id r) (mt : MtT X r g) (hT : T ≠ "") (ho : GPa X W t o fp) (ha : GVs X W (e :: es) fv)
    (hbase : attributeBase o name X.env (eval o X.env) = eval o X.env := by rfl)
    (hfew : ((backTo cpos (starEach (e :: es) X.env)).all (fun x => !x.1) && (backToKw cpos (keywordEach [] X.env)).all (fun x => x.1.isSome)
      && decide ((e :: es).length + ([] : List Keyword).length + (if ([] : List Keyword).isEmpty then 0 else 1) < 30)) = true := by rfl)
    (hline : (apos.endLine == cpos.line) = true := by rfl) (hs : starEach (e :: es) X.env = (false, eval e X.env) :: starEach es X.env := by rfl) (hplain : (backTo cpos (starEach es X.env)).any (·.1) = false := by rfl)
    (hsw : swapsWith (.Call (.Attribute o name apos) (e :: es) [] cpos) none pos.line X.env = pure false := by rfl) :
    GSa X t (.Expr (.Call (.Attribute o name apos) (e :: es) [] cpos) pos) (methA T fp fv g) := by
  refine PS.imp (ps_expr (pe_bm pa slot hty hm ho ha hbase hfew hline hs hplain) hsw) fun D σ H ⟨F0, H0, ρ, F, cs, i0, p0, j0, q0, R, A, p⟩ => ?_
  refine ⟨F0, H0, ρ, F, cs, i0, p0, j0, q0, R, A, ?_⟩
  unfold methA at p
  cases q1 : fp i0 (p0 ++ j0) ρ with
  | bad => simp only [q1] at p; exact p.elim
  | ex c => simp only [q1] at p; exact p.elim
  | ok i pl =>
    simp only [q1] at p
    intro F1 H1 v u e1 hv hat
    split at p
    · rename_i hh
      obtain ⟨rfl, hpre⟩ := hh
      unfold methS at p
      rw [q1] at p
      dsimp only at p
      split at p
      · rename_i hk
        refine ⟨kindAt_ty hT (R.ext e1) hk hv hat, F0, H0, ρ, F1, cs, R.ext e1, ?_⟩
        cases q2 : fv ρ with
        | bad => simp only [q2] at p; exact p.elim
        | ex c => simp only [q2] at p; exact p.elim
        | ok as ρ' =>
          simp only [q2] at p
          intro F2 H2 vs c1 cs1 e2 R2 r2 t2
          exact meth_step mt e2.fh hpre R2 (A.same (e1.hh.trans e2.hh)) hv (hat.same e2.hh) r2 t2 (postSa_same (e1.ff.trans e2.ff) p) fun w H3 h => h
      · exact p.elim
    · exact p.elim
theorem gsa_append {o : Expr} {apos cpos : Pos} {fp : DPa} {fv : DVs} (ho : GPa X W t o fp) (ha : GVs X W [e] fv)
    (hbase : attributeBase o "append" X.env (eval o X.env) = eval o X.env := by rfl)
    (hfew : ((backTo cpos (starEach [e] X.env)).all (fun x => !x.1) && (backToKw cpos (keywordEach [] X.env)).all (fun x => x.1.isSome)
      && decide ([e].length + ([] : List Keyword).length + (if ([] : List Keyword).isEmpty then 0 else 1) < 30)) = true := by rfl)
    (hline : (apos.endLine == cpos.line) = true := by rfl) (hs : starEach [e] X.env = (false, eval e X.env) :: starEach [] X.env := by rfl) (hplain : (backTo cpos (starEach [] X.env)).any (·.1) = false := by rfl)
    (hsw : swapsWith (.Call (.Attribute o "append" apos) [e] [] cpos) none pos.line X.env = pure false := by rfl) :
    GSa X t (.Expr (.Call (.Attribute o "append" apos) [e] [] cpos) pos) (methA "list" fp fv gAppend) :=
  gsa_meth PySem.F.plainAttrs_list PySem.F.slot_list_append PySem.F.type_list_append mt_append mtt_append (by decide) ho ha hbase hfew hline hs hplain hsw
theorem gsa_meth0 {T : String} {id : String} {name : Str} {apos cpos : Pos} {r : V → List V → Hp → VK → Prop} {g : GMt} {o : Expr} {fp : DPa} (pa : PlainAttrs T) (slot : Slot T name id) (hty : typeOf (.builtin id) = pure (.type "method_descriptor")) (hm : MtR X id r) (mt : MtT X r g) (hT : T ≠ "") (ho : GPa X W t o fp)
    (hbase : attributeBase o name X.env (eval o X.env) = eval o X.env := by rfl) (hline : (apos.endLine == cpos.line) = true := by rfl)
    (hsw : swapsWith (.Call (.Attribute o name apos) [] [] cpos) none pos.line X.env = pure false := by rfl) :
    GSa X t (.Expr (.Call (.Attribute o name apos) [] [] cpos) pos) (methA T fp nilV g) := by
  refine PS.imp (ps_expr (pe_bm0 pa slot hty hm ho hbase hline) hsw) fun D σ H ⟨F0, H0, ρ, F, cs, i0, p0, j0, q0, R, A, p⟩ => ?_
  refine ⟨F0, H0, ρ, F, cs, i0, p0, j0, q0, R, A, ?_⟩
  unfold methA at p
  cases q1 : fp i0 (p0 ++ j0) ρ with
  | bad => simp only [q1] at p; exact p.elim
  | ex c => simp only [q1] at p; exact p.elim
  | ok i pl =>
    simp only [q1] at p
    intro F1 H1 v u e1 hv hat
    split at p
    · rename_i hh
      obtain ⟨rfl, hpre⟩ := hh
      unfold methS at p
      rw [q1] at p
      dsimp only at p
      split at p
      · rename_i hk
        refine ⟨kindAt_ty hT (R.ext e1) hk hv hat, ?_⟩
        exact meth_step (as := []) (vs := []) (c1 := []) mt e1.fh hpre (R.ext e1) (A.same e1.hh) hv hat ⟨rfl, rfl⟩ ⟨List.nodup_nil, fun _ h => nomatch h⟩ (postSa_same e1.ff p) fun w H3 h => h
      · exact p.elim
    · exact p.elim
/-! ### the loop -/
@[simp] def noneAt (ρ : Rho) (t : Nat) : Bool := match ρ[t]? with
  | some none => true
  | _ => false
@[simp] def lenAt (ρ : Rho) (i : Nat) (p : List Nat) : Option Nat := match ρ[i]? with
  | some (some o) => match O.at p o with
    | some (.lst os) => some os.length
    | _ => none
  | _ => none
def loopO (body : DSa) (i : Nat) (p : List Nat) (t N : Nat) : Nat → Nat → DS
  | 0, _, ρ => if lenAt ρ i p = some N then .nx ρ else .bad
  | n + 1, j, ρ => if noneAt ρ t = true ∧ lenAt ρ i p = some N then (match body i (p ++ [j]) ρ with
    | .nx ρ' => loopO body i p t N n (j + 1) ρ'
    | _ => .bad) else .bad
def forOS (t : Nat) (fp : DP) (body : DSa) : DS := fun ρ => match fp ρ with
  | .ok i p => if i = t ∨ ρ.length ≤ t then .bad else (match lenAt ρ i p with
    | some N => loopO body i p t N N 0 (ρ.set t none)
    | none => .bad)
  | .ex c => .ex c ρ
  | .bad => .bad
theorem lenAt_rep {i : Nat} {p : List Nat} {N : Nat} {v u : V} (R : RS K F0 H0 ρ F σ H cs) (h : lenAt ρ i p = some N) (hv : σ[i]? = some (some v)) (hat : VAt K H p v u) : ∃ a vs, u = .ref a ∧ H a = some (.lst vs) ∧ vs.length = N := by
  unfold lenAt at h
  split at h
  · rename_i o eo
    split at h
    · rename_i os es
      cases h
      obtain ⟨v', u', c1, c2, c3, _, g2, g3, g4, _⟩ := R.putAt eo es
      rw [hv] at g2
      cases g2
      have : u' = u := g3.fun_ hat
      subst this
      obtain ⟨a, vs, c', e1, e2, e3, q⟩ := g4
      exact ⟨a, vs, e1, e3, q.len.symm⟩
    · cases h
  · cases h
theorem gs_forO {y : Str} {p1 : Pos} {body : List Stmt} {bd : DSa} {fp : DP} {k : Nat} (hp : PassesOwn (model X.prog X.w) X.A X.env X.xe) (C : Cc X W k) (ho : GP X W e fp) (hb : GSas X t body bd)
    (hi : X.N[t]? = some y := by rfl) (hx : Loc X.env.scope y := by first | exact Or.inl rfl | exact Or.inr rfl) (hf : X.fn y = true ∨ X.env.scope.names.lookup y = some .local := by first | exact .inl rfl | exact .inr rfl)
    (hs : ∀ z, foldedSetIterable e X.env z = pure z := by intro _; rfl) : GS X W (.For (.Name y p1) e body [] pos) (forOS t fp bd) := by
  refine PS.imp (ps_for hp C.calm (pi_list ho) (pg_name C.nd hi hx hf) hb hs) fun D σ H ⟨F0, H0, ρ, F, cs, R, p⟩ => ?_
  refine ⟨F0, H0, ρ, F, cs, R, ?_⟩
  unfold forOS at p
  cases q1 : fp ρ with
  | bad => rw [q1] at p; exact p
  | ex c => rw [q1] at p; exact fun F2 H2 C e m => p F2 H2 σ cs C e.ff (R.ext e) m
  | ok i pl =>
    simp only [q1] at p
    split at p
    · exact p.elim
    · rename_i hit
      have hne : i ≠ t := fun e => hit (.inl e)
      have htl : t < ρ.length := Nat.lt_of_not_le fun h => hit (.inr h)
      split at p
      · rename_i N eN
        intro F1 H1 v u e1 hv hat
        have R1 := R.ext e1
        obtain ⟨q, vs, rfl, hq, hl⟩ := lenAt_rep R1 eN hv hat
        refine ⟨q, rfl, ⟨vs, SqL.of hq⟩, ?_⟩
        obtain ⟨cs1, R2⟩ := R1.drop htl
        refine ⟨fun j m σ H => m = N - j ∧ j ≤ N ∧ ∃ ρ F cs v0, RS X.K F0 H0 ρ F σ H cs ∧ σ[i]? = some (some v0) ∧ VAt X.K H pl v0 (.ref q) ∧ postS X W (loopO bd i pl t N (N - j) j ρ) F0 H0 F D,
          ⟨N, by simp, Nat.zero_le _, ρ.set t none, F1, cs1, v, R2, hv, hat, postS_same e1.ff p⟩, ?_⟩
        rintro j m σ2 H2 ⟨rfl, hj, ρ2, F2, cs2, v2, R3, hv2, hat2, p2⟩
        by_cases hlt : j < N
        · obtain ⟨n, hn⟩ : ∃ n, N - j = n + 1 := ⟨N - j - 1, by omega⟩
          rw [hn] at p2
          unfold loopO at p2
          split at p2
          · rename_i hc
            obtain ⟨q', vs2, eq', hvs2, hl2⟩ := lenAt_rep R3 hc.2 hv2 hat2
            cases eq'
            have hjv : j < vs2.length := by omega
            refine .inr ⟨⟨vs2, vs2[j], SqL.of hvs2, List.getElem?_eq_getElem hjv⟩, fun σ3 H3 => ∃ ρ F cs v0, RS X.K F0 H0 ρ F σ3 H3 cs ∧ σ3[i]? = some (some v0) ∧ VAt X.K H3 pl v0 (.ref q) ∧ postS X W (loopO bd i pl t N (N - (j + 1)) (j + 1) ρ) F0 H0 F D, fun σ' H' h => ⟨N - (j + 1), by omega, rfl, hlt, h⟩, fun z H' yz => ?_⟩
            obtain ⟨e, yz⟩ := yz
            subst e
            have ez := yz vs2 (SqL.of hvs2)
            have hnone : ρ2[t]? = some none := by
              have := hc.1
              unfold noneAt at this
              split at this
              · rename_i h; exact h
              · cases this
            have R4 := R3.setNone (x := some z) hnone
            have hvi : (σ2.set t (some z))[i]? = some (some v2) := by rw [List.getElem?_set_ne hne.symm]; exact hv2
            have htσ : t < σ2.length := by
              rw [R3.lenS]
              exact (List.getElem?_eq_some_iff.mp hnone).1
            have al : Al X.K H' (σ2.set t (some z)) i t pl [j] q := ⟨v2, z, hvi, List.getElem?_set_self htσ, hat2, hat2.snoc rfl (.inl hvs2) ez⟩
            refine ⟨F0, H0, ρ2, F2, cs2, i, pl, [j], q, R4, al, ?_⟩
            cases eb : bd i (pl ++ [j]) ρ2 with
            | nx ρ3 =>
              rw [eb] at p2
              dsimp only at p2
              intro F5 H5 σ5 cs5 s5 R5 A5
              obtain ⟨w0, w1, a1, a2, a3, a4⟩ := A5.ex
              have hnn : N - (j + 1) = n := by omega
              rw [hnn]
              exact ⟨ρ3, F5, cs5, w0, R5, a1, a3, postS_same s5 p2⟩
            | _ => rw [eb] at p2; exact p2.elim
          · exact p2.elim
        · have e : j = N := by omega
          subst e
          rw [Nat.sub_self] at p2
          unfold loopO at p2
          split at p2
          · rename_i hc
            obtain ⟨q', vs2, eq', hvs2, hl2⟩ := lenAt_rep R3 hc hv2 hat2
            cases eq'
            exact .inl ⟨⟨vs2, SqL.of hvs2, by omega⟩, p2 F2 H2 σ2 cs2 (Same.refl _) R3⟩
          · exact p2.elim
      · exact p.elim
end
end DL

namespace DL
open PySem PySem.Spec L2
theorem at_put : ∀ {p : List Nat} {o s s' : O}, O.at p o = some s → O.at p (O.put p s' o) = some s'
  | [], o, s, s', h => rfl
  | n :: p, o, s, s', h => by
    unfold O.at at h
    cases q : o.kids with
    | none => rw [q] at h; cases h
    | some us =>
      rw [q] at h
      dsimp only at h
      cases q2 : us[n]? with
      | none => rw [q2] at h; cases h
      | some w =>
        rw [q2] at h
        have e : O.put (n :: p) s' o = o.withKids (us.set n (O.put p s' w)) := by simp only [O.put, q, q2]
        have hn : n < us.length := (List.getElem?_eq_some_iff.mp q2).1
        have k : (o.withKids (us.set n (O.put p s' w))).kids = some (us.set n (O.put p s' w)) := by
          cases o <;> first | rfl | cases q
        rw [e]
        unfold O.at
        rw [k]
        dsimp only
        rw [List.getElem?_set_self hn]
        exact at_put h
theorem put_put : ∀ {p : List Nat} {o s s1 s2 : O}, O.at p o = some s → O.put p s2 (O.put p s1 o) = O.put p s2 o
  | [], o, s, s1, s2, h => rfl
  | n :: p, o, s, s1, s2, h => by
    unfold O.at at h
    cases q : o.kids with
    | none => rw [q] at h; cases h
    | some us =>
      rw [q] at h
      dsimp only at h
      cases q2 : us[n]? with
      | none => rw [q2] at h; cases h
      | some w =>
        rw [q2] at h
        have e : ∀ z, O.put (n :: p) z o = o.withKids (us.set n (O.put p z w)) := fun z => by simp only [O.put, q, q2]
        have hn : n < us.length := (List.getElem?_eq_some_iff.mp q2).1
        have k : (o.withKids (us.set n (O.put p s1 w))).kids = some (us.set n (O.put p s1 w)) := by
          cases o <;> first | rfl | cases q
        have e2 : O.put (n :: p) s2 (o.withKids (us.set n (O.put p s1 w))) = (o.withKids (us.set n (O.put p s1 w))).withKids ((us.set n (O.put p s1 w)).set n (O.put p s2 (O.put p s1 w))) := by
          simp only [O.put, k]
          rw [List.getElem?_set_self hn]
        rw [e, e, e2, put_put h, List.set_set]
        cases o <;> first | rfl | cases q
section
variable {A α β γ : Type} {s : α → O} {t : β → O}
def IB (bd : DSa) (s : α → O) (F : α → M α) : Prop := Nex F ∧ ∀ (ρ : Rho) (i : Nat) (p : List Nat) (o : O) (y y' : α), ρ[i]? = some (some o) → O.at p o = some (s y) → F y = .ok y' → bd i p ρ = .nx (ρ.set i (some (O.put p (s y') o)))
theorem mq_al {ρ : Rho} {i : Nat} {p : List Nat} {o : O} {y : α} (h : ρ[i]? = some (some o)) (ha : O.at p o = some (s y)) : MQ (alP i p ρ) ρ i (fun x => O.put p (s x) o) s (fun f => f y) := by
  intro f nx
  dsimp only
  cases q : f y with
  | bad => trivial
  | ex c => exact nx y c q
  | ok z => exact ⟨p, o, y, z, rfl, h, ha, q, rfl⟩
def Pre (fp : DPa) : Prop := ∀ i p ρ i' p', fp i p ρ = .ok i' p' → i' = i ∧ p <+: p'
theorem pre_al : Pre alP := fun i p ρ i' p' h => by
  cases h
  exact ⟨rfl, List.prefix_refl _⟩
theorem pre_ix {fp : DPa} {fb : DE} (h : Pre fp) : Pre (ixPa fp fb) := fun i p ρ i' p' e => by
  unfold ixPa ixP at e
  cases q : fp i p ρ with
  | bad => rw [q] at e; cases e
  | ex c => rw [q] at e; cases e
  | ok i2 p2 =>
    rw [q] at e
    obtain ⟨rfl, hp⟩ := h i p ρ i2 p2 q
    dsimp only at e
    split at e
    · split at e
      · split at e
        · split at e
          · split at e
            · split at e
              · split at e
                · cases e
                  exact ⟨rfl, hp.trans (List.prefix_append _ _)⟩
                · cases e
              · cases e
            · cases e
          · cases e
        · cases e
      · cases e
    · cases e
    · cases e
theorem ib_meth {T : String} {fp : DPa} {fa : DVs} {g : GMt} {as : List O} {f : β → M β} {md : (β → M β) → α → M α} (hp : ∀ ρ i p o y, ρ[i]? = some (some o) → O.at p o = some (s y) → MQ (fp i p ρ) ρ i (fun x => O.put p (s x) o) t (fun f => md f y)) (hpre : Pre fp) (hk : ∀ y, tyO (t y) = T) (ha : ∀ ρ, fa ρ = .ok as ρ) (hg : GQ g t as f) (hx : Nex (md f)) : IB (methA T fp fa g) s (md f) := by
  refine ⟨hx, fun ρ i p o y y' h1 h2 h3 => ?_⟩
  have m := hp ρ i p o y h1 h2
  have sm := sim_meth__z m hk (ha ρ) rfl hg
  rw [h3] at sm
  have sm : methS T (fp i p) fa g ρ = .nx _ := sm
  have mm := m f hg.1
  dsimp only at mm
  rw [h3] at mm
  obtain ⟨p', o', cur, new, e1, e2, e3, e4, e5⟩ := mm
  have hpr := hpre i p ρ i p' e1
  unfold methA
  rw [e1]
  dsimp only
  rw [if_pos hpr, sm]
theorem ib_seq {b1 b2 : DSa} {F1 F2 : α → M α} (h1 : IB b1 s F1) (h2 : IB b2 s F2) : IB (seqA b1 b2) s (fun y => (F1 y).bind F2) := by
  refine ⟨fun y c e => ?_, fun ρ i p o y y' r1 r2 r3 => ?_⟩
  · dsimp only at e
    cases q : F1 y with
    | bad => rw [q] at e; cases e
    | ex k => exact h1.1 y k q
    | ok z => rw [q] at e; exact h2.1 z c e
  · dsimp only at r3
    cases q : F1 y with
    | bad => rw [q] at r3; cases r3
    | ex k => rw [q] at r3; cases r3
    | ok z =>
      rw [q] at r3
      have e1 := h1.2 ρ i p o y z r1 r2 q
      have hil : i < ρ.length := (List.getElem?_eq_some_iff.mp r1).1
      have e2 := h2.2 (ρ.set i (some (O.put p (s z) o))) i p (O.put p (s z) o) z y' (List.getElem?_set_self hil) (at_put r2) r3
      unfold seqA seqS
      rw [e1]
      dsimp only
      rw [e2, put_put r2, List.set_set]
theorem loopO_ok {bd : DSa} {F : α → M α} (h : IB bd s F) {ρ : Rho} {i t' : Nat} {p : List Nat} {o s0 : O} (hit : i ≠ t') (ht : ρ[t']? = some none) (hil : i < ρ.length) (ho : O.at p o = some s0) : ∀ (xs zs pre : List α) (N : Nat), pre.length + xs.length = N → mapM F xs = .ok zs →
    loopO bd i p t' N xs.length pre.length (ρ.set i (some (O.put p (oL s (pre ++ xs)) o))) = .nx (ρ.set i (some (O.put p (oL s (pre ++ zs)) o)))
  | [], zs, pre, N, hN, hm => by
    cases hm
    unfold loopO
    have : lenAt (ρ.set i (some (O.put p (oL s (pre ++ [])) o))) i p = some N := by
      unfold lenAt
      rw [List.getElem?_set_self hil]
      dsimp only
      rw [at_put ho]
      show some ((pre ++ []).map s).length = some N
      rw [List.length_map, List.length_append]
      simp at hN ⊢
      exact hN
    show (if lenAt (ρ.set i (some (O.put p (oL s (pre ++ [])) o))) i p = some N then SR.nx _ else SR.bad) = _
    rw [if_pos this]
  | x :: xs, zs, pre, N, hN, hm => by
    unfold mapM at hm
    cases q : F x with
    | bad => rw [q] at hm; cases hm
    | ex c => rw [q] at hm; cases hm
    | ok x' =>
      rw [q] at hm
      simp only [M.bind_ok] at hm
      cases q2 : mapM F xs with
      | bad => rw [q2] at hm; cases hm
      | ex c => rw [q2] at hm; cases hm
      | ok zs' =>
        rw [q2] at hm
        simp only [M.bind_ok] at hm
        cases hm
        have h1 : lenAt (ρ.set i (some (O.put p (oL s (pre ++ x :: xs)) o))) i p = some N := by
          unfold lenAt
          rw [List.getElem?_set_self hil]
          dsimp only
          rw [at_put ho]
          show some ((pre ++ x :: xs).map s).length = some N
          rw [List.length_map, List.length_append]
          exact congrArg some hN
        have h2 : noneAt (ρ.set i (some (O.put p (oL s (pre ++ x :: xs)) o))) t' = true := by
          unfold noneAt
          rw [List.getElem?_set_ne hit, ht]
        have hk : (oL s (pre ++ x :: xs)).kids = some ((pre ++ x :: xs).map s) := rfl
        have hx : ((pre ++ x :: xs).map s)[pre.length]? = some (s x) := by simp
        have e := h.2 (ρ.set i (some (O.put p (oL s (pre ++ x :: xs)) o))) i (p ++ [pre.length]) (O.put p (oL s (pre ++ x :: xs)) o) x x' (List.getElem?_set_self hil) (at_snoc (at_put ho) hk hx) q
        have e2 : O.put (p ++ [pre.length]) (s x') (O.put p (oL s (pre ++ x :: xs)) o) = O.put p (oL s ((pre ++ [x']) ++ xs)) o := by
          rw [put_snoc (at_put ho) hk hx, put_put ho]
          congr 1
          show O.lst (((pre ++ x :: xs).map s).set pre.length (s x')) = .lst (((pre ++ [x']) ++ xs).map s)
          rw [← List.map_set]
          simp
        have ih := loopO_ok h hit ht hil ho xs zs' (pre ++ [x']) N (by simp at hN ⊢; omega) q2
        unfold loopO
        show (if noneAt _ t' = true ∧ lenAt _ i p = some N then _ else _) = _
        rw [if_pos ⟨h2, h1⟩, e]
        dsimp only
        rw [e2, List.set_set]
        simpa using ih
theorem mapM_nex {F : α → M β} (h : Nex F) : ∀ (xs : List α) c, mapM F xs ≠ .ex c
  | [], c, e => by cases e
  | x :: xs, c, e => by
    unfold mapM at e
    cases q : F x with
    | bad => rw [q] at e; cases e
    | ex k => exact h x k q
    | ok y =>
      rw [q] at e
      simp only [M.bind_ok] at e
      cases q2 : mapM F xs with
      | bad => rw [q2] at e; cases e
      | ex k => exact mapM_nex h xs k q2
      | ok ys => rw [q2] at e; cases e
theorem sim_forO__z {bd : DSa} {F : α → M α} {ρ : Rho} {i t' : Nat} {sA : A → O} {fp : DP} {md : (List α → M (List α)) → M A} (hp : MQ (fp ρ) ρ i sA (oL s) md) (h : IB bd s F) (hit : decide (i ≠ t') = true) (htl : decide (t' < ρ.length) = true) : Sim0 (forOS t' fp bd ρ) (md (fun xs => mapM F xs)) (Np fun x => (ρ.set t' none).set i (some (sA x))) := by
  have hit := of_decide_eq_true hit
  have htl := of_decide_eq_true htl
  have := hp (fun xs => mapM F xs) (fun xs c => mapM_nex h.1 xs c)
  cases q : md (fun xs => mapM F xs) with
  | bad => trivial
  | ex c => rw [q] at this; exact this.elim
  | ok x' =>
    rw [q] at this
    obtain ⟨p, o, xs, zs, h1, h2, h3, h4, h5⟩ := this
    have hil : i < ρ.length := (List.getElem?_eq_some_iff.mp h2).1
    have hl : lenAt ρ i p = some xs.length := by
      unfold lenAt
      rw [h2]
      dsimp only
      rw [h3]
      show some (xs.map s).length = _
      rw [List.length_map]
    have := loopO_ok (ρ := ρ.set t' none) (t' := t') (o := o) (s0 := oL s xs) h hit (List.getElem?_set_self htl) (by simpa using hil) h3 xs zs [] xs.length (by simp) h4
    have e0 : (ρ.set t' none).set i (some (O.put p (oL s ([] ++ xs)) o)) = ρ.set t' none := by
      have : O.put p (oL s ([] ++ xs)) o = o := by
        have : ∀ (p : List Nat) (o x : O), O.at p o = some x → O.put p x o = o := by
          intro p
          induction p with
          | nil => intro o x h; cases h; rfl
          | cons n p ih =>
            intro o x h
            unfold O.at at h
            cases q : o.kids with
            | none => rw [q] at h; cases h
            | some us =>
              rw [q] at h
              dsimp only at h
              cases q2 : us[n]? with
              | none => rw [q2] at h; cases h
              | some w =>
                rw [q2] at h
                have e : O.put (n :: p) x o = o.withKids (us.set n (O.put p x w)) := by simp only [O.put, q, q2]
                rw [e, ih w x h]
                have hn : n < us.length := (List.getElem?_eq_some_iff.mp q2).1
                have : us.set n w = us := by
                  have : w = us[n] := by rw [List.getElem?_eq_getElem hn] at q2; exact (Option.some.inj q2).symm
                  rw [this]; simp
                rw [this]
                cases o <;> first | (cases q; rfl) | cases q
        exact this p o _ h3
      rw [this]
      have e1 : (ρ.set t' none)[i]? = some (some o) := by rw [List.getElem?_set_ne hit.symm]; exact h2
      have hil2 : i < (ρ.set t' none).length := by simpa using hil
      have : some o = (ρ.set t' none)[i] := by rw [List.getElem?_eq_getElem hil2] at e1; exact (Option.some.inj e1).symm
      rw [this]; simp
    show forOS t' fp bd ρ = .nx _
    unfold forOS
    rw [h1]
    dsimp only
    rw [if_neg (by intro z; rcases z with z | z; exact hit z; omega), hl]
    dsimp only
    rw [e0] at this
    rw [List.nil_append, h5] at this
    exact this
theorem sim_forO_z {bd : DSa} {F : α → M α} {ρ : Rho} {i t' : Nat} {sA : A → O} {fp : DP} {md : (List α → M (List α)) → M A} (hp : MQ (fp ρ) ρ i sA (oL s) md) (h : IB bd s F) (hit : decide (i ≠ t') = true) (htl : decide (t' < ρ.length) = true) {upd : A → Rho} (hu : ∀ x, (ρ.set t' none).set i (some (sA x)) = upd x) : Sim0 (forOS t' fp bd ρ) (md (fun xs => mapM F xs)) (Np upd) := by
  have e : (fun x => (ρ.set t' none).set i (some (sA x))) = upd := funext hu
  rw [← e]
  exact sim_forO__z hp h hit htl
end
end DL

namespace DL
open PySem PySem.Spec L2
theorem nex_b {α β γ : Type} {f : α → M β} {g : β → γ} (h : Nex f) (x : α) (c : Str) : ((f x).bind fun z => .ok (g z)) ≠ .ex c := by
  intro e
  cases q : f x with
  | bad => rw [q] at e; cases e
  | ex k => exact h x k q
  | ok y => rw [q] at e; cases e
section
variable {P : Program} {w : World} {K : PySem.W.Frag} {mg : Str → Option Value} {base : Heap}
theorem fnD {x qual : Str} {st : Stmt} {f : Addr} {fd : FuncData} {N ps : List Str} {k : Nat} {fb : DS} (F : Fun K x qual st f fd) (S : FnScope N ps (defScope st))
    (hbody : ∀ (cdv : Value) (A : Around) (outer : List Env) (s : Shared) (H : Hp) (E : XK), Cb (cxOf (L2.CX P w) P w K mg base N qual (defScope st) f cdv A outer s H E) (WEx E) k → GSs (cxOf (L2.CX P w) P w K mg base N qual (defScope st) f cdv A outer s H E) (WEx E) (defBody st) fb) :
    FnOk P w K mg base (L2.CX P w) (k + 1) f fd ps (spD K mg (semOf N.length fb) ps.length) := by
  refine F.okX S (fun vs H Q E h => ?_) (fun cdv A outer s H vs Q E hr h => ?_)
  · obtain ⟨_, _, h, _⟩ := h
    exact h
  · obtain ⟨F0, ds, hl, fh, r, p⟩ := h
    have tk : Takes (cxOf (L2.CX P w) P w K mg base N qual (defScope st) f cdv A outer s H E) (WEx E) := takes_of rfl rfl rfl rfl
    have C : Cb (cxOf (L2.CX P w) P w K mg base N qual (defScope st) f cdv A outer s H E) (WEx E) k := ⟨⟨rfl, hr, S.nd, fun σ => passAt tk σ⟩, passes_of rfl, tk⟩
    refine ⟨_, hbody cdv A outer s H E C, F0, H, startR N.length ds, F0, [], ⟨fh, Same.refl _, fun _ _ => rfl, Same.refl _, ?_, List.nodup_nil, fun _ h => nomatch h⟩, ?_⟩
    · unfold startR L2.start
      rw [r.len]
      exact slots_start _ r
    · unfold semOf at p
      cases q : fb (startR N.length ds) with
      | bad => rw [q] at p; exact p.elim
      | bk ρ => rw [q] at p; exact p.elim
      | ct ρ => rw [q] at p; exact p.elim
      | nx ρ =>
        rw [q] at p
        exact fun F' H' σ' cs' s' R' => p F' H' .non [] R'.toExt ⟨rfl, rfl⟩ New.nil
      | rt o => rw [q] at p; exact p
      | ex c ρ =>
        rw [q] at p
        exact fun F' H' σ' cs' C' s' R' m => p F' H' C' R'.toExt m
/-- what a law promises of a script -/
def spScr (K : PySem.W.Frag) : Sp := fun vs H Q _ => ∃ (a : Addr) (ns : List Int), vs = [.ref a] ∧ SqL K H a (ns.map V.int) ∧ ns.length ≤ 63 ∧ ∀ H', Q (.bl true) H'
abbrev scrD (ns : List Int) : D := .lst (ns.map .int)
theorem fn_scr {sem : DF} {k : Nat} {f : Addr} {fd : FuncData} {x : Str} (F : FnOk P w K mg base (L2.CX P w) k f fd [x] (spD K mg sem 1)) (h : ∀ ns : List Int, ns.length ≤ 63 → sem [scrD ns] = .ok (.fz (.bl true))) : FnOk P w K mg base (L2.CX P w) k f fd [x] (spScr K) :=
  F.imp fun vs H Q E ⟨a, ns, e, s, l, q⟩ => by
    subst e
    refine ⟨H, [scrD ns], rfl, Same.refl _, ⟨_, _, rfl, ⟨a, _, rfl, s, Reps.ints.mpr rfl⟩, rfl⟩, ?_⟩
    rw [h ns l]
    intro F' H' v cs' _ r _
    cases (show v = .bl true from r.2)
    exact q H'
theorem cx_no {P : Program} {w : World} {H : Hp} {s : Shared} {e : Value} {s' : Shared} (c : L2.CX P w [] H s (fun _ _ _ => False) e s') : False := by
  obtain ⟨_, _, _, _, _, _, _, _, _, _, _, _, z⟩ := c
  exact z
theorem scr_walk {l : PySem.W.OpenLaw} {q : Program} {loose : List Str} {XP : (Str → Option Value) → Heap → Prop} {YP : World → Heap → Prop} {d : DefRec} {K : Params → PySem.W.Frag} {k : Nat} {x : Str} (hn : l.most = some 63) (hdf : d.params.defaults = []) (hr : Room k callerA)
    (hY : ∀ (w : World) (h : Heap), YP w h → (K w.params).In h)
    (F : ∀ (w : World) (mg : Str → Option Value) (fa : Addr) (h : Heap), (K w.params).In h → h.Ns mainGlobals mg → mg d.name = some (.ref fa) →
      ∃ fd : FuncData, (∀ (s : Shared) (u : Value), BindsTo s fd ⟨[u], []⟩ [(x, u)]) ∧ ∀ base : Heap, (K w.params).In base → base.Ns mainGlobals mg → FnOk l.prog w (K w.params) mg base (L2.CX l.prog w) k fa fd [x] (spScr (K w.params))) :
    PySem.W.WalkO q loose XP YP l.row.toRowW d [] (fun f vs => PySem.call f vs) :=
  L2.walk_of (n := 63) (CX := fun w => L2.CX l.prog w) (sp := fun w => spScr (K w.params)) hn (by decide) hdf hr hY F (fun _ _ a ns hl _ hS => ⟨a, ns, rfl, hS, hl, fun _ => rfl⟩) fun _ _ _ _ _ c => cx_no c
end
end DL

namespace DL
open PySem PySem.Spec L2
structure Sim {γ : Type} (r : SR) (m : M γ) (P : γ → SR → Prop) : Prop where
  out : Sim0 r m P
theorem Sim_eq {γ : Type} {r : SR} {m : M γ} {P : γ → SR → Prop} : Sim r m P = Sim0 r m P := propext ⟨fun h => h.out, fun h => ⟨h⟩⟩
structure RQ {α : Type} (r : Rs) (m : M α) (s : α → Ar) : Prop where
  out : RQ0 r m s
theorem RQ_eq {α : Type} {r : Rs} {m : M α} {s : α → Ar} : RQ r m s = RQ0 r m s := propext ⟨fun h => h.out, fun h => ⟨h⟩⟩
structure AQ {α : Type} (r : Rm) (m : M α) (s : α → List Ar) : Prop where
  out : AQ0 r m s
theorem AQ_eq {α : Type} {r : Rm} {m : M α} {s : α → List Ar} : AQ r m s = AQ0 r m s := propext ⟨fun h => h.out, fun h => ⟨h⟩⟩
structure TQ (r : Rb) (m : M Bool) : Prop where
  out : TQ0 r m
theorem TQ_eq {r : Rb} {m : M Bool} : TQ r m = TQ0 r m := propext ⟨fun h => h.out, fun h => ⟨h⟩⟩
structure VQ {α : Type} (r : Rv) (m : M α) (s : α → O) (ρ' : Rho) : Prop where
  out : VQ0 r m s ρ'
theorem VQ_eq {α : Type} {r : Rv} {m : M α} {s : α → O} {ρ' : Rho} : VQ r m s ρ' = VQ0 r m s ρ' := propext ⟨fun h => h.out, fun h => ⟨h⟩⟩
structure VsQ {α : Type} (r : Rvs) (m : M α) (s : α → List O) (ρ' : Rho) : Prop where
  out : VsQ0 r m s ρ'
theorem VsQ_eq {α : Type} {r : Rvs} {m : M α} {s : α → List O} {ρ' : Rho} : VsQ r m s ρ' = VsQ0 r m s ρ' := propext ⟨fun h => h.out, fun h => ⟨h⟩⟩
structure IQ {α : Type} (r : Ri) (m : M (List α)) (e : α → D) : Prop where
  out : IQ0 r m e
theorem IQ_eq {α : Type} {r : Ri} {m : M (List α)} {e : α → D} : IQ r m e = IQ0 r m e := propext ⟨fun h => h.out, fun h => ⟨h⟩⟩
structure XQ (r : Option (Option Int)) (m : M (Option Int)) : Prop where
  out : XQ0 r m
theorem XQ_eq {r : Option (Option Int)} {m : M (Option Int)} : XQ r m = XQ0 r m := propext ⟨fun h => h.out, fun h => ⟨h⟩⟩
section
variable {α β γ : Type} {ρ ρ' : Rho} {g : Ar → Ar → Rs} {u : Ar → Rs} {fa fb fc : DE} {a b : Ar} {ma : M α} {mb : M β} {sa : α → Ar} {sb : β → Ar} {s : γ → Ar} {m : M γ}
theorem rq_pp (ha : fa ρ = .ok a) (hb : fb ρ = .ok b) (ho : RQ (g a b) m s) : RQ (bin g fa fb ρ) m s := by
  simp only [Sim_eq, RQ_eq, AQ_eq, TQ_eq, VQ_eq, VsQ_eq, IQ_eq, XQ_eq] at *
  exact rq_pp_z ha hb ho
end
section
variable {α β γ : Type} {ρ ρ' : Rho} {g : Ar → Ar → Rs} {u : Ar → Rs} {fa fb fc : DE} {a b : Ar} {ma : M α} {mb : M β} {sa : α → Ar} {sb : β → Ar} {s : γ → Ar} {m : M γ}
theorem rq_mp {mo : α → M γ} (ha : RQ (fa ρ) ma sa) (hb : fb ρ = .ok b) (ho : ∀ x, RQ (g (sa x) b) (mo x) s) : RQ (bin g fa fb ρ) (ma.bind mo) s := by
  simp only [Sim_eq, RQ_eq, AQ_eq, TQ_eq, VQ_eq, VsQ_eq, IQ_eq, XQ_eq] at *
  exact rq_mp_z ha hb ho
end
section
variable {α β γ : Type} {ρ ρ' : Rho} {g : Ar → Ar → Rs} {u : Ar → Rs} {fa fb fc : DE} {a b : Ar} {ma : M α} {mb : M β} {sa : α → Ar} {sb : β → Ar} {s : γ → Ar} {m : M γ}
theorem rq_pm {mo : β → M γ} (ha : fa ρ = .ok a) (hb : RQ (fb ρ) mb sb) (ho : ∀ y, RQ (g a (sb y)) (mo y) s) : RQ (bin g fa fb ρ) (mb.bind mo) s := by
  simp only [Sim_eq, RQ_eq, AQ_eq, TQ_eq, VQ_eq, VsQ_eq, IQ_eq, XQ_eq] at *
  exact rq_pm_z ha hb ho
end
section
variable {α β γ : Type} {ρ ρ' : Rho} {g : Ar → Ar → Rs} {u : Ar → Rs} {fa fb fc : DE} {a b : Ar} {ma : M α} {mb : M β} {sa : α → Ar} {sb : β → Ar} {s : γ → Ar} {m : M γ}
theorem rq_mm {mo : α → β → M γ} (ha : RQ (fa ρ) ma sa) (hb : RQ (fb ρ) mb sb) (ho : ∀ x y, RQ (g (sa x) (sb y)) (mo x y) s) : RQ (bin g fa fb ρ) (ma.bind fun x => mb.bind fun y => mo x y) s := by
  simp only [Sim_eq, RQ_eq, AQ_eq, TQ_eq, VQ_eq, VsQ_eq, IQ_eq, XQ_eq] at *
  exact rq_mm_z ha hb ho
end
section
variable {α β γ : Type} {ρ ρ' : Rho} {g : Ar → Ar → Rs} {u : Ar → Rs} {fa fb fc : DE} {a b : Ar} {ma : M α} {mb : M β} {sa : α → Ar} {sb : β → Ar} {s : γ → Ar} {m : M γ}
theorem rq_un1 {mo : α → M γ} (ha : RQ (fa ρ) ma sa) (ho : ∀ x, RQ (u (sa x)) (mo x) s) : RQ (un u fa ρ) (ma.bind mo) s := by
  simp only [Sim_eq, RQ_eq, AQ_eq, TQ_eq, VQ_eq, VsQ_eq, IQ_eq, XQ_eq] at *
  exact rq_un1_z ha ho
end
section
variable {α β γ : Type} {ρ ρ' : Rho} {g : Ar → Ar → Rs} {u : Ar → Rs} {fa fb fc : DE} {a b : Ar} {ma : M α} {mb : M β} {sa : α → Ar} {sb : β → Ar} {s : γ → Ar} {m : M γ}
theorem rq_unO {e : α → O} {x : Option α} (h : fa ρ = .ok (itemAr (oO e x))) : RQ (fa ρ) (unO x) (rV e) := by
  simp only [Sim_eq, RQ_eq, AQ_eq, TQ_eq, VQ_eq, VsQ_eq, IQ_eq, XQ_eq] at *
  exact rq_unO_z h
end
section
variable {α β γ : Type} {ρ ρ' : Rho} {g : Ar → Ar → Rs} {u : Ar → Rs} {fa fb fc : DE} {a b : Ar} {ma : M α} {mb : M β} {sa : α → Ar} {sb : β → Ar} {s : γ → Ar} {m : M γ}
theorem rq_unOw {e : α → O} {x : Option α} (h : fa ρ = .ok (.ow (oO e x))) : RQ (fa ρ) (unO x) (rO e) := by
  simp only [Sim_eq, RQ_eq, AQ_eq, TQ_eq, VQ_eq, VsQ_eq, IQ_eq, XQ_eq] at *
  exact rq_unOw_z h
end
section
variable {α β γ : Type} {ρ ρ' : Rho} {g : Ar → Ar → Rs} {u : Ar → Rs} {fa fb fc : DE} {a b : Ar} {ma : M α} {mb : M β} {sa : α → Ar} {sb : β → Ar} {s : γ → Ar} {m : M γ}
theorem rq_unF {e : α → D} {x : Option α} (h : fa ρ = .ok (.ow (.fz (eO e x)))) : RQ (fa ρ) (unO x) (rO (oF e)) := by
  simp only [Sim_eq, RQ_eq, AQ_eq, TQ_eq, VQ_eq, VsQ_eq, IQ_eq, XQ_eq] at *
  exact rq_unF_z h
end
section
variable {α β γ : Type} {ρ ρ' : Rho} {g : Ar → Ar → Rs} {u : Ar → Rs} {fa fb fc : DE} {a b : Ar} {ma : M α} {mb : M β} {sa : α → Ar} {sb : β → Ar} {s : γ → Ar} {m : M γ}
theorem rq_bind {mo : α → M γ} {r : Rs} (h : RQ r ma sa) (k : ∀ x, r = .ok (sa x) → RQ r (mo x) s) : RQ r (ma.bind mo) s := by
  simp only [Sim_eq, RQ_eq, AQ_eq, TQ_eq, VQ_eq, VsQ_eq, IQ_eq, XQ_eq] at *
  exact rq_bind_z h k
end
section
variable {α β γ : Type} {ρ ρ' : Rho} {g : Ar → Ar → Rs} {u : Ar → Rs} {fa fb fc : DE} {a b : Ar} {ma : M α} {mb : M β} {sa : α → Ar} {sb : β → Ar} {s : γ → Ar} {m : M γ}
theorem rq_of {r : Rs} {x : γ} (h : r = .ok (s x)) : RQ r (.ok x) s := by
  simp only [Sim_eq, RQ_eq, AQ_eq, TQ_eq, VQ_eq, VsQ_eq, IQ_eq, XQ_eq] at *
  exact rq_of_z h
end
section
variable {α β γ : Type} {ρ ρ' : Rho} {g : Ar → Ar → Rs} {u : Ar → Rs} {fa fb fc : DE} {a b : Ar} {ma : M α} {mb : M β} {sa : α → Ar} {sb : β → Ar} {s : γ → Ar} {m : M γ}
theorem rq_ok {r : Rs} {x : γ} (h : RQ r (.ok x) s) : r = .ok (s x) := by
  simp only [Sim_eq, RQ_eq, AQ_eq, TQ_eq, VQ_eq, VsQ_eq, IQ_eq, XQ_eq] at *
  exact rq_ok_z h
end
section
variable {α β γ : Type} {ρ ρ' : Rho} {g : Ar → Ar → Rs} {u : Ar → Rs} {fa fb fc : DE} {a b : Ar} {ma : M α} {mb : M β} {sa : α → Ar} {sb : β → Ar} {s : γ → Ar} {m : M γ}
theorem xq_of {r : Option (Option Int)} {x : Option Int} (h : r = some x) : XQ r (.ok x) := by
  simp only [Sim_eq, RQ_eq, AQ_eq, TQ_eq, VQ_eq, VsQ_eq, IQ_eq, XQ_eq] at *
  exact xq_of_z h
end
section
variable {α β γ : Type} {ρ ρ' : Rho} {g : Ar → Ar → Rs} {u : Ar → Rs} {fa fb fc : DE} {a b : Ar} {ma : M α} {mb : M β} {sa : α → Ar} {sb : β → Ar} {s : γ → Ar} {m : M γ}
variable {f : DE} {ga : DA} {as : List Ar} {mas : M β} {ss : β → List Ar}
theorem aq_pm (hf : f ρ = .ok a) (hg : AQ (ga ρ) mas ss) : AQ (consA f ga ρ) mas (fun y => a :: ss y) := by
  simp only [Sim_eq, RQ_eq, AQ_eq, TQ_eq, VQ_eq, VsQ_eq, IQ_eq, XQ_eq] at *
  exact aq_pm_z hf hg
end
section
variable {α β γ : Type} {ρ ρ' : Rho} {g : Ar → Ar → Rs} {u : Ar → Rs} {fa fb fc : DE} {a b : Ar} {ma : M α} {mb : M β} {sa : α → Ar} {sb : β → Ar} {s : γ → Ar} {m : M γ}
variable {f : DE} {ga : DA} {as : List Ar} {mas : M β} {ss : β → List Ar}
theorem aq_mp (hf : RQ (f ρ) ma sa) (hg : ga ρ = .ok as) : AQ (consA f ga ρ) ma (fun x => sa x :: as) := by
  simp only [Sim_eq, RQ_eq, AQ_eq, TQ_eq, VQ_eq, VsQ_eq, IQ_eq, XQ_eq] at *
  exact aq_mp_z hf hg
end
section
variable {α β γ : Type} {ρ ρ' : Rho} {g : Ar → Ar → Rs} {u : Ar → Rs} {fa fb fc : DE} {a b : Ar} {ma : M α} {mb : M β} {sa : α → Ar} {sb : β → Ar} {s : γ → Ar} {m : M γ}
variable {f : DE} {ga : DA} {as : List Ar} {mas : M β} {ss : β → List Ar}
theorem aq_mm (hf : RQ (f ρ) ma sa) (hg : AQ (ga ρ) mas ss) : AQ (consA f ga ρ) (ma.bind fun x => mas.bind fun y => .ok (x, y)) (fun p => sa p.1 :: ss p.2) := by
  simp only [Sim_eq, RQ_eq, AQ_eq, TQ_eq, VQ_eq, VsQ_eq, IQ_eq, XQ_eq] at *
  exact aq_mm_z hf hg
end
section
variable {α β γ : Type} {ρ ρ' : Rho} {g : Ar → Ar → Rs} {u : Ar → Rs} {fa fb fc : DE} {a b : Ar} {ma : M α} {mb : M β} {sa : α → Ar} {sb : β → Ar} {s : γ → Ar} {m : M γ}
variable {f : DE} {ga : DA} {as : List Ar} {mas : M β} {ss : β → List Ar}
theorem rq_callB0 {g : List Ar → Rs} (ha : ga ρ = .ok as) (ho : RQ (g as) m s) : RQ (callB g ga ρ) m s := by
  simp only [Sim_eq, RQ_eq, AQ_eq, TQ_eq, VQ_eq, VsQ_eq, IQ_eq, XQ_eq] at *
  exact rq_callB0_z ha ho
end
section
variable {α β γ : Type} {ρ ρ' : Rho} {g : Ar → Ar → Rs} {u : Ar → Rs} {fa fb fc : DE} {a b : Ar} {ma : M α} {mb : M β} {sa : α → Ar} {sb : β → Ar} {s : γ → Ar} {m : M γ}
variable {f : DE} {ga : DA} {as : List Ar} {mas : M β} {ss : β → List Ar}
theorem rq_callB {g : List Ar → Rs} {mo : β → M γ} (ha : AQ (ga ρ) mas ss) (ho : ∀ y, RQ (g (ss y)) (mo y) s) : RQ (callB g ga ρ) (mas.bind mo) s := by
  simp only [Sim_eq, RQ_eq, AQ_eq, TQ_eq, VQ_eq, VsQ_eq, IQ_eq, XQ_eq] at *
  exact rq_callB_z ha ho
end
section
variable {α β γ : Type} {ρ ρ' : Rho} {g : Ar → Ar → Rs} {u : Ar → Rs} {fa fb fc : DE} {a b : Ar} {ma : M α} {mb : M β} {sa : α → Ar} {sb : β → Ar} {s : γ → Ar} {m : M γ}
variable {f : DE} {ga : DA} {as : List Ar} {mas : M β} {ss : β → List Ar}
theorem fq_toRs {sem : DF} {o : γ → O} {as : List Ar} (hv : noVw as = true ∨ ∀ a, leafFlat (o a) = true) (h : FQ (sem (as.map Ar.d)) m o) : RQ (toRs as (sem (as.map Ar.d))) m (rO o) := by
  simp only [Sim_eq, RQ_eq, AQ_eq, TQ_eq, VQ_eq, VsQ_eq, IQ_eq, XQ_eq] at *
  exact fq_toRs_z hv h
end
section
variable {α β γ : Type} {ρ ρ' : Rho} {g : Ar → Ar → Rs} {u : Ar → Rs} {fa fb fc : DE} {a b : Ar} {ma : M α} {mb : M β} {sa : α → Ar} {sb : β → Ar} {s : γ → Ar} {m : M γ}
variable {f : DE} {ga : DA} {as : List Ar} {mas : M β} {ss : β → List Ar}
theorem rq_callF0 {sem : DF} {n : Nat} {o : γ → O} {ds : List D} (ha : ga ρ = .ok as) (hn : as.length = n) (hd : as.map Ar.d = ds) (hv : noVw as = true ∨ ∀ a, leafFlat (o a) = true) (h : FQ (sem ds) m o) : RQ (callF sem n ga ρ) m (rO o) := by
  simp only [Sim_eq, RQ_eq, AQ_eq, TQ_eq, VQ_eq, VsQ_eq, IQ_eq, XQ_eq] at *
  exact rq_callF0_z ha hn hd hv h
end
section
variable {α β γ : Type} {ρ ρ' : Rho} {g : Ar → Ar → Rs} {u : Ar → Rs} {fa fb fc : DE} {a b : Ar} {ma : M α} {mb : M β} {sa : α → Ar} {sb : β → Ar} {s : γ → Ar} {m : M γ}
variable {f : DE} {ga : DA} {as : List Ar} {mas : M β} {ss : β → List Ar}
theorem rq_callF {sem : DF} {n : Nat} {o : γ → O} {mo : β → M γ} {ds : β → List D} (ha : AQ (ga ρ) mas ss) (hn : ∀ y, (ss y).length = n) (hd : ∀ y, (ss y).map Ar.d = ds y) (hv : (∀ y, noVw (ss y) = true) ∨ ∀ a, leafFlat (o a) = true) (h : ∀ y, FQ (sem (ds y)) (mo y) o) : RQ (callF sem n ga ρ) (mas.bind mo) (rO o) := by
  simp only [Sim_eq, RQ_eq, AQ_eq, TQ_eq, VQ_eq, VsQ_eq, IQ_eq, XQ_eq] at *
  exact rq_callF_z ha hn hd hv h
end
section
variable {α β γ : Type} {ρ ρ' : Rho} {g : Ar → Ar → Rs} {u : Ar → Rs} {fa fb fc : DE} {a b : Ar} {ma : M α} {mb : M β} {sa : α → Ar} {sb : β → Ar} {s : γ → Ar} {m : M γ}
variable {f : DE} {ga : DA} {as : List Ar} {mas : M β} {ss : β → List Ar}
theorem rq_lst {os : β → List O} {mo : β → γ} {s : γ → O} (ha : AQ (ga ρ) mas ss) (ho : ∀ y, owAll (ss y) = some (os y)) (hl : ∀ y, okLen (os y).length = true) (hs : ∀ y, s (mo y) = .lst (os y)) : RQ (lstE ga ρ) (mas.bind fun y => .ok (mo y)) (rO s) := by
  simp only [Sim_eq, RQ_eq, AQ_eq, TQ_eq, VQ_eq, VsQ_eq, IQ_eq, XQ_eq] at *
  exact rq_lst_z ha ho hl hs
end
section
variable {α β γ : Type} {ρ ρ' : Rho} {g : Ar → Ar → Rs} {u : Ar → Rs} {fa fb fc : DE} {a b : Ar} {ma : M α} {mb : M β} {sa : α → Ar} {sb : β → Ar} {s : γ → Ar} {m : M γ}
variable {f : DE} {ga : DA} {as : List Ar} {mas : M β} {ss : β → List Ar}
theorem rq_tup {mo : β → γ} {s : γ → O} (ha : AQ (ga ρ) mas ss) (h : ∀ y, ga ρ = .ok (ss y) → tupE ga ρ = .ok (.ow (s (mo y)))) : RQ (tupE ga ρ) (mas.bind fun y => .ok (mo y)) (rO s) := by
  simp only [Sim_eq, RQ_eq, AQ_eq, TQ_eq, VQ_eq, VsQ_eq, IQ_eq, XQ_eq] at *
  exact rq_tup_z ha h
end
section
variable {α β γ : Type} {ρ ρ' : Rho} {g : Ar → Ar → Rs} {u : Ar → Rs} {fa fb fc : DE} {a b : Ar} {ma : M α} {mb : M β} {sa : α → Ar} {sb : β → Ar} {s : γ → Ar} {m : M γ}
variable {f : DE} {ga : DA} {as : List Ar} {mas : M β} {ss : β → List Ar}
variable {p q : Bool} {t1 t2 : DT} {mp mq : M Bool}
theorem tq_m (h : RQ (fa ρ) mp (rO (oF eB))) : TQ (testE fa ρ) mp := by
  simp only [Sim_eq, RQ_eq, AQ_eq, TQ_eq, VQ_eq, VsQ_eq, IQ_eq, XQ_eq] at *
  exact tq_m_z h
end
section
variable {α β γ : Type} {ρ ρ' : Rho} {g : Ar → Ar → Rs} {u : Ar → Rs} {fa fb fc : DE} {a b : Ar} {ma : M α} {mb : M β} {sa : α → Ar} {sb : β → Ar} {s : γ → Ar} {m : M γ}
variable {f : DE} {ga : DA} {as : List Ar} {mas : M β} {ss : β → List Ar}
variable {p q : Bool} {t1 t2 : DT} {mp mq : M Bool}
theorem tq_of {r : Rb} (h : r = .ok p) : TQ r (.ok p) := by
  simp only [Sim_eq, RQ_eq, AQ_eq, TQ_eq, VQ_eq, VsQ_eq, IQ_eq, XQ_eq] at *
  exact tq_of_z h
end
section
variable {α β γ : Type} {ρ ρ' : Rho} {g : Ar → Ar → Rs} {u : Ar → Rs} {fa fb fc : DE} {a b : Ar} {ma : M α} {mb : M β} {sa : α → Ar} {sb : β → Ar} {s : γ → Ar} {m : M γ}
variable {f : DE} {ga : DA} {as : List Ar} {mas : M β} {ss : β → List Ar}
variable {p q : Bool} {t1 t2 : DT} {mp mq : M Bool}
theorem tq_not_m (h : TQ (t1 ρ) mp) : TQ (notT t1 ρ) (mp.bind fun b => .ok (!b)) := by
  simp only [Sim_eq, RQ_eq, AQ_eq, TQ_eq, VQ_eq, VsQ_eq, IQ_eq, XQ_eq] at *
  exact tq_not_m_z h
end
section
variable {α β γ : Type} {ρ ρ' : Rho} {g : Ar → Ar → Rs} {u : Ar → Rs} {fa fb fc : DE} {a b : Ar} {ma : M α} {mb : M β} {sa : α → Ar} {sb : β → Ar} {s : γ → Ar} {m : M γ}
variable {f : DE} {ga : DA} {as : List Ar} {mas : M β} {ss : β → List Ar}
variable {p q : Bool} {t1 t2 : DT} {mp mq : M Bool}
theorem tq_and_pm (h : t1 ρ = .ok p) (h2 : TQ (t2 ρ) mq) : TQ (andT t1 t2 ρ) (if p then mq else .ok false) := by
  simp only [Sim_eq, RQ_eq, AQ_eq, TQ_eq, VQ_eq, VsQ_eq, IQ_eq, XQ_eq] at *
  exact tq_and_pm_z h h2
end
section
variable {α β γ : Type} {ρ ρ' : Rho} {g : Ar → Ar → Rs} {u : Ar → Rs} {fa fb fc : DE} {a b : Ar} {ma : M α} {mb : M β} {sa : α → Ar} {sb : β → Ar} {s : γ → Ar} {m : M γ}
variable {f : DE} {ga : DA} {as : List Ar} {mas : M β} {ss : β → List Ar}
variable {p q : Bool} {t1 t2 : DT} {mp mq : M Bool}
theorem tq_or_pm (h : t1 ρ = .ok p) (h2 : TQ (t2 ρ) mq) : TQ (orT t1 t2 ρ) (if p then .ok true else mq) := by
  simp only [Sim_eq, RQ_eq, AQ_eq, TQ_eq, VQ_eq, VsQ_eq, IQ_eq, XQ_eq] at *
  exact tq_or_pm_z h h2
end
section
variable {α β γ : Type} {ρ ρ' : Rho} {g : Ar → Ar → Rs} {u : Ar → Rs} {fa fb fc : DE} {a b : Ar} {ma : M α} {mb : M β} {sa : α → Ar} {sb : β → Ar} {s : γ → Ar} {m : M γ}
variable {f : DE} {ga : DA} {as : List Ar} {mas : M β} {ss : β → List Ar}
variable {p q : Bool} {t1 t2 : DT} {mp mq : M Bool}
theorem tq_and_mm (h : TQ (t1 ρ) mp) (h2 : TQ (t2 ρ) mq) : TQ (andT t1 t2 ρ) (mp.bind fun p => if p then mq else .ok false) := by
  simp only [Sim_eq, RQ_eq, AQ_eq, TQ_eq, VQ_eq, VsQ_eq, IQ_eq, XQ_eq] at *
  exact tq_and_mm_z h h2
end
section
variable {α β γ : Type} {ρ ρ' : Rho} {g : Ar → Ar → Rs} {u : Ar → Rs} {fa fb fc : DE} {a b : Ar} {ma : M α} {mb : M β} {sa : α → Ar} {sb : β → Ar} {s : γ → Ar} {m : M γ}
variable {f : DE} {ga : DA} {as : List Ar} {mas : M β} {ss : β → List Ar}
variable {p q : Bool} {t1 t2 : DT} {mp mq : M Bool}
theorem tq_or_mm (h : TQ (t1 ρ) mp) (h2 : TQ (t2 ρ) mq) : TQ (orT t1 t2 ρ) (mp.bind fun p => if p then .ok true else mq) := by
  simp only [Sim_eq, RQ_eq, AQ_eq, TQ_eq, VQ_eq, VsQ_eq, IQ_eq, XQ_eq] at *
  exact tq_or_mm_z h h2
end
section
variable {α β γ : Type} {ρ ρ' : Rho} {g : Ar → Ar → Rs} {u : Ar → Rs} {fa fb fc : DE} {a b : Ar} {ma : M α} {mb : M β} {sa : α → Ar} {sb : β → Ar} {s : γ → Ar} {m : M γ}
variable {f : DE} {ga : DA} {as : List Ar} {mas : M β} {ss : β → List Ar}
variable {p q : Bool} {t1 t2 : DT} {mp mq : M Bool}
theorem vq_not {mo : M Bool} (h : TQ (notT (testE fa) ρ) mo) : RQ (notV fa ρ) mo (rO (oF eB)) := by
  simp only [Sim_eq, RQ_eq, AQ_eq, TQ_eq, VQ_eq, VsQ_eq, IQ_eq, XQ_eq] at *
  exact vq_not_z h
end
section
variable {α β γ : Type} {ρ ρ' : Rho} {g : Ar → Ar → Rs} {u : Ar → Rs} {fa fb fc : DE} {a b : Ar} {ma : M α} {mb : M β} {sa : α → Ar} {sb : β → Ar} {s : γ → Ar} {m : M γ}
variable {f : DE} {ga : DA} {as : List Ar} {mas : M β} {ss : β → List Ar}
variable {p q : Bool} {t1 t2 : DT} {mp mq : M Bool}
theorem vq_and {mo : M Bool} (h : TQ (andT (testE fa) (testE fb) ρ) mo) : RQ (andV fa fb ρ) mo (rO (oF eB)) := by
  simp only [Sim_eq, RQ_eq, AQ_eq, TQ_eq, VQ_eq, VsQ_eq, IQ_eq, XQ_eq] at *
  exact vq_and_z h
end
section
variable {α β γ : Type} {ρ ρ' : Rho} {g : Ar → Ar → Rs} {u : Ar → Rs} {fa fb fc : DE} {a b : Ar} {ma : M α} {mb : M β} {sa : α → Ar} {sb : β → Ar} {s : γ → Ar} {m : M γ}
variable {f : DE} {ga : DA} {as : List Ar} {mas : M β} {ss : β → List Ar}
variable {p q : Bool} {t1 t2 : DT} {mp mq : M Bool}
theorem vq_or {mo : M Bool} (h : TQ (orT (testE fa) (testE fb) ρ) mo) : RQ (orV fa fb ρ) mo (rO (oF eB)) := by
  simp only [Sim_eq, RQ_eq, AQ_eq, TQ_eq, VQ_eq, VsQ_eq, IQ_eq, XQ_eq] at *
  exact vq_or_z h
end
section
variable {α β γ : Type} {ρ ρ' : Rho} {g : Ar → Ar → Rs} {u : Ar → Rs} {fa fb fc : DE} {a b : Ar} {ma : M α} {mb : M β} {sa : α → Ar} {sb : β → Ar} {s : γ → Ar} {m : M γ}
variable {f : DE} {ga : DA} {as : List Ar} {mas : M β} {ss : β → List Ar}
variable {p q : Bool} {t1 t2 : DT} {mp mq : M Bool}
theorem rq_ife_p {m2 : M γ} {t : DT} (h : t ρ = .ok p) (ha : RQ (fa ρ) m s) (hb : RQ (fb ρ) m2 s) : RQ (ifE t fa fb ρ) (if p then m else m2) s := by
  simp only [Sim_eq, RQ_eq, AQ_eq, TQ_eq, VQ_eq, VsQ_eq, IQ_eq, XQ_eq] at *
  exact rq_ife_p_z h ha hb
end
section
variable {α β γ : Type} {ρ ρ' : Rho} {g : Ar → Ar → Rs} {u : Ar → Rs} {fa fb fc : DE} {a b : Ar} {ma : M α} {mb : M β} {sa : α → Ar} {sb : β → Ar} {s : γ → Ar} {m : M γ}
variable {f : DE} {ga : DA} {as : List Ar} {mas : M β} {ss : β → List Ar}
variable {p q : Bool} {t1 t2 : DT} {mp mq : M Bool}
theorem rq_ife_m {m2 : M γ} {t : DT} (h : TQ (t ρ) mp) (ha : RQ (fa ρ) m s) (hb : RQ (fb ρ) m2 s) : RQ (ifE t fa fb ρ) (mp.bind fun p => if p then m else m2) s := by
  simp only [Sim_eq, RQ_eq, AQ_eq, TQ_eq, VQ_eq, VsQ_eq, IQ_eq, XQ_eq] at *
  exact rq_ife_m_z h ha hb
end
section
variable {α β γ : Type} {ρ ρ' : Rho} {g : Ar → Ar → Rs} {u : Ar → Rs} {fa fb fc : DE} {a b : Ar} {ma : M α} {mb : M β} {sa : α → Ar} {sb : β → Ar} {s : γ → Ar} {m : M γ}
variable {f : DE} {ga : DA} {as : List Ar} {mas : M β} {ss : β → List Ar}
variable {p q : Bool} {t1 t2 : DT} {mp mq : M Bool}
theorem rq_chain_m {δ : Type} {g1 g2 : Ar → Ar → Rs} {mc : M δ} {sc : δ → Ar} {p : α → β → Bool} {q : β → δ → Bool} (ha : RQ (fa ρ) ma sa) (hb : RQ (fb ρ) mb sb) (hc : RQ (fc ρ) mc sc) (h1 : ∀ x y, g1 (sa x) (sb y) = okB (p x y)) (h2 : ∀ y z, g2 (sb y) (sc z) = okB (q y z)) :
    RQ (chainE g1 g2 fa fb fc ρ) (ma.bind fun x => mb.bind fun y => if p x y then mc.bind fun z => .ok (q y z) else .ok false) (rO (oF eB)) := by
  simp only [Sim_eq, RQ_eq, AQ_eq, TQ_eq, VQ_eq, VsQ_eq, IQ_eq, XQ_eq] at *
  exact rq_chain_m_z ha hb hc h1 h2
end
section
variable {α β γ δ : Type} {ρ ρ' ρ1 ρ2 : Rho} {f g R A B K : DS} {l : List Gh} {m : M α} {mR : α → M γ} {P : γ → SR → Prop} {upd up : α → Rho} {mA mB : M γ}
theorem sim_end {b : γ} (h : P b (.nx ρ)) : Sim (nilS ρ) (.ok b) P := by
  simp only [Sim_eq, RQ_eq, AQ_eq, TQ_eq, VQ_eq, VsQ_eq, IQ_eq, XQ_eq] at *
  exact sim_end_z h
end
section
variable {α β γ δ : Type} {ρ ρ' ρ1 ρ2 : Rho} {f g R A B K : DS} {l : List Gh} {m : M α} {mR : α → M γ} {P : γ → SR → Prop} {upd up : α → Rho} {mA mB : M γ}
theorem sim_gend {b : γ} (h : P b (.nx (gh l ρ))) : Sim (ghS l nilS ρ) (.ok b) P := by
  simp only [Sim_eq, RQ_eq, AQ_eq, TQ_eq, VQ_eq, VsQ_eq, IQ_eq, XQ_eq] at *
  exact sim_gend_z h
end
section
variable {α β γ δ : Type} {ρ ρ' ρ1 ρ2 : Rho} {f g R A B K : DS} {l : List Gh} {m : M α} {mR : α → M γ} {P : γ → SR → Prop} {upd up : α → Rho} {mA mB : M γ}
theorem sim_gh {m : M γ} (h : gh l ρ = ρ1) (k : Sim (R ρ1) m P) : Sim (ghS l R ρ) m P := by
  simp only [Sim_eq, RQ_eq, AQ_eq, TQ_eq, VQ_eq, VsQ_eq, IQ_eq, XQ_eq] at *
  exact sim_gh_z h k
end
section
variable {α β γ δ : Type} {ρ ρ' ρ1 ρ2 : Rho} {f g R A B K : DS} {l : List Gh} {m : M α} {mR : α → M γ} {P : γ → SR → Prop} {upd up : α → Rho} {mA mB : M γ}
theorem sim_s (hf : Sim (f ρ) m (Np upd)) (hu : ∀ a, gh l (upd a) = up a) (hR : ∀ a, Sim (R (up a)) (mR a) P) : Sim (seqS f (ghS l R) ρ) (m.bind mR) P := by
  simp only [Sim_eq, RQ_eq, AQ_eq, TQ_eq, VQ_eq, VsQ_eq, IQ_eq, XQ_eq] at *
  exact sim_s_z hf hu hR
end
section
variable {α β γ δ : Type} {ρ ρ' ρ1 ρ2 : Rho} {f g R A B K : DS} {l : List Gh} {m : M α} {mR : α → M γ} {P : γ → SR → Prop} {upd up : α → Rho} {mA mB : M γ}
theorem sim_l {x : α} (hf : f ρ = .nx (upd x)) (hu : ∀ a, gh l (upd a) = up a) (hR : ∀ a, Sim (R (up a)) (mR a) P) : Sim (seqS f (ghS l R) ρ) (lt x mR) P := by
  simp only [Sim_eq, RQ_eq, AQ_eq, TQ_eq, VQ_eq, VsQ_eq, IQ_eq, XQ_eq] at *
  exact sim_l_z hf hu hR
end
section
variable {α β γ δ : Type} {ρ ρ' ρ1 ρ2 : Rho} {f g R A B K : DS} {l : List Gh} {m : M α} {mR : α → M γ} {P : γ → SR → Prop} {upd up : α → Rho} {mA mB : M γ}
theorem sim_p {m : M γ} (hf : f ρ = .nx ρ1) (hu : gh l ρ1 = ρ2) (hR : Sim (R ρ2) m P) : Sim (seqS f (ghS l R) ρ) m P := by
  simp only [Sim_eq, RQ_eq, AQ_eq, TQ_eq, VQ_eq, VsQ_eq, IQ_eq, XQ_eq] at *
  exact sim_p_z hf hu hR
end
section
variable {α β γ δ : Type} {ρ ρ' ρ1 ρ2 : Rho} {f g R A B K : DS} {l : List Gh} {m : M α} {mR : α → M γ} {P : γ → SR → Prop} {upd up : α → Rho} {mA mB : M γ}
theorem sim_j (hf : Sim (f ρ) m (Jp l up)) (hR : ∀ a, Sim (R (up a)) (mR a) P) : Sim (seqS f (ghS l R) ρ) (m.bind mR) P := by
  simp only [Sim_eq, RQ_eq, AQ_eq, TQ_eq, VQ_eq, VsQ_eq, IQ_eq, XQ_eq] at *
  exact sim_j_z hf hR
end
section
variable {α β γ δ : Type} {ρ ρ' ρ1 ρ2 : Rho} {f g R A B K : DS} {l : List Gh} {m : M α} {mR : α → M γ} {P : γ → SR → Prop} {upd up : α → Rho} {mA mB : M γ}
theorem sim_jF {m : M (Fl α γ)} (hf : Sim (f ρ) m (Fp (Jp l up) P)) (hR : ∀ a, Sim (R (up a)) (mR a) P) : Sim (seqS f (ghS l R) ρ) (m.fl mR) P := by
  simp only [Sim_eq, RQ_eq, AQ_eq, TQ_eq, VQ_eq, VsQ_eq, IQ_eq, XQ_eq] at *
  exact sim_jF_z hf hR
end
section
variable {α β γ δ : Type} {ρ ρ' ρ1 ρ2 : Rho} {f g R A B K : DS} {l : List Gh} {m : M α} {mR : α → M γ} {P : γ → SR → Prop} {upd up : α → Rho} {mA mB : M γ}
theorem sim_sF {m : M (Fl α γ)} (hf : Sim (f ρ) m (Fp (Np upd) P)) (hu : ∀ a, gh l (upd a) = up a) (hR : ∀ a, Sim (R (up a)) (mR a) P) : Sim (seqS f (ghS l R) ρ) (m.fl mR) P := by
  simp only [Sim_eq, RQ_eq, AQ_eq, TQ_eq, VQ_eq, VsQ_eq, IQ_eq, XQ_eq] at *
  exact sim_sF_z hf hu hR
end
section
variable {α β γ δ : Type} {ρ ρ' ρ1 ρ2 : Rho} {f g R A B K : DS} {l : List Gh} {m : M α} {mR : α → M γ} {P : γ → SR → Prop} {upd up : α → Rho} {mA mB : M γ}
theorem sim_seq_end {m : M γ} (h : Sim (f ρ) m (Ep P)) : Sim (seqS f g ρ) m P := by
  simp only [Sim_eq, RQ_eq, AQ_eq, TQ_eq, VQ_eq, VsQ_eq, IQ_eq, XQ_eq] at *
  exact sim_seq_end_z h
end
section
variable {α β γ δ : Type} {ρ ρ' ρ1 ρ2 : Rho} {f g R A B K : DS} {l : List Gh} {m : M α} {mR : α → M γ} {P : γ → SR → Prop} {upd up : α → Rho} {mA mB : M γ}
theorem sim_nil {m : M γ} (h : Sim (g ρ) m P) : Sim (seqS nilS g ρ) m P := by
  simp only [Sim_eq, RQ_eq, AQ_eq, TQ_eq, VQ_eq, VsQ_eq, IQ_eq, XQ_eq] at *
  exact sim_nil_z h
end
section
variable {α β γ δ : Type} {ρ ρ' ρ1 ρ2 : Rho} {f g R A B K : DS} {l : List Gh} {m : M α} {mR : α → M γ} {P : γ → SR → Prop} {upd up : α → Rho} {mA mB : M γ}
variable {i : Nat} {fe : DE} {s : α → O} {o : O}
theorem set_m (h : RQ (fe ρ) m (rO s)) (hi : decide (i < ρ.length) = true := by rfl) : Sim (setS i fe ρ) m (Np fun a => ρ.set i (some (s a))) := by
  simp only [Sim_eq, RQ_eq, AQ_eq, TQ_eq, VQ_eq, VsQ_eq, IQ_eq, XQ_eq] at *
  exact set_m_z h hi
end
section
variable {α β γ δ : Type} {ρ ρ' ρ1 ρ2 : Rho} {f g R A B K : DS} {l : List Gh} {m : M α} {mR : α → M γ} {P : γ → SR → Prop} {upd up : α → Rho} {mA mB : M γ}
variable {i : Nat} {fe : DE} {s : α → O} {o : O}
theorem unp_m {b : DB} {e : α → D} [ToD s e] (h : RQ (fe ρ) m (rO s)) (hb : ∀ a, b (e a) ρ = some (upd a)) : Sim (unpS fe b ρ) m (Np upd) := by
  simp only [Sim_eq, RQ_eq, AQ_eq, TQ_eq, VQ_eq, VsQ_eq, IQ_eq, XQ_eq] at *
  exact unp_m_z h hb
end
section
variable {α β γ δ : Type} {ρ ρ' ρ1 ρ2 : Rho} {f g R A B K : DS} {l : List Gh} {m : M α} {mR : α → M γ} {P : γ → SR → Prop} {upd up : α → Rho} {mA mB : M γ}
variable {i : Nat} {fe : DE} {s : α → O} {o : O}
theorem expr_m {sa : α → Ar} (h : RQ (fe ρ) m sa) : Sim (exprS fe ρ) m (Np fun _ => ρ) := by
  simp only [Sim_eq, RQ_eq, AQ_eq, TQ_eq, VQ_eq, VsQ_eq, IQ_eq, XQ_eq] at *
  exact expr_m_z h
end
section
variable {α β γ δ : Type} {ρ ρ' ρ1 ρ2 : Rho} {f g R A B K : DS} {l : List Gh} {m : M α} {mR : α → M γ} {P : γ → SR → Prop} {upd up : α → Rho} {mA mB : M γ}
variable {i : Nat} {fe : DE} {s : α → O} {o : O}
variable {c : DT} {p : Bool} {mc : M Bool}
theorem sim_if_p (h : c ρ = .ok p) (hA : Sim (A ρ) mA P) (hB : Sim (B ρ) mB P) : Sim (ifS c A B ρ) (if p then mA else mB) P := by
  simp only [Sim_eq, RQ_eq, AQ_eq, TQ_eq, VQ_eq, VsQ_eq, IQ_eq, XQ_eq] at *
  exact sim_if_p_z h hA hB
end
section
variable {α β γ δ : Type} {ρ ρ' ρ1 ρ2 : Rho} {f g R A B K : DS} {l : List Gh} {m : M α} {mR : α → M γ} {P : γ → SR → Prop} {upd up : α → Rho} {mA mB : M γ}
variable {i : Nat} {fe : DE} {s : α → O} {o : O}
variable {c : DT} {p : Bool} {mc : M Bool}
theorem sim_if_m (h : TQ (c ρ) mc) (hA : Sim (A ρ) mA P) (hB : Sim (B ρ) mB P) : Sim (ifS c A B ρ) (mc.bind fun p => if p then mA else mB) P := by
  simp only [Sim_eq, RQ_eq, AQ_eq, TQ_eq, VQ_eq, VsQ_eq, IQ_eq, XQ_eq] at *
  exact sim_if_m_z h hA hB
end
section
variable {α β γ δ : Type} {ρ ρ' ρ1 ρ2 : Rho} {f g R A B K : DS} {l : List Gh} {m : M α} {mR : α → M γ} {P : γ → SR → Prop} {upd up : α → Rho} {mA mB : M γ}
variable {i : Nat} {fe : DE} {s : α → O} {o : O}
variable {c : DT} {p : Bool} {mc : M Bool}
theorem sim_ifK_p (h : c ρ = .ok p) (hA : Sim (seqS A K ρ) mA P) (hB : Sim (seqS B K ρ) mB P) : Sim (seqS (ifS c A B) K ρ) (if p then mA else mB) P := by
  simp only [Sim_eq, RQ_eq, AQ_eq, TQ_eq, VQ_eq, VsQ_eq, IQ_eq, XQ_eq] at *
  exact sim_ifK_p_z h hA hB
end
section
variable {α β γ δ : Type} {ρ ρ' ρ1 ρ2 : Rho} {f g R A B K : DS} {l : List Gh} {m : M α} {mR : α → M γ} {P : γ → SR → Prop} {upd up : α → Rho} {mA mB : M γ}
variable {i : Nat} {fe : DE} {s : α → O} {o : O}
variable {c : DT} {p : Bool} {mc : M Bool}
theorem sim_ifK_m (h : TQ (c ρ) mc) (hA : Sim (seqS A K ρ) mA P) (hB : Sim (seqS B K ρ) mB P) : Sim (seqS (ifS c A B) K ρ) (mc.bind fun p => if p then mA else mB) P := by
  simp only [Sim_eq, RQ_eq, AQ_eq, TQ_eq, VQ_eq, VsQ_eq, IQ_eq, XQ_eq] at *
  exact sim_ifK_m_z h hA hB
end
section
variable {α β γ δ : Type} {ρ ρ' ρ1 ρ2 : Rho} {f g R A B K : DS} {l : List Gh} {m : M α} {mR : α → M γ} {P : γ → SR → Prop} {upd up : α → Rho} {mA mB : M γ}
variable {i : Nat} {fe : DE} {s : α → O} {o : O}
variable {c : DT} {p : Bool} {mc : M Bool}
theorem sim_optN {mB : δ → M γ} {x : Option δ} (ρf : Option δ → Rho) (h : ∀ x, c (ρf x) = .ok x.isNone) (hA : Sim (A (ρf none)) mA P) (hB : ∀ y, Sim (B (ρf (some y))) (mB y) P) : Sim (ifS c A B (ρf x)) (optC x mA mB) P := by
  simp only [Sim_eq, RQ_eq, AQ_eq, TQ_eq, VQ_eq, VsQ_eq, IQ_eq, XQ_eq] at *
  exact sim_optN_z ρf h hA hB
end
section
variable {α β γ δ : Type} {ρ ρ' ρ1 ρ2 : Rho} {f g R A B K : DS} {l : List Gh} {m : M α} {mR : α → M γ} {P : γ → SR → Prop} {upd up : α → Rho} {mA mB : M γ}
variable {i : Nat} {fe : DE} {s : α → O} {o : O}
variable {c : DT} {p : Bool} {mc : M Bool}
theorem sim_optS {mA : δ → M γ} {mB : M γ} {x : Option δ} (ρf : Option δ → Rho) (h : ∀ x, c (ρf x) = .ok (!x.isNone)) (hA : ∀ y, Sim (A (ρf (some y))) (mA y) P) (hB : Sim (B (ρf none)) mB P) : Sim (ifS c A B (ρf x)) (optC x mB mA) P := by
  simp only [Sim_eq, RQ_eq, AQ_eq, TQ_eq, VQ_eq, VsQ_eq, IQ_eq, XQ_eq] at *
  exact sim_optS_z ρf h hA hB
end
section
variable {α β γ δ : Type} {ρ ρ' ρ1 ρ2 : Rho} {f g R A B K : DS} {l : List Gh} {m : M α} {mR : α → M γ} {P : γ → SR → Prop} {upd up : α → Rho} {mA mB : M γ}
variable {i : Nat} {fe : DE} {s : α → O} {o : O}
variable {c : DT} {p : Bool} {mc : M Bool}
theorem sim_optKN {mB : δ → M γ} {x : Option δ} (ρf : Option δ → Rho) (h : ∀ x, c (ρf x) = .ok x.isNone) (hA : Sim (seqS A K (ρf none)) mA P) (hB : ∀ y, Sim (seqS B K (ρf (some y))) (mB y) P) : Sim (seqS (ifS c A B) K (ρf x)) (optC x mA mB) P := by
  simp only [Sim_eq, RQ_eq, AQ_eq, TQ_eq, VQ_eq, VsQ_eq, IQ_eq, XQ_eq] at *
  exact sim_optKN_z ρf h hA hB
end
section
variable {α β γ δ : Type} {ρ ρ' ρ1 ρ2 : Rho} {f g R A B K : DS} {l : List Gh} {m : M α} {mR : α → M γ} {P : γ → SR → Prop} {upd up : α → Rho} {mA mB : M γ}
variable {i : Nat} {fe : DE} {s : α → O} {o : O}
variable {c : DT} {p : Bool} {mc : M Bool}
theorem sim_optKS {mA : δ → M γ} {mB : M γ} {x : Option δ} (ρf : Option δ → Rho) (h : ∀ x, c (ρf x) = .ok (!x.isNone)) (hA : ∀ y, Sim (seqS A K (ρf (some y))) (mA y) P) (hB : Sim (seqS B K (ρf none)) mB P) : Sim (seqS (ifS c A B) K (ρf x)) (optC x mB mA) P := by
  simp only [Sim_eq, RQ_eq, AQ_eq, TQ_eq, VQ_eq, VsQ_eq, IQ_eq, XQ_eq] at *
  exact sim_optKS_z ρf h hA hB
end
section
variable {α β γ δ : Type} {ρ ρ' ρ1 ρ2 : Rho} {f g R A B K : DS} {l : List Gh} {m : M α} {mR : α → M γ} {P : γ → SR → Prop} {upd up : α → Rho} {mA mB : M γ}
variable {i : Nat} {fe : DE} {s : α → O} {o : O}
variable {c : DT} {p : Bool} {mc : M Bool}
theorem vq_ow {fe : DE} (h : RQ (fe ρ) m (rO s)) : VQ (owV fe ρ) m s ρ := by
  simp only [Sim_eq, RQ_eq, AQ_eq, TQ_eq, VQ_eq, VsQ_eq, IQ_eq, XQ_eq] at *
  exact vq_ow_z h
end
section
variable {α β γ δ : Type} {ρ ρ' ρ1 ρ2 : Rho} {f g R A B K : DS} {l : List Gh} {m : M α} {mR : α → M γ} {P : γ → SR → Prop} {upd up : α → Rho} {mA mB : M γ}
variable {i : Nat} {fe : DE} {s : α → O} {o : O}
variable {c : DT} {p : Bool} {mc : M Bool}
variable {fv : DV} {gv : DVs} {os : List O} {ss : β → List O} {ms : M β}
theorem vs_mp (hf : VQ (fv ρ) m s ρ1) (hg : gv ρ1 = .ok os ρ2) : VsQ (consV fv gv ρ) m (fun a => s a :: os) ρ2 := by
  simp only [Sim_eq, RQ_eq, AQ_eq, TQ_eq, VQ_eq, VsQ_eq, IQ_eq, XQ_eq] at *
  exact vs_mp_z hf hg
end
section
variable {α β γ δ : Type} {ρ ρ' ρ1 ρ2 : Rho} {f g R A B K : DS} {l : List Gh} {m : M α} {mR : α → M γ} {P : γ → SR → Prop} {upd up : α → Rho} {mA mB : M γ}
variable {i : Nat} {fe : DE} {s : α → O} {o : O}
variable {c : DT} {p : Bool} {mc : M Bool}
variable {fv : DV} {gv : DVs} {os : List O} {ss : β → List O} {ms : M β}
theorem vs_pm (hf : fv ρ = .ok o ρ1) (hg : VsQ (gv ρ1) ms ss ρ2) : VsQ (consV fv gv ρ) ms (fun b => o :: ss b) ρ2 := by
  simp only [Sim_eq, RQ_eq, AQ_eq, TQ_eq, VQ_eq, VsQ_eq, IQ_eq, XQ_eq] at *
  exact vs_pm_z hf hg
end
section
variable {α β γ δ : Type} {ρ ρ' ρ1 ρ2 : Rho} {f g R A B K : DS} {l : List Gh} {m : M α} {mR : α → M γ} {P : γ → SR → Prop} {upd up : α → Rho} {mA mB : M γ}
variable {i : Nat} {fe : DE} {s : α → O} {o : O}
variable {c : DT} {p : Bool} {mc : M Bool}
variable {fv : DV} {gv : DVs} {os : List O} {ss : β → List O} {ms : M β}
theorem vs_mm (hf : VQ (fv ρ) m s ρ1) (hg : VsQ (gv ρ1) ms ss ρ2) : VsQ (consV fv gv ρ) (m.bind fun a => ms.bind fun b => .ok (a, b)) (fun p => s p.1 :: ss p.2) ρ2 := by
  simp only [Sim_eq, RQ_eq, AQ_eq, TQ_eq, VQ_eq, VsQ_eq, IQ_eq, XQ_eq] at *
  exact vs_mm_z hf hg
end
section
variable {α β γ δ : Type} {ρ ρ' ρ1 ρ2 : Rho} {f g R A B K : DS} {l : List Gh} {m : M α} {mR : α → M γ} {P : γ → SR → Prop} {upd up : α → Rho} {mA mB : M γ}
variable {i : Nat} {fe : DE} {s : α → O} {o : O}
variable {c : DT} {p : Bool} {mc : M Bool}
variable {fv : DV} {gv : DVs} {os : List O} {ss : β → List O} {ms : M β}
theorem vm_tup {mo : β → α} (h : VsQ (gv ρ) ms ss ρ1) (hl : ∀ y, okLen (ss y).length = true) (hs : ∀ y, s (mo y) = .tup (ss y)) : VQ (tupV gv ρ) (ms.bind fun y => .ok (mo y)) s ρ1 := by
  simp only [Sim_eq, RQ_eq, AQ_eq, TQ_eq, VQ_eq, VsQ_eq, IQ_eq, XQ_eq] at *
  exact vm_tup_z h hl hs
end
section
variable {α β γ δ : Type} {ρ ρ' ρ1 ρ2 : Rho} {f g R A B K : DS} {l : List Gh} {m : M α} {mR : α → M γ} {P : γ → SR → Prop} {upd up : α → Rho} {mA mB : M γ}
variable {i : Nat} {fe : DE} {s : α → O} {o : O}
variable {c : DT} {p : Bool} {mc : M Bool}
variable {fv : DV} {gv : DVs} {os : List O} {ss : β → List O} {ms : M β}
theorem vm_lst {mo : β → α} (h : VsQ (gv ρ) ms ss ρ1) (hl : ∀ y, okLen (ss y).length = true) (hs : ∀ y, s (mo y) = .lst (ss y)) : VQ (lstV gv ρ) (ms.bind fun y => .ok (mo y)) s ρ1 := by
  simp only [Sim_eq, RQ_eq, AQ_eq, TQ_eq, VQ_eq, VsQ_eq, IQ_eq, XQ_eq] at *
  exact vm_lst_z h hl hs
end
section
variable {α β γ δ : Type} {ρ ρ' ρ1 ρ2 : Rho} {f g R A B K : DS} {l : List Gh} {m : M α} {mR : α → M γ} {P : γ → SR → Prop} {upd up : α → Rho} {mA mB : M γ}
variable {i : Nat} {fe : DE} {s : α → O} {o : O}
variable {c : DT} {p : Bool} {mc : M Bool}
variable {fv : DV} {gv : DVs} {os : List O} {ss : β → List O} {ms : M β}
theorem sim_ret {so : α → O} {inj : α → γ} (h : VQ (fv ρ) m so ρ1) (hP : ∀ a, P (inj a) (.rt (so a))) : Sim (retS fv ρ) (m.bind fun a => .ok (inj a)) P := by
  simp only [Sim_eq, RQ_eq, AQ_eq, TQ_eq, VQ_eq, VsQ_eq, IQ_eq, XQ_eq] at *
  exact sim_ret_z h hP
end
section
variable {α β γ δ : Type} {ρ ρ' ρ1 ρ2 : Rho} {f g R A B K : DS} {l : List Gh} {m : M α} {mR : α → M γ} {P : γ → SR → Prop} {upd up : α → Rho} {mA mB : M γ}
variable {i : Nat} {fe : DE} {s : α → O} {o : O}
variable {c : DT} {p : Bool} {mc : M Bool}
variable {fv : DV} {gv : DVs} {os : List O} {ss : β → List O} {ms : M β}
theorem sim_ret_id {so : γ → O} {m : M γ} (h : VQ (fv ρ) m so ρ1) (hP : ∀ a, P a (.rt (so a))) : Sim (retS fv ρ) m P := by
  simp only [Sim_eq, RQ_eq, AQ_eq, TQ_eq, VQ_eq, VsQ_eq, IQ_eq, XQ_eq] at *
  exact sim_ret_id_z h hP
end
section
variable {α β γ δ : Type} {ρ ρ' ρ1 ρ2 : Rho} {f g R A B K : DS} {l : List Gh} {m : M α} {mR : α → M γ} {P : γ → SR → Prop} {upd up : α → Rho} {mA mB : M γ}
variable {i : Nat} {fe : DE} {s : α → O} {o : O}
variable {c : DT} {p : Bool} {mc : M Bool}
variable {fv : DV} {gv : DVs} {os : List O} {ss : β → List O} {ms : M β}
theorem sim_ret_p {b : γ} (h : fv ρ = .ok o ρ1) (hP : P b (.rt o)) : Sim (retS fv ρ) (.ok b) P := by
  simp only [Sim_eq, RQ_eq, AQ_eq, TQ_eq, VQ_eq, VsQ_eq, IQ_eq, XQ_eq] at *
  exact sim_ret_p_z h hP
end
section
variable {α β γ δ : Type} {ρ ρ' ρ1 ρ2 : Rho} {f g R A B K : DS} {l : List Gh} {m : M α} {mR : α → M γ} {P : γ → SR → Prop} {upd up : α → Rho} {mA mB : M γ}
variable {i : Nat} {fe : DE} {s : α → O} {o : O}
variable {c : DT} {p : Bool} {mc : M Bool}
variable {fv : DV} {gv : DVs} {os : List O} {ss : β → List O} {ms : M β}
theorem sim_ret_v {b : γ} (h : ρ[i]? = some (some o)) (hP : P b (.rt o)) : Sim (retS (mvV i) ρ) (.ok b) P := by
  simp only [Sim_eq, RQ_eq, AQ_eq, TQ_eq, VQ_eq, VsQ_eq, IQ_eq, XQ_eq] at *
  exact sim_ret_v_z h hP
end
section
variable {α β γ δ : Type} {ρ ρ' ρ1 ρ2 : Rho} {f g R A B K : DS} {l : List Gh} {m : M α} {mR : α → M γ} {P : γ → SR → Prop} {upd up : α → Rho} {mA mB : M γ}
variable {i : Nat} {fe : DE} {s : α → O} {o : O}
variable {c : DT} {p : Bool} {mc : M Bool}
variable {fv : DV} {gv : DVs} {os : List O} {ss : β → List O} {ms : M β}
theorem sim_retN {b : γ} (hP : P b (.rt (.fz .non))) : Sim (retN ρ) (.ok b) P := by
  simp only [Sim_eq, RQ_eq, AQ_eq, TQ_eq, VQ_eq, VsQ_eq, IQ_eq, XQ_eq] at *
  exact sim_retN_z hP
end
section
variable {α β γ δ : Type} {ρ ρ' ρ1 ρ2 : Rho} {f g R A B K : DS} {l : List Gh} {m : M α} {mR : α → M γ} {P : γ → SR → Prop} {upd up : α → Rho} {mA mB : M γ}
variable {i : Nat} {fe : DE} {s : α → O} {o : O}
variable {c : DT} {p : Bool} {mc : M Bool}
variable {fv : DV} {gv : DVs} {os : List O} {ss : β → List O} {ms : M β}
theorem sim_raise {k : Str} : Sim (raiseS k ρ) (.ex k : M γ) P := by
  simp only [Sim_eq, RQ_eq, AQ_eq, TQ_eq, VQ_eq, VsQ_eq, IQ_eq, XQ_eq] at *
  exact sim_raise_z 
end
section
variable {α β γ δ : Type} {ρ ρ' ρ1 ρ2 : Rho} {f g R A B K : DS} {l : List Gh} {m : M α} {mR : α → M γ} {P : γ → SR → Prop} {upd up : α → Rho} {mA mB : M γ}
variable {i : Nat} {fe : DE} {s : α → O} {o : O}
variable {c : DT} {p : Bool} {mc : M Bool}
variable {fv : DV} {gv : DVs} {os : List O} {ss : β → List O} {ms : M β}
variable {fi : DI} {e : α → D} {tb : DB} {is : List Nat} {mi : M (List α)}
theorem sim_for {upb : β → Rho} {b0 : β} {step : α → β → M β} {upx : α → β → Rho} {xs : List α} (hi : IQ (fi ρ) (.ok xs) e) (h0 : upb b0 = ρ) (hb : ∀ x b, tb (e x) (upb b) = some (upx x b)) (hs : ∀ x b, Sim (f (upx x b)) (step x b) (Lp is upb)) : Sim (forS fi tb f is ρ) (forM step xs b0) (Np upb) := by
  simp only [Sim_eq, RQ_eq, AQ_eq, TQ_eq, VQ_eq, VsQ_eq, IQ_eq, XQ_eq] at *
  exact sim_for_z hi h0 hb hs
end
section
variable {α β γ δ : Type} {ρ ρ' ρ1 ρ2 : Rho} {f g R A B K : DS} {l : List Gh} {m : M α} {mR : α → M γ} {P : γ → SR → Prop} {upd up : α → Rho} {mA mB : M γ}
variable {i : Nat} {fe : DE} {s : α → O} {o : O}
variable {c : DT} {p : Bool} {mc : M Bool}
variable {fv : DV} {gv : DVs} {os : List O} {ss : β → List O} {ms : M β}
variable {fi : DI} {e : α → D} {tb : DB} {is : List Nat} {mi : M (List α)}
theorem sim_forF {upb : β → Rho} {b0 : β} {step : α → β → M (Fl β γ)} {upx : α → β → Rho} {xs : List α} (hi : IQ (fi ρ) (.ok xs) e) (h0 : upb b0 = ρ) (hb : ∀ x b, tb (e x) (upb b) = some (upx x b)) (hs : ∀ x b, Sim (f (upx x b)) (step x b) (Fp (Lp is upb) P)) : Sim (forS fi tb f is ρ) (forF step xs b0) (Fp (Np upb) P) := by
  simp only [Sim_eq, RQ_eq, AQ_eq, TQ_eq, VQ_eq, VsQ_eq, IQ_eq, XQ_eq] at *
  exact sim_forF_z hi h0 hb hs
end
section
variable {α β γ δ : Type} {ρ ρ' ρ1 ρ2 : Rho} {f g R A B K : DS} {l : List Gh} {m : M α} {mR : α → M γ} {P : γ → SR → Prop} {upd up : α → Rho} {mA mB : M γ}
variable {i : Nat} {fe : DE} {s : α → O} {o : O}
variable {c : DT} {p : Bool} {mc : M Bool}
variable {fv : DV} {gv : DVs} {os : List O} {ss : β → List O} {ms : M β}
variable {fi : DI} {e : α → D} {tb : DB} {is : List Nat} {mi : M (List α)}
theorem sim_forI {mo : List α → M γ} {Q : γ → SR → Prop} (hi : IQ (fi ρ) mi e) (h : ∀ xs, IQ (fi ρ) (.ok xs) e → Sim (forS fi tb f is ρ) (mo xs) Q) : Sim (forS fi tb f is ρ) (mi.bind mo) Q := by
  simp only [Sim_eq, RQ_eq, AQ_eq, TQ_eq, VQ_eq, VsQ_eq, IQ_eq, XQ_eq] at *
  exact sim_forI_z hi h
end
section
variable {α β γ δ : Type} {ρ ρ' ρ1 ρ2 : Rho} {f g R A B K : DS} {l : List Gh} {m : M α} {mR : α → M γ} {P : γ → SR → Prop} {upd up : α → Rho} {mA mB : M γ}
variable {i : Nat} {fe : DE} {s : α → O} {o : O}
variable {c : DT} {p : Bool} {mc : M Bool}
variable {fv : DV} {gv : DVs} {os : List O} {ss : β → List O} {ms : M β}
variable {fi : DI} {e : α → D} {tb : DB} {is : List Nat} {mi : M (List α)}
theorem sim_wh {upb : β → Rho} {b0 : β} {n : Nat} {step : β → M β} {mc : β → M Bool} (h0 : upb b0 = ρ) (hc : ∀ b, TQ (c (upb b)) (mc b)) (hs : ∀ b, Sim (f (upb b)) (step b) (Lp is upb)) : Sim (whileL c (bodyS f is) n ρ) (whileM mc step n b0) (Np upb) := by
  simp only [Sim_eq, RQ_eq, AQ_eq, TQ_eq, VQ_eq, VsQ_eq, IQ_eq, XQ_eq] at *
  exact sim_wh_z h0 hc hs
end
section
variable {α β γ δ : Type} {ρ ρ' ρ1 ρ2 : Rho} {f g R A B K : DS} {l : List Gh} {m : M α} {mR : α → M γ} {P : γ → SR → Prop} {upd up : α → Rho} {mA mB : M γ}
variable {i : Nat} {fe : DE} {s : α → O} {o : O}
variable {c : DT} {p : Bool} {mc : M Bool}
variable {fv : DV} {gv : DVs} {os : List O} {ss : β → List O} {ms : M β}
variable {fi : DI} {e : α → D} {tb : DB} {is : List Nat} {mi : M (List α)}
theorem sim_whF {upb : β → Rho} {b0 : β} {n : Nat} {step : β → M (Fl β γ)} {mc : β → M Bool} (h0 : upb b0 = ρ) (hc : ∀ b, TQ (c (upb b)) (mc b)) (hs : ∀ b, Sim (f (upb b)) (step b) (Fp (Lp is upb) P)) : Sim (whileL c (bodyS f is) n ρ) (whileF mc step n b0) (Fp (Np upb) P) := by
  simp only [Sim_eq, RQ_eq, AQ_eq, TQ_eq, VQ_eq, VsQ_eq, IQ_eq, XQ_eq] at *
  exact sim_whF_z h0 hc hs
end
section
variable {α β γ δ : Type} {ρ ρ' ρ1 ρ2 : Rho} {f g R A B K : DS} {l : List Gh} {m : M α} {mR : α → M γ} {P : γ → SR → Prop} {upd up : α → Rho} {mA mB : M γ}
variable {i : Nat} {fe : DE} {s : α → O} {o : O}
variable {c : DT} {p : Bool} {mc : M Bool}
variable {fv : DV} {gv : DVs} {os : List O} {ss : β → List O} {ms : M β}
variable {fi : DI} {e : α → D} {tb : DB} {is : List Nat} {mi : M (List α)}
theorem iq_list {sL : List α → O} [ToD sL (eL e)] {fe : DE} (h : RQ (fe ρ) mi (rO sL)) : IQ (listI fe ρ) mi e := by
  simp only [Sim_eq, RQ_eq, AQ_eq, TQ_eq, VQ_eq, VsQ_eq, IQ_eq, XQ_eq] at *
  exact iq_list_z h
end
section
variable {α β γ δ : Type} {ρ ρ' ρ1 ρ2 : Rho} {f g R A B K : DS} {l : List Gh} {m : M α} {mR : α → M γ} {P : γ → SR → Prop} {upd up : α → Rho} {mA mB : M γ}
variable {i : Nat} {fe : DE} {s : α → O} {o : O}
variable {c : DT} {p : Bool} {mc : M Bool}
variable {fv : DV} {gv : DVs} {os : List O} {ss : β → List O} {ms : M β}
variable {fi : DI} {e : α → D} {tb : DB} {is : List Nat} {mi : M (List α)}
theorem iq_args0 {G : List D → Ri} {fa : DA} {as : List Ar} {ds : List D} (ha : fa ρ = .ok as) (hv : noVw as = true) (hd : as.map Ar.d = ds) (hg : IQ (G ds) mi e) : IQ (argsI G fa ρ) mi e := by
  simp only [Sim_eq, RQ_eq, AQ_eq, TQ_eq, VQ_eq, VsQ_eq, IQ_eq, XQ_eq] at *
  exact iq_args0_z ha hv hd hg
end
section
variable {α β γ δ : Type} {ρ ρ' ρ1 ρ2 : Rho} {f g R A B K : DS} {l : List Gh} {m : M α} {mR : α → M γ} {P : γ → SR → Prop} {upd up : α → Rho} {mA mB : M γ}
variable {i : Nat} {fe : DE} {s : α → O} {o : O}
variable {c : DT} {p : Bool} {mc : M Bool}
variable {fv : DV} {gv : DVs} {os : List O} {ss : β → List O} {ms : M β}
variable {fi : DI} {e : α → D} {tb : DB} {is : List Nat} {mi : M (List α)}
theorem iq_args {G : List D → Ri} {fa : DA} {ma : M β} {ss : β → List Ar} {ds : β → List D} {mo : β → M (List α)} (ha : AQ (fa ρ) ma ss) (hv : ∀ y, noVw (ss y) = true) (hd : ∀ y, (ss y).map Ar.d = ds y) (hg : ∀ y, IQ (G (ds y)) (mo y) e) : IQ (argsI G fa ρ) (ma.bind mo) e := by
  simp only [Sim_eq, RQ_eq, AQ_eq, TQ_eq, VQ_eq, VsQ_eq, IQ_eq, XQ_eq] at *
  exact iq_args_z ha hv hd hg
end
section
variable {α β γ δ : Type} {ρ ρ' ρ1 ρ2 : Rho} {f g R A B K : DS} {l : List Gh} {m : M α} {mR : α → M γ} {P : γ → SR → Prop} {upd up : α → Rho} {mA mB : M γ}
variable {i : Nat} {fe : DE} {s : α → O} {o : O}
variable {c : DT} {p : Bool} {mc : M Bool}
variable {fv : DV} {gv : DVs} {os : List O} {ss : β → List O} {ms : M β}
variable {fi : DI} {e : α → D} {tb : DB} {is : List Nat} {mi : M (List α)}
theorem fq_sem {n : Nat} {d : DS} {ds : List D} {m : M γ} {so : γ → O} (h0 : startR n ds = ρ) (h : Sim (d ρ) m (Tp so)) : FQ (semOf n d ds) m so := by
  simp only [Sim_eq, RQ_eq, AQ_eq, TQ_eq, VQ_eq, VsQ_eq, IQ_eq, XQ_eq] at *
  exact fq_sem_z h0 h
end
section
variable {α β γ δ : Type}
theorem o_mul {i j : Int} : RQ (gMul (dI i) (dI j)) (mulM i j) (rO (oF eI)) := by
  simp only [Sim_eq, RQ_eq, AQ_eq, TQ_eq, VQ_eq, VsQ_eq, IQ_eq, XQ_eq] at *
  exact o_mul_z 
end
section
variable {α β γ δ : Type}
theorem o_mod {i j : Int} : RQ (gMod (dI i) (dI j)) (modM i j) (rO (oF eI)) := by
  simp only [Sim_eq, RQ_eq, AQ_eq, TQ_eq, VQ_eq, VsQ_eq, IQ_eq, XQ_eq] at *
  exact o_mod_z 
end
section
variable {α β γ δ : Type}
theorem o_fdiv {i j : Int} : RQ (gFdiv (dI i) (dI j)) (fdivM i j) (rO (oF eI)) := by
  simp only [Sim_eq, RQ_eq, AQ_eq, TQ_eq, VQ_eq, VsQ_eq, IQ_eq, XQ_eq] at *
  exact o_fdiv_z 
end
section
variable {α β γ δ : Type}
theorem o_pow {i j : Int} : RQ (gPow (dI i) (dI j)) (powM i j) (rO (oF eI)) := by
  simp only [Sim_eq, RQ_eq, AQ_eq, TQ_eq, VQ_eq, VsQ_eq, IQ_eq, XQ_eq] at *
  exact o_pow_z 
end
section
variable {α β γ δ : Type}
theorem o_shl {i j : Int} : RQ (gShl (dI i) (dI j)) (shlM i j) (rO (oF eI)) := by
  simp only [Sim_eq, RQ_eq, AQ_eq, TQ_eq, VQ_eq, VsQ_eq, IQ_eq, XQ_eq] at *
  exact o_shl_z 
end
section
variable {α β γ δ : Type}
theorem o_shr {i j : Int} : RQ (gShr (dI i) (dI j)) (shrM i j) (rO (oF eI)) := by
  simp only [Sim_eq, RQ_eq, AQ_eq, TQ_eq, VQ_eq, VsQ_eq, IQ_eq, XQ_eq] at *
  exact o_shr_z 
end
section
variable {α β γ δ : Type}
theorem o_ixL {s : α → O} {a : Ar} {xs : List α} {i : Int} (ha : a.o.seq = some (true, xs.map s)) : RQ (gIx a (dI i)) (ix xs i) (rV s) := by
  simp only [Sim_eq, RQ_eq, AQ_eq, TQ_eq, VQ_eq, VsQ_eq, IQ_eq, XQ_eq] at *
  exact o_ixL_z ha
end
section
variable {α β γ δ : Type}
theorem o_ixLF {e : α → D} {a : Ar} {xs : List α} {i : Int} (ha : a.o.seq = some (true, xs.map (oF e))) : RQ (gIx a (dI i)) (ix xs i) (rO (oF e)) := by
  simp only [Sim_eq, RQ_eq, AQ_eq, TQ_eq, VQ_eq, VsQ_eq, IQ_eq, XQ_eq] at *
  exact o_ixLF_z ha
end
section
variable {α β γ δ : Type}
theorem o_ixF {e : α → D} {a : Ar} {xs : List α} {i : Int} (ha : a.o.seq = some (true, (xs.map e).map .fz)) : RQ (gIx a (dI i)) (ix xs i) (rO (oF e)) := by
  simp only [Sim_eq, RQ_eq, AQ_eq, TQ_eq, VQ_eq, VsQ_eq, IQ_eq, XQ_eq] at *
  exact o_ixF_z ha
end
section
variable {α β γ δ : Type}
theorem o_cat {e : α → D} {a b : Ar} {xs ys : List α} {os us : List O} (hi : ∀ i j, (a.d = .int i → b.d = .int j → False)) (hs : ∀ i j, (a.d = .str i → b.d = .str j → False)) (ha : a.o.seq = some (true, os)) (hb : b.o.seq = some (true, us)) (h1 : allFz os = some (xs.map e)) (h2 : allFz us = some (ys.map e)) : RQ (gAdd a b) (catM xs ys) (rO (oL (oF e))) := by
  simp only [Sim_eq, RQ_eq, AQ_eq, TQ_eq, VQ_eq, VsQ_eq, IQ_eq, XQ_eq] at *
  exact o_cat_z hi hs ha hb h1 h2
end
section
variable {α β γ δ : Type}
theorem o_rep {e : α → D} {xs : List α} {k : Int} {os : List O} (h1 : allFz os = some (xs.map e)) : RQ (gMul (.ow (.lst os)) (dI k)) (repM xs k) (rO (oL (oF e))) := by
  simp only [Sim_eq, RQ_eq, AQ_eq, TQ_eq, VQ_eq, VsQ_eq, IQ_eq, XQ_eq] at *
  exact o_rep_z h1
end
section
variable {α β γ δ : Type}
theorem xq_m {fe : DE} {ρ : Rho} {m : M Int} (h : RQ (fe ρ) m (rO (oF eI))) : XQ (someO fe ρ) (m.bind fun i => .ok (some i)) := by
  simp only [Sim_eq, RQ_eq, AQ_eq, TQ_eq, VQ_eq, VsQ_eq, IQ_eq, XQ_eq] at *
  exact xq_m_z h
end
section
variable {α β γ δ : Type}
theorem rq_cut {fe : DE} {l h : DO} {ρ : Rho} {m : M α} {sa : α → Ar} {m1 m2 : M (Option Int)} {mo : α → Option Int → Option Int → γ} {s : γ → Ar} (nx : ∀ c, m1 ≠ .ex c ∧ m2 ≠ .ex c) (hf : RQ (fe ρ) m sa) (h1 : XQ (l ρ) m1) (h2 : XQ (h ρ) m2) (hg : ∀ x lo hi, gCut (sa x) lo hi = .ok (s (mo x lo hi))) : RQ (cutE fe l h ρ) (m.bind fun x => m1.bind fun lo => m2.bind fun hi => .ok (mo x lo hi)) s := by
  simp only [Sim_eq, RQ_eq, AQ_eq, TQ_eq, VQ_eq, VsQ_eq, IQ_eq, XQ_eq] at *
  exact rq_cut_z nx hf h1 h2 hg
end
section
variable {α β γ δ : Type}
theorem o_max1 {a : Ar} {xs : List Int} (h : intsA a = some xs) : RQ (gL1 maxI [a]) (maxM xs) (rO (oF eI)) := by
  simp only [Sim_eq, RQ_eq, AQ_eq, TQ_eq, VQ_eq, VsQ_eq, IQ_eq, XQ_eq] at *
  exact o_max1_z h
end
section
variable {α β γ δ : Type}
theorem o_min1 {a : Ar} {xs : List Int} (h : intsA a = some xs) : RQ (gL1 minI [a]) (minM xs) (rO (oF eI)) := by
  simp only [Sim_eq, RQ_eq, AQ_eq, TQ_eq, VQ_eq, VsQ_eq, IQ_eq, XQ_eq] at *
  exact o_min1_z h
end
section
variable {α β γ δ : Type}
theorem rq_rg1 {fe : DE} {ρ : Rho} {i : Int} (h : fe ρ = .ok (dI i)) : RQ (rg1E fe ρ) (rngL 0 i) (rO (oL (oF eI))) := by
  simp only [Sim_eq, RQ_eq, AQ_eq, TQ_eq, VQ_eq, VsQ_eq, IQ_eq, XQ_eq] at *
  exact rq_rg1_z h
end
section
variable {α β γ δ : Type}
theorem rq_rg1m {fe : DE} {ρ : Rho} {m : M Int} (h : RQ (fe ρ) m (rO (oF eI))) : RQ (rg1E fe ρ) (m.bind fun i => rngL 0 i) (rO (oL (oF eI))) := by
  simp only [Sim_eq, RQ_eq, AQ_eq, TQ_eq, VQ_eq, VsQ_eq, IQ_eq, XQ_eq] at *
  exact rq_rg1m_z h
end
section
variable {α β γ δ : Type}
theorem pq_meth {T : String} {fa : DE} {fv : DA} {g : GR} {ρ : Rho} {a : Ar} {as : List Ar} {m : M γ} {s : γ → Ar} (ha : fa ρ = .ok a) (ht : tyA a = T) (hv : fv ρ = .ok as) (hg : RQ (g a as) m s) : RQ (methE T fa fv g ρ) m s := by
  simp only [Sim_eq, RQ_eq, AQ_eq, TQ_eq, VQ_eq, VsQ_eq, IQ_eq, XQ_eq] at *
  exact pq_meth_z ha ht hv hg
end
section
variable {α β γ δ : Type}
theorem rq_meth {T : String} {fa : DE} {fv : DA} {g : GR} {ρ : Rho} {ma : M α} {sa : α → Ar} {mv : M β} {ss : β → List Ar} {mo : α → β → M γ} {s : γ → Ar} (ha : RQ (fa ρ) ma sa) (ht : ∀ x, tyA (sa x) = T) (hv : AQ (fv ρ) mv ss) (hg : ∀ x y, RQ (g (sa x) (ss y)) (mo x y) s) : RQ (methE T fa fv g ρ) (ma.bind fun x => mv.bind fun y => mo x y) s := by
  simp only [Sim_eq, RQ_eq, AQ_eq, TQ_eq, VQ_eq, VsQ_eq, IQ_eq, XQ_eq] at *
  exact rq_meth_z ha ht hv hg
end
section
variable {α β γ δ : Type}
theorem o_index {a b : Ar} {i : Int} {xs : List Int} {os : List O} (ha : a.o.seq = some (true, os)) (h1 : allFz os = some (xs.map D.int)) (hb : b.d = .int i) : RQ (gIndex a [b]) (idxI xs i) (rO (oF eI)) := by
  simp only [Sim_eq, RQ_eq, AQ_eq, TQ_eq, VQ_eq, VsQ_eq, IQ_eq, XQ_eq] at *
  exact o_index_z ha h1 hb
end
section
variable {α β γ δ : Type}
theorem g_range1 {n : Int} : IQ (gRange1 [.int n]) (rngM 0 n) eI := by
  simp only [Sim_eq, RQ_eq, AQ_eq, TQ_eq, VQ_eq, VsQ_eq, IQ_eq, XQ_eq] at *
  exact g_range1_z 
end
section
variable {α β γ δ : Type}
theorem g_range2 {i j : Int} : IQ (gRange2 [.int i, .int j]) (rngM i j) eI := by
  simp only [Sim_eq, RQ_eq, AQ_eq, TQ_eq, VQ_eq, VsQ_eq, IQ_eq, XQ_eq] at *
  exact g_range2_z 
end
section
variable {α β γ δ : Type}
theorem g_zip {e : α → D} {f : β → D} {xs : List α} {ys : List β} : IQ (gZip [eL e xs, eL f ys]) (.ok (xs.zip ys)) (eT2 e f) := by
  simp only [Sim_eq, RQ_eq, AQ_eq, TQ_eq, VQ_eq, VsQ_eq, IQ_eq, XQ_eq] at *
  exact g_zip_z 
end
section
variable {α β γ δ : Type}
theorem g_enum {e : α → D} {xs : List α} : IQ (gEnum [eL e xs]) (.ok (enumL xs)) (eT2 eI e) := by
  simp only [Sim_eq, RQ_eq, AQ_eq, TQ_eq, VQ_eq, VsQ_eq, IQ_eq, XQ_eq] at *
  exact g_enum_z 
end
section
variable {α β γ δ : Type}
theorem g_rev {e : α → D} {xs : List α} : IQ (gRev [eL e xs]) (.ok xs.reverse) e := by
  simp only [Sim_eq, RQ_eq, AQ_eq, TQ_eq, VQ_eq, VsQ_eq, IQ_eq, XQ_eq] at *
  exact g_rev_z 
end
section
variable {α β γ δ : Type}
theorem itq {tb : DB} {ct : DT} {fe : DE} {ρ0 ρ1 : Rho} {d : D} {mp : M Bool} {me : M α} {s : α → O} (hb : tb d ρ0 = some ρ1) (hc : TQ (ct ρ1) mp) (he : RQ (fe ρ1) me (rO s)) : ItQ (itemT tb ct fe ρ0 d) mp me s := by
  simp only [Sim_eq, RQ_eq, AQ_eq, TQ_eq, VQ_eq, VsQ_eq, IQ_eq, XQ_eq] at *
  exact itq_z hb hc he
end
section
variable {α β γ δ : Type}
theorem compE_ok {fi : DI} {tb : DB} {ct : DT} {fe : DE} {vs : List Nat} {ρ : Rho} {e : α → D} {xs : List α} (hi : IQ (fi ρ) (.ok xs) e) (hl : okLen xs.length = true) : compE fi tb ct fe vs ρ = compL (itemT tb ct fe (forget vs ρ)) (xs.map e) [] := by
  simp only [Sim_eq, RQ_eq, AQ_eq, TQ_eq, VQ_eq, VsQ_eq, IQ_eq, XQ_eq] at *
  exact compE_ok_z hi hl
end
section
variable {α β γ δ : Type}
theorem rq_compP {fi : DI} {tb : DB} {fe : DE} {vs : List Nat} {ρ : Rho} {e : α → D} {s : β → O} {f : α → β} {ρx : α → Rho} {xs : List α} (hi : IQ (fi ρ) (.ok xs) e) (hb : ∀ x, tb (e x) (forget vs ρ) = some (ρx x)) (he : ∀ x, fe (ρx x) = .ok (.ow (s (f x)))) : RQ (compE fi tb yesT fe vs ρ) (compP f xs) (rO (oL s)) := by
  simp only [Sim_eq, RQ_eq, AQ_eq, TQ_eq, VQ_eq, VsQ_eq, IQ_eq, XQ_eq] at *
  exact rq_compP_z hi hb he
end
section
variable {α β γ δ : Type}
theorem rq_compFP {fi : DI} {tb : DB} {ct : DT} {fe : DE} {vs : List Nat} {ρ : Rho} {e : α → D} {s : β → O} {p : α → Bool} {f : α → β} {ρx : α → Rho} {xs : List α} (hi : IQ (fi ρ) (.ok xs) e) (hb : ∀ x, tb (e x) (forget vs ρ) = some (ρx x)) (hc : ∀ x, ct (ρx x) = .ok (p x)) (he : ∀ x, fe (ρx x) = .ok (.ow (s (f x)))) : RQ (compE fi tb ct fe vs ρ) (compFP p f xs) (rO (oL s)) := by
  simp only [Sim_eq, RQ_eq, AQ_eq, TQ_eq, VQ_eq, VsQ_eq, IQ_eq, XQ_eq] at *
  exact rq_compFP_z hi hb hc he
end
section
variable {α β γ δ : Type}
theorem rq_compF {fi : DI} {tb : DB} {ct : DT} {fe : DE} {vs : List Nat} {ρ : Rho} {e : α → D} {s : β → O} {p : α → M Bool} {f : α → M β} {ρx : α → Rho} {xs : List α} (hi : IQ (fi ρ) (.ok xs) e) (hb : ∀ x, tb (e x) (forget vs ρ) = some (ρx x)) (hc : ∀ x, TQ (ct (ρx x)) (p x)) (he : ∀ x, RQ (fe (ρx x)) (f x) (rO s)) : RQ (compE fi tb ct fe vs ρ) (compF (fun x => (p x).nox) (fun x => (f x).nox) xs) (rO (oL s)) := by
  simp only [Sim_eq, RQ_eq, AQ_eq, TQ_eq, VQ_eq, VsQ_eq, IQ_eq, XQ_eq] at *
  exact rq_compF_z hi hb hc he
end
section
variable {α β γ δ : Type}
theorem rq_compM {fi : DI} {tb : DB} {fe : DE} {vs : List Nat} {ρ : Rho} {e : α → D} {s : β → O} {f : α → M β} {ρx : α → Rho} {xs : List α} (hi : IQ (fi ρ) (.ok xs) e) (hb : ∀ x, tb (e x) (forget vs ρ) = some (ρx x)) (he : ∀ x, RQ (fe (ρx x)) (f x) (rO s)) : RQ (compE fi tb yesT fe vs ρ) (compM (fun x => (f x).nox) xs) (rO (oL s)) := by
  simp only [Sim_eq, RQ_eq, AQ_eq, TQ_eq, VQ_eq, VsQ_eq, IQ_eq, XQ_eq] at *
  exact rq_compM_z hi hb he
end
section
variable {α β γ δ : Type}
theorem rq_compI {fi : DI} {tb : DB} {ct : DT} {fe : DE} {vs : List Nat} {ρ : Rho} {e : α → D} {mi : M (List α)} {mo : List α → M γ} {s : γ → Ar} (hi : IQ (fi ρ) mi e) (h : ∀ xs, IQ (fi ρ) (.ok xs) e → RQ (compE fi tb ct fe vs ρ) (mo xs) s) : RQ (compE fi tb ct fe vs ρ) (mi.bind mo) s := by
  simp only [Sim_eq, RQ_eq, AQ_eq, TQ_eq, VQ_eq, VsQ_eq, IQ_eq, XQ_eq] at *
  exact rq_compI_z hi h
end
section
variable {A α β γ δ : Type} {ρ ρ' : Rho} {i : Nat} {sA : A → O} {s : α → O} {fp : DP} {fb : DE}
theorem sim_meth_ {T : String} {fa : DVs} {g : GMt} {as : List O} {F : α → M α} {md : (α → M α) → M A} (hp : MQ (fp ρ) ρ i sA s md) (hk : ∀ y, tyO (s y) = T) (ha : fa ρ = .ok as ρ') (hρ : ρ'[i]? = ρ[i]?) (hg : GQ g s as F) : Sim (methS T fp fa g ρ) (md F) (Np fun x => ρ'.set i (some (sA x))) := by
  simp only [Sim_eq, RQ_eq, AQ_eq, TQ_eq, VQ_eq, VsQ_eq, IQ_eq, XQ_eq] at *
  exact sim_meth__z hp hk ha hρ hg
end
section
variable {A α β γ δ : Type} {ρ ρ' : Rho} {i : Nat} {sA : A → O} {s : α → O} {fp : DP} {fb : DE}
theorem sim_meth {T : String} {fa : DVs} {g : GMt} {as : List O} {F : α → M α} {md : (α → M α) → M A} (hp : MQ (fp ρ) ρ i sA s md) (hk : ∀ y, tyO (s y) = T) (ha : fa ρ = .ok as ρ') (hρ : ρ'[i]? = ρ[i]?) (hg : GQ g s as F) {upd : A → Rho} (hu : ∀ x, ρ'.set i (some (sA x)) = upd x) : Sim (methS T fp fa g ρ) (md F) (Np upd) := by
  simp only [Sim_eq, RQ_eq, AQ_eq, TQ_eq, VQ_eq, VsQ_eq, IQ_eq, XQ_eq] at *
  exact sim_meth_z hp hk ha hρ hg hu
end
section
variable {A α β γ δ : Type} {ρ ρ' : Rho} {i : Nat} {sA : A → O} {s : α → O} {fp : DP} {fb : DE}
theorem sim_meth_m_ {T : String} {fa : DVs} {g : GMt} {ss : β → List O} {F : β → α → M α} {m : M β} {x : α} (hx : ρ[i]? = some (some (s x))) (hk : ∀ y, tyO (s y) = T) (ha : VsQ (fa ρ) m ss ρ') (hρ : ρ'[i]? = ρ[i]?) (hg : ∀ b, GQ g s (ss b) (F b)) : Sim (methS T (varP i) fa g ρ) (m.bind fun b => F b x) (Np fun x => ρ'.set i (some (s x))) := by
  simp only [Sim_eq, RQ_eq, AQ_eq, TQ_eq, VQ_eq, VsQ_eq, IQ_eq, XQ_eq] at *
  exact sim_meth_m__z hx hk ha hρ hg
end
section
variable {A α β γ δ : Type} {ρ ρ' : Rho} {i : Nat} {sA : A → O} {s : α → O} {fp : DP} {fb : DE}
theorem sim_meth_m {T : String} {fa : DVs} {g : GMt} {ss : β → List O} {F : β → α → M α} {m : M β} {x : α} (hx : ρ[i]? = some (some (s x))) (hk : ∀ y, tyO (s y) = T) (ha : VsQ (fa ρ) m ss ρ') (hρ : ρ'[i]? = ρ[i]?) (hg : ∀ b, GQ g s (ss b) (F b)) {upd : α → Rho} (hu : ∀ x, ρ'.set i (some (s x)) = upd x) : Sim (methS T (varP i) fa g ρ) (m.bind fun b => F b x) (Np upd) := by
  simp only [Sim_eq, RQ_eq, AQ_eq, TQ_eq, VQ_eq, VsQ_eq, IQ_eq, XQ_eq] at *
  exact sim_meth_m_z hx hk ha hρ hg hu
end
section
variable {A α β γ δ : Type} {ρ ρ' : Rho} {i : Nat} {sA : A → O} {s : α → O} {fp : DP} {fb : DE}
theorem sim_store_ {fv : DV} {o : O} {y : Ar} {F : α → M α} {md : (α → M α) → M A} (hv : fv ρ = .ok o ρ') (hp : MQ (fp ρ') ρ' i sA s md) (hb : fb ρ' = .ok y) (hg : SQ s y.d o F) : Sim (storeS fv fp fb ρ) (md F) (Np fun x => ρ'.set i (some (sA x))) := by
  simp only [Sim_eq, RQ_eq, AQ_eq, TQ_eq, VQ_eq, VsQ_eq, IQ_eq, XQ_eq] at *
  exact sim_store__z hv hp hb hg
end
section
variable {A α β γ δ : Type} {ρ ρ' : Rho} {i : Nat} {sA : A → O} {s : α → O} {fp : DP} {fb : DE}
theorem sim_store {fv : DV} {o : O} {y : Ar} {F : α → M α} {md : (α → M α) → M A} (hv : fv ρ = .ok o ρ') (hp : MQ (fp ρ') ρ' i sA s md) (hb : fb ρ' = .ok y) (hg : SQ s y.d o F) {upd : A → Rho} (hu : ∀ x, ρ'.set i (some (sA x)) = upd x) : Sim (storeS fv fp fb ρ) (md F) (Np upd) := by
  simp only [Sim_eq, RQ_eq, AQ_eq, TQ_eq, VQ_eq, VsQ_eq, IQ_eq, XQ_eq] at *
  exact sim_store_z hv hp hb hg hu
end
section
variable {A α β γ δ : Type} {ρ ρ' : Rho} {i : Nat} {sA : A → O} {s : α → O} {fp : DP} {fb : DE}
theorem sim_store_m_ {fv : DV} {t : β → O} {m : M β} {y : Ar} {F : β → α → M α} {md : (α → M α) → M A} (hv : VQ (fv ρ) m t ρ') (hp : MQ (fp ρ') ρ' i sA s md) (hb : fb ρ' = .ok y) (hg : ∀ v, SQ s y.d (t v) (F v)) : Sim (storeS fv fp fb ρ) (m.bind fun v => md (F v)) (Np fun x => ρ'.set i (some (sA x))) := by
  simp only [Sim_eq, RQ_eq, AQ_eq, TQ_eq, VQ_eq, VsQ_eq, IQ_eq, XQ_eq] at *
  exact sim_store_m__z hv hp hb hg
end
section
variable {A α β γ δ : Type} {ρ ρ' : Rho} {i : Nat} {sA : A → O} {s : α → O} {fp : DP} {fb : DE}
theorem sim_store_m {fv : DV} {t : β → O} {m : M β} {y : Ar} {F : β → α → M α} {md : (α → M α) → M A} (hv : VQ (fv ρ) m t ρ') (hp : MQ (fp ρ') ρ' i sA s md) (hb : fb ρ' = .ok y) (hg : ∀ v, SQ s y.d (t v) (F v)) {upd : A → Rho} (hu : ∀ x, ρ'.set i (some (sA x)) = upd x) : Sim (storeS fv fp fb ρ) (m.bind fun v => md (F v)) (Np upd) := by
  simp only [Sim_eq, RQ_eq, AQ_eq, TQ_eq, VQ_eq, VsQ_eq, IQ_eq, XQ_eq] at *
  exact sim_store_m_z hv hp hb hg hu
end
section
variable {A α β γ δ : Type} {ρ ρ' : Rho} {i : Nat} {sA : A → O} {s : α → O} {fp : DP} {fb : DE}
theorem sim_store_i_ {fv : DV} {o : O} {m : M β} {sy : β → Ar} {F : β → α → M α} {md : (α → M α) → M A} (hv : fv ρ = .ok o ρ') (hp : MQ (fp ρ') ρ' i sA s md) (hb : RQ (fb ρ') m sy) (hg : ∀ b, SQ s (sy b).d o (F b)) : Sim (storeS fv fp fb ρ) (m.nox.bind fun b => md (F b)) (Np fun x => ρ'.set i (some (sA x))) := by
  simp only [Sim_eq, RQ_eq, AQ_eq, TQ_eq, VQ_eq, VsQ_eq, IQ_eq, XQ_eq] at *
  exact sim_store_i__z hv hp hb hg
end
section
variable {A α β γ δ : Type} {ρ ρ' : Rho} {i : Nat} {sA : A → O} {s : α → O} {fp : DP} {fb : DE}
theorem sim_store_i {fv : DV} {o : O} {m : M β} {sy : β → Ar} {F : β → α → M α} {md : (α → M α) → M A} (hv : fv ρ = .ok o ρ') (hp : MQ (fp ρ') ρ' i sA s md) (hb : RQ (fb ρ') m sy) (hg : ∀ b, SQ s (sy b).d o (F b)) {upd : A → Rho} (hu : ∀ x, ρ'.set i (some (sA x)) = upd x) : Sim (storeS fv fp fb ρ) (m.nox.bind fun b => md (F b)) (Np upd) := by
  simp only [Sim_eq, RQ_eq, AQ_eq, TQ_eq, VQ_eq, VsQ_eq, IQ_eq, XQ_eq] at *
  exact sim_store_i_z hv hp hb hg hu
end
section
variable {A α β γ δ : Type} {ρ ρ' : Rho} {i : Nat} {sA : A → O} {s : α → O} {fp : DP} {fb : DE}
theorem sim_store_mi_ {fv : DV} {t : δ → O} {mv : M δ} {m : M β} {sy : β → Ar} {F : δ → β → α → M α} {md : (α → M α) → M A} (hv : VQ (fv ρ) mv t ρ') (hp : MQ (fp ρ') ρ' i sA s md) (hb : RQ (fb ρ') m sy) (hg : ∀ v b, SQ s (sy b).d (t v) (F v b)) : Sim (storeS fv fp fb ρ) (mv.bind fun v => m.nox.bind fun b => md (F v b)) (Np fun x => ρ'.set i (some (sA x))) := by
  simp only [Sim_eq, RQ_eq, AQ_eq, TQ_eq, VQ_eq, VsQ_eq, IQ_eq, XQ_eq] at *
  exact sim_store_mi__z hv hp hb hg
end
section
variable {A α β γ δ : Type} {ρ ρ' : Rho} {i : Nat} {sA : A → O} {s : α → O} {fp : DP} {fb : DE}
theorem sim_store_mi {fv : DV} {t : δ → O} {mv : M δ} {m : M β} {sy : β → Ar} {F : δ → β → α → M α} {md : (α → M α) → M A} (hv : VQ (fv ρ) mv t ρ') (hp : MQ (fp ρ') ρ' i sA s md) (hb : RQ (fb ρ') m sy) (hg : ∀ v b, SQ s (sy b).d (t v) (F v b)) {upd : A → Rho} (hu : ∀ x, ρ'.set i (some (sA x)) = upd x) : Sim (storeS fv fp fb ρ) (mv.bind fun v => m.nox.bind fun b => md (F v b)) (Np upd) := by
  simp only [Sim_eq, RQ_eq, AQ_eq, TQ_eq, VQ_eq, VsQ_eq, IQ_eq, XQ_eq] at *
  exact sim_store_mi_z hv hp hb hg hu
end
section
variable {A α β γ δ : Type} {ρ ρ' : Rho} {i : Nat} {sA : A → O} {s : α → O} {fp : DP} {fb : DE}
variable {κ : Type} [DecidableEq κ]
theorem o_ixD {ke : κ → Key} [Inj ke] {f : κ → D} [KeyE ke f] {e : α → D} {a b : Ar} {d : Dc κ α} {k : κ} (hb : a.d = eDk ke e d) (hs : a.o.seq = none) (hc : a.o.dic = eDk ke e d) (ha : b.d = f k) : RQ (gIx a b) (dgM d k) (rO (oF e)) := by
  simp only [Sim_eq, RQ_eq, AQ_eq, TQ_eq, VQ_eq, VsQ_eq, IQ_eq, XQ_eq] at *
  exact o_ixD_z hb hs hc ha
end
section
variable {A α β γ δ : Type} {ρ ρ' : Rho} {i : Nat} {sA : A → O} {s : α → O} {fp : DP} {fb : DE}
variable {κ : Type} [DecidableEq κ]
theorem o_sortD {e : α → D} {a : Ar} {d : Dc Int α} (hb : a.d = eDk kI e d) : RQ (gSortX [a]) (sortD d) (rO (oL (oF eI))) := by
  simp only [Sim_eq, RQ_eq, AQ_eq, TQ_eq, VQ_eq, VsQ_eq, IQ_eq, XQ_eq] at *
  exact o_sortD_z hb
end
section
variable {δ : Type} {t1 t2 : DT} {q : δ → Bool} {mq : δ → M Bool} {x : Option δ}
theorem tq_andS (ρf : Option δ → Rho) (h : ∀ x, t1 (ρf x) = .ok (!x.isNone)) (h2 : ∀ y, TQ (t2 (ρf (some y))) (mq y)) : TQ (andT t1 t2 (ρf x)) (optC x (.ok false) mq) := by
  simp only [Sim_eq, RQ_eq, AQ_eq, TQ_eq, VQ_eq, VsQ_eq, IQ_eq, XQ_eq] at *
  exact tq_andS_z ρf h h2
end
section
variable {δ : Type} {t1 t2 : DT} {q : δ → Bool} {mq : δ → M Bool} {x : Option δ}
theorem tq_orN (ρf : Option δ → Rho) (h : ∀ x, t1 (ρf x) = .ok x.isNone) (h2 : ∀ y, TQ (t2 (ρf (some y))) (mq y)) : TQ (orT t1 t2 (ρf x)) (optC x (.ok true) mq) := by
  simp only [Sim_eq, RQ_eq, AQ_eq, TQ_eq, VQ_eq, VsQ_eq, IQ_eq, XQ_eq] at *
  exact tq_orN_z ρf h h2
end
section
variable {ρ : Rho} {t1 t2 : DT} {q b : Bool} {mq : M Bool}
theorem tq_and_tm (h : t1 ρ = .ok true) (h2 : TQ (t2 ρ) mq) : TQ (andT t1 t2 ρ) mq := by
  simp only [Sim_eq, RQ_eq, AQ_eq, TQ_eq, VQ_eq, VsQ_eq, IQ_eq, XQ_eq] at *
  exact tq_and_tm_z h h2
end
section
variable {ρ : Rho} {t1 t2 : DT} {q b : Bool} {mq : M Bool}
theorem tq_or_fm (h : t1 ρ = .ok false) (h2 : TQ (t2 ρ) mq) : TQ (orT t1 t2 ρ) mq := by
  simp only [Sim_eq, RQ_eq, AQ_eq, TQ_eq, VQ_eq, VsQ_eq, IQ_eq, XQ_eq] at *
  exact tq_or_fm_z h h2
end
section
variable {ρ : Rho} {t1 t2 : DT} {q b : Bool} {mq : M Bool}
theorem xq_mn {fe : DE} {m : M Int} (h : RQ (fe ρ) m (rO (oF eI))) : XQ (someO fe ρ) (m.nox.bind fun i => .ok (some i)) := by
  simp only [Sim_eq, RQ_eq, AQ_eq, TQ_eq, VQ_eq, VsQ_eq, IQ_eq, XQ_eq] at *
  exact xq_mn_z h
end
section
variable {ρ : Rho} {t1 t2 : DT} {q b : Bool} {mq : M Bool}
variable {A B K' : DS} {γ : Type} {m : M γ} {P : γ → SR → Prop} {c : DT}
theorem sim_deadT (h : c ρ = .ok true) (k : Sim (seqS A K' ρ) m P) : Sim (seqS (ifS c A B) K' ρ) m P := by
  simp only [Sim_eq, RQ_eq, AQ_eq, TQ_eq, VQ_eq, VsQ_eq, IQ_eq, XQ_eq] at *
  exact sim_deadT_z h k
end
section
variable {ρ : Rho} {t1 t2 : DT} {q b : Bool} {mq : M Bool}
variable {A B K' : DS} {γ : Type} {m : M γ} {P : γ → SR → Prop} {c : DT}
theorem sim_deadF (h : c ρ = .ok false) (k : Sim (seqS B K' ρ) m P) : Sim (seqS (ifS c A B) K' ρ) m P := by
  simp only [Sim_eq, RQ_eq, AQ_eq, TQ_eq, VQ_eq, VsQ_eq, IQ_eq, XQ_eq] at *
  exact sim_deadF_z h k
end
section
variable {ρ : Rho} {t1 t2 : DT} {q b : Bool} {mq : M Bool}
variable {A B K' : DS} {γ : Type} {m : M γ} {P : γ → SR → Prop} {c : DT}
theorem sim_or (h : Sim (ifS t1 A (ifS t2 A B) ρ) m P) : Sim (ifS (orT t1 t2) A B ρ) m P := by
  simp only [Sim_eq, RQ_eq, AQ_eq, TQ_eq, VQ_eq, VsQ_eq, IQ_eq, XQ_eq] at *
  exact sim_or_z h
end
section
variable {ρ : Rho} {t1 t2 : DT} {q b : Bool} {mq : M Bool}
variable {A B K' : DS} {γ : Type} {m : M γ} {P : γ → SR → Prop} {c : DT}
theorem sim_and (h : Sim (ifS t1 (ifS t2 A B) B ρ) m P) : Sim (ifS (andT t1 t2) A B ρ) m P := by
  simp only [Sim_eq, RQ_eq, AQ_eq, TQ_eq, VQ_eq, VsQ_eq, IQ_eq, XQ_eq] at *
  exact sim_and_z h
end
section
variable {ρ : Rho} {t1 t2 : DT} {q b : Bool} {mq : M Bool}
variable {A B K' : DS} {γ : Type} {m : M γ} {P : γ → SR → Prop} {c : DT}
theorem sim_orK (h : Sim (seqS (ifS t1 A (ifS t2 A B)) K' ρ) m P) : Sim (seqS (ifS (orT t1 t2) A B) K' ρ) m P := by
  simp only [Sim_eq, RQ_eq, AQ_eq, TQ_eq, VQ_eq, VsQ_eq, IQ_eq, XQ_eq] at *
  exact sim_orK_z h
end
section
variable {ρ : Rho} {t1 t2 : DT} {q b : Bool} {mq : M Bool}
variable {A B K' : DS} {γ : Type} {m : M γ} {P : γ → SR → Prop} {c : DT}
theorem sim_andK (h : Sim (seqS (ifS t1 (ifS t2 A B) B) K' ρ) m P) : Sim (seqS (ifS (andT t1 t2) A B) K' ρ) m P := by
  simp only [Sim_eq, RQ_eq, AQ_eq, TQ_eq, VQ_eq, VsQ_eq, IQ_eq, XQ_eq] at *
  exact sim_andK_z h
end
section
variable {A α β γ : Type} {s : α → O} {t : β → O}
theorem sim_forO_ {bd : DSa} {F : α → M α} {ρ : Rho} {i t' : Nat} {sA : A → O} {fp : DP} {md : (List α → M (List α)) → M A} (hp : MQ (fp ρ) ρ i sA (oL s) md) (h : IB bd s F) (hit : decide (i ≠ t') = true) (htl : decide (t' < ρ.length) = true) : Sim (forOS t' fp bd ρ) (md (fun xs => mapM F xs)) (Np fun x => (ρ.set t' none).set i (some (sA x))) := by
  simp only [Sim_eq, RQ_eq, AQ_eq, TQ_eq, VQ_eq, VsQ_eq, IQ_eq, XQ_eq] at *
  exact sim_forO__z hp h hit htl
end
section
variable {A α β γ : Type} {s : α → O} {t : β → O}
theorem sim_forO {bd : DSa} {F : α → M α} {ρ : Rho} {i t' : Nat} {sA : A → O} {fp : DP} {md : (List α → M (List α)) → M A} (hp : MQ (fp ρ) ρ i sA (oL s) md) (h : IB bd s F) (hit : decide (i ≠ t') = true) (htl : decide (t' < ρ.length) = true) {upd : A → Rho} (hu : ∀ x, (ρ.set t' none).set i (some (sA x)) = upd x) : Sim (forOS t' fp bd ρ) (md (fun xs => mapM F xs)) (Np upd) := by
  simp only [Sim_eq, RQ_eq, AQ_eq, TQ_eq, VQ_eq, VsQ_eq, IQ_eq, XQ_eq] at *
  exact sim_forO_z hp h hit htl hu
end
end DL

namespace DL
open PySem PySem.Spec L2
/-! ### plain rules of M -/
theorem fuel_eq : fuel = 1000000000 := by unfold fuel; rfl
theorem lim_val : lim = 16777216 := rfl
section
variable {α β γ : Type}
/-- the item at a whole number -/
def getZ [Inhabited α] (xs : List α) (i : Int) : α := xs.getD i.toNat default
theorem getZ_nat [Inhabited α] {xs : List α} {i : Nat} (h : i < xs.length) : getZ xs (i : Int) = xs[i] := by
  unfold getZ
  rw [Int.toNat_natCast, List.getD_eq_getElem?_getD, List.getElem?_eq_getElem h]
  rfl
theorem getZ_at [Inhabited α] {xs : List α} {i : Int} (h0 : 0 ≤ i) (h : i < xs.length) : getZ xs i = xs[i.toNat]'(by omega) := by
  unfold getZ
  rw [List.getD_eq_getElem?_getD, List.getElem?_eq_getElem (by omega)]
  rfl
theorem getZ_mem [Inhabited α] {xs : List α} {i : Int} (h0 : 0 ≤ i) (h : i < xs.length) : getZ xs i ∈ xs := by
  rw [getZ_at h0 h]
  exact List.getElem_mem _
theorem ix_ok [Inhabited α] {xs : List α} {i : Int} (h0 : 0 ≤ i) (h : i < xs.length) : ix xs i = .ok (getZ xs i) := by
  unfold ix L2.atI ixN
  rw [if_pos h0, if_pos (by omega), getZ_at h0 h]
  have : xs[i.toNat]? = some (xs[i.toNat]'(by omega)) := List.getElem?_eq_getElem (by omega)
  show (match (match some i.toNat with | some j => xs[j]? | none => none) with | some a => M.ok a | none => .bad) = _
  dsimp only
  rw [this]
theorem ixn {xs : List α} {x : α} : ix (xs ++ [x]) (-1) = .ok x := by
  unfold ix L2.atI ixN
  rw [if_neg (by omega), if_pos (by simp; omega)]
  have : ((-1 : Int) + ((xs ++ [x]).length : Nat)).toNat = xs.length := by simp; omega
  rw [this]
  simp
theorem ix_neg {xs : List α} (h : xs ≠ []) : ix xs (-1) = .ok (xs.getLast h) := by
  obtain ⟨ys, y, rfl⟩ : ∃ ys y, xs = ys ++ [y] := ⟨xs.dropLast, xs.getLast h, (List.dropLast_concat_getLast h).symm⟩
  rw [ixn]
  simp
theorem mulM_l {i j : Int} (h : -18446744073709551616 < i) (h2 : i < 18446744073709551616) : mulM i j = .ok (i * j) := if_pos (okMul_l ⟨h, h2⟩)
theorem mulM_r {i j : Int} (h : -18446744073709551616 < j) (h2 : j < 18446744073709551616) : mulM i j = .ok (i * j) := if_pos (okMul_r ⟨h, h2⟩)
theorem modM_ok {i j : Int} (h : 0 < j) : modM i j = .ok (i % j) := if_pos h
theorem fdivM_ok {i j : Int} (h : 0 < j) (h2 : j < 18446744073709551616) : fdivM i j = .ok (i / j) := if_pos (okDiv_of h h2)
theorem powM_ok {i j : Int} (h : 0 ≤ j) (h2 : j ≤ 1000000) (h3 : -18446744073709551616 < i) (h4 : i < 18446744073709551616) : powM i j = .ok (i ^ j.toNat) := by
  refine if_pos ?_
  unfold okPow smallI
  rw [decide_eq_true h, decide_eq_true h2, decide_eq_true (by omega)]
  rfl
theorem rngM_ok {lo hi : Int} (h : -4611686018427387904 ≤ lo) (h2 : lo < 4611686018427387904) (h3 : -4611686018427387904 ≤ hi) (h4 : hi < 4611686018427387904) : rngM lo hi = .ok (rng lo hi) := by
  refine if_pos ?_
  unfold okR
  rw [decide_eq_true h, decide_eq_true h2, decide_eq_true h3, decide_eq_true h4]
  rfl
theorem rngL_ok {lo hi : Int} (h : -4611686018427387904 ≤ lo) (h2 : lo < 4611686018427387904) (h3 : -4611686018427387904 ≤ hi) (h4 : hi < 4611686018427387904) (h5 : hi - lo ≤ 16777216) : rngL lo hi = .ok (rng lo hi) := by
  refine if_pos ?_
  unfold okR okLen lim
  rw [decide_eq_true h, decide_eq_true h2, decide_eq_true h3, decide_eq_true h4, decide_eq_true (by omega)]
  rfl
theorem appM_ok {xs : List α} {x : α} (h : xs.length < 16777216) : appM xs x = .ok (xs ++ [x]) := if_pos h
theorem catM_ok {xs ys : List α} (h : xs.length + ys.length ≤ 16777216) : catM xs ys = .ok (xs ++ ys) := if_pos (decide_eq_true h)
theorem okLen_ok {n : Nat} (h : n ≤ 16777216) : okLen n = true := decide_eq_true h
theorem compP_ok {f : α → β} {xs : List α} (h : xs.length ≤ 16777216) : compP f xs = .ok (xs.map f) := if_pos (okLen_ok h)
theorem compFP_ok {p : α → Bool} {f : α → β} {xs : List α} (h : xs.length ≤ 16777216) : compFP p f xs = .ok ((xs.filter p).map f) := if_pos (okLen_ok h)
theorem mapM_ok {f : α → M β} {g : α → β} : ∀ {xs : List α}, (∀ x ∈ xs, f x = .ok (g x)) → mapM f xs = .ok (xs.map g)
  | [], _ => rfl
  | x :: xs, h => by
    unfold mapM
    rw [h x List.mem_cons_self, M.bind_ok, mapM_ok fun y hy => h y (List.mem_cons_of_mem _ hy)]
    rfl
theorem compM_ok {f : α → M β} {g : α → β} {xs : List α} (h : xs.length ≤ 16777216) (hf : ∀ x ∈ xs, f x = .ok (g x)) : compM f xs = .ok (xs.map g) := by
  unfold compM
  rw [if_pos (okLen_ok h)]
  exact mapM_ok hf
theorem mapM_ex {f : α → M β} {P : α → β → Prop} : ∀ {xs : List α}, (∀ x ∈ xs, ∃ y, f x = .ok y ∧ P x y) → ∃ ys, mapM f xs = .ok ys ∧ ys.length = xs.length ∧ (∀ i (h : i < xs.length) (h' : i < ys.length), P xs[i] ys[i])
  | [], _ => ⟨[], rfl, rfl, fun i h => absurd h (Nat.not_lt_zero _)⟩
  | x :: xs, h => by
    obtain ⟨y, e, p⟩ := h x List.mem_cons_self
    obtain ⟨ys, e2, l, q⟩ := mapM_ex fun z hz => h z (List.mem_cons_of_mem _ hz)
    refine ⟨y :: ys, ?_, by simp [l], fun i h h' => ?_⟩
    · unfold mapM
      rw [e, M.bind_ok, e2, M.bind_ok]
    · cases i with
      | zero => exact p
      | succ i => exact q i (by simpa using h) (by simpa using h')
theorem compM_ex {f : α → M β} {P : α → β → Prop} {xs : List α} (hl : xs.length ≤ 16777216) (h : ∀ x ∈ xs, ∃ y, f x = .ok y ∧ P x y) : ∃ ys, compM f xs = .ok ys ∧ ys.length = xs.length ∧ (∀ i (h : i < xs.length) (h' : i < ys.length), P xs[i] ys[i]) := by
  unfold compM
  rw [if_pos (okLen_ok hl)]
  exact mapM_ex h
theorem filtM_ok {p : α → M Bool} {q : α → Bool} {f : α → M β} {g : α → β} : ∀ {xs : List α}, (∀ x ∈ xs, p x = .ok (q x)) → (∀ x ∈ xs, q x = true → f x = .ok (g x)) → filtM p f xs = .ok ((xs.filter q).map g)
  | [], _, _ => rfl
  | x :: xs, h, h2 => by
    unfold filtM
    rw [h x List.mem_cons_self, M.bind_ok]
    have ih := filtM_ok (fun y hy => h y (List.mem_cons_of_mem _ hy)) fun y hy => h2 y (List.mem_cons_of_mem _ hy)
    cases e : q x with
    | true => rw [if_pos rfl, h2 x List.mem_cons_self e, M.bind_ok, ih]; simp [e]
    | false => rw [if_neg (by decide), ih]; simp [e]
theorem compF_ok {p : α → M Bool} {q : α → Bool} {f : α → M β} {g : α → β} {xs : List α} (hl : xs.length ≤ 16777216) (h : ∀ x ∈ xs, p x = .ok (q x)) (h2 : ∀ x ∈ xs, q x = true → f x = .ok (g x)) : compF p f xs = .ok ((xs.filter q).map g) := by
  unfold compF
  rw [if_pos (okLen_ok hl)]
  exact filtM_ok h h2
/-! ### loops -/
theorem forM_inv {step : α → β → M β} {xs : List α} {b0 : β} (P : List α → β → Prop) (h0 : P [] b0) (hs : ∀ ys x zs b, xs = ys ++ x :: zs → P ys b → ∃ b', step x b = .ok b' ∧ P (ys ++ [x]) b') : ∃ b, forM step xs b0 = .ok b ∧ P xs b := by
  have key : ∀ (zs ys : List α) (b : β), xs = ys ++ zs → P ys b → ∃ b', forM step zs b = .ok b' ∧ P xs b' := by
    intro zs
    induction zs with
    | nil => intro ys b e h; rw [List.append_nil] at e; subst e; exact ⟨b, rfl, h⟩
    | cons z zs ih =>
      intro ys b e h
      obtain ⟨b1, e1, h1⟩ := hs ys z zs b e h
      obtain ⟨b2, e2, h2⟩ := ih (ys ++ [z]) b1 (by rw [e]; simp) h1
      exact ⟨b2, by unfold forM; rw [e1, M.bind_ok, e2], h2⟩
  exact key xs [] b0 rfl h0
theorem forM_fold {step : α → β → M β} {xs : List α} {b0 : β} (g : β → α → β) (I : List α → β → Prop) (h0 : I [] b0) (hs : ∀ ys x zs b, xs = ys ++ x :: zs → I ys b → b = ys.foldl g b0 → step x b = .ok (g b x) ∧ I (ys ++ [x]) (g b x)) : forM step xs b0 = .ok (xs.foldl g b0) ∧ I xs (xs.foldl g b0) := by
  obtain ⟨b, e, h1, h2⟩ := forM_inv (step := step) (xs := xs) (b0 := b0) (fun ys b => b = ys.foldl g b0 ∧ I ys b) ⟨rfl, h0⟩ fun ys x zs b e ⟨h1, h2⟩ => by
    obtain ⟨e1, e2⟩ := hs ys x zs b e h2 h1
    exact ⟨_, e1, by rw [List.foldl_append, ← h1]; rfl, e2⟩
  subst h1
  exact ⟨e, h2⟩
theorem forF_all {step : α → β → M (Fl β γ)} {b : β} : ∀ {xs : List α}, (∀ x ∈ xs, step x b = .ok (.nx b)) → forF step xs b = .ok (.nx b)
  | [], _ => rfl
  | x :: xs, h => by
    unfold forF
    rw [h x List.mem_cons_self, M.bind_ok]
    exact forF_all fun y hy => h y (List.mem_cons_of_mem _ hy)
theorem forF_inv {step : α → β → M (Fl β γ)} {xs : List α} {b0 : β} (P : List α → β → Prop) (h0 : P [] b0) (hs : ∀ ys x zs b, xs = ys ++ x :: zs → P ys b → ∃ b', step x b = .ok (.nx b') ∧ P (ys ++ [x]) b') : ∃ b, forF step xs b0 = .ok (.nx b) ∧ P xs b := by
  have key : ∀ (zs ys : List α) (b : β), xs = ys ++ zs → P ys b → ∃ b', forF step zs b = .ok (.nx b') ∧ P xs b' := by
    intro zs
    induction zs with
    | nil => intro ys b e h; rw [List.append_nil] at e; subst e; exact ⟨b, rfl, h⟩
    | cons z zs ih =>
      intro ys b e h
      obtain ⟨b1, e1, h1⟩ := hs ys z zs b e h
      obtain ⟨b2, e2, h2⟩ := ih (ys ++ [z]) b1 (by rw [e]; simp) h1
      exact ⟨b2, by unfold forF; rw [e1, M.bind_ok]; exact e2, h2⟩
  exact key xs [] b0 rfl h0
/-- a loop that may be left: either it goes through, or it is left with what is wanted -/
theorem forF_or {step : α → β → M (Fl β γ)} {xs : List α} {b0 : β} (P : List α → β → Prop) (R : γ → Prop) (h0 : P [] b0) (hs : ∀ ys x zs b, xs = ys ++ x :: zs → P ys b → (∃ b', step x b = .ok (.nx b') ∧ P (ys ++ [x]) b') ∨ ∃ a, step x b = .ok (.rt a) ∧ R a) : (∃ b, forF step xs b0 = .ok (.nx b) ∧ P xs b) ∨ ∃ a, forF step xs b0 = .ok (.rt a) ∧ R a := by
  have key : ∀ (zs ys : List α) (b : β), xs = ys ++ zs → P ys b → (∃ b', forF step zs b = .ok (.nx b') ∧ P xs b') ∨ ∃ a, forF step zs b = .ok (.rt a) ∧ R a := by
    intro zs
    induction zs with
    | nil => intro ys b e h; rw [List.append_nil] at e; subst e; exact .inl ⟨b, rfl, h⟩
    | cons z zs ih =>
      intro ys b e h
      rcases hs ys z zs b e h with ⟨b1, e1, h1⟩ | ⟨a, e1, h1⟩
      · have := ih (ys ++ [z]) b1 (by rw [e]; simp) h1
        unfold forF
        rw [e1, M.bind_ok]
        exact this
      · exact .inr ⟨a, by unfold forF; rw [e1, M.bind_ok], h1⟩
  exact key xs [] b0 rfl h0
theorem whileM_ok {c : β → M Bool} {t : β → M β} {b0 : β} (μ : β → Nat) (I P : β → Prop) (h0 : I b0) (hμ : μ b0 < 1000000000) (hs : ∀ b, I b → (c b = .ok false ∧ P b) ∨ (c b = .ok true ∧ ∃ b', t b = .ok b' ∧ I b' ∧ μ b' < μ b)) : ∃ b, whileM c t fuel b0 = .ok b ∧ P b := by
  have key : ∀ (n : Nat) (b : β), I b → μ b < n → ∃ b', whileM c t n b = .ok b' ∧ P b' := by
    intro n
    induction n with
    | zero => intro b _ h; omega
    | succ n ih =>
      intro b hb hl
      unfold whileM
      rcases hs b hb with ⟨e, p⟩ | ⟨e, b1, e1, i1, l1⟩
      · exact ⟨b, by rw [e]; rfl, p⟩
      · obtain ⟨b2, e2, p2⟩ := ih b1 i1 (by omega)
        exact ⟨b2, by rw [e, M.bind_ok, if_pos rfl, e1, M.bind_ok, e2], p2⟩
  rw [fuel_eq]
  exact key _ b0 h0 hμ
theorem whileF_ok {c : β → M Bool} {t : β → M (Fl β γ)} {b0 : β} (μ : β → Nat) (I P : β → Prop) (R : γ → Prop) (h0 : I b0) (hμ : μ b0 < 1000000000) (hs : ∀ b, I b → (c b = .ok false ∧ P b) ∨ (c b = .ok true ∧ ((∃ b', t b = .ok (.nx b') ∧ I b' ∧ μ b' < μ b) ∨ ∃ a, t b = .ok (.rt a) ∧ R a))) : (∃ b, whileF c t fuel b0 = .ok (.nx b) ∧ P b) ∨ ∃ a, whileF c t fuel b0 = .ok (.rt a) ∧ R a := by
  have key : ∀ (n : Nat) (b : β), I b → μ b < n → (∃ b', whileF c t n b = .ok (.nx b') ∧ P b') ∨ ∃ a, whileF c t n b = .ok (.rt a) ∧ R a := by
    intro n
    induction n with
    | zero => intro b _ h; omega
    | succ n ih =>
      intro b hb hl
      unfold whileF
      rcases hs b hb with ⟨e, p⟩ | ⟨e, ⟨b1, e1, i1, l1⟩ | ⟨a, e1, r⟩⟩
      · exact .inl ⟨b, by rw [e]; rfl, p⟩
      · have := ih b1 i1 (by omega)
        rw [e, M.bind_ok, if_pos rfl, e1, M.bind_ok]
        exact this
      · exact .inr ⟨a, by rw [e, M.bind_ok, if_pos rfl, e1, M.bind_ok], r⟩
  rw [fuel_eq]
  exact key _ b0 h0 hμ
/-! ### rows of numbers -/
theorem rng_nat (n : Nat) : rng 0 (n : Int) = (List.range n).map fun (i : Nat) => (i : Int) := by
  unfold rng
  simp
theorem rng_len {lo hi : Int} : (rng lo hi).length = (hi - lo).toNat := by unfold rng; simp
theorem rng_mem {lo hi x : Int} : x ∈ rng lo hi ↔ lo ≤ x ∧ x < hi := by
  unfold rng
  simp only [List.mem_map, List.mem_range]
  constructor
  · rintro ⟨i, h, rfl⟩; omega
  · rintro ⟨h1, h2⟩; exact ⟨(x - lo).toNat, by omega, by omega⟩
theorem rng_get {lo hi : Int} {i : Nat} (h : i < (rng lo hi).length) : (rng lo hi)[i] = lo + i := by
  simp [rng]
/-- the item that is due in a loop over a row of numbers -/
theorem rng_split {lo hi x : Int} {ys zs : List Int} (e : rng lo hi = ys ++ x :: zs) : x = lo + (ys.length : Nat) ∧ lo + (ys.length : Nat) < hi := by
  have hl := congrArg List.length e
  rw [rng_len] at hl
  simp at hl
  have hi' : ys.length < (rng lo hi).length := by rw [rng_len]; omega
  have h1 := rng_get hi'
  have : (rng lo hi)[ys.length] = x := by
    have : (rng lo hi)[ys.length]? = some x := by rw [e]; simp
    rw [List.getElem?_eq_getElem hi'] at this
    exact Option.some.inj this
  rw [this] at h1
  exact ⟨h1, by omega⟩
/-! ### dicts -/
variable {κ : Type} [DecidableEq κ]
theorem dg_dp {d : Dc κ α} {k k' : κ} {v : α} : dg (dp d k v) k' = if k = k' then some v else dg d k' := by
  unfold dp
  by_cases h : k ∈ d.map (·.1)
  · rw [if_pos h]
    induction d with
    | nil => simp at h
    | cons p d ih =>
      obtain ⟨a, w⟩ := p
      rw [List.map_cons]
      by_cases ha : a = k
      · subst ha
        simp only [if_true]
        unfold dg
        by_cases hk : a = k'
        · simp [hk]
        · rw [if_neg hk, if_neg hk, if_neg hk]
          by_cases hm : a ∈ d.map (·.1)
          · have := ih hm
            rw [if_neg hk] at this
            exact this
          · have e : (d.map fun p => if p.1 = a then (p.1, v) else p) = d := by
              have : ∀ p ∈ d, (if p.1 = a then (p.1, v) else p) = p := fun p hp => by
                rw [if_neg]
                intro e
                exact hm (List.mem_map.mpr ⟨p, hp, e⟩)
              conv => rhs; rw [← List.map_id d]
              exact List.map_congr_left this
            rw [e]
      · simp only [if_neg ha]
        unfold dg
        by_cases hk : a = k'
        · rw [if_pos hk, if_pos hk, if_neg (fun e => ha (hk.trans e.symm))]
        · rw [if_neg hk, if_neg hk]
          refine ih ?_
          rw [List.map_cons] at h
          rcases List.mem_cons.mp h with h | h
          · exact absurd h.symm ha
          · exact h
  · rw [if_neg h]
    induction d with
    | nil =>
      show dg [(k, v)] k' = _
      unfold dg
      rfl
    | cons p d ih =>
      obtain ⟨a, w⟩ := p
      rw [List.map_cons] at h
      have h1 : a ≠ k := fun e => h (by rw [e]; exact List.mem_cons_self)
      have h2 : ¬ k ∈ d.map (·.1) := fun m => h (List.mem_cons_of_mem _ m)
      rw [List.cons_append]
      unfold dg
      by_cases hk : a = k'
      · rw [if_pos hk, if_pos hk, if_neg (fun e => h1 (hk.trans e.symm))]
      · rw [if_neg hk, if_neg hk]
        exact ih h2
theorem dp_len {d : Dc κ α} {k : κ} {v : α} : (dp d k v).length ≤ d.length + 1 := by
  unfold dp
  split <;> simp
theorem dp_len_ge {d : Dc κ α} {k : κ} {v : α} : d.length ≤ (dp d k v).length := by
  unfold dp
  split <;> simp
theorem dpM_ok {d : Dc κ α} {k : κ} {v : α} (h : d.length < 16777216) : dpM d k v = .ok (dp d k v) := if_pos h
theorem dgM_ok {d : Dc κ α} {k : κ} {v : α} (h : dg d k = some v) : dgM d k = .ok v := by unfold dgM; rw [h]; rfl
end
end DL

namespace DL
open PySem PySem.Spec L2
/-! ### sorted(set(xs)), typed -/
def sortS (xs : List Int) : M (List Int) := if xs.length < 4000 then .ok (sortU xs) else .bad
theorem sortS_ok {xs : List Int} (h : xs.length < 4000) : sortS xs = .ok (sortU xs) := if_pos h
theorem o_sortS {a : Ar} {xs : List Int} (h : intsA a = some xs) : RQ (gSortSet [a]) (sortS xs) (rO (oL (oF eI))) := by
  simp only [RQ_eq]
  have : gSortSet [a] = (if xs.length < 4000 then .ok (.ow (oL (oF eI) (sortU xs))) else .bad) := by
    unfold gSortSet
    dsimp only
    rw [h]
    show (if xs.length < 4000 then Rs.ok (.ow (.lst (((sortU xs).map D.int).map .fz))) else .bad) = _
    rw [List.map_map]
    rfl
  rw [this]
  unfold sortS
  split
  · rfl
  · trivial
/-! ### isinstance of what is computed -/
section
variable {ρ : Rho} {α : Type} {fa : DE} {ma : M α} {sa : α → Ar} {b : Bool} {T : String}
theorem isi_of {a : Ar} {d : D} {r : Rs} (hd : a.d = d) (h : isiD T d = r) : isiD T a.d = r := by rw [hd, h]
theorem rq_isi {q : α → Bool} (ha : RQ (fa ρ) ma sa) (ho : ∀ x, isiD T (sa x).d = okB (q x)) : RQ (isiE T fa ρ) (ma.bind fun x => .ok (q x)) (rO (oF eB)) := rq_un1 (u := fun a => isiD T a.d) ha fun x => rq_of (ho x)
theorem isi_opt_f {e : α → D} {x : Option α} (h0 : isiD T .non = okB false) (h1 : ∀ a, isiD T (e a) = okB false) : isiD T (eO e x) = okB false := by
  cases x with
  | none => exact h0
  | some a => exact h1 a
end
end DL

namespace DL
open PySem PySem.Spec L2
/-! ### more plain rules -/
section
variable {α β : Type}
theorem atN_ok {n : Nat} {i : Int} (h0 : 0 ≤ i) (h : i < (n : Int)) : ixN n i = some i.toNat := by
  unfold ixN
  rw [if_pos h0, if_pos (by omega)]
theorem updZ_ok [Inhabited α] {xs : List α} {i : Int} {f : α → M α} {y : α} (h0 : 0 ≤ i) (h : i < xs.length) (hf : f (getZ xs i) = .ok y) : updM xs i f = .ok (xs.set i.toNat y) := by
  unfold updM
  rw [atN_ok h0 h]
  have e : xs[i.toNat]? = some (getZ xs i) := by
    rw [getZ_at h0 h]
    exact List.getElem?_eq_getElem (by omega)
  dsimp only
  rw [e]
  dsimp only
  rw [hf]
  rfl
theorem setZ_ok {xs : List α} {i : Int} {x : α} (h0 : 0 ≤ i) (h : i < xs.length) : setM xs i x = .ok (xs.set i.toNat x) := by
  unfold setM
  rw [atN_ok h0 h]
theorem popM_ok {xs : List α} (h : xs ≠ []) : popM xs = .ok xs.dropLast := by
  unfold popM
  rw [if_neg fun e => h (List.length_eq_zero_iff.mp e)]
theorem insM_ok {xs : List α} {x : α} (h : xs.length < 16777216) : insM xs 0 x = .ok (x :: xs) := by
  unfold insM
  rw [if_pos ⟨by unfold lim; omega, by decide, by decide⟩]
  rfl
theorem rng_lt (lo hi : Int) : (rng lo hi).Pairwise (· < ·) := by
  unfold rng
  rw [List.pairwise_map]
  exact List.Pairwise.imp (fun h => by omega) List.pairwise_lt_range
theorem sortU_rng {xs : List Int} {lo hi : Int} (h : ∀ x ∈ xs, lo ≤ x ∧ x < hi) : sortU xs = (rng lo hi).filter fun x => decide (x ∈ xs) := by
  refine strict_uniq (sortU_lt xs) ((rng_lt lo hi).filter _) fun k => ?_
  rw [sortU_mem, List.mem_filter, rng_mem, decide_eq_true_iff]
  exact ⟨fun m => ⟨h k m, m⟩, fun m => m.2⟩
theorem rngL_ok' {lo hi : Int} (h : -4611686018427387904 ≤ lo) (h2 : lo < 4611686018427387904) (h3 : -4611686018427387904 ≤ hi) (h4 : hi < 4611686018427387904) (h5 : hi - lo ≤ 16777216) : rngL lo hi = .ok (rng lo hi) := rngL_ok h h2 h3 h4 h5
/-- a loop that tells one thing of each item -/
theorem forM_push {f : α → M β} {g : α → β} {step : α → List β → M (List β)} {xs : List α} (hl : xs.length ≤ 16777216) (hs : ∀ x ∈ xs, ∀ b : List β, b.length < 16777216 → step x b = .ok (b ++ [g x])) : forM step xs [] = .ok (xs.map g) := by
  obtain ⟨b, e, hb⟩ := forM_inv (step := step) (xs := xs) (b0 := []) (fun ys b => b = ys.map g) rfl fun ys x zs b e hb => by
    have l := congrArg List.length e
    simp at l
    refine ⟨_, hs x (by rw [e]; simp) b (by rw [hb]; simp; omega), ?_⟩
    rw [hb]
    simp
  rw [e, hb]
theorem mem_range_map {n : Nat} {x : Int} : x ∈ (List.range n).map (fun (i : Nat) => (i : Int)) ↔ 0 ≤ x ∧ x < n := by
  rw [← rng_nat, rng_mem]
end
end DL

namespace DL
open PySem PySem.Spec L2
/-! ### what only reads, typed -/
theorem fa_n : frzAll [] = [] := rfl
theorem fa_z {ρ ρ' : Rho} (h : frzAll ρ = ρ') : frzAll (none :: ρ) = none :: ρ' := congrArg _ h
theorem fa_s {α : Type} {s : α → O} {e : α → D} [t : ToD s e] {x : α} {ρ ρ' : Rho} (h : frzAll ρ = ρ') : frzAll (some (s x) :: ρ) = some (oF e x) :: ρ' := by
  show some (O.fz (s x).toD) :: frzAll ρ = _
  rw [h, ToD.td (s := s) x]
  rfl
theorem rq_view {α : Type} {fe : DE} {ρ ρ' : Rho} {m : M α} {s : α → O} [LeafF s] (hr : frzAll ρ = ρ') (h : RQ (fe ρ') m (rO s)) : RQ (viewE fe ρ) m (rO s) := by
  simp only [RQ_eq] at *
  subst hr
  unfold viewE
  cases m with
  | bad => trivial
  | ex c =>
    have h : fe (frzAll ρ) = .ex c := h
    show _ = Rs.ex c
    rw [h]
  | ok a =>
    have h : fe (frzAll ρ) = .ok (.ow (s a)) := h
    show _ = Rs.ok (.ow (s a))
    rw [h]
    dsimp only
    rw [if_pos (LeafF.lf a)]
end DL

namespace DL
open PySem PySem.Spec L2
/-! ### layers of pulling (plain) -/
namespace PL
abbrev Row := Int × Int × List Int
theorem lt_nodup {l : List Int} (h : l.Pairwise (· < ·)) : l.Nodup := h.imp fun h => by omega
theorem set_map {α : Type} {n x : Int} {f : Int → α} {y : α} (h0 : 0 ≤ x) (h : x < n) : ((rng 0 n).map f).set x.toNat y = (rng 0 n).map fun w => if w = x then y else f w := by
  refine List.ext_getElem (by simp) fun i h1 h2 => ?_
  rw [List.getElem_set, List.getElem_map, List.getElem_map, rng_get]
  by_cases e : x.toNat = i
  · rw [if_pos e, if_pos (by omega)]
  · rw [if_neg e, if_neg (by omega)]
theorem get_map {α : Type} [Inhabited α] {n x : Int} {f : Int → α} (h0 : 0 ≤ x) (h : x < n) : getZ ((rng 0 n).map f) x = f x := by
  rw [getZ_at h0 (by rw [List.length_map, rng_len]; omega), List.getElem_map, rng_get]
  congr 1
  omega
theorem map_len {α : Type} {n : Int} {f : Int → α} (h : 0 ≤ n) : (((rng 0 n).map f).length : Int) = n := by
  rw [List.length_map, rng_len]
  omega
/-- the ways out of a place -/
def wy (game : List Row) (a : Int) : List Int := (getZ game a).2.2
/-- the places up to k that have a way to w -/
def back (game : List Row) (k w : Int) : List Int := (rng 0 k).filter fun b => decide (w ∈ wy game b)
theorem back_lt (game : List Row) (k w : Int) : (back game k w).Pairwise (· < ·) := (rng_lt 0 k).filter _
theorem back_mem {game : List Row} {k w b : Int} : b ∈ back game k w ↔ (0 ≤ b ∧ b < k) ∧ w ∈ wy game b := by
  unfold back
  rw [List.mem_filter, rng_mem, decide_eq_true_iff]
theorem back_len (game : List Row) (k w : Int) (h0 : 0 ≤ k) (h : k ≤ 160) : (back game k w).length ≤ 160 := by
  unfold back
  have := List.length_filter_le (fun b => decide (w ∈ wy game b)) (rng 0 k)
  rw [rng_len] at this
  omega
theorem back_succ (game : List Row) (k : Nat) (w : Int) : back game ((k + 1 : Nat) : Int) w = back game (k : Int) w ++ (if w ∈ wy game (k : Int) then [(k : Int)] else []) := by
  unfold back
  have e : rng 0 ((k + 1 : Nat) : Int) = rng 0 (k : Int) ++ [(k : Int)] := by
    rw [rng_nat, rng_nat, List.range_succ, List.map_append]
    rfl
  rw [e, List.filter_append]
  congr 1
  by_cases h : w ∈ wy game (k : Int)
  · rw [if_pos h, List.filter_cons_of_pos (by simpa using h)]
    rfl
  · rw [if_neg h, List.filter_cons_of_neg (by simpa using h)]
    rfl
/-- a game as it is told -/
structure GameOk (game : List Row) : Prop where
  n : game.length ≤ 160
  nd : ∀ a : Int, 0 ≤ a → a < game.length → (wy game a).Nodup
  in_ : ∀ a : Int, 0 ≤ a → a < game.length → ∀ w ∈ wy game a, 0 ≤ w ∧ w < game.length
theorem ways_in_body {game : List Row} (G : GameOk game) : ((compP (fun (place2 : (Int × Int × (List Int))) => ([] : (List Int))) game).bind fun found3 =>
  ((rngM 0 (game.length : Int)).bind fun xs25 => forM (fun (at_4 : Int) (b15 : (List (List Int))) =>
  (((ix game at_4).bind fun v16 => M.ok v16.2.2).bind fun xs24 => forM (fun (way17 : Int) (b21 : (List (List Int))) =>
  (updM b21 way17 fun y22 => appM y22 at_4).bind fun found23 =>
  M.ok found23) xs24 b15).bind fun (b21 : (List (List Int))) =>
  M.ok b21) xs25 found3).bind fun (b15 : (List (List Int))) =>
  M.ok b15) = .ok ((rng 0 (game.length : Int)).map (back game (game.length : Int))) := by
  have hl := G.n
  rw [compP_ok (by omega), M.bind_ok, rngM_ok (by omega) (by omega) (by omega) (by omega), M.bind_ok]
  obtain ⟨b, e, hb⟩ := forM_inv (step := fun (at_4 : Int) (b15 : (List (List Int))) =>
    (((ix game at_4).bind fun v16 => M.ok v16.2.2).bind fun xs24 => forM (fun (way17 : Int) (b21 : (List (List Int))) =>
    (updM b21 way17 fun y22 => appM y22 at_4).bind fun found23 =>
    M.ok found23) xs24 b15).bind fun (b21 : (List (List Int))) =>
    M.ok b21) (xs := rng 0 (game.length : Int)) (b0 := game.map fun (_ : Row) => ([] : List Int)) (fun ys b => b = (rng 0 (game.length : Int)).map (back game (ys.length : Int))) (by
      refine List.ext_getElem (by simp [rng_len]) fun i h1 h2 => ?_
      simp [back, rng]) fun ys x zs b e hb => by
      obtain ⟨hx, hx2⟩ := rng_split e
      have hx : x = (ys.length : Nat) := by omega
      subst hx
      have w2 := G.nd (ys.length : Int) (by omega) (by omega)
      have w3 := G.in_ (ys.length : Int) (by omega) (by omega)
      rw [ix_ok (by omega) (by omega), M.bind_ok, M.bind_ok]
      obtain ⟨b2, e2, hb2⟩ := forM_inv (step := fun (way17 : Int) (b21 : (List (List Int))) =>
        (updM b21 way17 fun y22 => appM y22 (ys.length : Int)).bind fun found23 =>
        M.ok found23) (xs := wy game (ys.length : Int)) (b0 := b) (fun zs b => b = (rng 0 (game.length : Int)).map fun w => back game (ys.length : Int) w ++ (if w ∈ zs then [(ys.length : Int)] else [])) (by rw [hb]; simp) fun zs w us b e hb => by
          have hmw : w ∈ wy game (ys.length : Int) := by rw [e]; simp
          obtain ⟨r0, r1⟩ := w3 w hmw
          have hnd : w ∉ zs := by
            rw [e] at w2
            have := (List.nodup_append.mp w2).2.2
            intro hz
            exact this w hz w List.mem_cons_self rfl
          have hget : getZ b w = back game (ys.length : Int) w := by
            rw [hb, get_map r0 r1, if_neg hnd, List.append_nil]
          have hbl := back_len game (ys.length : Int) w (by omega) (by omega)
          rw [updZ_ok (y := back game (ys.length : Int) w ++ [(ys.length : Int)]) r0 (by rw [hb, List.length_map, rng_len]; omega) (by rw [hget, appM_ok (by omega)]), M.bind_ok]
          refine ⟨_, rfl, ?_⟩
          rw [hb, set_map r0 r1]
          refine List.map_congr_left fun u _ => ?_
          by_cases hu : u = w
          · subst hu
            rw [if_pos rfl, if_pos (by simp)]
          · rw [if_neg hu]
            congr 1
            by_cases hz : u ∈ zs
            · rw [if_pos hz, if_pos (List.mem_append_left _ hz)]
            · rw [if_neg hz, if_neg]
              intro h
              rcases List.mem_append.mp h with h | h
              · exact hz h
              · exact hu (List.mem_singleton.mp h)
      have e2' : forM (fun (way17 : Int) (b21 : (List (List Int))) =>
        (updM b21 way17 fun y22 => appM y22 (ys.length : Int)).bind fun found23 =>
        M.ok found23) (getZ game (ys.length : Int)).2.2 b = .ok b2 := e2
      rw [e2', M.bind_ok]
      refine ⟨_, rfl, ?_⟩
      rw [hb2]
      refine List.map_congr_left fun u _ => ?_
      have : (ys ++ [((ys.length : Nat) : Int)]).length = ys.length + 1 := by simp
      rw [this, back_succ]
  rw [e, M.bind_ok, hb, rng_len]
  have : (((game.length : Int) - 0).toNat : Int) = game.length := by omega
  rw [this]
/-! ### one layer after the other -/
section
variable (game : List Row) (hand : Int) (part : Int → Bool)
def opn (D : List Int) (w : Int) : Bool := part w && !decide (w ∈ D)
def cnt (D : List Int) (a : Int) : Int := (((wy game a).filter (opn part D)).length : Nat)
def pull (D : List Int) (a : Int) : Bool := (wy game a).any (fun w => decide (w ∈ D)) && (decide ((getZ game a).1 = hand) || decide (cnt game part D a = 0))
def nextL (D : List Int) : List Int := (rng 0 (game.length : Int)).filter fun a => opn part D a && pull game hand part D a
def laysF : Nat → List Int → List Int → List (List Int)
  | 0, _, _ => []
  | k + 1, D, layer => if layer = [] then [] else layer :: laysF k (D ++ layer) (nextL game hand part (D ++ layer))
end
section
variable {game : List Row} {hand : Int} {part : Int → Bool} {D D' : List Int} {a : Int}
theorem cnt_nn : 0 ≤ cnt game part D a := Int.natCast_nonneg _
theorem opn_congr (h : ∀ w, w ∈ D ↔ w ∈ D') (w : Int) : opn part D w = opn part D' w := by
  unfold opn
  rw [show decide (w ∈ D) = decide (w ∈ D') from decide_eq_decide.mpr (h w)]
theorem opn_iff {w : Int} : opn part D w = true ↔ part w = true ∧ w ∉ D := by
  unfold opn
  simp
theorem filt_one {p : Int → Bool} {x : Int} : ∀ {l : List Int}, l.Nodup → x ∈ l → p x = true → (l.filter p).length = (l.filter fun w => p w && !decide (w = x)).length + 1
  | [], _, h, _ => nomatch h
  | y :: l, nd, h, hp => by
    obtain ⟨h1, h2⟩ := List.nodup_cons.mp nd
    by_cases e : y = x
    · subst e
      rw [List.filter_cons_of_pos hp, List.filter_cons_of_neg (by simp), List.length_cons]
      congr 2
      refine List.filter_congr fun w hw => ?_
      have : w ≠ y := fun e => h1 (e ▸ hw)
      simp [this]
    · have hx : x ∈ l := by
        rcases List.mem_cons.mp h with h | h
        · exact absurd h.symm e
        · exact h
      have ih := filt_one h2 hx hp
      cases q : p y with
      | true => rw [List.filter_cons_of_pos q, List.filter_cons_of_pos (by simp [q, e]), List.length_cons, List.length_cons, ih]
      | false => rw [List.filter_cons_of_neg (by simp [q]), List.filter_cons_of_neg (by simp [q]), ih]
theorem cnt_dec {x : Int} (nd : (wy game a).Nodup) (hx : x ∈ wy game a) (hp : opn part D x = true) : cnt game part (D ++ [x]) a = cnt game part D a - 1 := by
  unfold cnt
  have := filt_one nd hx hp
  have e : (wy game a).filter (opn part (D ++ [x])) = (wy game a).filter fun w => opn part D w && !decide (w = x) := by
    refine List.filter_congr fun w _ => ?_
    unfold opn
    by_cases h1 : w ∈ D <;> by_cases h2 : w = x <;> simp [h1, h2]
  rw [e]
  omega
theorem cnt_same {x : Int} (hx : x ∉ wy game a) : cnt game part (D ++ [x]) a = cnt game part D a := by
  unfold cnt
  congr 2
  refine List.filter_congr fun w hw => ?_
  have : w ≠ x := fun e => hx (e ▸ hw)
  unfold opn
  by_cases h1 : w ∈ D <;> simp [h1, this]
theorem sum_set : ∀ (xs : List Int) (i : Nat) (h : i < xs.length), (xs.set i (xs[i] - 1)).sum = xs.sum - 1
  | [], i, h => absurd h (Nat.not_lt_zero _)
  | x :: xs, 0, _ => by
    show (x - 1) + xs.sum = x + xs.sum - 1
    omega
  | x :: xs, i + 1, h => by
    have hi : i < xs.length := by simpa using h
    have := sum_set xs i hi
    show x + (xs.set i (xs[i] - 1)).sum = x + xs.sum - 1
    omega
theorem sum_nn : ∀ {xs : List Int}, (∀ x ∈ xs, 0 ≤ x) → 0 ≤ xs.sum
  | [], _ => Int.le_refl _
  | x :: xs, h => by
    have := sum_nn fun y hy => h y (List.mem_cons_of_mem _ hy)
    have := h x List.mem_cons_self
    show 0 ≤ x + xs.sum
    omega
theorem ddI_id : ∀ {l : List Int}, l.Nodup → ddI l = l
  | [], _ => rfl
  | x :: l, h => by
    obtain ⟨h1, h2⟩ := List.nodup_cons.mp h
    unfold ddI
    rw [ddI_id h2, if_neg h1]
theorem nodup_len {l : List Int} {n : Nat} (h : l.Nodup) (hl : ∀ x ∈ l, 0 ≤ x ∧ x < (n : Int)) : l.length ≤ n := by
  have e := sortU_rng hl
  have l1 : (sortU l).length = l.length := by
    unfold sortU
    rw [(sortI_perm _).length_eq, ddI_id h]
  have := List.length_filter_le (fun x => decide (x ∈ l)) (rng 0 (n : Int))
  rw [← e, l1, rng_len] at this
  omega
end
end PL
end DL

namespace DL
open PySem PySem.Spec L2
namespace PL
section
variable {game : List Row} {hand : Int} {part : Int → Bool} {D D' : List Int} {a : Int}
def fre (game : List Row) (part : Int → Bool) (D : List Int) : List Bool := (rng 0 (game.length : Int)).map (opn part D)
def lef (game : List Row) (part : Int → Bool) (D : List Int) : List Int := (rng 0 (game.length : Int)).map (cnt game part D)
def com (game : List Row) : List (List Int) := (rng 0 (game.length : Int)).map (back game (game.length : Int))
def In (game : List Row) (a : Int) : Prop := 0 ≤ a ∧ a < (game.length : Int)
theorem fre_len : ((fre game part D).length : Int) = game.length := map_len (by omega)
theorem lef_len : ((lef game part D).length : Int) = game.length := map_len (by omega)
theorem com_len : ((com game).length : Int) = game.length := map_len (by omega)
theorem fre_get (h : In game a) : getZ (fre game part D) a = opn part D a := get_map h.1 h.2
theorem lef_get (h : In game a) : getZ (lef game part D) a = cnt game part D a := get_map h.1 h.2
theorem com_get (h : In game a) : getZ (com game) a = back game (game.length : Int) a := get_map h.1 h.2
theorem lef_nn : 0 ≤ (lef game part D).sum := sum_nn fun x hx => by
  obtain ⟨y, _, rfl⟩ := List.mem_map.mp hx
  exact cnt_nn
theorem free_loop {layer : List Int} (hl : ∀ a ∈ layer, In game a) : forM (fun (at_94 : Int) (b99 : (List Bool)) =>
  (setM b99 at_94 false).bind fun free100 =>
  M.ok free100) layer (fre game part D) = .ok (fre game part (D ++ layer)) := by
  obtain ⟨b, e, hb⟩ := forM_inv (step := fun (at_94 : Int) (b99 : (List Bool)) =>
    (setM b99 at_94 false).bind fun free100 =>
    M.ok free100) (xs := layer) (b0 := fre game part D) (fun ys b => b = fre game part (D ++ ys)) (by rw [List.append_nil]) fun ys x zs b e hb => by
      have hx := hl x (by rw [e]; simp)
      rw [hb, setZ_ok hx.1 (by rw [fre_len]; exact hx.2), M.bind_ok]
      refine ⟨_, rfl, ?_⟩
      unfold fre
      rw [set_map hx.1 hx.2]
      refine List.map_congr_left fun w _ => ?_
      unfold opn
      by_cases h : w = x
      · subst h
        simp
      · rw [if_neg h]
        simp [h]
  rw [e, hb]
theorem inner_loop (G : GameOk game) {Dy : List Int} {x : Int} (hx : In game x) (ho : opn part Dy x = true) {fu : List Int} (hb : (fu.length : Int) + (lef game part Dy).sum ≤ 3000) :
    ∃ fu', forM (fun (back139 : Int) (b155 : ((List Int) × (List Int))) =>
      (((ix b155.1 back139).bind fun v156 => M.ok (v156 - 1)).bind fun v159 => setM b155.1 back139 v159).bind fun left158 =>
      ((ix (fre game part D') back139).bind fun z167 => if z167 then ((((ix game back139).bind fun v161 => M.ok v161.1).bind fun v162 => M.ok (decide (v162 = hand))).bind fun z166 => if z166 then M.ok true else ((ix left158 back139).bind fun v164 => M.ok (decide (v164 = 0)))) else M.ok false).bind fun z169 => if z169 then
      ((appM b155.2 back139).bind fun further168 =>
      M.ok (left158, further168))
      else (M.ok (left158, b155.2))) (back game (game.length : Int) x) (lef game part Dy, fu) = .ok (lef game part (Dy ++ [x]), fu') ∧
      (∀ a, a ∈ fu' ↔ a ∈ fu ∨ (a ∈ back game (game.length : Int) x ∧ opn part D' a = true ∧ ((getZ game a).1 = hand ∨ cnt game part (Dy ++ [x]) a = 0))) ∧
      (fu'.length : Int) + (lef game part (Dy ++ [x])).sum ≤ (fu.length : Int) + (lef game part Dy).sum := by
  have hlen := G.n
  obtain ⟨b, e, h1, h2, h3⟩ := forM_inv (step := fun (back139 : Int) (b155 : ((List Int) × (List Int))) =>
      (((ix b155.1 back139).bind fun v156 => M.ok (v156 - 1)).bind fun v159 => setM b155.1 back139 v159).bind fun left158 =>
      ((ix (fre game part D') back139).bind fun z167 => if z167 then ((((ix game back139).bind fun v161 => M.ok v161.1).bind fun v162 => M.ok (decide (v162 = hand))).bind fun z166 => if z166 then M.ok true else ((ix left158 back139).bind fun v164 => M.ok (decide (v164 = 0)))) else M.ok false).bind fun z169 => if z169 then
      ((appM b155.2 back139).bind fun further168 =>
      M.ok (left158, further168))
      else (M.ok (left158, b155.2))) (xs := back game (game.length : Int) x) (b0 := (lef game part Dy, fu))
    (fun zs b => b.1 = (rng 0 (game.length : Int)).map (fun a => if a ∈ zs then cnt game part (Dy ++ [x]) a else cnt game part Dy a) ∧
      (∀ a, a ∈ b.2 ↔ a ∈ fu ∨ (a ∈ zs ∧ opn part D' a = true ∧ ((getZ game a).1 = hand ∨ cnt game part (Dy ++ [x]) a = 0))) ∧
      (b.2.length : Int) + b.1.sum ≤ (fu.length : Int) + (lef game part Dy).sum) ⟨by simp [lef], fun a => by simp, Int.le_refl _⟩ fun zs y us b e ⟨i1, i2, i3⟩ => by
      have hy : y ∈ back game (game.length : Int) x := by rw [e]; simp
      obtain ⟨hyn, hyw⟩ := back_mem.mp hy
      have hyI : In game y := hyn
      have srt := back_lt game (game.length : Int) x
      have hnz : y ∉ zs := by
        rw [e] at srt
        have := (List.nodup_append.mp (lt_nodup srt)).2.2
        intro hz
        exact this y hz y List.mem_cons_self rfl
      have dec := cnt_dec (G.nd y hyn.1 hyn.2) hyw ho
      have l1 : (b.1.length : Int) = game.length := by rw [i1]; exact map_len (by omega)
      have g1 : getZ b.1 y = cnt game part Dy y := by rw [i1, get_map hyn.1 hyn.2, if_neg hnz]
      have nn : 0 ≤ b.1.sum := by
        rw [i1]
        refine sum_nn fun z hz => ?_
        obtain ⟨w, _, rfl⟩ := List.mem_map.mp hz
        split <;> exact cnt_nn
      have ge : b.1[y.toNat]'(by omega) = getZ b.1 y := (getZ_at hyn.1 (by omega)).symm
      have left' : b.1.set y.toNat (cnt game part Dy y - 1) = (rng 0 (game.length : Int)).map (fun a => if a ∈ zs ++ [y] then cnt game part (Dy ++ [x]) a else cnt game part Dy a) := by
        rw [i1, set_map hyn.1 hyn.2]
        refine List.map_congr_left fun w _ => ?_
        by_cases h : w = y
        · subst h
          rw [if_pos rfl, if_pos (by simp), dec]
        · rw [if_neg h]
          by_cases hz : w ∈ zs
          · rw [if_pos hz, if_pos (List.mem_append_left _ hz)]
          · rw [if_neg hz, if_neg]
            intro hm
            rcases List.mem_append.mp hm with hm | hm
            · exact hz hm
            · exact h (List.mem_singleton.mp hm)
      have sum' : (b.1.set y.toNat (cnt game part Dy y - 1)).sum = b.1.sum - 1 := by
        have := sum_set b.1 y.toNat (by omega)
        rw [ge, g1] at this
        exact this
      have gl : getZ (b.1.set y.toNat (cnt game part Dy y - 1)) y = cnt game part (Dy ++ [x]) y := by
        rw [left', get_map hyn.1 hyn.2, if_pos (by simp)]
      have l2 : ((b.1.set y.toNat (cnt game part Dy y - 1)).length : Int) = game.length := by rw [List.length_set]; exact l1
      rw [ix_ok hyn.1 (by omega), M.bind_ok, M.bind_ok, g1, setZ_ok hyn.1 (by omega), M.bind_ok, ix_ok hyn.1 (by rw [fre_len]; exact hyn.2), M.bind_ok, fre_get hyI]
      have mem : ∀ a, (a ∈ zs ++ [y] ↔ a ∈ zs ∨ a = y) := fun a => by simp
      have test : (if opn part D' y then ((((ix game y).bind fun v161 => M.ok v161.1).bind fun v162 => M.ok (decide (v162 = hand))).bind fun z166 => if z166 then M.ok true else ((ix (b.1.set y.toNat (cnt game part Dy y - 1)) y).bind fun v164 => M.ok (decide (v164 = 0)))) else M.ok false) = M.ok (opn part D' y && (decide ((getZ game y).1 = hand) || decide (cnt game part (Dy ++ [x]) y = 0))) := by
        cases opn part D' y with
        | false => rfl
        | true =>
          rw [if_pos rfl, ix_ok hyn.1 hyn.2, M.bind_ok, M.bind_ok, M.bind_ok]
          by_cases hh : (getZ game y).1 = hand
          · rw [decide_eq_true hh]
            rfl
          · rw [decide_eq_false hh, if_neg (by decide), ix_ok hyn.1 (by omega), M.bind_ok, gl]
            rfl
      rw [test, M.bind_ok]
      have key : (opn part D' y && (decide ((getZ game y).1 = hand) || decide (cnt game part (Dy ++ [x]) y = 0))) = true ↔ (opn part D' y = true ∧ ((getZ game y).1 = hand ∨ cnt game part (Dy ++ [x]) y = 0)) := by simp
      by_cases hc : (opn part D' y && (decide ((getZ game y).1 = hand) || decide (cnt game part (Dy ++ [x]) y = 0))) = true
      · rw [if_pos hc, appM_ok (by omega), M.bind_ok]
        refine ⟨_, rfl, left', fun a => ?_, ?_⟩
        · have k := key.mp hc
          dsimp only
          rw [List.mem_append, i2, mem, List.mem_singleton]
          constructor
          · rintro ((h | ⟨h, r⟩) | h)
            · exact .inl h
            · exact .inr ⟨.inl h, r⟩
            · subst h; exact .inr ⟨.inr rfl, k⟩
          · rintro (h | ⟨h | h, r⟩)
            · exact .inl (.inl h)
            · exact .inl (.inr ⟨h, r⟩)
            · exact .inr h
        · dsimp only
          rw [List.length_append, List.length_singleton, sum']
          omega
      · rw [if_neg hc]
        refine ⟨_, rfl, left', fun a => ?_, ?_⟩
        · have k := mt key.mpr hc
          dsimp only
          rw [i2, mem]
          constructor
          · rintro (h | ⟨h, r⟩)
            · exact .inl h
            · exact .inr ⟨.inl h, r⟩
          · rintro (h | ⟨h | h, r⟩)
            · exact .inl h
            · exact .inr ⟨h, r⟩
            · subst h; exact absurd r k
        · dsimp only
          rw [sum']
          omega
  obtain ⟨l, fu'⟩ := b
  dsimp only at h1 h2 h3
  have hl : l = lef game part (Dy ++ [x]) := by
    rw [h1]
    refine List.map_congr_left fun w hw => ?_
    have hw := rng_mem.mp hw
    by_cases h : w ∈ back game (game.length : Int) x
    · rw [if_pos h]
    · rw [if_neg h, cnt_same]
      exact fun hm => h (back_mem.mpr ⟨hw, hm⟩)
  subst hl
  exact ⟨fu', e, h2, h3⟩
theorem outer_loop (G : GameOk game) {layer : List Int} (nd : layer.Nodup) (hl : ∀ a ∈ layer, In game a ∧ opn part D a = true) (hb : (lef game part D).sum ≤ 3000) :
    ∃ fu, forM (fun (at_104 : Int) (b138 : ((List Int) × (List Int))) =>
      ((ix (com game) at_104).bind fun xs170 => forM (fun (back139 : Int) (b155 : ((List Int) × (List Int))) =>
      (((ix b155.1 back139).bind fun v156 => M.ok (v156 - 1)).bind fun v159 => setM b155.1 back139 v159).bind fun left158 =>
      ((ix (fre game part D') back139).bind fun z167 => if z167 then ((((ix game back139).bind fun v161 => M.ok v161.1).bind fun v162 => M.ok (decide (v162 = hand))).bind fun z166 => if z166 then M.ok true else ((ix left158 back139).bind fun v164 => M.ok (decide (v164 = 0)))) else M.ok false).bind fun z169 => if z169 then
      ((appM b155.2 back139).bind fun further168 =>
      M.ok (left158, further168))
      else (M.ok (left158, b155.2))) xs170 (b138.1, b138.2)).bind fun (b155 : ((List Int) × (List Int))) =>
      M.ok (b155.1, b155.2)) layer (lef game part D, ([] : (List Int))) = .ok (lef game part (D ++ layer), fu) ∧
      (∀ a, a ∈ fu ↔ In game a ∧ opn part D' a = true ∧ (∃ w ∈ layer, w ∈ wy game a) ∧ ((getZ game a).1 = hand ∨ cnt game part (D ++ layer) a = 0)) ∧ (fu.length : Int) ≤ 3000 := by
  obtain ⟨b, e, h1, h2, h3⟩ := forM_inv (step := fun (at_104 : Int) (b138 : ((List Int) × (List Int))) =>
      ((ix (com game) at_104).bind fun xs170 => forM (fun (back139 : Int) (b155 : ((List Int) × (List Int))) =>
      (((ix b155.1 back139).bind fun v156 => M.ok (v156 - 1)).bind fun v159 => setM b155.1 back139 v159).bind fun left158 =>
      ((ix (fre game part D') back139).bind fun z167 => if z167 then ((((ix game back139).bind fun v161 => M.ok v161.1).bind fun v162 => M.ok (decide (v162 = hand))).bind fun z166 => if z166 then M.ok true else ((ix left158 back139).bind fun v164 => M.ok (decide (v164 = 0)))) else M.ok false).bind fun z169 => if z169 then
      ((appM b155.2 back139).bind fun further168 =>
      M.ok (left158, further168))
      else (M.ok (left158, b155.2))) xs170 (b138.1, b138.2)).bind fun (b155 : ((List Int) × (List Int))) =>
      M.ok (b155.1, b155.2)) (xs := layer) (b0 := (lef game part D, ([] : (List Int))))
    (fun ys b => b.1 = lef game part (D ++ ys) ∧ (∀ a, a ∈ b.2 ↔ In game a ∧ opn part D' a = true ∧ (∃ w ∈ ys, w ∈ wy game a) ∧ ((getZ game a).1 = hand ∨ cnt game part (D ++ ys) a = 0)) ∧ (b.2.length : Int) + b.1.sum ≤ 3000) ⟨by rw [List.append_nil], fun a => by simp, by simpa using hb⟩ fun ys x zs b e ⟨i1, i2, i3⟩ => by
      obtain ⟨hx, hxo⟩ := hl x (by rw [e]; simp)
      have hny : x ∉ ys := by
        rw [e] at nd
        have := (List.nodup_append.mp nd).2.2
        intro hz
        exact this x hz x List.mem_cons_self rfl
      have ho : opn part (D ++ ys) x = true := by
        obtain ⟨p1, p2⟩ := opn_iff.mp hxo
        refine opn_iff.mpr ⟨p1, fun h => ?_⟩
        rcases List.mem_append.mp h with h | h
        · exact p2 h
        · exact hny h
      obtain ⟨l, fu⟩ := b
      dsimp only at i1 i2 i3
      subst i1
      obtain ⟨fu', e2, j1, j2⟩ := inner_loop (hand := hand) (D' := D') G hx ho i3
      rw [ix_ok hx.1 (by rw [com_len]; exact hx.2), M.bind_ok, com_get hx, e2, M.bind_ok]
      refine ⟨_, rfl, by rw [← List.append_assoc], fun a => ?_, ?_⟩
      · dsimp only
        rw [j1, i2, back_mem, ← List.append_assoc]
        constructor
        · rintro (⟨h1, h2, ⟨w, hw, hwa⟩, h4⟩ | ⟨⟨h1, h2⟩, h3, h4⟩)
          · refine ⟨h1, h2, ⟨w, List.mem_append_left _ hw, hwa⟩, ?_⟩
            rcases h4 with h4 | h4
            · exact .inl h4
            · by_cases hxa : x ∈ wy game a
              · have := cnt_dec (G.nd a h1.1 h1.2) hxa ho
                have := cnt_nn (game := game) (part := part) (D := D ++ ys ++ [x]) (a := a)
                omega
              · exact .inr (by rw [cnt_same hxa]; exact h4)
          · exact ⟨h1, h3, ⟨x, by simp, h2⟩, h4⟩
        · rintro ⟨h1, h2, ⟨w, hw, hwa⟩, h4⟩
          by_cases hxa : x ∈ wy game a
          · exact .inr ⟨⟨h1, hxa⟩, h2, h4⟩
          · refine .inl ⟨h1, h2, ⟨w, ?_, hwa⟩, ?_⟩
            · rcases List.mem_append.mp hw with hw | hw
              · exact hw
              · rw [List.mem_singleton.mp hw] at hwa
                exact absurd hwa hxa
            · rw [cnt_same hxa] at h4
              exact h4
      · dsimp only
        omega
  obtain ⟨l, fu⟩ := b
  dsimp only at h1 h2 h3
  subst h1
  have := lef_nn (game := game) (part := part) (D := D ++ layer)
  exact ⟨fu, e, h2, by omega⟩
/-- nothing ahead of the layer is pulled already -/
def Shut (game : List Row) (hand : Int) (part : Int → Bool) (D layer : List Int) : Prop := ∀ a, In game a → opn part D a = true → a ∉ layer → pull game hand part D a = false
theorem nextL_mem : a ∈ nextL game hand part D ↔ In game a ∧ opn part D a = true ∧ pull game hand part D a = true := by
  unfold nextL
  rw [List.mem_filter, rng_mem, Bool.and_eq_true]
  rfl
theorem nextL_shut : Shut game hand part D (nextL game hand part D) := fun a h1 h2 h3 => by
  cases q : pull game hand part D a with
  | false => rfl
  | true => exact absurd (nextL_mem.mpr ⟨h1, h2, q⟩) h3
theorem nextL_lt : (nextL game hand part D).Pairwise (· < ·) := (rng_lt _ _).filter _
theorem pull_iff : pull game hand part D a = true ↔ (∃ w ∈ wy game a, w ∈ D) ∧ ((getZ game a).1 = hand ∨ cnt game part D a = 0) := by
  unfold pull
  simp
theorem cnt_app {layer : List Int} (h : ∀ w ∈ layer, w ∉ wy game a) : cnt game part (D ++ layer) a = cnt game part D a := by
  unfold cnt
  congr 2
  refine List.filter_congr fun w hw => ?_
  have : w ∉ layer := fun hl => h w hl hw
  unfold opn
  by_cases h1 : w ∈ D <;> simp [h1, this]
theorem next_ok {layer fu : List Int} (sh : Shut game hand part D layer) (hf : ∀ a, a ∈ fu ↔ In game a ∧ opn part (D ++ layer) a = true ∧ (∃ w ∈ layer, w ∈ wy game a) ∧ ((getZ game a).1 = hand ∨ cnt game part (D ++ layer) a = 0)) :
    sortU fu = nextL game hand part (D ++ layer) := by
  refine strict_uniq (sortU_lt fu) nextL_lt fun a => ?_
  rw [sortU_mem, hf, nextL_mem, pull_iff]
  constructor
  · rintro ⟨h1, h2, ⟨w, hw, hwa⟩, h4⟩
    exact ⟨h1, h2, ⟨w, hwa, List.mem_append_right _ hw⟩, h4⟩
  · rintro ⟨h1, h2, ⟨w, hwa, hw⟩, h4⟩
    refine ⟨h1, h2, ?_, h4⟩
    by_cases hex : ∃ w ∈ layer, w ∈ wy game a
    · exact hex
    · exfalso
      have hno : ∀ w ∈ layer, w ∉ wy game a := fun w h1 h2 => hex ⟨w, h1, h2⟩
      have hwD : w ∈ D := by
        rcases List.mem_append.mp hw with h | h
        · exact h
        · exact absurd hwa (hno w h)
      rw [cnt_app hno] at h4
      obtain ⟨p1, p2⟩ := opn_iff.mp h2
      have := sh a h1 (opn_iff.mpr ⟨p1, fun h => p2 (List.mem_append_left _ h)⟩) fun h => p2 (List.mem_append_right _ h)
      rw [pull_iff.mpr ⟨⟨w, hwa, hwD⟩, h4⟩] at this
      cases this
/-- the whole loop -/
theorem pull_loop (G : GameOk game) {layer0 : List Int} (lt0 : layer0.Pairwise (· < ·)) (hl0 : ∀ a ∈ layer0, In game a ∧ part a = true) (hb : (lef game part []).sum ≤ 3000) :
    ∃ b, whileM (fun (b92 : ((List Bool) × (List Int) × (List (List Int)) × (List Int))) => M.ok (!decide (b92.2.2.2 = ([] : (List Int))))) (fun (b92 : ((List Bool) × (List Int) × (List (List Int)) × (List Int))) =>
      (appM b92.2.2.1 b92.2.2.2).bind fun layers93 =>
      (forM (fun (at_94 : Int) (b99 : (List Bool)) =>
      (setM b99 at_94 false).bind fun free100 =>
      M.ok free100) b92.2.2.2 b92.1).bind fun (b99 : (List Bool)) =>
      (forM (fun (at_104 : Int) (b138 : ((List Int) × (List Int))) =>
      ((ix (com game) at_104).bind fun xs170 => forM (fun (back139 : Int) (b155 : ((List Int) × (List Int))) =>
      (((ix b155.1 back139).bind fun v156 => M.ok (v156 - 1)).bind fun v159 => setM b155.1 back139 v159).bind fun left158 =>
      ((ix b99 back139).bind fun z167 => if z167 then ((((ix game back139).bind fun v161 => M.ok v161.1).bind fun v162 => M.ok (decide (v162 = hand))).bind fun z166 => if z166 then M.ok true else ((ix left158 back139).bind fun v164 => M.ok (decide (v164 = 0)))) else M.ok false).bind fun z169 => if z169 then
      ((appM b155.2 back139).bind fun further168 =>
      M.ok (left158, further168))
      else (M.ok (left158, b155.2))) xs170 (b138.1, b138.2)).bind fun (b155 : ((List Int) × (List Int))) =>
      M.ok (b155.1, b155.2)) b92.2.2.2 (b92.2.1, ([] : (List Int)))).bind fun (b138 : ((List Int) × (List Int))) =>
      (sortS b138.2).bind fun layer172 =>
      M.ok (b99, b138.1, layers93, layer172)) fuel (fre game part [], lef game part [], ([] : (List (List Int))), layer0) = .ok b ∧ b.2.2.1 = laysF game hand part (game.length + 1) [] layer0 := by
  have hn := G.n
  obtain ⟨b, e, hb2⟩ := whileM_ok (c := fun (b92 : ((List Bool) × (List Int) × (List (List Int)) × (List Int))) => M.ok (!decide (b92.2.2.2 = ([] : (List Int))))) (t := fun (b92 : ((List Bool) × (List Int) × (List (List Int)) × (List Int))) =>
      (appM b92.2.2.1 b92.2.2.2).bind fun layers93 =>
      (forM (fun (at_94 : Int) (b99 : (List Bool)) =>
      (setM b99 at_94 false).bind fun free100 =>
      M.ok free100) b92.2.2.2 b92.1).bind fun (b99 : (List Bool)) =>
      (forM (fun (at_104 : Int) (b138 : ((List Int) × (List Int))) =>
      ((ix (com game) at_104).bind fun xs170 => forM (fun (back139 : Int) (b155 : ((List Int) × (List Int))) =>
      (((ix b155.1 back139).bind fun v156 => M.ok (v156 - 1)).bind fun v159 => setM b155.1 back139 v159).bind fun left158 =>
      ((ix b99 back139).bind fun z167 => if z167 then ((((ix game back139).bind fun v161 => M.ok v161.1).bind fun v162 => M.ok (decide (v162 = hand))).bind fun z166 => if z166 then M.ok true else ((ix left158 back139).bind fun v164 => M.ok (decide (v164 = 0)))) else M.ok false).bind fun z169 => if z169 then
      ((appM b155.2 back139).bind fun further168 =>
      M.ok (left158, further168))
      else (M.ok (left158, b155.2))) xs170 (b138.1, b138.2)).bind fun (b155 : ((List Int) × (List Int))) =>
      M.ok (b155.1, b155.2)) b92.2.2.2 (b92.2.1, ([] : (List Int)))).bind fun (b138 : ((List Int) × (List Int))) =>
      (sortS b138.2).bind fun layer172 =>
      M.ok (b99, b138.1, layers93, layer172)) (b0 := (fre game part [], lef game part [], ([] : (List (List Int))), layer0)) (fun b => game.length + 1 - b.2.2.1.length)
    (fun b => ∃ D k, b.1 = fre game part D ∧ b.2.1 = lef game part D ∧ b.2.2.2.Pairwise (· < ·) ∧ (∀ a ∈ b.2.2.2, In game a ∧ opn part D a = true) ∧ (D = [] ∨ Shut game hand part D b.2.2.2) ∧ (lef game part D).sum ≤ 3000 ∧ D.Nodup ∧ (∀ a ∈ D, In game a) ∧ b.2.2.1.length ≤ D.length ∧ game.length < k + D.length ∧ laysF game hand part (game.length + 1) [] layer0 = b.2.2.1 ++ laysF game hand part k D b.2.2.2)
    (fun b => b.2.2.1 = laysF game hand part (game.length + 1) [] layer0) ⟨[], game.length + 1, rfl, rfl, lt0, fun a ha => ⟨(hl0 a ha).1, opn_iff.mpr ⟨(hl0 a ha).2, by simp⟩⟩, .inl rfl, hb, List.nodup_nil, by simp, by simp, by simp, rfl⟩ (by simp; omega) (by
      rintro ⟨free, left, layers, layer⟩ ⟨D, k, h1, h2, h3, h4, h5, h6, h7, h8, h9, h10, h11⟩
      dsimp only at *
      subst h1 h2
      by_cases hne : layer = []
      · left
        subst hne
        refine ⟨rfl, ?_⟩
        rw [h11]
        cases k <;> simp [laysF]
      · right
        have nd := lt_nodup h3
        have hD : D.length ≤ game.length := nodup_len h7 h8
        have hl := List.length_pos_iff.mpr hne
        have nd2 : (D ++ layer).Nodup := List.nodup_append.mpr ⟨h7, nd, fun a ha b hb e => by
          subst e
          exact (opn_iff.mp (h4 a hb).2).2 ha⟩
        have in2 : ∀ a ∈ D ++ layer, In game a := fun a ha => by
          rcases List.mem_append.mp ha with h | h
          · exact h8 a h
          · exact (h4 a h).1
        have hDl : (D ++ layer).length ≤ game.length := nodup_len nd2 in2
        rw [List.length_append] at hDl
        refine ⟨by rw [decide_eq_false hne]; rfl, ?_⟩
        rw [appM_ok (by omega), M.bind_ok, free_loop fun a ha => (h4 a ha).1, M.bind_ok]
        obtain ⟨fu, e, f1, f2⟩ := outer_loop (hand := hand) (D' := D ++ layer) G nd h4 h6
        have sh : Shut game hand part D layer := by
          rcases h5 with h5 | h5
          · subst h5
            intro a _ _ _
            unfold pull
            simp
          · exact h5
        rw [e, M.bind_ok, sortS_ok (by dsimp only; omega), M.bind_ok, next_ok sh f1]
        obtain ⟨k, rfl⟩ : ∃ j, k = j + 1 := ⟨k - 1, by omega⟩
        have lsum : (lef game part (D ++ layer)).sum ≤ (lef game part D).sum := by
          have : ∀ l : List Int, (l.map (cnt game part (D ++ layer))).sum ≤ (l.map (cnt game part D)).sum := by
            intro l
            induction l with
            | nil => exact Int.le_refl _
            | cons x l ih =>
              rw [List.map_cons, List.map_cons, List.sum_cons, List.sum_cons]
              have : cnt game part (D ++ layer) x ≤ cnt game part D x := by
                unfold cnt
                have e : (wy game x).filter (opn part (D ++ layer)) = ((wy game x).filter (opn part D)).filter fun w => !decide (w ∈ layer) := by
                  rw [List.filter_filter]
                  refine List.filter_congr fun w _ => ?_
                  unfold opn
                  by_cases g1 : w ∈ D <;> by_cases g2 : w ∈ layer <;> simp [g1, g2]
                rw [e]
                have := List.length_filter_le (fun w => !decide (w ∈ layer)) ((wy game x).filter (opn part D))
                omega
              omega
          exact this _
        refine ⟨_, rfl, ⟨D ++ layer, k, rfl, rfl, nextL_lt, fun a ha => ?_, .inr nextL_shut, by omega, nd2, in2, ?_, ?_, ?_⟩, ?_⟩
        · obtain ⟨g1, g2, _⟩ := nextL_mem.mp ha
          exact ⟨g1, g2⟩
        · dsimp only
          simp
          omega
        · rw [List.length_append]
          omega
        · dsimp only
          rw [h11]
          show layers ++ (if layer = [] then [] else _) = _
          rw [if_neg hne]
          simp
        · dsimp only
          simp
          omega)
  exact ⟨b, e, hb2⟩
end
end PL
end DL

namespace DL
open PySem PySem.Spec L2
namespace PL
section
variable {game : List Row} {hand : Int} {part : Int → Bool} {D D' : List Int} {a : Int}
theorem rows_map {α : Type} (f : Row → α) (game : List Row) : game.map f = (rng 0 (game.length : Int)).map fun a => f (getZ game a) := by
  refine List.ext_getElem (by simp [rng_len]) fun i h1 h2 => ?_
  rw [List.getElem_map, List.getElem_map, rng_get]
  have : getZ game (0 + (i : Int)) = game[i]'(by simpa using h1) := by
    rw [Int.zero_add]
    exact getZ_nat _
  rw [this]
/-- a loop that tells one thing of some of the items -/
theorem forM_pushif {α β : Type} {q : α → Bool} {g : α → β} {step : α → List β → M (List β)} {xs : List α} (hl : xs.length ≤ 16777216) (hs : ∀ x ∈ xs, ∀ b : List β, b.length < 16777216 → step x b = .ok (if q x then b ++ [g x] else b)) : forM step xs [] = .ok ((xs.filter q).map g) := by
  obtain ⟨b, e, hb⟩ := forM_inv (step := step) (xs := xs) (b0 := []) (fun ys b => b = (ys.filter q).map g) rfl fun ys x zs b e hb => by
    have l := congrArg List.length e
    simp at l
    have l2 := List.length_filter_le q ys
    refine ⟨_, hs x (by rw [e]; simp) b (by rw [hb, List.length_map]; omega), ?_⟩
    rw [hb, List.filter_append, List.map_append]
    cases h : q x <;> simp [h]
  rw [e, hb]
theorem open_ways_body (G : GameOk game) (hw : ∀ a, In game a → (wy game a).length ≤ 1000) : ((forM (fun (place3 : (Int × Int × (List Int))) (b9 : (List Int)) =>
  (((compF (fun (way10 : Int) => (ix (fre game part []) way10).nox) (fun (way10 : Int) => (M.ok way10).nox) place3.2.2).bind fun v11 => M.ok (v11.length : Int)).bind fun v12 => appM b9 v12).bind fun found13 =>
  M.ok found13) game ([] : (List Int))).bind fun (b9 : (List Int)) =>
  M.ok b9) = .ok (lef game part []) := by
  have hn := G.n
  rw [forM_push (f := fun _ => .bad) (g := fun r : Row => ((r.2.2.filter (opn part [])).length : Int)) (by omega) fun r hr b hb => by
    obtain ⟨i, hi, rfl⟩ := List.getElem_of_mem hr
    have hI : In game (i : Int) := ⟨by omega, by omega⟩
    have e : wy game (i : Int) = game[i].2.2 := by unfold wy; rw [getZ_nat hi]
    have h1 := hw _ hI
    have h2 := G.in_ _ hI.1 hI.2
    rw [e] at h1 h2
    rw [compF_ok (f := fun (w : Int) => (M.ok w).nox) (q := opn part []) (g := fun w => w) (by omega) (fun w hw => by
      have hw := h2 w hw
      rw [ix_ok hw.1 (by rw [fre_len]; exact hw.2), fre_get hw]
      rfl) (fun _ _ _ => rfl)]
    simp only [M.bind_ok]
    rw [appM_ok hb, M.bind_ok, List.length_map], M.bind_ok, rows_map]
  rfl
theorem sum_le {C : Nat} (h : ∀ a, In game a → (wy game a).length ≤ C) : (lef game part D).sum ≤ (game.length * C : Nat) := by
  unfold lef
  have key : ∀ l : List Int, (∀ a ∈ l, In game a) → (l.map (cnt game part D)).sum ≤ ((l.length * C : Nat) : Int) := by
    intro l
    induction l with
    | nil => intro _; simp
    | cons x l ih =>
      intro hl
      have h1 := ih fun a ha => hl a (List.mem_cons_of_mem _ ha)
      have h2 := h x (hl x List.mem_cons_self)
      have h3 := List.length_filter_le (opn part D) (wy game x)
      rw [List.map_cons, List.sum_cons, List.length_cons, Nat.add_mul, Nat.one_mul]
      unfold cnt
      unfold cnt at h1
      omega
  have := key (rng 0 (game.length : Int)) fun a ha => rng_mem.mp ha
  rw [rng_len] at this
  have e : ((game.length : Int) - 0).toNat = game.length := by omega
  rw [e] at this
  exact this
theorem fre_true : game.map (fun (_ : Row) => true) = fre game (fun _ => true) [] := by
  rw [rows_map]
  refine List.map_congr_left fun a _ => ?_
  simp [opn]
theorem laysF_lt : ∀ (k : Nat) (D layer : List Int), layer.Pairwise (· < ·) → ∀ l ∈ laysF game hand part k D layer, l.Pairwise (· < ·)
  | 0, _, _, _ => fun l h => nomatch h
  | k + 1, D, layer, h => fun l hl => by
    unfold laysF at hl
    split at hl
    · cases hl
    · rcases List.mem_cons.mp hl with e | hl
      · rw [e]; exact h
      · exact laysF_lt k _ _ nextL_lt l hl
theorem laysF_in : ∀ (k : Nat) (D layer : List Int), (∀ a ∈ layer, In game a) → ∀ l ∈ laysF game hand part k D layer, ∀ a ∈ l, In game a
  | 0, _, _, _ => fun l h => nomatch h
  | k + 1, D, layer, h => fun l hl => by
    unfold laysF at hl
    split at hl
    · cases hl
    · rcases List.mem_cons.mp hl with e | hl
      · rw [e]; exact h
      · exact laysF_in k _ _ (fun a ha => (nextL_mem.mp ha).1) l hl
theorem laysF_len : ∀ (k : Nat) (D layer : List Int), (laysF game hand part k D layer).length ≤ k
  | 0, _, _ => Nat.le_refl _
  | k + 1, D, layer => by
    unfold laysF
    split
    · exact Nat.zero_le _
    · have := laysF_len k (D ++ layer) (nextL game hand part (D ++ layer))
      simp
      omega
theorem in_len {l : List Int} (h : l.Pairwise (· < ·)) (hl : ∀ a ∈ l, In game a) : l.length ≤ game.length := nodup_len (lt_nodup h) hl
end
end PL
end DL

namespace DL
open PySem PySem.Spec L2
namespace PL
/-! ### how deep a place lies -/
def dep : List (List Int) → Int → Int
  | [], _ => -1
  | l :: ls, a => if a ∈ l then 0 else if dep ls a < 0 then -1 else dep ls a + 1
theorem dep_ge : ∀ (ls : List (List Int)) (a : Int), -1 ≤ dep ls a
  | [], _ => Int.le_refl _
  | l :: ls, a => by
    have := dep_ge ls a
    unfold dep
    split
    · omega
    · split <;> omega
theorem dep_lt : ∀ (ls : List (List Int)) (a : Int) (k : Nat), a ∈ (ls.take k).flatten ↔ 0 ≤ dep ls a ∧ dep ls a < k
  | [], a, k => by
    rw [List.take_nil]
    exact ⟨fun h => (nomatch h), fun h => absurd h.1 (by show ¬ (0 : Int) ≤ -1; omega)⟩
  | l :: ls, a, 0 => ⟨fun h => (nomatch h), fun h => by omega⟩
  | l :: ls, a, k + 1 => by
    have ih := dep_lt ls a k
    rw [List.take_succ_cons, List.flatten_cons, List.mem_append, ih]
    have e : dep (l :: ls) a = if a ∈ l then 0 else if dep ls a < 0 then -1 else dep ls a + 1 := rfl
    rw [e]
    by_cases h : a ∈ l
    · rw [if_pos h]
      exact ⟨fun _ => by omega, fun _ => .inl h⟩
    · rw [if_neg h]
      have := dep_ge ls a
      constructor
      · rintro (h2 | h2)
        · exact absurd h2 h
        · split <;> omega
      · intro h2
        right
        split at h2 <;> omega
theorem dep_none {ls : List (List Int)} {a : Int} : dep ls a = -1 ↔ a ∉ ls.flatten := by
  have := dep_lt ls a ls.length
  rw [List.take_length] at this
  have h2 := dep_ge ls a
  rw [this]
  constructor
  · intro h; omega
  · intro h
    have h3 : dep ls a < ls.length ∨ dep ls a < 0 := by
      rcases Int.lt_or_le (dep ls a) 0 with h | h
      · exact .inr h
      · left
        have key : ∀ ls : List (List Int), dep ls a < ls.length ∨ dep ls a = -1 := by
          intro ls
          induction ls with
          | nil => exact .inr rfl
          | cons l ls ih =>
            unfold dep
            rw [List.length_cons]
            split
            · left; omega
            · split
              · exact .inr rfl
              · left
                rcases ih with ih | ih <;> omega
        rcases key ls with h4 | h4 <;> omega
    rcases h3 with h3 | h3
    · rcases Int.lt_or_le (dep ls a) 0 with h4 | h4
      · omega
      · exact absurd ⟨h4, h3⟩ h
    · omega
theorem dep_snoc : ∀ (ls : List (List Int)) (l : List Int) (a : Int), dep (ls ++ [l]) a = if 0 ≤ dep ls a then dep ls a else if a ∈ l then (ls.length : Nat) else -1
  | [], l, a => by
    show (if a ∈ l then (0 : Int) else if (-1 : Int) < 0 then -1 else -1 + 1) = if (0 : Int) ≤ -1 then -1 else if a ∈ l then ((0 : Nat) : Int) else -1
    by_cases h : a ∈ l
    · rw [if_pos h, if_neg (show ¬ (0 : Int) ≤ -1 by omega), if_pos h]
      rfl
    · rw [if_neg h, if_neg (show ¬ (0 : Int) ≤ -1 by omega), if_neg h]
      rfl
  | m :: ls, l, a => by
    have ih := dep_snoc ls l a
    have g := dep_ge ls a
    have e1 : dep (m :: ls ++ [l]) a = if a ∈ m then 0 else if dep (ls ++ [l]) a < 0 then -1 else dep (ls ++ [l]) a + 1 := rfl
    have e2 : dep (m :: ls) a = if a ∈ m then 0 else if dep ls a < 0 then -1 else dep ls a + 1 := rfl
    rw [e1, e2, ih]
    by_cases h : a ∈ m
    · rw [if_pos h, if_pos h, if_pos (by omega)]
    · rw [if_neg h, if_neg h, List.length_cons]
      by_cases h1 : 0 ≤ dep ls a
      · rw [if_pos h1, if_neg (by omega), if_pos (by omega)]
      · rw [if_neg h1, if_pos (by omega : dep ls a < 0)]
        by_cases h2 : a ∈ l
        · rw [if_pos h2, if_pos h2, if_neg (by omega), if_neg (by omega)]
          omega
        · rw [if_neg h2, if_neg h2, if_pos (by omega), if_neg (by omega)]
section
variable {game : List Row} {hand : Int} {part : Int → Bool} {D D' : List Int} {a : Int}
/-- each layer is what the ones ahead pull; behind the last one nothing is pulled -/
structure Lays (game : List Row) (hand : Int) (part : Int → Bool) (D layer : List Int) (ls : List (List Int)) : Prop where
  hd : ∀ h : 0 < ls.length, ls[0] = layer
  nx : ∀ (j : Nat) (h : j + 1 < ls.length), ls[j + 1] = nextL game hand part (D ++ (ls.take (j + 1)).flatten)
  nil : ls = [] → layer = []
  end_ : ls ≠ [] → nextL game hand part (D ++ ls.flatten) = []
  ne : ∀ l ∈ ls, l ≠ []
  opn : ∀ l ∈ ls, ∀ a ∈ l, opn part D a = true
  dj : ls.flatten.Nodup
theorem lays_ok : ∀ (k : Nat) (D layer : List Int), D.Nodup → (∀ a ∈ D, In game a) → layer.Nodup → (∀ a ∈ layer, In game a ∧ opn part D a = true) → game.length < k + D.length → Lays game hand part D layer (laysF game hand part k D layer)
  | 0, D, layer, h1, h2, _, _, h3 => by
    have := nodup_len h1 h2
    omega
  | k + 1, D, layer, h1, h2, h4, h5, h3 => by
    by_cases hne : layer = []
    · subst hne
      have e : laysF game hand part (k + 1) D [] = [] := by unfold laysF; rfl
      rw [e]
      exact { hd := fun h => absurd h (Nat.lt_irrefl 0), nx := fun j h => absurd h (Nat.not_lt_zero _), nil := fun _ => rfl, end_ := fun h => absurd rfl h, ne := fun l h => (nomatch h), opn := fun l h => (nomatch h), dj := List.nodup_nil }
    · have hl := List.length_pos_iff.mpr hne
      have nd2 : (D ++ layer).Nodup := List.nodup_append.mpr ⟨h1, h4, fun a ha b hb e => by
        subst e
        exact (opn_iff.mp (h5 a hb).2).2 ha⟩
      have in2 : ∀ a ∈ D ++ layer, In game a := fun a ha => by
        rcases List.mem_append.mp ha with h | h
        · exact h2 a h
        · exact (h5 a h).1
      have ih := lays_ok k (D ++ layer) (nextL game hand part (D ++ layer)) nd2 in2 (lt_nodup nextL_lt) (fun a ha => ⟨(nextL_mem.mp ha).1, (nextL_mem.mp ha).2.1⟩) (by rw [List.length_append]; omega)
      have e : laysF game hand part (k + 1) D layer = layer :: laysF game hand part k (D ++ layer) (nextL game hand part (D ++ layer)) := by
        show (if layer = [] then [] else _) = _
        rw [if_neg hne]
      rw [e]
      generalize laysF game hand part k (D ++ layer) (nextL game hand part (D ++ layer)) = ls at ih
      refine ⟨fun _ => rfl, fun j h => ?_, fun h => (nomatch h), fun _ => ?_, fun l hl => ?_, fun l hl a ha => ?_, ?_⟩
      · rw [List.getElem_cons_succ, List.take_succ_cons, List.flatten_cons, ← List.append_assoc]
        cases j with
        | zero =>
          rw [List.take_zero, List.flatten_nil, List.append_nil]
          exact ih.hd (by simpa using h)
        | succ j => exact ih.nx j (by simpa using h)
      · rw [List.flatten_cons, ← List.append_assoc]
        by_cases hls : ls = []
        · subst hls
          rw [List.flatten_nil, List.append_nil]
          exact ih.nil rfl
        · exact ih.end_ hls
      · rcases List.mem_cons.mp hl with h | h
        · rw [h]; exact hne
        · exact ih.ne l h
      · rcases List.mem_cons.mp hl with h | h
        · subst h; exact (h5 a ha).2
        · obtain ⟨p1, p2⟩ := opn_iff.mp (ih.opn l h a ha)
          exact opn_iff.mpr ⟨p1, fun hd => p2 (List.mem_append_left _ hd)⟩
      · rw [List.flatten_cons, List.nodup_append]
        refine ⟨h4, ih.dj, fun a ha b hb e => ?_⟩
        subst e
        obtain ⟨l, hl, hal⟩ := List.mem_flatten.mp hb
        exact (opn_iff.mp (ih.opn l hl a hal)).2 (List.mem_append_right _ ha)
theorem pull_mono (h : ∀ w ∈ D, w ∈ D') (hp : pull game hand part D a = true) : pull game hand part D' a = true := by
  obtain ⟨⟨w, hw, hwd⟩, h2⟩ := pull_iff.mp hp
  refine pull_iff.mpr ⟨⟨w, hw, h w hwd⟩, ?_⟩
  rcases h2 with h2 | h2
  · exact .inl h2
  · right
    unfold cnt at h2 ⊢
    have : (wy game a).filter (DL.PL.opn part D) = [] := List.length_eq_zero_iff.mp (by omega)
    have e : (wy game a).filter (DL.PL.opn part D') = [] := by
      rw [List.filter_eq_nil_iff] at this ⊢
      intro w hw hp
      obtain ⟨p1, p2⟩ := opn_iff.mp hp
      exact this w hw (opn_iff.mpr ⟨p1, fun hd => p2 (h w hd)⟩)
    rw [e]
    rfl
/-- the places of the first j layers -/
def upto (ls : List (List Int)) (j : Nat) : List Int := (ls.take j).flatten
theorem upto_mono {ls : List (List Int)} {i j : Nat} (h : i ≤ j) : ∀ w ∈ upto ls i, w ∈ upto ls j := fun w hw => by
  unfold upto at *
  rw [dep_lt] at *
  omega
/-- a place stands in the first j + 1 layers just if it is a goal or the first j pull it -/
theorem upto_iff {layer : List Int} {ls : List (List Int)} (L : Lays game hand part [] layer ls) (j : Nat) (hI : In game a) (hp : part a = true) : a ∈ upto ls (j + 1) ↔ a ∈ layer ∨ pull game hand part (upto ls j) a = true := by
  constructor
  · intro h
    unfold upto at h
    obtain ⟨l, hl, hal⟩ := List.mem_flatten.mp h
    obtain ⟨i, hi, rfl⟩ := List.getElem_of_mem hl
    rw [List.getElem_take] at hal
    rw [List.length_take] at hi
    cases i with
    | zero => exact .inl (L.hd (by omega) ▸ hal)
    | succ i =>
      right
      rw [L.nx i (by omega), List.nil_append] at hal
      exact pull_mono (upto_mono (by omega : i + 1 ≤ j)) (nextL_mem.mp hal).2.2
  · rintro (h | h)
    · by_cases hls : ls = []
      · rw [L.nil hls] at h
        cases h
      · have h0 := List.length_pos_iff.mpr hls
        unfold upto
        refine List.mem_flatten.mpr ⟨ls[0], ?_, by rw [L.hd h0]; exact h⟩
        refine List.mem_take_iff_getElem.mpr ⟨0, by omega, rfl⟩
    · by_cases hin : a ∈ upto ls j
      · exact upto_mono (Nat.le_succ j) a hin
      · have hmem : a ∈ nextL game hand part (upto ls j) := nextL_mem.mpr ⟨hI, opn_iff.mpr ⟨hp, hin⟩, h⟩
        by_cases hls : ls = []
        · subst hls
          obtain ⟨⟨w, _, hw⟩, _⟩ := pull_iff.mp h
          simp [upto] at hw
        · rcases Nat.lt_or_ge j ls.length with hj | hj
          · cases j with
            | zero =>
              obtain ⟨⟨w, _, hw⟩, _⟩ := pull_iff.mp h
              simp [upto] at hw
            | succ i =>
              have := L.nx i hj
              rw [List.nil_append] at this
              unfold upto at hmem
              rw [← this] at hmem
              unfold upto
              exact List.mem_flatten.mpr ⟨_, List.mem_take_iff_getElem.mpr ⟨i + 1, by omega, rfl⟩, hmem⟩
          · exfalso
            have e : upto ls j = ls.flatten := by unfold upto; rw [List.take_of_length_le hj]
            rw [e] at hmem
            have := L.end_ hls
            rw [List.nil_append] at this
            rw [this] at hmem
            cases hmem
theorem cnt_zero : cnt game part D a = 0 ↔ ∀ w ∈ wy game a, part w = true → w ∈ D := by
  unfold cnt
  constructor
  · intro h w hw hp
    have : (wy game a).filter (DL.PL.opn part D) = [] := List.length_eq_zero_iff.mp (by omega)
    rw [List.filter_eq_nil_iff] at this
    by_cases hd : w ∈ D
    · exact hd
    · exact absurd (opn_iff.mpr ⟨hp, hd⟩) (this w hw)
  · intro h
    have : (wy game a).filter (DL.PL.opn part D) = [] := by
      rw [List.filter_eq_nil_iff]
      intro w hw hp
      obtain ⟨p1, p2⟩ := opn_iff.mp hp
      exact p2 (h w hw p1)
    rw [this]
    rfl
/-- the depth of a place, by its ways' depths -/
theorem dep_iff {layer : List Int} {ls : List (List Int)} (L : Lays game hand part [] layer ls) (j : Nat) (hI : In game a) (hp : part a = true) : (0 ≤ dep ls a ∧ dep ls a ≤ j) ↔ a ∈ layer ∨ ((∃ w ∈ wy game a, 0 ≤ dep ls w ∧ dep ls w < j) ∧ ((getZ game a).1 = hand ∨ ∀ w ∈ wy game a, part w = true → 0 ≤ dep ls w ∧ dep ls w < j)) := by
  have h := upto_iff L j hI hp
  unfold upto at h
  rw [dep_lt, pull_iff, cnt_zero] at h
  have e : (0 ≤ dep ls a ∧ dep ls a ≤ j) ↔ (0 ≤ dep ls a ∧ dep ls a < ((j + 1 : Nat) : Int)) := by omega
  rw [e, h]
  simp only [dep_lt]
theorem dep_part {layer : List Int} {ls : List (List Int)} (L : Lays game hand part [] layer ls) (h : 0 ≤ dep ls a) : part a = true := by
  have : a ∈ ls.flatten := by
    by_cases hm : a ∈ ls.flatten
    · exact hm
    · rw [dep_none.mpr hm] at h
      omega
  obtain ⟨l, hl, hal⟩ := List.mem_flatten.mp this
  exact (opn_iff.mp (L.opn l hl a hal)).1
end
end PL
end DL

namespace DL
open PySem PySem.Spec L2
namespace PL
section
variable {game : List Row} {hand hand' : Int} {a : Int}
/-- a hand keeps a place among X for one way more -/
def stay (game : List Row) (hand : Int) (X : Int → Bool) (a : Int) : Bool := if (getZ game a).1 = hand then (wy game a).any X else (wy game a).all X
theorem stay_iff {X : Int → Bool} : stay game hand X a = true ↔ ((getZ game a).1 = hand → ∃ w ∈ wy game a, X w = true) ∧ ((getZ game a).1 ≠ hand → ∀ w ∈ wy game a, X w = true) := by
  unfold stay
  by_cases h : (getZ game a).1 = hand
  · rw [if_pos h, List.any_eq_true]
    exact ⟨fun h2 => ⟨fun _ => h2, fun h3 => absurd h h3⟩, fun h2 => h2.1 h⟩
  · rw [if_neg h, List.all_eq_true]
    exact ⟨fun h2 => ⟨fun h3 => absurd h3 h, fun _ => h2⟩, fun h2 => h2.2 h⟩
/-- what is kept is what the other hand does not pull out -/
theorem keep_core (G : GameOk game) (ne : ∀ a, In game a → wy game a ≠ []) (hh : ∀ a, In game a → ((getZ game a).1 = hand' ↔ (getZ game a).1 ≠ hand)) {some_ R : Int → Bool} {outside : List Int} {ls : List (List Int)}
    (L : Lays game hand' (fun _ => true) [] outside ls) (ho : ∀ a, In game a → (a ∈ outside ↔ some_ a = false))
    (r1 : ∀ a, In game a → R a = true → some_ a = true) (r2 : ∀ a, In game a → R a = true → stay game hand R a = true)
    (r3 : ∀ X : Int → Bool, (∀ a, In game a → X a = true → some_ a = true ∧ stay game hand X a = true) → ∀ a, In game a → X a = true → R a = true) :
    ∀ a, In game a → (R a = true ↔ a ∉ ls.flatten) := by
  have up : ∀ (j : Nat) (a : Int), In game a → a ∈ upto ls j → R a = false := by
    intro j
    induction j with
    | zero => intro a _ h; simp [upto] at h
    | succ j ih =>
      intro a hI h
      cases q : R a with
      | false => rfl
      | true =>
        exfalso
        rcases (upto_iff L j hI rfl).mp h with h | h
        · have := r1 a hI q
          rw [(ho a hI).mp h] at this
          cases this
        · obtain ⟨⟨w, hw, hwd⟩, h2⟩ := pull_iff.mp h
          obtain ⟨s1, s2⟩ := stay_iff.mp (r2 a hI q)
          by_cases hc : (getZ game a).1 = hand
          · obtain ⟨v, hv, hvr⟩ := s1 hc
            rcases h2 with h2 | h2
            · exact ((hh a hI).mp h2) hc
            · have := cnt_zero.mp h2 v hv rfl
              rw [ih v (G.in_ a hI.1 hI.2 v hv) this] at hvr
              cases hvr
          · have := s2 hc w hw
            rw [ih w (G.in_ a hI.1 hI.2 w hw) hwd] at this
            cases this
  intro a hI
  have full : upto ls ls.length = ls.flatten := by unfold upto; rw [List.take_length]
  constructor
  · intro h hm
    rw [← full] at hm
    rw [up _ a hI hm] at h
    cases h
  · intro h
    refine r3 (fun a => !decide (a ∈ ls.flatten)) (fun b hb hx => ?_) a hI (by simpa using h)
    have hx : b ∉ ls.flatten := by simpa using hx
    have clo : pull game hand' (fun _ => true) ls.flatten b = false := by
      cases q : pull game hand' (fun _ => true) ls.flatten b with
      | false => rfl
      | true =>
        exfalso
        rw [← full] at q
        have := (upto_iff L ls.length hb rfl).mpr (.inr q)
        unfold upto at this
        rw [List.take_of_length_le (by omega)] at this
        exact hx this
    refine ⟨?_, stay_iff.mpr ⟨fun hc => ?_, fun hc w hw => ?_⟩⟩
    · cases q : some_ b with
      | true => rfl
      | false =>
        exfalso
        have h0 : b ∈ upto ls 1 := (upto_iff L 0 hb rfl).mpr (.inl ((ho b hb).mpr q))
        by_cases hl : 1 ≤ ls.length
        · have := upto_mono hl b h0
          rw [full] at this
          exact hx this
        · unfold upto at h0
          rw [List.take_of_length_le (by omega)] at h0
          exact hx h0
    · -- not all ways are pulled
      by_cases hex : ∃ w ∈ wy game b, (!decide (w ∈ ls.flatten)) = true
      · exact hex
      · exfalso
        have hall : ∀ w ∈ wy game b, w ∈ ls.flatten := fun w hw => by
          by_cases hm : w ∈ ls.flatten
          · exact hm
          · exact absurd ⟨w, hw, by simpa using hm⟩ hex
        obtain ⟨w, hw⟩ := List.exists_mem_of_ne_nil _ (ne b hb)
        have := (pull_iff (game := game) (hand := hand') (part := fun _ => true) (D := ls.flatten) (a := b)).mpr ⟨⟨w, hw, hall w hw⟩, .inr (cnt_zero.mpr fun v hv _ => hall v hv)⟩
        rw [clo] at this
        cases this
    · cases q : decide (w ∈ ls.flatten) with
      | false => rfl
      | true =>
        exfalso
        have := (pull_iff (game := game) (hand := hand') (part := fun _ => true) (D := ls.flatten) (a := b)).mpr ⟨⟨w, hw, of_decide_eq_true q⟩, .inl ((hh b hb).mpr hc)⟩
        rw [clo] at this
        cases this
end
end PL
end DL

namespace DL
open PySem PySem.Spec L2
variable {K : PySem.W.Frag} {F F' H H' H0 F0 F1 H1 : Hp} {cs cs' : List Addr} {σ σ' : L2.St} {ρ ρ' : Rho}
/-! ### a fresh tree is shut at once -/
def frzE (f : DE) : DE := fun ρ => match f ρ with
  | .ok (.ow o) => .ok (.ow (.fz o.toD))
  | .ok (.vw _) => .bad
  | .ex c => .ex c
  | .bad => .bad
def frzV (f : DV) : DV := fun ρ => match f ρ with
  | .ok o ρ' => .ok (.fz o.toD) ρ'
  | .ex c => .ex c
  | .bad => .bad
theorem ext_shut (e : Ext F H F' H') (n : New H F' cs') : Ext F H (DL.shut F' H' cs') H' :=
  ⟨e.hh, e.ff.trans (same_shut fun c hc => (n.nw c hc).2), shut_same e.fh, fun a h => by
    rw [shut_out fun hc => h (n.nw a hc).1]
    exact e.nw a h⟩
theorem RS.shutMore (R : RS K F0 H0 ρ F σ H cs) (t : Tk H0 F cs' cs) : RS K F0 H0 ρ (DL.shut F H cs') σ H cs :=
  ⟨shut_same R.fh, R.f0.trans (same_shut fun c hc => (t.fr c hc).1), fun a h => by
    rw [shut_out fun hc => h (t.fr a hc).2.1]
    exact R.nw a h, R.h0, R.sl.frame (same_shut fun c hc => (t.fr c hc).1) fun _ _ => rfl, R.nd, fun c hc => by
    rw [shut_out fun h => (t.fr c h).2.2 hc]
    exact R.cf c hc⟩
section
variable {X : Cx} {W : WX} {pos : Pos} {a b c e : Expr} {fa fb fc fe : DE}
theorem tE_frz : ∀ σ H Q, tE X W (frzE fe) σ H Q → tE X W fe σ H Q := fun σ H Q ⟨F0, H0, ρ, F, cs, R, p⟩ => by
  refine ⟨F0, H0, ρ, F, cs, R, ?_⟩
  unfold frzE at p
  cases q : fe ρ with
  | bad => rw [q] at p; exact p
  | ex c => rw [q] at p; exact p
  | ok a =>
    rw [q] at p
    cases a with
    | vw o => exact p.elim
    | ow o =>
      intro F2 H2 v c2 e2 r2 n2
      exact p (DL.shut F2 H2 c2) H2 v [] (ext_shut e2 n2) ⟨rfl, ORep.close (o := o) (same_shut fun c hc => (n2.nw c hc).2) (fun c hc => shut_in hc) r2⟩ New.nil
theorem ge_frz (h : GE X W e fe) : GE X W e (frzE fe) := PE.imp h tE_frz
end
/-! ### d.get(k) -/
def gGet : Ar → Ar → Rs := fun x y => match dget x y with
  | some (some d) => .ok (.ow (.fz d))
  | some none => .ok (.ow (.fz .non))
  | none => .bad
section
variable {X : Cx} {W : WX} {pos apos cpos : Pos} {o a b c e : Expr} {fa fb fc fe : DE}
def isdic (x : Ar) : Bool := match x.o.dic with
  | .dK _ _ => true
  | .dT _ _ => true
  | _ => false
def dgetE (fa fb : DE) : DE := fun ρ => (fa ρ).bind fun x => if isdic x then (fb ρ).bind fun y => gGet x y else .bad
theorem dget_isD {x : Ar} {u : V} {c1 : List Addr} (fh : Same F H) (rx : ARep K F H x u c1) (h : isdic x = true) : ∃ p, u = .ref p ∧ IsD H p := by
  obtain ⟨c3, q⟩ := rx.some
  unfold isdic at h
  split at h
  · rename_i ks vs e
    obtain ⟨p, zs, e1, e2, _⟩ := dic_K fh q e
    exact ⟨p, e1, .inl ⟨_, e2⟩⟩
  · rename_i ks vs e
    obtain ⟨p, zs, e1, e2, _⟩ := dic_T fh q e
    exact ⟨p, e1, .inr ⟨_, e2⟩⟩
  · cases h
theorem isD_ext {p : Addr} (h : Same H H') (d : IsD H p) : IsD H' p := d.elim (fun ⟨k, r⟩ => .inl ⟨k, Rd.mono h r⟩) fun ⟨k, r⟩ => .inr ⟨k, Rd.mono h r⟩
theorem ge_dget {k : Nat} (C : Cc X W k) (ho : GE X W o fa) (he : GE X W e fb) (hb : attributeBase o "get" X.env (eval o X.env) = eval o X.env := by rfl)
    (hf : ((backTo cpos (starEach [e] X.env)).all (fun x => !x.1) && (backToKw cpos (keywordEach [] X.env)).all (fun x => x.1.isSome)
    && decide (([e] : List Expr).length + ([] : List Keyword).length + (if ([] : List Keyword).isEmpty then 0 else 1) < 30)) = true := by rfl)
    (hl : (apos.endLine == cpos.line) = true := by rfl) (ht : backTo cpos (starEach [e] X.env) = [(false, eval e X.env)] := by rfl) :
    GE X W (.Call (.Attribute o "get" apos) [e] [] cpos) (dgetE fa fb) := by
  refine PE.imp (pe_dget1 (by have := C.hu; omega) ho he ⟨hb, hf, hl, ht⟩) fun σ H Q ⟨F0, H0, ρ, F, cs, R, p⟩ => ?_
  have p1 := post_bind R.fh p
  refine ⟨F0, H0, ρ, F, cs, R, ?_⟩
  cases q : fa ρ with
  | bad => rw [q] at p1; exact p1.elim
  | ex c => rw [q] at p1; exact p1
  | ok a =>
    intro F1 H1 v c1 e1 r1 n1
    have p2 : post X W (if isdic a then (fb ρ).bind fun y => gGet a y else .bad) σ F1 H1 Q := post_ext e1 (by have := p; unfold dgetE at this; rw [q] at this; exact this)
    cases hi : isdic a with
    | false => rw [hi] at p2; exact p2.elim
    | true =>
      rw [hi, if_pos rfl] at p2
      obtain ⟨p', ep, isd⟩ := dget_isD e1.fh r1 hi
      refine ⟨p', ep, isd, F0, H0, ρ, F1, cs, R.ext e1, ?_⟩
      cases q2 : fb ρ with
      | bad => rw [q2] at p2; exact p2.elim
      | ex c => rw [q2] at p2; exact p2
      | ok b =>
        rw [q2] at p2
        have p3 : post X W (gGet a b) σ F1 H1 Q := p2
        intro F2 H2 u c2 e2 r2 n2
        unfold gGet at p3
        cases hr : dget a b with
        | none => rw [hr] at p3; exact p3.elim
        | some r =>
          obtain ⟨p2', o2, e3, g, m⟩ := dget_ok e2.fh (r1.ext e2) r2 hr
          rw [ep] at e3
          cases e3
          rw [hr] at p3
          refine ⟨o2, g, ?_⟩
          cases r with
          | none =>
            cases o2 with
            | none => exact post_flat (d := .non) e2.fh rfl (post_ext e2 p3)
            | some z => exact (m : False).elim
          | some d =>
            cases o2 with
            | none => exact (m : False).elim
            | some z => exact post_item (o := .fz d) (c := []) e2.fh ⟨rfl, m⟩ (post_ext e2 p3)
end
/-! ### for k in d, d one's own: it is locked, and stays shut -/
theorem ps_lockS {X : Cx} {st : Stmt} {t : TS} (h : PS X st t) : PS X st (fun D σ H => ∃ d u, H d = some u ∧ Mut (some u) ∧ ∀ od, t D σ (upd H d (.frz od u))) := by
  refine ⟨fun pins s σ H D I hw => ?_⟩
  obtain ⟨d, u, hd, mu, hw⟩ := hw
  obtain ⟨od, I1⟩ := I.lock hd mu
  exact h.run pins s σ _ _ I1 (hw od)
theorem RS.lock {i : Nat} {ks : List Key} {ds : List D} (R : RS K F0 H0 ρ F σ H cs) (hi : ρ[i]? = some (some (.dK ks ds))) : ∃ a vs, σ[i]? = some (some (.ref a)) ∧ H a = some (.dK (ks.zip vs)) ∧ ks.length = vs.length ∧
    ∀ od, ∃ F' cs2, Same F F' ∧ F' a = some (.frz od (.dK (ks.zip vs))) ∧ RS K F0 H0 (ρ.set i (some (.fz (.dK ks ds)))) F' σ (upd H a (.frz od (.dK (ks.zip vs)))) cs2 := by
  have hil : i < ρ.length := (List.getElem?_eq_some_iff.mp hi).1
  obtain ⟨c1, c2, c3, ob, x, e1, e4, e5, s, k⟩ := R.sl.split i hil
  rw [hi] at e4
  cases e4
  subst e1
  cases x with
  | none => exact s.elim
  | some v =>
  obtain ⟨a, vs, ev, ec, ha, hl, hr⟩ := s
  subst ev ec
  refine ⟨a, vs, e5, ha, hl, fun od => ?_⟩
  have nd := R.nd
  rw [List.nodup_append] at nd
  obtain ⟨n1, n23, d123⟩ := nd
  rw [List.nodup_append] at n23
  obtain ⟨n2, n3, d23⟩ := n23
  obtain ⟨cf, c0⟩ := R.cf a (List.mem_append_right _ (List.mem_append_left _ List.mem_cons_self))
  have sm : Same F (upd F a (.frz od (.dK (ks.zip vs)))) := fun b o e => by
    by_cases h : b = a
    · subst h; rw [cf] at e; cases e
    · rw [upd_ne h]; exact e
  have hx : σ.set i (some (.ref a)) = σ := by
    have hi2 : i < σ.length := by rw [R.sl.len]; exact hil
    have : σ[i] = some (.ref a) := by
      have := List.getElem?_eq_getElem hi2
      rw [e5] at this
      exact (Option.some.inj this).symm
    rw [← this]; simp
  have z := k (upd F a (.frz od (.dK (ks.zip vs)))) (upd H a (.frz od (.dK (ks.zip vs)))) (some (.fz (.dK ks ds))) (some (.ref a)) [] sm (fun c hc => upd_ne fun e => d123 c hc a (List.mem_append_left _ List.mem_cons_self) e) (fun c hc => upd_ne fun e => d23 a List.mem_cons_self c hc e.symm) ⟨rfl, a, vs, rfl, .inr ⟨od, upd_same⟩, hl, hr.mono sm⟩
  rw [hx] at z
  refine ⟨_, _, sm, upd_same, ⟨fun b o e => ?_, R.f0.trans sm, fun b h => ?_, fun b o e => ?_, z, ?_, fun c hc => ?_⟩⟩
  · by_cases h : b = a
    · subst h; rw [upd_same] at e ⊢; exact e
    · rw [upd_ne h] at e ⊢; exact R.fh b o e
  · have hb : b ≠ a := fun e => h (e ▸ c0)
    rw [upd_ne hb]
    exact R.nw b h
  · have hb : b ≠ a := fun h => by subst h; rw [c0] at e; cases e
    rw [upd_ne hb]
    exact R.h0 b o e
  · rw [List.nil_append, List.nodup_append]
    exact ⟨n1, n3, fun a ha b hb => d123 a ha b (List.mem_append_right _ hb)⟩
  · rcases List.mem_append.mp hc with h | h
    · have nc : c ≠ a := fun e => d123 c h a (List.mem_append_left _ List.mem_cons_self) e
      rw [upd_ne nc]
      exact R.cf c (List.mem_append_left _ h)
    · have h' : c ∈ c3 := by simpa using h
      have nc : c ≠ a := fun e => d23 a List.mem_cons_self c h' e.symm
      rw [upd_ne nc]
      exact R.cf c (List.mem_append_right _ (List.mem_append_right _ h'))
def kD : Key → D
  | .inl i => .int i
  | .inr x => .str x
theorem rep_kD {k : Key} : Rep K F (kD k) (kV k) := by cases k <;> rfl
theorem wk_keys {a : Addr} {od : Obj} {ks : List Key} {vs : List V} (hl : ks.length = vs.length) (h : F1 a = some (.frz od (.dK (ks.zip vs)))) : Wk K (Itk a od (ks.zip vs)) F1 (ks.map kD) where
  go := fun i H s hi => ⟨s _ _ h, by rw [List.length_zip, ← hl, Nat.min_self]; simpa using hi⟩
  yl := fun i F H x H' d s fh hd y => by
    obtain ⟨rfl, k, v, h1, rfl⟩ := y
    refine ⟨F, Ext.refl fh, ?_⟩
    rw [List.getElem?_map] at hd
    have h2 : ks[i]? = some k := by
      have := (List.getElem?_zip_eq_some.mp h1).1
      exact this
    rw [h2] at hd
    cases hd
    exact rep_kD
  st := fun H s => ⟨s _ _ h, by rw [List.length_zip, ← hl, Nat.min_self]; simp⟩
def forD (i : Nat) (b : DB) (f : DS) (is : List Nat) : DS := fun ρ => match ρ[i]? with
  | some (some (.dK ks ds)) => loopS (turnS b f is) (ks.map kD) (ρ.set i (some (.fz (.dK ks ds))))
  | _ => .bad
theorem gs_forD {X : Cx} {W : WX} {pos np : Pos} {f : DS} {x : Str} {tg : Expr} {body : List Stmt} {b : DB} {k : Nat} (i : Nat) (is : List Nat) (hp : PassesOwn (model X.prog X.w) X.A X.env X.xe) (C : Cc X W k) (hg : GG X tg b) (hb : GSs X W body f)
    (hN : X.N[i]? = some x := by rfl) (hv : Vis X.env.scope x := by first | exact Or.inl rfl | exact Or.inr (Or.inl rfl) | exact Or.inr (Or.inr rfl)) (hd : (x == ("__debug__" : Str)) = false := by decide)
    (hcd : (x == ("__classdict__" : Str)) = false := by decide)
    (hs : ∀ y, foldedSetIterable (.Name x np) X.env y = pure y := by intro _; rfl) : GS X W (.For tg (.Name x np) body [] pos) (forD i b f is) := by
  refine PS.imp (ps_lockS (ps_for hp C.calm (pi_keys (pe_var hN hv hd hcd)) hg hb hs)) fun D σ H ⟨F0, H0, ρ, F, cs, R, p⟩ => ?_
  unfold forD at p
  split at p
  · rename_i ks dv ei
    obtain ⟨a, vs, h1, h2, h3, h4⟩ := R.lock ei
    refine ⟨a, _, h2, trivial, fun od => ?_⟩
    obtain ⟨F1, cs1, s1, hf, R1⟩ := h4 od
    refine ⟨_, h1, a, od, rfl, .inl ⟨_, upd_same, ?_⟩⟩
    have wk := wk_keys (K := X.K) h3 hf
    generalize hds : ks.map kD = ds at p wk
    generalize hρ : ρ.set i (some (.fz (.dK ks dv))) = ρ at p R1
    generalize Itk a od (ks.zip vs) = J at wk
    generalize upd H a (.frz od (.dK (ks.zip vs))) = H1 at R1
    refine ⟨fun i m σ H => m = ds.length - i ∧ i ≤ ds.length ∧ ∃ ρ F cs, Same F1 F ∧ RS X.K F0 H0 ρ F σ H cs ∧ postS X W (loopS (turnS b f is) (ds.drop i) ρ) F0 H0 F D, ⟨ds.length, by simp, Nat.zero_le _, ρ, F1, cs1, Same.refl _, R1, by rw [List.drop_zero]; exact postS_same s1 p⟩, ?_⟩
    rintro i m σ2 H2 ⟨rfl, hi, ρ2, F2, cs2, s2, R2, p2⟩
    by_cases hlt : i < ds.length
    · refine .inr ⟨wk.go i H2 (s2.trans R2.fh) hlt, fun σ3 H3 => ∃ ρ F cs, Same F1 F ∧ RS X.K F0 H0 ρ F σ3 H3 cs ∧ postS X W (loopS (turnS b f is) (ds.drop (i + 1)) ρ) F0 H0 F D, fun σ' H' ⟨ρ, F, cs, a, b, c⟩ => ⟨ds.length - (i + 1), by omega, rfl, hlt, ρ, F, cs, a, b, c⟩, fun x H' y => ?_⟩
      have hd : ds[i]? = some ds[i] := List.getElem?_eq_getElem hlt
      obtain ⟨F3, e3, r3⟩ := wk.yl i F2 H2 x H' ds[i] s2 R2.fh hd y
      have R3 := R2.ext e3
      have p3 := postS_same e3.ff p2
      rw [List.drop_eq_getElem_cons hlt] at p3
      unfold loopS turnS at p3
      cases eb : b ds[i] ρ2 with
      | none => simp only [eb] at p3; exact p3.elim
      | some ρ3 =>
        simp only [eb] at p3
        refine ⟨F0, H0, ρ2, F3, cs2, ds[i], ρ3, R3, r3, eb, fun F4 σ4 cs4 s4 R4 => ⟨F0, H0, ρ3, F4, cs4, R4, ?_⟩⟩
        have sA : Same F1 F4 := (s2.trans e3.ff).trans s4
        cases ef : f ρ3 with
        | bad => simp only [ef] at p3; exact p3.elim
        | ex c ρ4 => simp only [ef] at p3; exact fun F5 H5 σ5 cs5 C5 s5 R5 m => p3 F5 H5 σ5 cs5 C5 (s4.trans s5) R5 m
        | rt o => simp only [ef] at p3; exact p3
        | bk ρ4 => simp only [ef] at p3; exact fun F5 H5 σ5 cs5 s5 R5 => p3 F5 H5 σ5 cs5 (s4.trans s5) R5
        | nx ρ4 =>
          simp only [ef] at p3
          intro F5 H5 σ5 cs5 s5 R5
          obtain ⟨cs6, R6⟩ := R5.forget is
          exact ⟨_, F5, cs6, sA.trans s5, R6, postS_same (s4.trans s5) p3⟩
        | ct ρ4 =>
          simp only [ef] at p3
          intro F5 H5 σ5 cs5 s5 R5
          obtain ⟨cs6, R6⟩ := R5.forget is
          exact ⟨_, F5, cs6, sA.trans s5, R6, postS_same (s4.trans s5) p3⟩
    · have e : i = ds.length := by omega
      subst e
      rw [List.drop_length] at p2
      exact .inl ⟨wk.st H2 (s2.trans R2.fh), p2 F2 H2 σ2 cs2 (Same.refl _) R2⟩
  · exact p.elim
end DL

namespace DL
open PySem PySem.Spec L2
variable {K : PySem.W.Frag} {F F' H H' H0 F0 F1 H1 : Hp} {cs cs' : List Addr} {σ σ' : L2.St} {ρ ρ' : Rho}
/-! ### a list of shut things in a slot, changed -/
theorem RS.flatL {i : Nat} {ds : List D} (R : RS K F0 H0 ρ F σ H cs) (hi : ρ[i]? = some (some (.lst (ds.map O.fz)))) : ∃ a vs, σ[i]? = some (some (.ref a)) ∧ H a = some (.lst vs) ∧ Reps K F ds vs ∧
    ∀ ds' vs', Reps K F ds' vs' → ∃ cs2, RS K F0 H0 (ρ.set i (some (.lst (ds'.map O.fz)))) F σ (upd H a (.lst vs')) cs2 := by
  have hil : i < ρ.length := (List.getElem?_eq_some_iff.mp hi).1
  obtain ⟨c1, c2, c3, ob, x, e1, e4, e5, s, k⟩ := R.sl.split i hil
  rw [hi] at e4
  cases e4
  subst e1
  cases x with
  | none => exact s.elim
  | some v =>
  obtain ⟨a, vs, c, ev, ec, ha, hr⟩ := s
  obtain ⟨e0, hq⟩ := OReps.of_fz hr
  subst ev ec e0
  refine ⟨a, vs, e5, ha, hq, fun ds' vs' h' => ?_⟩
  have nd := R.nd
  rw [List.nodup_append] at nd
  obtain ⟨n1, n23, d123⟩ := nd
  rw [List.nodup_append] at n23
  obtain ⟨n2, n3, d23⟩ := n23
  obtain ⟨cf, c0⟩ := R.cf a (List.mem_append_right _ (List.mem_append_left _ List.mem_cons_self))
  have hx : σ.set i (some (.ref a)) = σ := by
    have hi2 : i < σ.length := by rw [R.sl.len]; exact hil
    have : σ[i] = some (.ref a) := by
      have := List.getElem?_eq_getElem hi2
      rw [e5] at this
      exact (Option.some.inj this).symm
    rw [← this]; simp
  have z := k F (upd H a (.lst vs')) (some (.lst (ds'.map O.fz))) (some (.ref a)) [a] (Same.refl _) (fun c hc => upd_ne fun e => d123 c hc a (List.mem_append_left _ List.mem_cons_self) e) (fun c hc => upd_ne fun e => d23 a List.mem_cons_self c hc e.symm) ⟨a, vs', [], rfl, rfl, upd_same, OReps.fz h'⟩
  rw [hx] at z
  refine ⟨_, ⟨fun b o e => ?_, R.f0, R.nw, fun b o e => ?_, z, R.nd, R.cf⟩⟩
  · by_cases h : b = a
    · subst h; rw [cf] at e; cases e
    · rw [upd_ne h]; exact R.fh b o e
  · have hb : b ≠ a := fun h => by subst h; rw [c0] at e; cases e
    rw [upd_ne hb]
    exact R.h0 b o e
def flatSlot (ρ : Rho) (i : Nat) : Option (List D) := match ρ[i]? with
  | some (some (.lst os)) => allFz os
  | _ => none
theorem flatSlot_eq {i : Nat} {ds : List D} (h : flatSlot ρ i = some ds) : ρ[i]? = some (some (.lst (ds.map O.fz))) := by
  unfold flatSlot at h
  split at h
  · rename_i os e
    rw [e, allFz_eq h]
  · cases h
section
variable {X : Cx} {W : WX} {pos apos cpos p1 p2 p3 : Pos} {a b c e : Expr} {fa fb fc fe : DE} {x y : Str}
/-- y = x.pop() -/
def popS (j i : Nat) : DS := fun ρ => match flatSlot ρ i with
  | some ds => match ds.getLast? with
    | some d => if j < ρ.length && i != j then .nx ((ρ.set i (some (.lst (ds.dropLast.map O.fz)))).set j (some (.fz d))) else .bad
    | none => .bad
  | none => .bad
theorem RS.setFz {j : Nat} {d : D} {v : V} (R : RS K F0 H0 ρ F σ H cs) (hr : Rep K F d v) (hj : j < ρ.length) : ∃ cs2, RS K F0 H0 (ρ.set j (some (.fz d))) F (σ.set j (some v)) H cs2 :=
  R.set (Ext.refl R.fh) (o := .fz d) ⟨rfl, hr⟩ New.nil hj
theorem Reps.last : ∀ {ds : List D} {vs : List V} {d : D}, Reps K F ds vs → ds.getLast? = some d → ∃ v, vs[vs.length - 1]? = some v ∧ Rep K F d v ∧ Reps K F ds.dropLast vs.dropLast := fun {ds vs d} h e => by
  have hl := h.len
  rw [List.getLast?_eq_getElem?] at e
  obtain ⟨v, e1, r⟩ := h.get e
  rw [hl] at e1
  refine ⟨v, e1, r, ?_⟩
  rw [List.dropLast_eq_take, List.dropLast_eq_take, hl]
  exact h.take _
theorem gs_pop {k : Nat} (j i : Nat) (C : Cc X W k) (hj : X.N[j]? = some y := by rfl) (hN : X.N[i]? = some x := by rfl) (hv : Vis X.env.scope x := by first | exact Or.inl rfl | exact Or.inr (Or.inl rfl) | exact Or.inr (Or.inr rfl)) (hd : (x == ("__debug__" : Str)) = false := by decide)
    (hcd : (x == ("__classdict__" : Str)) = false := by decide) (hx : Loc X.env.scope y := by first | exact Or.inl rfl | exact Or.inr rfl)
    (hbase : attributeBase (.Name x p1) "pop" X.env (eval (.Name x p1) X.env) = eval (.Name x p1) X.env := by rfl) (hline : (apos.endLine == cpos.line) = true := by rfl)
    (hs : swapsWith (.Call (.Attribute (.Name x p1) "pop" apos) [] [] cpos) (some (.Name y p2)) pos.line X.env = pure false := by rfl)
    (hf : X.fn y = true ∨ X.env.scope.names.lookup y = some .local := by first | exact .inl rfl | exact .inr rfl) :
    GS X W (.Assign [.Name y p2] (.Call (.Attribute (.Name x p1) "pop" apos) [] [] cpos) pos) (popS j i) := by
  refine PS.imp (ps_set C.nd hj hx (pe_bm0 PySem.F.plainAttrs_list PySem.F.slot_list_pop PySem.F.type_list_pop mt_pop (pe_var hN hv hd hcd) hbase hline) hs hf) fun D σ H ⟨F0, H0, ρ, F, cs, R, p⟩ => ?_
  unfold popS at p
  split at p
  · rename_i ds ei
    obtain ⟨l, vs, h1, h2, h3, h4⟩ := R.flatL (flatSlot_eq ei)
    split at p
    · rename_i d ed
      split at p
      · rename_i hc
        rw [Bool.and_eq_true, decide_eq_true_eq] at hc
        obtain ⟨v, g1, g2, g3⟩ := h3.last ed
        obtain ⟨cs2, R2⟩ := h4 _ _ g3
        obtain ⟨cs3, R3⟩ := R2.setFz (j := j) g2 (by rw [List.length_set]; exact hc.1)
        exact ⟨_, h1, .inl ⟨rfl, _, SqL.of h2⟩, l, vs, v, rfl, rfl, h2, g1, p F _ _ _ (Same.refl _) R3⟩
      · exact p.elim
    · exact p.elim
  · exact p.elim
/-- y = x.pop(e), z.append(x.pop(e)) -/
def popAt (ρ : Rho) (i : Nat) (n : Int) : Option (D × List D) := match flatSlot ρ i with
  | some ds => if decide (-(2 ^ 63) ≤ n) && decide (n < 2 ^ 63) then (match ixN ds.length n with
    | some j => match ds[j]? with
      | some d => some (d, ds.eraseIdx j)
      | none => none
    | none => none) else none
  | none => none
theorem popAt_ok {i : Nat} {n : Int} {d : D} {es : List D} (R : RS K F0 H0 ρ F σ H cs) (h : popAt ρ i n = some (d, es)) : ∃ l vs k v, σ[i]? = some (some (.ref l)) ∧ H l = some (.lst vs) ∧ -(2 ^ 63) ≤ n ∧ n < 2 ^ 63 ∧ seqIndex? n vs.length = some k ∧ vs[k]? = some v ∧ Rep K F d v ∧
    ∃ cs2, RS K F0 H0 (ρ.set i (some (.lst (es.map O.fz)))) F σ (upd H l (.lst (vs.eraseIdx k))) cs2 := by
  unfold popAt at h
  split at h
  · rename_i ds ei
    obtain ⟨l, vs, h1, h2, h3, h4⟩ := R.flatL (flatSlot_eq ei)
    split at h
    · rename_i hb
      rw [Bool.and_eq_true, decide_eq_true_eq, decide_eq_true_eq] at hb
      split at h
      · rename_i j ej
        split at h
        · rename_i d' ed
          cases h
          obtain ⟨v, g1, g2⟩ := h3.get ed
          rw [h3.len] at ej
          refine ⟨l, vs, j, v, h1, h2, hb.1, hb.2, (ixN_seq ej).1, g1, g2, h4 _ _ ?_⟩
          rw [List.eraseIdx_eq_take_drop_succ, List.eraseIdx_eq_take_drop_succ]
          exact (h3.take _).append (h3.drop _)
        · cases h
      · cases h
    · cases h
  · cases h
def popAtS (j i : Nat) (fe : DE) : DS := fun ρ => if (flatSlot ρ i).isSome && (j < ρ.length && i != j) then (match fe ρ with
  | .ok z => match z.d with
    | .int n => match popAt ρ i n with
      | some (d, es) => .nx ((ρ.set i (some (.lst (es.map O.fz)))).set j (some (.fz d)))
      | none => .bad
    | _ => .bad
  | .ex c => .ex c ρ
  | .bad => .bad) else .bad
theorem gs_popAt {k : Nat} (j i : Nat) (C : Cc X W k) (he : GE X W e fe) (hj : X.N[j]? = some y := by rfl) (hN : X.N[i]? = some x := by rfl) (hv : Vis X.env.scope x := by first | exact Or.inl rfl | exact Or.inr (Or.inl rfl) | exact Or.inr (Or.inr rfl)) (hd : (x == ("__debug__" : Str)) = false := by decide)
    (hcd : (x == ("__classdict__" : Str)) = false := by decide) (hx : Loc X.env.scope y := by first | exact Or.inl rfl | exact Or.inr rfl)
    (hbase : attributeBase (.Name x p1) "pop" X.env (eval (.Name x p1) X.env) = eval (.Name x p1) X.env := by rfl)
    (hfew : ((backTo cpos (starEach [e] X.env)).all (fun x => !x.1) && (backToKw cpos (keywordEach [] X.env)).all (fun x => x.1.isSome)
      && decide ([e].length + ([] : List Keyword).length + (if ([] : List Keyword).isEmpty then 0 else 1) < 30)) = true := by rfl)
    (hline : (apos.endLine == cpos.line) = true := by rfl) (hst : starEach [e] X.env = (false, eval e X.env) :: starEach [] X.env := by rfl) (hplain : (backTo cpos (starEach [] X.env)).any (·.1) = false := by rfl)
    (hs : swapsWith (.Call (.Attribute (.Name x p1) "pop" apos) [e] [] cpos) (some (.Name y p2)) pos.line X.env = pure false := by rfl)
    (hf : X.fn y = true ∨ X.env.scope.names.lookup y = some .local := by first | exact .inl rfl | exact .inr rfl) :
    GS X W (.Assign [.Name y p2] (.Call (.Attribute (.Name x p1) "pop" apos) [e] [] cpos) pos) (popAtS j i fe) := by
  refine PS.imp (ps_set C.nd hj hx (pe_bm PySem.F.plainAttrs_list PySem.F.slot_list_pop PySem.F.type_list_pop mt_popAt (pe_var hN hv hd hcd) (ga_cons he ga_nil hst) hbase hfew hline hst hplain) hs hf) fun D σ H ⟨F0, H0, ρ, F, cs, R, p⟩ => ?_
  unfold popAtS at p
  split at p
  · rename_i hc
    rw [Bool.and_eq_true, Bool.and_eq_true, decide_eq_true_eq] at hc
    obtain ⟨ds, eds⟩ := Option.isSome_iff_exists.mp hc.1
    obtain ⟨l0, vs0, h1, h2, _, _⟩ := R.flatL (flatSlot_eq eds)
    refine ⟨_, h1, .inl ⟨rfl, _, SqL.of h2⟩, F0, H0, ρ, F, cs, R, ?_⟩
    unfold consA nilA
    cases q : fe ρ with
    | bad => rw [q] at p; exact p.elim
    | ex c => rw [q] at p; exact fun F2 H2 C e m => p F2 H2 σ cs C e.ff (R.ext e) m
    | ok z =>
      rw [q] at p
      dsimp only at p ⊢
      intro F2 H2 us c2 e2 r2 n2
      obtain ⟨u, rfl, ru⟩ := areps1 r2
      have rz := ru.view e2.fh
      split at p
      · rename_i n en
        rw [en] at rz
        split at p
        · rename_i d es ep
          have R2 := R.ext e2
          obtain ⟨l, vs, kk, v, g1, g2, g3, g4, g5, g6, g7, cs2, R3⟩ := popAt_ok R2 ep
          rw [h1] at g1
          cases g1
          obtain ⟨cs3, R4⟩ := R3.setFz (j := j) g7 (by rw [List.length_set]; exact hc.2.1)
          exact ⟨l0, vs, n, kk, v, rfl, by rw [show u = .int n from rz], g2, g3, g4, g5, g6, p F2 _ _ _ e2.ff R4⟩
        · exact p.elim
      · exact p.elim
  · exact p.elim
def appPopS (j i : Nat) (fe : DE) : DS := fun ρ => if (flatSlot ρ i).isSome && i != j then (match fe ρ with
  | .ok z => match z.d with
    | .int n => match popAt ρ i n with
      | some (d, es) => match flatSlot ρ j with
        | some ds => if decide (ds.length < lim) then .nx ((ρ.set i (some (.lst (es.map O.fz)))).set j (some (.lst ((ds ++ [d]).map O.fz)))) else .bad
        | none => .bad
      | none => .bad
    | _ => .bad
  | .ex c => if (flatSlot ρ j).isSome then .ex c ρ else .bad
  | .bad => .bad) else .bad
theorem gs_appPop {k : Nat} (j i : Nat) {apos2 cpos2 : Pos} (C : Cc X W k) (he : GE X W e fe) (hj : X.N[j]? = some y := by rfl) (hvj : Vis X.env.scope y := by first | exact Or.inl rfl | exact Or.inr (Or.inl rfl) | exact Or.inr (Or.inr rfl)) (hdj : (y == ("__debug__" : Str)) = false := by decide)
    (hcdj : (y == ("__classdict__" : Str)) = false := by decide)
    (hN : X.N[i]? = some x := by rfl) (hv : Vis X.env.scope x := by first | exact Or.inl rfl | exact Or.inr (Or.inl rfl) | exact Or.inr (Or.inr rfl)) (hd : (x == ("__debug__" : Str)) = false := by decide)
    (hcd : (x == ("__classdict__" : Str)) = false := by decide)
    (hbase : attributeBase (.Name x p1) "pop" X.env (eval (.Name x p1) X.env) = eval (.Name x p1) X.env := by rfl)
    (hfew : ((backTo cpos (starEach [e] X.env)).all (fun x => !x.1) && (backToKw cpos (keywordEach [] X.env)).all (fun x => x.1.isSome)
      && decide ([e].length + ([] : List Keyword).length + (if ([] : List Keyword).isEmpty then 0 else 1) < 30)) = true := by rfl)
    (hline : (apos.endLine == cpos.line) = true := by rfl) (hst : starEach [e] X.env = (false, eval e X.env) :: starEach [] X.env := by rfl) (hplain : (backTo cpos (starEach [] X.env)).any (·.1) = false := by rfl)
    (hbase2 : attributeBase (.Name y p2) "append" X.env (eval (.Name y p2) X.env) = eval (.Name y p2) X.env := by rfl)
    (hfew2 : ((backTo cpos2 (starEach [.Call (.Attribute (.Name x p1) "pop" apos) [e] [] cpos] X.env)).all (fun x => !x.1) && (backToKw cpos2 (keywordEach [] X.env)).all (fun x => x.1.isSome)
      && decide ([Expr.Call (.Attribute (.Name x p1) "pop" apos) [e] [] cpos].length + ([] : List Keyword).length + (if ([] : List Keyword).isEmpty then 0 else 1) < 30)) = true := by rfl)
    (hline2 : (apos2.endLine == cpos2.line) = true := by rfl) (hst2 : starEach [.Call (.Attribute (.Name x p1) "pop" apos) [e] [] cpos] X.env = (false, eval (.Call (.Attribute (.Name x p1) "pop" apos) [e] [] cpos) X.env) :: starEach [] X.env := by rfl) (hplain2 : (backTo cpos2 (starEach [] X.env)).any (·.1) = false := by rfl)
    (hsw : swapsWith (.Call (.Attribute (.Name y p2) "append" apos2) [.Call (.Attribute (.Name x p1) "pop" apos) [e] [] cpos] [] cpos2) none pos.line X.env = pure false := by rfl) :
    GS X W (.Expr (.Call (.Attribute (.Name y p2) "append" apos2) [.Call (.Attribute (.Name x p1) "pop" apos) [e] [] cpos] [] cpos2) pos) (appPopS j i fe) := by
  refine PS.imp (ps_expr (pe_bm PySem.F.plainAttrs_list PySem.F.slot_list_append PySem.F.type_list_append mt_append (pe_var hj hvj hdj hcdj) (pa_cons (pe_bm PySem.F.plainAttrs_list PySem.F.slot_list_pop PySem.F.type_list_pop mt_popAt (pe_var hN hv hd hcd) (ga_cons he ga_nil hst) hbase hfew hline hst hplain) pa_nil hst2) hbase2 hfew2 hline2 hst2 hplain2) hsw) fun D σ H ⟨F0, H0, ρ, F, cs, R, p⟩ => ?_
  unfold appPopS at p
  split at p
  · rename_i hc
    rw [Bool.and_eq_true] at hc
    obtain ⟨ds, eds⟩ := Option.isSome_iff_exists.mp hc.1
    obtain ⟨l0, vs0, h1, h2, _, _⟩ := R.flatL (flatSlot_eq eds)
    have hne : i ≠ j := by simpa using hc.2
    have hj0 : ∃ ds, flatSlot ρ j = some ds := by
      cases h : flatSlot ρ j with
      | some ds => exact ⟨ds, rfl⟩
      | none =>
        exfalso
        rw [h] at p
        cases q : fe ρ with
        | bad => rw [q] at p; exact p
        | ex c => rw [q] at p; exact p
        | ok z =>
          rw [q] at p
          dsimp only at p
          split at p
          · split at p
            · exact p
            · exact p
          · exact p
    obtain ⟨dj, edj⟩ := hj0
    obtain ⟨lj, vj, j1, j2, _, _⟩ := R.flatL (flatSlot_eq edj)
    refine ⟨_, j1, .inl ⟨rfl, _, SqL.of j2⟩, _, h1, .inl ⟨rfl, _, SqL.of h2⟩, F0, H0, ρ, F, cs, R, ?_⟩
    unfold consA nilA
    cases q : fe ρ with
    | bad => rw [q] at p; exact p.elim
    | ex c =>
      rw [q] at p
      simp only [edj, Option.isSome_some, if_true] at p
      exact fun F2 H2 C e m => p F2 H2 σ cs C e.ff (R.ext e) m
    | ok z =>
      rw [q] at p
      dsimp only at p ⊢
      intro F2 H2 us c2 e2 r2 n2
      obtain ⟨u, rfl, ru⟩ := areps1 r2
      have rz := ru.view e2.fh
      split at p
      · rename_i n en
        rw [en] at rz
        split at p
        · rename_i d es ep
          have R2 := R.ext e2
          obtain ⟨l, vs, kk, v, g1, g2, g3, g4, g5, g6, g7, cs2, R3⟩ := popAt_ok R2 ep
          rw [h1] at g1
          cases g1
          rw [edj] at p
          dsimp only at p
          split at p
          · rename_i hl
            refine ⟨l0, vs, n, kk, v, rfl, by rw [show u = .int n from rz], g2, g3, g4, g5, g6, ?_⟩
            have hs3 : (ρ.set i (some (.lst (es.map O.fz))))[j]? = some (some (.lst (dj.map O.fz))) := by
              rw [List.getElem?_set_ne hne]
              exact flatSlot_eq edj
            obtain ⟨l3, v3, k1, k2, k3, k4⟩ := R3.flatL hs3
            rw [j1] at k1
            cases k1
            obtain ⟨cs4, R4⟩ := k4 (dj ++ [d]) (v3 ++ [v]) (k3.append ⟨v, [], rfl, g7, rfl⟩)
            refine ⟨lj, v3, v, rfl, rfl, k2, ?_, p F2 _ _ _ e2.ff R4⟩
            rw [← k3.len]
            have := of_decide_eq_true hl
            unfold lim at this
            rw [sizeLine_eq]
            omega
          · exact p.elim
        · exact p.elim
      · exact p.elim
  · exact p.elim
end
end DL

namespace DL
open PySem PySem.Spec L2
section
variable {α β γ : Type} {ρ ρ' ρ1 : Rho} {fe fa fb : DE} {a b : Ar} {m : M α} {s : α → O} {e : α → D}
theorem pq_frz [t : ToD s e] {x : α} (h : fe ρ = .ok (rO s x)) : frzE fe ρ = .ok (rO (oF e) x) := by
  unfold frzE
  rw [h]
  show Rs.ok (.ow (.fz (s x).toD)) = _
  rw [ToD.td (s := s) x]
  rfl
theorem rq_frz [t : ToD s e] (h : RQ (fe ρ) m (rO s)) : RQ (frzE fe ρ) m (rO (oF e)) := by
  simp only [RQ_eq] at *
  cases m with
  | bad => trivial
  | ex c =>
    have h : fe ρ = .ex c := h
    show frzE fe ρ = .ex c
    unfold frzE
    rw [h]
  | ok x =>
    have h : fe ρ = .ok (rO s x) := h
    exact pq_frz h
variable {κ : Type} [DecidableEq κ]
theorem isdic_D {ke : κ → Key} {d : Dc κ α} (hc : a.o.dic = eDk ke e d) : isdic a = true := by
  unfold isdic
  rw [hc]
  rfl
theorem o_dget {ke : κ → Key} [Inj ke] {f : κ → D} [KeyE ke f] {d : Dc κ α} {k : κ} (hc : a.o.dic = eDk ke e d) (hb : b.d = f k) : gGet a b = .ok (rO (oF (eO e)) (dg d k)) := by
  unfold gGet
  rw [dget_D (ke := ke) hc hb]
  cases dg d k <;> rfl
theorem pq_dget {ke : κ → Key} [Inj ke] {f : κ → D} [KeyE ke f] {d : Dc κ α} {k : κ} (ha : fa ρ = .ok a) (hb : fb ρ = .ok b) (hc : a.o.dic = eDk ke e d) (hk : b.d = f k) : dgetE fa fb ρ = .ok (rO (oF (eO e)) (dg d k)) := by
  unfold dgetE Rs.bind
  rw [ha]
  dsimp only
  rw [isdic_D hc, if_pos rfl, hb]
  exact o_dget hc hk
theorem rq_dget {ke : κ → Key} [Inj ke] {f : κ → D} [KeyE ke f] {d : Dc κ α} {mb : M κ} {sb : κ → O} [tb : ToD sb f] (ha : fa ρ = .ok a) (hb : RQ (fb ρ) mb (rO sb)) (hc : a.o.dic = eDk ke e d) : RQ (dgetE fa fb ρ) (mb.bind fun k => .ok (dg d k)) (rO (oF (eO e))) := by
  simp only [RQ_eq] at *
  cases mb with
  | bad => trivial
  | ex c =>
    have h : fb ρ = .ex c := hb
    show dgetE fa fb ρ = .ex c
    unfold dgetE Rs.bind
    rw [ha]
    dsimp only
    rw [isdic_D hc, if_pos rfl, h]
  | ok k =>
    have h : fb ρ = .ok (rO sb k) := hb
    exact pq_dget (ke := ke) ha h hc (ToD.td (s := sb) k)
/-! ### for k in d -/
class KdE (ke : κ → Key) (f : outParam (κ → D)) : Prop where
  kd : ∀ k, kD (ke k) = f k
instance : KdE kI eI := ⟨fun _ => rfl⟩
instance : KdE kS eS := ⟨fun _ => rfl⟩
theorem sim_forD {ke : κ → Key} {f : κ → D} [KdE ke f] {d : Dc κ α} {i : Nat} {tb : DB} {bd : DS} {is : List Nat} {m : M γ} {P : γ → SR → Prop} (hi : ρ[i]? = some (some (oDk ke e d))) (hr : ρ.set i (some (oF (eDk ke e) d)) = ρ1)
    (h : Sim (forS (fun _ => .ok (d.map fun p => f p.1)) tb bd is ρ1) m P) : Sim (forD i tb bd is ρ) m P := by
  have e1 : forD i tb bd is ρ = forS (fun _ => .ok (d.map fun p => f p.1)) tb bd is ρ1 := by
    unfold forD forS
    rw [hi]
    show loopS (turnS tb bd is) ((d.map fun p => ke p.1).map kD) (ρ.set i (some (.fz (.dK (d.map fun p => ke p.1) (d.map fun p => e p.2))))) = _
    rw [← hr, List.map_map]
    have : (kD ∘ fun (p : κ × α) => ke p.1) = fun p => f p.1 := funext fun p => KdE.kd p.1
    rw [this]
    rfl
  rw [e1]
  exact h
theorem iq_cst {f : κ → D} {d : List (κ × α)} : IQ (Ri.ok (d.map fun p => f p.1)) (.ok (d.map (·.1))) f := by
  simp only [IQ_eq]
  show Ri.ok (d.map fun p => f p.1) = .ok ((d.map (·.1)).map f)
  rw [List.map_map]
  rfl
/-! ### pop as a value -/
def popLM (xs : List α) : M (α × List α) := match xs.getLast? with
  | some a => .ok (a, xs.dropLast)
  | none => .bad
def popAtV (xs : List α) (n : Int) : M (α × List α) := if decide (-(2 ^ 63) ≤ n) && decide (n < 2 ^ 63) then (match ixN xs.length n with
  | some j => match xs[j]? with
    | some a => .ok (a, xs.eraseIdx j)
    | none => .bad
  | none => .bad) else .bad
theorem flatSlot_L {i : Nat} {xs : List α} (h : ρ[i]? = some (some (oL (oF e) xs))) : flatSlot ρ i = some (xs.map e) := by
  unfold flatSlot
  rw [h]
  show allFz (xs.map (oF e)) = _
  have : xs.map (oF e) = (xs.map e).map O.fz := by rw [List.map_map]; rfl
  rw [this, allFz_map]
theorem oL_fz {xs : List α} : oL (oF e) xs = .lst ((xs.map e).map O.fz) := by
  show O.lst (xs.map (oF e)) = _
  rw [List.map_map]
  rfl
theorem sim_pop {i j : Nat} {xs : List α} (h : ρ[i]? = some (some (oL (oF e) xs))) (hj : (decide (j < ρ.length) && i != j) = true) {upd : α × List α → Rho} (hu : ∀ p, (ρ.set i (some (oL (oF e) p.2))).set j (some (oF e p.1)) = upd p) : Sim (popS j i ρ) (popLM xs) (Np upd) := by
  simp only [Sim_eq]
  have hs : flatSlot ρ i = some (xs.map e) := flatSlot_L h
  unfold popLM
  cases hl : xs.getLast? with
  | none => trivial
  | some a =>
    show popS j i ρ = .nx (upd (a, xs.dropLast))
    unfold popS
    rw [hs]
    dsimp only
    rw [List.getLast?_map, hl]
    show (if (decide (j < ρ.length) && i != j) = true then _ else _) = _
    rw [if_pos hj, ← hu, oL_fz]
    dsimp only
    rw [List.map_dropLast, List.map_dropLast]
    simp [List.map_dropLast, oF]
theorem popAt_V {i : Nat} {xs : List α} {n : Int} {p : α × List α} (h : ρ[i]? = some (some (oL (oF e) xs))) (hp : popAtV xs n = .ok p) : popAt ρ i n = some (e p.1, p.2.map e) := by
  unfold popAtV at hp
  unfold popAt
  rw [flatSlot_L h]
  dsimp only
  split at hp
  · rename_i hb
    rw [if_pos hb, List.length_map]
    split at hp
    · rename_i j ej
      split at hp
      · rename_i a ea
        have hp := M.ok.inj hp
        subst hp
        try rw [ej]
        try dsimp only
        rw [List.getElem?_map, ea]
        show some (e a, (xs.map e).eraseIdx j) = some (e a, (xs.eraseIdx j).map e)
        rw [List.eraseIdx_eq_take_drop_succ, List.eraseIdx_eq_take_drop_succ, List.map_append, List.map_take, List.map_drop]
      · cases hp
    · cases hp
  · cases hp
theorem popAtV_ne {xs : List α} {n : Int} {c : Str} : popAtV xs n ≠ .ex c := by
  unfold popAtV
  intro h
  split at h
  · split at h
    · split at h <;> cases h
    · cases h
  · cases h
theorem sim_popAt_p {i j : Nat} {xs : List α} {n : Int} (h : ρ[i]? = some (some (oL (oF e) xs))) (hj : (decide (j < ρ.length) && i != j) = true) (hb : fe ρ = .ok (rO (oF eI) n)) {upd : α × List α → Rho} (hu : ∀ p, (ρ.set i (some (oL (oF e) p.2))).set j (some (oF e p.1)) = upd p) : Sim (popAtS j i fe ρ) (popAtV xs n) (Np upd) := by
  simp only [Sim_eq]
  cases hp : popAtV xs n with
  | bad => trivial
  | ex c => exact absurd hp popAtV_ne
  | ok p =>
    show popAtS j i fe ρ = .nx (upd p)
    unfold popAtS
    rw [flatSlot_L h]
    simp only [Option.isSome_some, Bool.true_and]
    rw [if_pos hj, hb]
    show (match popAt ρ i n with | some (d, es) => SR.nx ((ρ.set i (some (.lst (es.map O.fz)))).set j (some (.fz d))) | none => .bad) = _
    rw [popAt_V h hp, ← hu, oL_fz]
    rfl
theorem sim_popAt {i j : Nat} {xs : List α} {mn : M Int} (h : ρ[i]? = some (some (oL (oF e) xs))) (hj : (decide (j < ρ.length) && i != j) = true) (hb : RQ (fe ρ) mn (rO (oF eI))) {upd : α × List α → Rho} (hu : ∀ p, (ρ.set i (some (oL (oF e) p.2))).set j (some (oF e p.1)) = upd p) : Sim (popAtS j i fe ρ) (mn.bind fun n => popAtV xs n) (Np upd) := by
  cases mn with
  | bad => simp only [Sim_eq]; trivial
  | ex c =>
    simp only [Sim_eq, RQ_eq] at *
    have hb : fe ρ = .ex c := hb
    refine ⟨ρ, ?_⟩
    unfold popAtS
    rw [flatSlot_L h]
    simp only [Option.isSome_some, Bool.true_and]
    rw [if_pos hj, hb]
  | ok n =>
    simp only [RQ_eq] at hb
    exact sim_popAt_p h hj hb hu
def appPopV (xs ys : List α) (n : Int) : M (List α × List α) := (popAtV xs n).bind fun p => (appM ys p.1).bind fun zs => .ok (p.2, zs)
theorem sim_appPop_p {i j : Nat} {xs ys : List α} {n : Int} (h : ρ[i]? = some (some (oL (oF e) xs))) (h2 : ρ[j]? = some (some (oL (oF e) ys))) (hj : (i != j) = true) (hb : fe ρ = .ok (rO (oF eI) n)) {upd : List α × List α → Rho} (hu : ∀ p, (ρ.set i (some (oL (oF e) p.1))).set j (some (oL (oF e) p.2)) = upd p) : Sim (appPopS j i fe ρ) (appPopV xs ys n) (Np upd) := by
  simp only [Sim_eq]
  unfold appPopV
  cases hp : popAtV xs n with
  | bad => trivial
  | ex c => exact absurd hp popAtV_ne
  | ok p =>
    rw [M.bind_ok]
    unfold appM
    by_cases hl : ys.length < lim
    · rw [if_pos hl, M.bind_ok]
      show appPopS j i fe ρ = .nx (upd (p.2, ys ++ [p.1]))
      unfold appPopS
      rw [flatSlot_L h]
      simp only [Option.isSome_some, Bool.true_and]
      rw [if_pos hj, hb]
      show (match popAt ρ i n with | some (d, es) => _ | none => SR.bad) = _
      rw [popAt_V h hp]
      dsimp only
      rw [flatSlot_L h2]
      dsimp only
      rw [if_pos (by rw [List.length_map]; exact decide_eq_true hl), ← hu, oL_fz, oL_fz]
      simp [List.map_append]
    · rw [if_neg hl]
      trivial
theorem sim_appPop {i j : Nat} {xs ys : List α} {mn : M Int} (h : ρ[i]? = some (some (oL (oF e) xs))) (h2 : ρ[j]? = some (some (oL (oF e) ys))) (hj : (i != j) = true) (hb : RQ (fe ρ) mn (rO (oF eI))) {upd : List α × List α → Rho} (hu : ∀ p, (ρ.set i (some (oL (oF e) p.1))).set j (some (oL (oF e) p.2)) = upd p) : Sim (appPopS j i fe ρ) (mn.bind fun n => appPopV xs ys n) (Np upd) := by
  cases mn with
  | bad => simp only [Sim_eq]; trivial
  | ex c =>
    simp only [Sim_eq, RQ_eq] at *
    have hb : fe ρ = .ex c := hb
    refine ⟨ρ, ?_⟩
    unfold appPopS
    rw [flatSlot_L h, flatSlot_L h2]
    simp only [Option.isSome_some, Bool.true_and]
    rw [if_pos hj, hb]
    rfl
  | ok n =>
    simp only [RQ_eq] at hb
    exact sim_appPop_p h h2 hj hb hu
end
end DL

namespace DL
open PySem PySem.Spec L2
/-! ### what goes through, with what it gives -/
def Ok {α : Type} (m : M α) (P : α → Prop) : Prop := ∃ a, m = .ok a ∧ P a
section
variable {α β γ δ : Type} {m : M α} {f : α → M β} {P P' : α → Prop} {Q : β → Prop}
theorem Ok.of {a : α} (h : P a) : Ok (.ok a) P := ⟨a, rfl, h⟩
theorem Ok.eq {a : α} (h : m = .ok a) (p : P a) : Ok m P := ⟨a, h, p⟩
theorem Ok.mono (h : Ok m P) (k : ∀ a, P a → P' a) : Ok m P' := let ⟨a, e, p⟩ := h; ⟨a, e, k a p⟩
theorem Ok.get {a : α} (h : Ok m (fun x => x = a)) : m = .ok a := by obtain ⟨b, e, p⟩ := h; rw [e, p]
theorem Ok.call (h : Ok m P) (k : ∀ a, P a → Ok (f a) Q) : Ok (m.bind f) Q := by
  obtain ⟨a, e, p⟩ := h
  rw [e, M.bind_ok]
  exact k a p
theorem Ok.eqc {a : α} (h : m = .ok a) (k : Ok (f a) Q) : Ok (m.bind f) Q := by rw [h, M.bind_ok]; exact k
theorem b_ok {a : α} (k : Ok (f a) Q) : Ok ((M.ok a).bind f) Q := k
theorem b_bind {m : M γ} {g : γ → M α} (k : Ok (m.bind fun x => (g x).bind f) Q) : Ok ((m.bind g).bind f) Q := by
  cases m with
  | ok a => exact k
  | ex c => obtain ⟨_, e, _⟩ := k; cases e
  | bad => obtain ⟨_, e, _⟩ := k; cases e
theorem b_lt {a : α} (k : Ok (f a) Q) : Ok (lt a f) Q := by rw [lt_eq]; exact k
theorem b_ltb {a : γ} {g : γ → M α} (k : Ok ((g a).bind f) Q) : Ok ((lt a g).bind f) Q := by rw [lt_eq]; exact k
theorem e_end (k : Ok (m.bind fun a => .ok a) P) : Ok m P := by
  obtain ⟨a, e, p⟩ := k
  cases m with
  | ok b => exact ⟨a, e, p⟩
  | ex c => cases e
  | bad => cases e
theorem b_nox (k : Ok (m.bind f) Q) : Ok (m.nox.bind f) Q := by
  cases m with
  | ok a => exact k
  | ex c => obtain ⟨_, e, _⟩ := k; cases e
  | bad => obtain ⟨_, e, _⟩ := k; cases e
theorem e_nox (k : Ok m P) : Ok m.nox P := by obtain ⟨a, rfl, p⟩ := k; exact ⟨a, rfl, p⟩
theorem e_ite {c : Bool} {a b : M α} (h1 : c = true → Ok a P) (h2 : c = false → Ok b P) : Ok (if c then a else b) P := by
  cases c with
  | true => exact h1 rfl
  | false => exact h2 rfl
theorem e_T {c : Bool} {a b : M α} (hc : c = true) (h : Ok a P) : Ok (if c then a else b) P := by rw [hc]; exact h
theorem e_F {c : Bool} {a b : M α} (hc : c = false) (h : Ok b P) : Ok (if c then a else b) P := by rw [hc]; exact h
theorem b_ite {c : Bool} {a b : M α} (h1 : c = true → Ok (a.bind f) Q) (h2 : c = false → Ok (b.bind f) Q) : Ok ((if c then a else b).bind f) Q := by
  cases c with
  | true => exact h1 rfl
  | false => exact h2 rfl
theorem b_T {c : Bool} {a b : M α} (hc : c = true) (h : Ok (a.bind f) Q) : Ok ((if c then a else b).bind f) Q := by rw [hc]; exact h
theorem b_F {c : Bool} {a b : M α} (hc : c = false) (h : Ok (b.bind f) Q) : Ok ((if c then a else b).bind f) Q := by rw [hc]; exact h
theorem e_optN {x : Option γ} {a : M α} {g : γ → M α} (hx : x = none) (h : Ok a P) : Ok (optC x a g) P := by rw [hx]; exact h
theorem e_optS {x : Option γ} {y : γ} {a : M α} {g : γ → M α} (hx : x = some y) (h : Ok (g y) P) : Ok (optC x a g) P := by rw [hx]; exact h
theorem b_optN {x : Option γ} {a : M α} {g : γ → M α} (hx : x = none) (h : Ok (a.bind f) Q) : Ok ((optC x a g).bind f) Q := by rw [hx]; exact h
theorem b_optS {x : Option γ} {y : γ} {a : M α} {g : γ → M α} (hx : x = some y) (h : Ok ((g y).bind f) Q) : Ok ((optC x a g).bind f) Q := by rw [hx]; exact h
theorem e_opt {x : Option γ} {a : M α} {g : γ → M α} (h1 : x = none → Ok a P) (h2 : ∀ y, x = some y → Ok (g y) P) : Ok (optC x a g) P := by
  cases x with
  | none => exact h1 rfl
  | some y => exact h2 y rfl
theorem b_opt {x : Option γ} {a : M α} {g : γ → M α} (h1 : x = none → Ok (a.bind f) Q) (h2 : ∀ y, x = some y → Ok ((g y).bind f) Q) : Ok ((optC x a g).bind f) Q := by
  cases x with
  | none => exact h1 rfl
  | some y => exact h2 y rfl
theorem b_unO {x : Option α} {y : α} (hx : x = some y) (h : Ok (f y) Q) : Ok ((unO x).bind f) Q := by rw [hx]; exact h
theorem b_grd {b : Bool} {a : α} (hb : b = true) (h : Ok (f a) Q) : Ok ((grd b a).bind f) Q := by rw [grd_ok hb]; exact h
theorem b_fl {m : M (Fl γ δ)} {g : γ → M δ} {P : δ → Prop} (h : Ok m fun r => match r with | .nx b => Ok (g b) P | .rt a => P a) : Ok (m.fl g) P := by
  obtain ⟨r, rfl, h⟩ := h
  cases r with
  | nx b => exact h
  | rt a => exact ⟨a, rfl, h⟩
theorem b_fln {m : M (Fl γ δ)} {g : γ → M δ} {P : δ → Prop} {b : γ} (h : m = .ok (.nx b)) (k : Ok (g b) P) : Ok (m.fl g) P := by rw [h]; exact k
end
section
variable {α β γ : Type} {Q : β → Prop}
theorem b_ix [Inhabited α] {f : α → M β} {xs : List α} {i : Int} (k : Ok (f (getZ xs i)) Q) (h0 : 0 ≤ i := by omega) (h : i < xs.length := by omega) : Ok ((ix xs i).bind f) Q := by rw [ix_ok h0 h]; exact k
theorem b_mod {f : Int → M β} {i j : Int} (k : Ok (f (i % j)) Q) (h : 0 < j := by omega) : Ok ((modM i j).bind f) Q := by rw [modM_ok h]; exact k
theorem b_fdiv {f : Int → M β} {i j : Int} (k : Ok (f (i / j)) Q) (h : 0 < j := by omega) (h2 : j < 18446744073709551616 := by omega) : Ok ((fdivM i j).bind f) Q := by rw [fdivM_ok h h2]; exact k
theorem b_mull {f : Int → M β} {i j : Int} (k : Ok (f (i * j)) Q) (h : -18446744073709551616 < i := by omega) (h2 : i < 18446744073709551616 := by omega) : Ok ((mulM i j).bind f) Q := by rw [mulM_l h h2]; exact k
theorem b_mulr {f : Int → M β} {i j : Int} (k : Ok (f (i * j)) Q) (h : -18446744073709551616 < j := by omega) (h2 : j < 18446744073709551616 := by omega) : Ok ((mulM i j).bind f) Q := by rw [mulM_r h h2]; exact k
theorem b_app {f : List α → M β} {xs : List α} {x : α} (k : Ok (f (xs ++ [x])) Q) (h : xs.length < 16777216 := by omega) : Ok ((appM xs x).bind f) Q := by rw [appM_ok h]; exact k
theorem b_cat {f : List α → M β} {xs ys : List α} (k : Ok (f (xs ++ ys)) Q) (h : xs.length + ys.length ≤ 16777216 := by omega) : Ok ((catM xs ys).bind f) Q := by rw [catM_ok h]; exact k
theorem b_rng {f : List Int → M β} {lo hi : Int} (k : Ok (f (rng lo hi)) Q) (h : -4611686018427387904 ≤ lo := by omega) (h2 : lo < 4611686018427387904 := by omega) (h3 : -4611686018427387904 ≤ hi := by omega) (h4 : hi < 4611686018427387904 := by omega) : Ok ((rngM lo hi).bind f) Q := by rw [rngM_ok h h2 h3 h4]; exact k
theorem b_rngL {f : List Int → M β} {lo hi : Int} (k : Ok (f (rng lo hi)) Q) (h : -4611686018427387904 ≤ lo := by omega) (h2 : lo < 4611686018427387904 := by omega) (h3 : -4611686018427387904 ≤ hi := by omega) (h4 : hi < 4611686018427387904 := by omega) (h5 : hi - lo ≤ 16777216 := by omega) : Ok ((rngL lo hi).bind f) Q := by rw [rngL_ok h h2 h3 h4 h5]; exact k
theorem b_set {f : List α → M β} {xs : List α} {i : Int} {x : α} (k : Ok (f (xs.set i.toNat x)) Q) (h0 : 0 ≤ i := by omega) (h : i < xs.length := by omega) : Ok ((setM xs i x).bind f) Q := by rw [setZ_ok h0 h]; exact k
theorem b_srtS {f : List Int → M β} {xs : List Int} (k : Ok (f (sortU xs)) Q) (h : xs.length < 4000 := by omega) : Ok ((sortS xs).bind f) Q := by rw [sortS_ok h]; exact k
theorem b_dp [DecidableEq γ] {f : Dc γ α → M β} {d : Dc γ α} {k0 : γ} {v : α} (k : Ok (f (dp d k0 v)) Q) (h : d.length < 16777216 := by omega) : Ok ((dpM d k0 v).bind f) Q := by rw [dpM_ok h]; exact k
theorem b_compP {f : γ → α} {g : List α → M β} {xs : List γ} (k : Ok (g (xs.map f)) Q) (h : xs.length ≤ 16777216 := by omega) : Ok ((compP f xs).bind g) Q := by rw [compP_ok h]; exact k
theorem b_compFP {p : γ → Bool} {f : γ → α} {g : List α → M β} {xs : List γ} (k : Ok (g ((xs.filter p).map f)) Q) (h : xs.length ≤ 16777216 := by omega) : Ok ((compFP p f xs).bind g) Q := by rw [compFP_ok h]; exact k
theorem b_compM {f : γ → M α} {g : List α → M β} {xs : List γ} (P : γ → α → Prop) (hl : xs.length ≤ 16777216) (h : ∀ x ∈ xs, Ok (f x) (P x)) (k : ∀ ys : List α, ys.length = xs.length → (∀ i (h : i < xs.length) (h' : i < ys.length), P xs[i] ys[i]) → Ok (g ys) Q) : Ok ((compM f xs).bind g) Q := by
  obtain ⟨ys, e, l, q⟩ := compM_ex hl h
  rw [e]
  exact k ys l q
theorem b_compMe {f : γ → M α} {g : List α → M β} {xs : List γ} (h : γ → α) (hf : ∀ x ∈ xs, f x = .ok (h x)) (k : Ok (g (xs.map h)) Q) (hl : xs.length ≤ 16777216 := by omega) : Ok ((compM f xs).bind g) Q := by
  rw [compM_ok hl hf]
  exact k
theorem b_compF {p : γ → M Bool} {f : γ → M α} {g : List α → M β} {xs : List γ} (q : γ → Bool) (h : γ → α) (hp : ∀ x ∈ xs, p x = .ok (q x)) (hf : ∀ x ∈ xs, q x = true → f x = .ok (h x)) (k : Ok (g ((xs.filter q).map h)) Q) (hl : xs.length ≤ 16777216 := by omega) : Ok ((compF p f xs).bind g) Q := by
  rw [compF_ok hl hp hf]
  exact k
theorem b_for {step : γ → α → M α} {xs : List γ} {b0 : α} {f : α → M β} (I : List γ → α → Prop) (h0 : I [] b0) (hs : ∀ ys x zs b, xs = ys ++ x :: zs → I ys b → Ok (step x b) (I (ys ++ [x]))) (k : ∀ b, I xs b → Ok (f b) Q) : Ok ((forM step xs b0).bind f) Q := by
  obtain ⟨b, e, h⟩ := forM_inv I h0 hs
  rw [e]
  exact k b h
theorem b_forR {step : Int → α → M α} {lo hi : Int} {b0 : α} {f : α → M β} (I : Int → α → Prop) (h0 : I lo b0) (hs : ∀ x b, lo ≤ x → x < hi → I x b → Ok (step x b) (I (x + 1))) (k : ∀ b, (lo ≤ hi → I hi b) → (hi < lo → b = b0) → Ok (f b) Q) : Ok ((forM step (rng lo hi) b0).bind f) Q := by
  obtain ⟨b, e, h⟩ := forM_inv (step := step) (xs := rng lo hi) (b0 := b0) (fun ys b => I (lo + ys.length) b ∧ (ys = [] → b = b0)) ⟨by simpa using h0, fun _ => rfl⟩ fun ys x zs b e ⟨hi', _⟩ => by
    obtain ⟨hx, hx2⟩ := rng_split e
    subst hx
    obtain ⟨b', e', h'⟩ := hs _ _ (by omega) hx2 hi'
    refine ⟨b', e', ?_, fun e => by simp at e⟩
    rw [List.length_append, List.length_singleton]
    have : lo + ((ys.length + 1 : Nat) : Int) = lo + (ys.length : Nat) + 1 := by omega
    rw [this]
    exact h'
  rw [e]
  refine k b (fun hl => ?_) fun hl => h.2 ?_
  · have := h.1
    rw [rng_len] at this
    have e2 : lo + ((hi - lo).toNat : Int) = hi := by omega
    rw [e2] at this
    exact this
  · refine List.length_eq_zero_iff.mp ?_
    rw [rng_len]
    omega
theorem e_forF {δ : Type} {step : γ → α → M (Fl α δ)} {xs : List γ} {b0 : α} (I : List γ → α → Prop) (R : δ → Prop) {S : Fl α δ → Prop} (h0 : I [] b0) (hs : ∀ ys x zs b, xs = ys ++ x :: zs → I ys b → Ok (step x b) fun r => match r with | .nx b' => I (ys ++ [x]) b' | .rt a => R a) (k : ∀ b, I xs b → S (.nx b)) (k2 : ∀ a, R a → S (.rt a)) : Ok (forF step xs b0) S := by
  rcases forF_or (step := step) (xs := xs) (b0 := b0) I R h0 (fun ys x zs b e h => by
    obtain ⟨r, e1, h1⟩ := hs ys x zs b e h
    cases r with
    | nx b' => exact .inl ⟨b', e1, h1⟩
    | rt a => exact .inr ⟨a, e1, h1⟩) with ⟨b, e, h⟩ | ⟨a, e, h⟩
  · exact ⟨_, e, k b h⟩
  · exact ⟨_, e, k2 a h⟩
theorem b_while {c : α → M Bool} {t : α → M α} {b0 : α} {f : α → M β} (μ : α → Nat) (I : α → Prop) (h0 : I b0) (hμ : μ b0 < 1000000000) (hs : ∀ b, I b → Ok (c b) fun z => if z then Ok (t b) (fun b' => I b' ∧ μ b' < μ b) else Ok (f b) Q) : Ok ((whileM c t fuel b0).bind f) Q := by
  obtain ⟨b, e, h⟩ := whileM_ok (c := c) (t := t) (b0 := b0) μ I (fun b => Ok (f b) Q) h0 hμ fun b hb => by
    obtain ⟨z, ez, h⟩ := hs b hb
    cases z with
    | false => exact .inl ⟨ez, h⟩
    | true =>
      obtain ⟨b', e', i', l'⟩ := h
      exact .inr ⟨ez, b', e', i', l'⟩
  rw [e]
  exact h
end
/-! ### shared defs of the laws -/
theorem mixed_body {ns : List Int} (hn : ns.length ≤ 63) (k : Int) (h0 : 0 ≤ k := by omega) (h1 : k < 1000000 := by omega) : Ok (((((mulM k k).bind fun v3 => M.ok (v3 * 7919)).bind fun v5 => M.ok (v5 + (104729 * k))).bind fun v7 => M.ok (v7 + 11)).bind fun number9 =>
    (if decide (0 < (ns.length : Int)) then
    ((((modM k (ns.length : Int)).bind fun v23 => ix ns v23).bind fun v24 => M.ok (v24 % (10 ^ 30 : Int))).bind fun cell26 =>
    ((((fdivM k (ns.length : Int)).bind fun v28 => M.ok (48271 + v28)).bind fun v30 => mulM cell26 v30).bind fun v32 => M.ok (number9 + v32)).bind fun number33 =>
    M.ok number33)
    else (M.ok number9)).bind fun (b34 : Int) =>
    M.ok (b34 % 2147483629)) (fun i => 0 ≤ i ∧ i < 2147483629) := by
  by_cases hz : 0 < (ns.length : Int)
  · have a1 : 0 ≤ k % (ns.length : Int) := Int.emod_nonneg _ (by omega)
    have a2 : k % (ns.length : Int) < ns.length := Int.emod_lt_of_pos _ hz
    have a3 := Int.ediv_nonneg h0 (show (0 : Int) ≤ ns.length by omega)
    have a4 := Int.ediv_le_self (ns.length : Int) h0
    simp (disch := omega) only [mulM_l, mulM_r, modM_ok, fdivM_ok, ix_ok, M.bind_ok, hz, decide_true, if_true]
    exact ⟨_, rfl, by omega, by omega⟩
  · simp (disch := omega) only [mulM_l, M.bind_ok, hz, decide_false, Bool.false_eq_true, if_false]
    exact ⟨_, rfl, by omega, by omega⟩
theorem dp_keys {κ α : Type} [DecidableEq κ] {d : Dc κ α} {k : κ} {v : α} : (dp d k v).map (·.1) = if k ∈ d.map (·.1) then d.map (·.1) else d.map (·.1) ++ [k] := by
  unfold dp
  by_cases h : k ∈ d.map (·.1)
  · rw [if_pos h, if_pos h, List.map_map]
    refine List.map_congr_left fun p _ => ?_
    show (if p.1 = k then (p.1, v) else p).1 = p.1
    split <;> rfl
  · rw [if_neg h, if_neg h, List.map_append]
    rfl
theorem mem_dp {κ α : Type} [DecidableEq κ] {d : Dc κ α} {k x : κ} {v : α} : x ∈ (dp d k v).map (·.1) ↔ x = k ∨ x ∈ d.map (·.1) := by
  rw [dp_keys]
  split
  · rename_i h
    exact ⟨.inr, fun e => e.elim (fun e => e ▸ h) id⟩
  · rw [List.mem_append, List.mem_singleton]
    exact or_comm
theorem nodup_dp {κ α : Type} [DecidableEq κ] {d : Dc κ α} {k : κ} {v : α} (h : (d.map (·.1)).Nodup) : ((dp d k v).map (·.1)).Nodup := by
  rw [dp_keys]
  split
  · exact h
  · rename_i hk
    refine List.nodup_append.mpr ⟨h, List.nodup_cons.mpr ⟨(fun h => nomatch h), List.nodup_nil⟩, fun a ha b hb e => hk ?_⟩
    rw [List.mem_singleton.mp hb] at e
    exact e ▸ ha
theorem isSome_dg {κ α : Type} [DecidableEq κ] : ∀ {d : Dc κ α} {k : κ}, (dg d k).isSome = true ↔ k ∈ d.map (·.1)
  | [], k => ⟨fun h => (nomatch h), fun h => (nomatch h)⟩
  | (a, v) :: d, k => by
    unfold dg
    rw [List.map_cons, List.mem_cons]
    by_cases h : a = k
    · rw [if_pos h]
      exact ⟨fun _ => .inl h.symm, fun _ => rfl⟩
    · rw [if_neg h, isSome_dg]
      exact ⟨.inr, fun e => e.elim (fun e => absurd e.symm h) id⟩
theorem row_loop {c n num : Int} (hn : 0 < n := by omega) (hn2 : n < 18446744073709551616 := by omega) (hc : 0 ≤ c := by omega) (hc2 : c ≤ 60 := by omega) : Ok ((rngM 0 c).bind fun xs23 => forM (fun (step12 : Int) (b18 : (Int × (Dc Int Bool))) =>
    (((modM b18.1 n).nox).bind fun v21 => dpM b18.2 v21 true).bind fun ways19 =>
    (fdivM b18.1 n).bind fun number22 =>
    M.ok (number22, ways19)) xs23 (num, ([] : (Dc Int Bool)))) (fun b => b.2.length ≤ c.toNat ∧ (∀ w ∈ b.2.map (·.1), 0 ≤ w ∧ w < n) ∧ (b.2.map (·.1)).Nodup ∧ (0 < c → b.2 ≠ [])) := by
  refine e_end (b_bind (b_rng (b_forR (fun k b => (b.2.length : Int) ≤ k ∧ (∀ w ∈ b.2.map (·.1), 0 ≤ w ∧ w < n) ∧ (b.2.map (·.1)).Nodup ∧ (0 < k → b.2 ≠ [])) ⟨by simp, by simp, by simp, by simp⟩ (fun x b h0 h1 ⟨i1, i2, i3, i4⟩ => ?_) fun b h1 h2 => ?_)))
  · refine b_bind (b_nox (b_mod (b_dp (b_fdiv (.of ?_)))))
    have l := dp_len (d := b.2) (k := b.1 % n) (v := true)
    refine ⟨by dsimp only; omega, fun w hw => ?_, nodup_dp i3, fun _ e => ?_⟩
    · rcases mem_dp.mp hw with rfl | hw
      · exact ⟨Int.emod_nonneg _ (by omega), Int.emod_lt_of_pos _ hn⟩
      · exact i2 w hw
    · have : b.1 % n ∈ (dp b.2 (b.1 % n) true).map (·.1) := mem_dp.mpr (.inl rfl)
      rw [show dp b.2 (b.1 % n) true = [] from e] at this
      cases this
  · obtain ⟨j1, j2, j3, j4⟩ := h1 (by omega)
    exact .of ⟨by omega, j2, j3, j4⟩
theorem sortD_ok {α : Type} {d : Dc Int α} (h : d.length < 64) : sortD d = .ok (sortI (d.map (·.1))) := by
  unfold sortD
  exact if_pos h
end DL

namespace DL
open PySem PySem.Spec L2
namespace PL
section
variable {game : List Row} {hand : Int} {part : Int → Bool} {a : Int} {ls : List (List Int)}
theorem cell_body {ns : List Int} (k : Int) (h0 : 0 ≤ k := by omega) (h1 : k < 1000000 := by omega) : Ok (if decide ((ns.length : Int) = 0) then
  ((((mulM k k).bind fun v3 => M.ok (v3 * 40692)).bind fun v5 => M.ok (v5 + (7 * k))).bind fun v7 => M.ok (v7 % 2147483647))
  else ((((modM k (ns.length : Int)).bind fun v10 => ix ns v10).bind fun v11 => M.ok (v11 % 2305843009213693951)).bind fun number13 =>
  if decide (k < (ns.length : Int)) then
  (M.ok number13)
  else ((((mulM k k).bind fun v14 => M.ok (v14 * 40692)).bind fun v17 => M.ok ((number13 * 48271) + v17)).bind fun v18 => M.ok (v18 % 2305843009213693951)))) (fun i => 0 ≤ i ∧ i < 2305843009213693951) := by
  by_cases hz : (ns.length : Int) = 0
  · simp (disch := omega) only [mulM_l, M.bind_ok, hz, decide_true, if_true]
    exact ⟨_, rfl, by omega⟩
  · have hl : 0 < (ns.length : Int) := by omega
    have a1 : 0 ≤ k % (ns.length : Int) := Int.emod_nonneg _ (by omega)
    have a2 : k % (ns.length : Int) < ns.length := Int.emod_lt_of_pos _ hl
    simp (disch := omega) only [mulM_l, M.bind_ok, hz, decide_false, Bool.false_eq_true, if_false, modM_ok, ix_ok]
    split
    · exact ⟨_, rfl, by omega⟩
    · exact ⟨_, rfl, by omega⟩
/-! ### depths -/
theorem dep_bnd (ls : List (List Int)) (a : Int) : dep ls a < ls.length := by
  induction ls with
  | nil => exact (show (-1 : Int) < ((0 : Nat) : Int) by omega)
  | cons l ls ih =>
    unfold dep
    rw [List.length_cons]
    split
    · omega
    · split <;> omega
theorem dep_in (h : 0 ≤ dep ls a) : a ∈ ls.flatten := by
  have := dep_none (ls := ls) (a := a)
  by_cases hm : a ∈ ls.flatten
  · exact hm
  · have := this.mpr hm
    omega
theorem dep_own {layer : List Int} (L : Lays game hand part [] layer ls) (hI : In game a) (h : 0 < dep ls a) (hh : (getZ game a).1 = hand) : (∃ w ∈ wy game a, dep ls w = dep ls a - 1) ∧ ∀ w ∈ wy game a, 0 ≤ dep ls w → dep ls a - 1 ≤ dep ls w := by
  obtain ⟨j, hj⟩ : ∃ j : Nat, dep ls a = (j : Int) + 1 := ⟨(dep ls a - 1).toNat, by omega⟩
  have hp := dep_part L (a := a) (by omega)
  have h1 := (dep_iff L (j + 1) hI hp).mp ⟨by omega, by omega⟩
  have h2 : ¬ (a ∈ layer ∨ ((∃ w ∈ wy game a, 0 ≤ dep ls w ∧ dep ls w < j) ∧ ((getZ game a).1 = hand ∨ ∀ w ∈ wy game a, part w = true → 0 ≤ dep ls w ∧ dep ls w < j))) := fun h => by
    have := (dep_iff L j hI hp).mpr h
    omega
  have h3 : ∀ w ∈ wy game a, 0 ≤ dep ls w → (j : Int) ≤ dep ls w := fun w hw h0 => by
    rcases Int.lt_or_le (dep ls w) j with hl | hl
    · exact absurd (.inr ⟨⟨w, hw, h0, hl⟩, .inl hh⟩) h2
    · exact hl
  refine ⟨?_, fun w hw h0 => by have := h3 w hw h0; omega⟩
  rcases h1 with h1 | ⟨⟨w, hw, h0, hl⟩, _⟩
  · exact absurd (.inl h1) h2
  · have := h3 w hw h0
    exact ⟨w, hw, by omega⟩
theorem dep_oth {layer : List Int} (L : Lays game hand part [] layer ls) (hI : In game a) (h : 0 < dep ls a) (hh : (getZ game a).1 ≠ hand) : (∃ w ∈ wy game a, 0 ≤ dep ls w ∧ dep ls w < dep ls a) ∧ ∀ w ∈ wy game a, part w = true → 0 ≤ dep ls w ∧ dep ls w < dep ls a := by
  obtain ⟨j, hj⟩ : ∃ j : Nat, dep ls a = (j : Int) + 1 := ⟨(dep ls a - 1).toNat, by omega⟩
  have hp := dep_part L (a := a) (by omega)
  have h1 := (dep_iff L (j + 1) hI hp).mp ⟨by omega, by omega⟩
  have h2 : a ∉ layer := fun h => by
    have := (dep_iff L 0 hI hp).mpr (.inl h)
    omega
  rcases h1 with h1 | ⟨⟨w, hw, h0, hl⟩, h1⟩
  · exact absurd h1 h2
  · refine ⟨⟨w, hw, h0, by omega⟩, ?_⟩
    rcases h1 with h1 | h1
    · exact absurd h1 hh
    · intro w hw hp
      have := h1 w hw hp
      omega
/-- the law's or the program's dict of depths -/
structure DD (ls : List (List Int)) (d : Dc Int Int) : Prop where
  get : ∀ a, dg d a = if 0 ≤ dep ls a then some (dep ls a) else none
  keys : d.map (·.1) = ls.flatten
theorem depths_of_body (dj : ls.flatten.Nodup) (hl : ls.length ≤ 1000) (hs : ls.flatten.length ≤ 1000) : Ok (((rngM 0 (ls.length : Int)).bind fun xs25 => forM (fun (k2 : Int) (b14 : (Dc Int Int)) =>
  ((ix ls k2).bind fun xs24 => forM (fun (at_15 : Int) (b20 : (Dc Int Int)) =>
  (dpM b20 at_15 k2).bind fun found21 =>
  M.ok found21) xs24 b14).bind fun (b20 : (Dc Int Int)) =>
  M.ok b20) xs25 ([] : (Dc Int Int))).bind fun (b14 : (Dc Int Int)) =>
  M.ok b14) (DD ls) := by
  (repeat (first | with_reducible refine b_ok ?_ | with_reducible refine b_bind ?_ | with_reducible refine b_lt ?_ | with_reducible refine b_ltb ?_ | with_reducible refine b_nox ?_ | with_reducible refine b_ix ?_ | with_reducible refine b_mod ?_ | with_reducible refine b_fdiv ?_ | with_reducible refine b_mull ?_ | with_reducible refine b_mulr ?_ | with_reducible refine b_app ?_ | with_reducible refine b_cat ?_ | with_reducible refine b_rng ?_ | with_reducible refine b_rngL ?_ | with_reducible refine b_set ?_ | with_reducible refine b_srtS ?_ | with_reducible refine b_dp ?_ | with_reducible refine b_compP ?_ | with_reducible refine b_compFP ?_))
  refine b_for (fun ys d => (∀ a, dg d a = if 0 ≤ dep (ls.take ys.length) a then some (dep (ls.take ys.length) a) else none) ∧ d.map (·.1) = (ls.take ys.length).flatten) ⟨fun a => rfl, rfl⟩ (fun ys x zs d e ⟨i1, i2⟩ => ?_) fun d ⟨h1, h2⟩ => ?_
  · obtain ⟨hx, hx2⟩ := rng_split e
    have hx : x = (ys.length : Nat) := by omega
    subst hx
    have hk : ys.length < ls.length := by omega
    have hg : getZ ls (ys.length : Int) = ls[ys.length] := getZ_nat hk
    have tk : (ls.take (ys.length + 1)).flatten = (ls.take ys.length).flatten ++ ls[ys.length] := by
      rw [List.take_succ_eq_append_getElem hk, List.flatten_append]
      simp
    have split_ : ls = ls.take ys.length ++ ls[ys.length] :: ls.drop (ys.length + 1) := by
      rw [List.getElem_cons_drop, List.take_append_drop]
    have fl : (ls.take (ys.length + 1)).flatten.length ≤ ls.flatten.length := by
      have := congrArg (fun l => l.flatten.length) (List.take_append_drop (ys.length + 1) ls)
      simp only [List.flatten_append, List.length_append] at this
      omega
    have nd1 : ((ls.take (ys.length + 1)).flatten).Nodup := by
      have := dj
      rw [← List.take_append_drop (ys.length + 1) ls, List.flatten_append, List.nodup_append] at this
      exact this.1
    rw [tk] at nd1 fl
    rw [List.nodup_append] at nd1
    have hstep : ∀ a, dep (ls.take (ys.length + 1)) a = if 0 ≤ dep (ls.take ys.length) a then dep (ls.take ys.length) a else if a ∈ ls[ys.length] then ((ys.length : Nat) : Int) else -1 := fun a => by
      rw [List.take_succ_eq_append_getElem hk, dep_snoc, List.length_take, Nat.min_eq_left (by omega)]
    have hl2 : (ys ++ [((ys.length : Nat) : Int)]).length = ys.length + 1 := by simp
    rw [hl2, tk]
    (repeat (first | with_reducible refine b_ok ?_ | with_reducible refine b_bind ?_ | with_reducible refine b_lt ?_ | with_reducible refine b_ltb ?_ | with_reducible refine b_nox ?_ | with_reducible refine b_ix ?_ | with_reducible refine b_mod ?_ | with_reducible refine b_fdiv ?_ | with_reducible refine b_mull ?_ | with_reducible refine b_mulr ?_ | with_reducible refine b_app ?_ | with_reducible refine b_cat ?_ | with_reducible refine b_rng ?_ | with_reducible refine b_rngL ?_ | with_reducible refine b_set ?_ | with_reducible refine b_srtS ?_ | with_reducible refine b_dp ?_ | with_reducible refine b_compP ?_ | with_reducible refine b_compFP ?_))
    rw [hg]
    rw [List.length_append] at fl
    refine b_for (fun zs d => (∀ a, dg d a = if a ∈ zs then some (ys.length : Int) else if 0 ≤ dep (ls.take ys.length) a then some (dep (ls.take ys.length) a) else none) ∧ d.map (·.1) = (ls.take ys.length).flatten ++ zs) ⟨fun a => by rw [if_neg (by simp)]; exact i1 a, by rw [List.append_nil]; exact i2⟩ (fun zs y us d e ⟨i1, i2⟩ => ?_) fun d ⟨h1, h2⟩ => ?_
    · have l1 := congrArg List.length i2
      have l2 := congrArg List.length e
      rw [List.length_append, List.length_map] at l1
      rw [List.length_append, List.length_cons] at l2
      have ny : y ∉ (ls.take ys.length).flatten ++ zs := fun hm => by
        have hy : y ∈ ls[ys.length] := by rw [e]; simp
        rcases List.mem_append.mp hm with hm | hm
        · exact nd1.2.2 y hm y hy rfl
        · have := nd1.2.1
          rw [e, List.nodup_append] at this
          exact this.2.2 y hm y List.mem_cons_self rfl
      (repeat (first | with_reducible refine b_ok ?_ | with_reducible refine b_bind ?_ | with_reducible refine b_lt ?_ | with_reducible refine b_ltb ?_ | with_reducible refine b_nox ?_ | with_reducible refine b_ix ?_ | with_reducible refine b_mod ?_ | with_reducible refine b_fdiv ?_ | with_reducible refine b_mull ?_ | with_reducible refine b_mulr ?_ | with_reducible refine b_app ?_ | with_reducible refine b_cat ?_ | with_reducible refine b_rng ?_ | with_reducible refine b_rngL ?_ | with_reducible refine b_set ?_ | with_reducible refine b_srtS ?_ | with_reducible refine b_dp ?_ | with_reducible refine b_compP ?_ | with_reducible refine b_compFP ?_))
      refine .of ⟨fun a => ?_, ?_⟩
      · rw [dg_dp, i1 a]
        by_cases h : y = a
        · subst h
          rw [if_pos rfl, if_pos (by simp)]
        · rw [if_neg h]
          by_cases hz : a ∈ zs
          · rw [if_pos hz, if_pos (List.mem_append_left _ hz)]
          · rw [if_neg hz, if_neg (c := a ∈ zs ++ [y])]
            intro hm
            rcases List.mem_append.mp hm with hm | hm
            · exact hz hm
            · exact h (List.mem_singleton.mp hm).symm
      · rw [dp_keys, i2, if_neg ny, List.append_assoc]
    · refine .of ⟨fun a => ?_, h2⟩
      have g := dep_ge (ls.take ys.length) a
      rw [h1 a, hstep a]
      by_cases h0 : 0 ≤ dep (ls.take ys.length) a
      · have nm : a ∉ ls[ys.length] := fun hm => nd1.2.2 a (dep_in h0) a hm rfl
        rw [if_neg nm, if_pos h0, if_pos h0, if_pos h0]
      · rw [if_neg h0, if_neg h0]
        by_cases hm : a ∈ ls[ys.length]
        · rw [if_pos hm, if_pos hm, if_pos (by omega)]
        · rw [if_neg hm, if_neg hm, if_neg (by omega)]
  · have e : (rng 0 (ls.length : Int)).length = ls.length := by rw [rng_len]; omega
    rw [e, List.take_length] at h1 h2
    exact .of ⟨h1, h2⟩
/-! ### the ways of pulling -/
def pled (game : List Row) (ls : List (List Int)) (a : Int) : List Int := (wy game a).filter fun w => decide (dep ls w = dep ls a - 1)
def pval (game : List Row) (hand : Int) (ls : List (List Int)) (a : Int) : Option Int := if (getZ game a).1 = hand ∧ 0 < dep ls a then some (minI (pled game ls a)) else none
theorem pled_ne {layer : List Int} (L : Lays game hand part [] layer ls) (hI : In game a) (h : 0 < dep ls a) (hh : (getZ game a).1 = hand) : pled game ls a ≠ [] := fun e => by
  obtain ⟨⟨w, hw, h2⟩, _⟩ := dep_own L hI h hh
  have : w ∈ pled game ls a := List.mem_filter.mpr ⟨hw, decide_eq_true h2⟩
  rw [e] at this
  cases this
theorem min_ok {xs : List Int} (h : xs ≠ []) : minM xs = .ok (minI xs) := by
  cases xs with
  | nil => exact absurd rfl h
  | cons y ys => rfl
theorem pull_ways_body {layer : List Int} (L : Lays game hand part [] layer ls) (hn : game.length ≤ 1000) (hw : ∀ a, In game a → (wy game a).length ≤ 1000) (hin : ∀ l ∈ ls, ∀ a ∈ l, In game a) {d : Dc Int Int} (hd : DD ls d) :
    ((compP (fun (place7 : (Int × Int × (List Int))) => (none : Option Int)) game).bind fun rule8 =>
    (forM (fun (at_9 : Int) (b30 : (List (Option Int))) =>
    ((((ix game at_9).bind fun v31 => M.ok v31.1).bind fun v32 => M.ok (decide (v32 = hand))).bind fun z36 => if z36 then ((dgM d at_9).bind fun v34 => M.ok (decide (0 < v34))) else M.ok false).bind fun z49 => if z49 then
    ((((((ix game at_9).bind fun v37 => M.ok v37.2.2).bind fun xs44 => compF (fun (way38 : Int) => ((((dgM d at_9).bind fun v39 => M.ok (v39 - 1)).bind fun v41 => M.ok (some v41)).bind fun v43 => M.ok (decide ((dg d way38) = v43))).nox) (fun (way38 : Int) => (M.ok way38).nox) xs44).bind fun v45 => minM v45).bind fun v47 => setM b30 at_9 (some v47)).bind fun rule46 =>
    M.ok rule46)
    else (M.ok b30)) (d.map (·.1)) rule8).bind fun (b30 : (List (Option Int))) =>
    M.ok b30) = .ok ((rng 0 (game.length : Int)).map (pval game hand ls)) := by
  rw [compP_ok (by omega), M.bind_ok, rows_map]
  refine Ok.get ?_
  refine b_for (fun ys b => b = (rng 0 (game.length : Int)).map fun a => if a ∈ ys then pval game hand ls a else none) (by simp) (fun ys x zs b e hb => ?_) fun b hb => .of ?_
  · have hm : x ∈ ls.flatten := by rw [← hd.keys, e]; simp
    obtain ⟨l, hl, hxl⟩ := List.mem_flatten.mp hm
    have hI := hin l hl x hxl
    have h0 : 0 ≤ dep ls x := by
      have g := dep_ge ls x
      have : dep ls x ≠ -1 := fun h => dep_none.mp h hm
      omega
    have hdg : dgM d x = .ok (dep ls x) := dgM_ok (by rw [hd.get, if_pos h0])
    have hset : ∀ v : Option Int, pval game hand ls x = v → (b.set x.toNat v) = (rng 0 (game.length : Int)).map fun a => if a ∈ ys ++ [x] then pval game hand ls a else none := fun v hv => by
      rw [hb, set_map hI.1 hI.2]
      refine List.map_congr_left fun w _ => ?_
      by_cases h : w = x
      · subst h
        rw [if_pos rfl, if_pos (by simp), hv]
      · rw [if_neg h]
        by_cases hz : w ∈ ys
        · rw [if_pos hz, if_pos (List.mem_append_left _ hz)]
        · rw [if_neg hz, if_neg]
          intro hm
          rcases List.mem_append.mp hm with hm | hm
          · exact hz hm
          · exact h (List.mem_singleton.mp hm)
    have hbl : (b.length : Int) = game.length := by rw [hb]; exact map_len (by omega)
    have hget : getZ b x = if x ∈ ys then pval game hand ls x else none := by rw [hb, get_map hI.1 hI.2]
    have keep : pval game hand ls x = none → b = (rng 0 (game.length : Int)).map fun a => if a ∈ ys ++ [x] then pval game hand ls a else none := fun hv => by
      rw [hb]
      refine List.map_congr_left fun w _ => ?_
      by_cases hz : w ∈ ys
      · rw [if_pos hz, if_pos (List.mem_append_left _ hz)]
      · rw [if_neg hz]
        by_cases h : w = x
        · subst h
          rw [if_pos (by simp), hv]
        · rw [if_neg]
          intro hm
          rcases List.mem_append.mp hm with hm | hm
          · exact hz hm
          · exact h (List.mem_singleton.mp hm)
    rw [ix_ok hI.1 hI.2]
    simp only [M.bind_ok, hdg]
    by_cases hh : (getZ game x).1 = hand
    · rw [decide_eq_true hh, if_pos rfl, M.bind_ok]
      by_cases h1 : 0 < dep ls x
      · rw [decide_eq_true h1, if_pos rfl]
        have hwx : (getZ game x).2.2.length ≤ 1000 := hw x hI
        (repeat (first | with_reducible refine b_ok ?_ | with_reducible refine b_bind ?_ | with_reducible refine b_lt ?_ | with_reducible refine b_ltb ?_ | with_reducible refine b_nox ?_ | with_reducible refine b_ix ?_ | with_reducible refine b_mod ?_ | with_reducible refine b_fdiv ?_ | with_reducible refine b_mull ?_ | with_reducible refine b_mulr ?_ | with_reducible refine b_app ?_ | with_reducible refine b_cat ?_ | with_reducible refine b_rng ?_ | with_reducible refine b_rngL ?_ | with_reducible refine b_set ?_ | with_reducible refine b_srtS ?_ | with_reducible refine b_dp ?_ | with_reducible refine b_compP ?_ | with_reducible refine b_compFP ?_))
        refine b_compF (fun w => decide (dep ls w = dep ls x - 1)) (fun w => w) (fun w _ => ?_) (fun _ _ _ => rfl) ?_
        · rw [hd.get]
          have g := dep_ge ls w
          have : (decide ((if 0 ≤ dep ls w then some (dep ls w) else none) = some (dep ls x - 1))) = decide (dep ls w = dep ls x - 1) := by
            by_cases hw0 : 0 ≤ dep ls w
            · rw [if_pos hw0]
              exact decide_eq_decide.mpr ⟨fun h => Option.some.inj h, fun h => congrArg _ h⟩
            · rw [if_neg hw0, decide_eq_false (fun h => nomatch h), decide_eq_false (by omega)]
          rw [this]
          rfl
        · have e1 : ((getZ game x).2.2.filter fun w => decide (dep ls w = dep ls x - 1)).map (fun w : Int => w) = pled game ls x := List.map_id _
          rw [e1, min_ok (pled_ne L hI h1 hh), M.bind_ok, setZ_ok hI.1 (by rw [hbl]; exact hI.2), M.bind_ok]
          exact .of (hset _ (by unfold pval; rw [if_pos ⟨hh, h1⟩]))
      · rw [decide_eq_false h1, if_neg (by decide)]
        exact .of (keep (by unfold pval; rw [if_neg (fun h => h1 h.2)]))
    · rw [decide_eq_false hh, if_neg (by decide), M.bind_ok, if_neg (by decide)]
      exact .of (keep (by unfold pval; rw [if_neg (fun h => hh h.1)]))
  · rw [hb]
    refine List.map_congr_left fun w _ => ?_
    by_cases hm : w ∈ d.map (·.1)
    · rw [if_pos hm]
    · rw [if_neg hm]
      unfold pval
      rw [if_neg]
      intro h
      rw [hd.keys] at hm
      exact hm (dep_in (by omega))
end
end PL
end DL

/-! ### an object of ours is tracked -/
namespace L2
open PySem PySem.Spec PyProof.Rows
section
variable {X : Cx} {pins : List (Addr × Obj)} {σ : St} {H : Hp} {s : Shared}
theorem Inv.track {a : Addr} {o : HO} {oe : Obj} (I : Inv X pins σ H s) (hn : H a = none) (h0 : X.s_0.heap.get? a = none) (hp : ∀ p ∈ X.pn ++ pins, p.1 ≠ a) (hL : a ≠ X.env.locals) (he : s.heap.get? a = some oe) (hc : ∀ v, oe.data ≠ .cell v)
    (new : ObjOk X.prog X.w (upd H a o) s.heap a o) : Inv X pins σ (upd H a o) s where
  ok := I.ok
  os := I.os
  bare := I.bare
  base := {
    keep := I.base.keep
    slot := I.base.slot
    free := fun b u e n hx => by
      rw [upd_ne fun z => by rw [z, h0] at e; cases e]
      exact I.base.free b u e n hx
    there := I.base.there
    tups := fun b xs e => by
      have q := I.base.tups b xs e
      rw [upd_ne (ne_of_none q hn)]
      exact q
    frzs := fun b u xs e => by
      have q := I.base.frzs b u xs e
      rw [upd_ne (ne_of_none q hn)]
      exact q
    tbls := fun b ps e => by
      obtain ⟨m, q⟩ := I.base.tbls b ps e
      exact ⟨m, by rw [upd_ne (ne_of_none q hn)]; exact q⟩ }
  loc := I.loc
  cell := I.cell
  free := by rw [upd_ne fun z => hL z.symm]; exact I.free
  freeC := fun x c e => by
    obtain ⟨v, o', e1, e2⟩ := I.cell x c e
    rw [upd_ne fun z => by
      rw [z, he] at e1
      cases e1
      exact hc _ e2]
    exact I.freeC x c e
  pin := fun p hpm => by
    obtain ⟨p1, p2, p3, p4, p5⟩ := I.pin p hpm
    exact ⟨p1, by rw [upd_ne (hp p hpm)]; exact p2, p3, p4, p5⟩
  hok := fun b u e => by
    by_cases hb : b = a
    · subst hb
      rw [upd_same] at e
      cases e
      exact new
    · rw [upd_ne hb] at e
      exact (I.hok b u e).stay (fun c v _ q => q) (fun c q => by rw [upd_ne (ne_of_none q hn)]; exact q) fun c xs q => by rw [upd_ne (ne_of_none q hn)]; exact q
  len := I.len
theorem Inv.suiteT (I : Inv X pins σ H s) (a : Addr) : Inv (X.suite a (X.pn ++ pins)) [] σ H s :=
  ⟨I.ok.suite _ _, I.os, I.bare, I.base, I.loc, I.cell, I.free, I.freeC, fun p hp => I.pin p (by rw [List.append_nil] at hp; exact hp), I.hok, I.len⟩
theorem Inv.unsuiteT {a : Addr} {pn' : List (Addr × Obj)} (I : Inv (X.suite a (X.pn ++ pins)) pn' σ H s) (ok : X.Ok) : Inv X pins σ H s :=
  ⟨ok, I.os, I.bare, I.base, I.loc, I.cell, I.free, I.freeC, fun p hp => I.pin p (List.mem_append_left _ hp), I.hok, I.len⟩
end
/-- what the clause 'except x as n' wishes of an exception of the body, which is tracked then: slot i is n's -/
def wAsT (K : PySem.W.Frag) (c : Value) (i : Nat) (ts : TS) (D : Ends) : WX := fun cls d σ H =>
  PySem.W.exmOne K cls c = some true ∧ d = none ∧ ∃ C, cls = .ref C ∧ ∀ a, H a = none → ts { nx := fun σ' H' => D.nx (σ'.set i none) H', rt := D.rt, bk := fun σ' H' => D.bk (σ'.set i none) H', ct := fun σ' H' => D.ct (σ'.set i none) H' } (σ.set i (some (.ref a))) (upd H a (DL.ExH C a))
section
variable {X : Cx} {x n : Str} {c : Value} {i : Nat} {body suite : List Stmt} {b₀ : Stmt} {np pos pos' : Pos} {tb : WX → TS} {ts : TS}
theorem ps_try_asT (hs : X.stack = X.env :: X.outer) (hf : X.env.frame = some X.env.locals) (hex : X.ex = []) (hN : X.N.Nodup) (hi : X.N[i]? = some n) (hln : X.env.kindOf n = some .local) (hc : Names X x c)
    (hb : ∀ (W : WX) (pn : List (Addr × Obj)) (xe : Value → Shared → Prop), Takes (X.tr pn xe) W → PassesOwn (model X.prog X.w) X.A X.env xe → PSs (X.tr pn xe) body (tb W))
    (hsu : ∀ (a : Addr) (pn : List (Addr × Obj)), PSs (X.suite a pn) (b₀ :: suite) ts) :
    PS X (.Try body [.ExceptHandler (some (.Name x np)) (some n) (b₀ :: suite) pos'] [] [] pos) (fun D σ H => tb (wAsT X.K c i ts D) D σ H) := by
  refine ⟨fun pins s σ H D I h => ?_⟩
  have ok := I.ok
  have hfr : X.A.frames = some (X.env :: X.outer) := by rw [ok.frames, hs]
  have hloc : Loc X.env.scope n := .inl hln
  refine wpAny_Try_except ?_
  refine wpAny_mono ((hb (wAsT X.K c i ts D) (X.pn ++ pins) (fun e s₁ => wpAny (model X.prog X.w) X.A (noteFrame e X.env) (fun _ s₂ => wpAny (model X.prog X.w) X.A (setFlight e none) (fun _ s₃ =>
    wpAny (model X.prog X.w) X.A (handleBy e X.env [.ExceptHandler (some (.Name x np)) (some n) (b₀ :: suite) pos']) (SP X pins D) X.xe s₃) X.xe s₂) X.xe s₁) (fun u s' xx => ?_) PassesOwn.looking).run [] s σ H D (I.toTry _) h) (fun f s1 hsp => ?_) (fun e s1 he => he)
  · -- the catch
    obtain ⟨a, B, sI, pins', σ', H', cls, d, rfl, J', nb, up, sky, na, os, ag, hb1, hd0, Ca, hcl, hyes⟩ := xx
    subst hd0 hcl
    have J : Inv X pins σ' H' sI := J'.ofTry ok
    have sky' : Sky B (X.env :: X.outer) a (Zc (.ref Ca) none) X.env.locals s'.heap := by rw [← hs]; exact sky
    show wpAny (model X.prog X.w) X.A (noteFrame (.ref a) X.env) _ _ _
    refine Sky.land Zc.steady hfr hf sky' fun h3 fl3 up3 => ?_
    have J3 : Inv X pins σ' H' { s' with heap := h3 } := J.landed nb fl3.1 (up.trans up3) os ag
    obtain ⟨oe3, vs3, he3, hz3, hd3⟩ := fl3.there
    have notFr : ∀ {h : Heap} {o : Obj} {vs : Array Value}, h.FunFrames B (X.env :: X.outer) → h.get? a = some o → o.data = .fields vs → a ∉ frs (X.env :: X.outer) := fun {h o vs} ff e dd hm => by
      obtain ⟨_, o', e', hnf⟩ := ff.mem hm
      rw [e] at e'; cases e'
      exact hnf _ dd
    have nfr := notFr fl3.2.2.1 he3 hd3
    have nL : a ≠ X.env.locals := fun z => nfr (List.mem_filterMap.mpr ⟨X.env, List.mem_cons_self, by rw [hf, z]⟩)
    have nF : a ∉ X.fs := fun hm => by
      obtain ⟨e, he, q⟩ := List.mem_filterMap.mp hm
      exact nfr (List.mem_filterMap.mpr ⟨e, List.mem_cons_of_mem _ he, q⟩)
    have hBn : B.get? a = none := fl3.2.1
    have hIn : sI.heap.get? a = none := by
      cases q : sI.heap.get? a with
      | none => rfl
      | some o =>
        have := nb a o q (by rw [hs]; exact nfr)
        rw [hBn] at this; cases this
    have h0n : X.s_0.heap.get? a = none := by
      cases q : X.s_0.heap.get? a with
      | none => rfl
      | some o =>
        obtain ⟨o', z⟩ := J.base.there a o q (by rw [hex]; exact fun z => nomatch z)
        rw [hIn] at z; cases z
    have npin : ∀ p ∈ X.pn ++ pins, p.1 ≠ a := fun p hp z => by
      obtain ⟨e, _⟩ := J.pin p hp
      rw [z, hIn] at e; cases e
    have S3 := J3.suite he3 hd3 na nL nF
    refine wpAny_handleBy_cons (codeAny_handlers_test ?_) (by intro q; cases q)
    have LT : PySem.W.Looks (model X.prog X.w) h3 (typeOf (.ref a)) (.ref Ca) := fun A Q E s k q => wpAny_typeOf_ref (k _ _ he3) (by rw [hz3.1]; exact q)
    have LM := PySem.W.exm_one (M := model X.prog X.w) (J3.kIn) LT hb1
    have test : ∀ {Q : Value → Shared → Prop} {E : Value → Shared → Prop}, Q c { s' with heap := h3 } → wpAny (model X.prog X.w) (X.A.mark (some (.ref a))) (eval (.Name x np) X.env) Q E { s' with heap := h3 } := fun {Q E} q => by
      obtain ⟨hg, hdbg, hm | ⟨hm, hv, hnn⟩⟩ := hc
      · exact ld_glob (X := X.suite a ((a, oe3) :: (X.pn ++ pins))) S3 hg hm q hdbg
      · exact ld_blt (X := X.suite a ((a, oe3) :: (X.pn ++ pins))) S3 hg hm hv q hnn hdbg
    refine test (LM.here ?_)
    refine codeAny_handlers_suite_as ?_
    refine HandSPX.lands_againZ fl3 fun h4 fl4 up4 => ?_
    have J4 : Inv X pins σ' H' { s' with heap := h4 } := J.landed nb fl4.1 ((up.trans up3).trans up4) os ag
    obtain ⟨oe4, vs4, he4, hz4, hd4⟩ := fl4.there
    have T4 : Inv X pins σ' (upd H' a (DL.ExH Ca a)) { s' with heap := h4 } := J4.track na h0n npin nL he4 (fun v z => by rw [hd4] at z; cases z) ⟨⟨oe4, vs4, he4, hz4, hd4⟩, ⟨oe4, he4⟩, fun _ _ ⟨o, v, q, r⟩ k => ⟨o, v, k o q, r⟩⟩
    have S4 := T4.suiteT a
    refine store_ok (X := X.suite a (X.pn ++ pins)) (v := .ref a) S4 hN hi hloc rfl (fun s5 S5 => ?_) (.inr hln)
    refine wpAny_mono ((hsu a (X.pn ++ pins)).run [] s5 _ _ _ S5 (hyes a na)) (fun f s6 hsp => ?_) (fun _ _ z => False.elim z)
    have end_ : ∀ {σ6 : St} {H6 : Hp} {Q : Shared → Prop}, Inv (X.suite a (X.pn ++ pins)) [] σ6 H6 s6 → (∀ s7, Inv X pins (σ6.set i none) H6 s7 → Q s7) →
        wpAny (model X.prog X.w) X.A (do bindName X.env n .none; unbindBehindTheSuite X.env n pos') (fun _ s7 => Q s7) X.xe s6 := fun {σ6 H6 Q} S6 hq => gone_ok (S6.unsuiteT ok) hN hi hln hq
    cases f with
    | next =>
      obtain ⟨σ6, H6, S6, q6⟩ := hsp
      exact end_ S6 fun s7 J7 => ⟨_, _, J7, q6⟩
    | brk =>
      obtain ⟨σ6, H6, S6, q6⟩ := hsp
      exact end_ S6 fun s7 J7 => ⟨_, _, J7, q6⟩
    | cont =>
      obtain ⟨σ6, H6, S6, q6⟩ := hsp
      exact end_ S6 fun s7 J7 => ⟨_, _, J7, q6⟩
    | ret u =>
      obtain ⟨v6, σ6, H6, S6, r6, q6⟩ := hsp
      exact end_ S6 fun s7 J7 => ⟨_, _, _, J7, r6, q6⟩
  · cases f with
    | next =>
      obtain ⟨σ', H', J', q⟩ := hsp
      exact wpAny_execs_nil ⟨σ', H', J'.ofTry ok, q⟩
    | brk =>
      obtain ⟨σ', H', J', q⟩ := hsp
      exact ⟨σ', H', J'.ofTry ok, q⟩
    | cont =>
      obtain ⟨σ', H', J', q⟩ := hsp
      exact ⟨σ', H', J'.ofTry ok, q⟩
    | ret u =>
      obtain ⟨v, σ', H', J', r, q⟩ := hsp
      exact ⟨v, σ', H', J'.ofTry ok, r, q⟩
end
/-- isinstance(e, c), e a caught exception that is tracked -/
def rIsX (K : PySem.W.Frag) : List V → Hp → VK → Prop := fun xs H Q => ∃ (a D : Addr) (c : V) (cv : Value) (b : Bool), xs = [.ref a, c] ∧ H a = some (DL.ExH D a) ∧ ExcC K D ∧ (∀ u, RelV c u → u = cv) ∧ PySem.W.kitOne K (.ref D) cv = some b ∧ Q (.bl b) H
theorem inst_of {X : Cx} {pins : List (Addr × Obj)} {σ : St} {H : Hp} {s : Shared} {a D : Addr} (I : Inv X pins σ H s) (e : H a = some (DL.ExH D a)) : ∃ oe, PySem.W.InstAt s.heap a oe D none := by
  obtain ⟨⟨oe, vs, hget, hz, hd⟩, _, _⟩ := I.hok a _ e
  refine ⟨oe, ?_⟩
  obtain ⟨oc, od, oda, osl⟩ := oe
  obtain ⟨h1, h2⟩ := hz
  dsimp only at h1 h2 hd
  subst h1 h2 hd
  exact ⟨hget, rfl, rfl, trivial⟩
theorem call_isX {X : Cx} : CallR X (.builtin "isinstance") (rIsX X.K) := by
  intro pins s σ H xs us Q I r h
  obtain ⟨a, D, c, cv, b, rfl, ea, C, hcv, e, q⟩ := h
  cases r with
  | cons rx rr =>
    cases rr with
    | cons rt rr =>
      cases rr
      cases rx
      have ec := hcv _ rt
      subst ec
      obtain ⟨oe, J⟩ := inst_of I ea
      exact PySem.W.kia_one (PySem.W.handS_kitx_exc C.hg C.hk C.hs C.hd C.ha C.hn C.ht C.hm) I.kIn J e (fun z => nomatch z) fun tk => ⟨.bl b, H, I.kept (t' := tk) fun _ _ z => z, rfl, q⟩
/-- .. a tuple of classes that was just laid -/
def rIsXT (K : PySem.W.Frag) : List V → Hp → VK → Prop := fun xs H Q => ∃ (a D tp : Addr) (cs : List V) (us : List Value) (b : Bool), xs = [.ref a, .ref tp] ∧ H a = some (DL.ExH D a) ∧ ExcC K D ∧ H tp = some (.tup cs) ∧ Paired ClsV cs us ∧ PySem.W.kitAny K (.ref D) us = some b ∧ Q (.bl b) H
theorem call_isXT {X : Cx} : CallR X (.builtin "isinstance") (rIsXT X.K) := by
  intro pins s σ H xs us Q I r h
  obtain ⟨a, D, tp, cs, ws, b, rfl, ea, C, hT, k, e, q⟩ := h
  obtain ⟨u1, u2, rfl, r1, r2⟩ := vals2 r
  cases (show u1 = Value.ref a from r1)
  cases (show u2 = Value.ref tp from r2)
  obtain ⟨oe, J⟩ := inst_of I ea
  obtain ⟨_, its, rv, o, h1, h2, n, h3⟩ := (show ObjOk X.prog X.w H s.heap tp (.tup cs) from I.hok tp _ hT)
  have e3 := ClsV.all k rv
  subst e3
  obtain ⟨oc, od, dt, sl⟩ := o
  simp only at h2 h3
  subst h2 h3
  exact PySem.W.kia_tup (PySem.W.handS_kitx_exc C.hg C.hk C.hs C.hd C.ha C.hn C.ht C.hm) I.kIn J h1 e (fun z => nomatch z) fun tk => ⟨.bl b, H, I.tok tk, rfl, q⟩
end L2
namespace DL
open PySem PySem.Spec L2
variable {K : PySem.W.Frag} {F F' H H' H0 F0 F1 H1 : Hp} {cs cs' : List Addr} {σ σ' : L2.St} {ρ ρ' : Rho}
/-! ### try: one statement, except X as n: y = n -/
def tryAs (j i : Nat) (xs : List Str) (f : DS) : DS := fun ρ => match f ρ with
  | .ex c ρ' => if decide (c ∈ xs) && (decide (j < ρ'.length) && (decide (i < ρ'.length) && i != j)) then .nx ((ρ'.set i none).set j (some (.fz (.exc c)))) else .bad
  | r => r
structure XCt (K : PySem.W.Frag) (mg : Str → Option Value) (G c : Str) : Prop where
  ex : ∃ D C, mg c = some (.ref D) ∧ PySem.W.nsIn K mainGlobals c = some (some (.ref D)) ∧ mg G = some (.ref C) ∧ PySem.W.exmOne K (.ref D) (.ref C) = some true
theorem ext_newF {p : Addr} {o : HO} (fh : Same F H) (np : H p = none) : Ext F H (upd F p o) (upd H p o) where
  hh := fun b u q => by rw [upd_ne (ne_of_none q np)]; exact q
  ff := fun b u q => by rw [upd_ne (ne_of_none (fh b u q) np)]; exact q
  fh := fun b u q => by
    by_cases h : b = p
    · subst h; rw [upd_same] at q ⊢; exact q
    · rw [upd_ne h] at q ⊢; exact fh b u q
  nw := fun b h => upd_ne fun e => h (e ▸ np)
section
variable {X : Cx} {W : WX} {pos np pos' py pn2 ap : Pos} {a b c e : Expr} {fa fb fc fe : DE} {f : DS} {body : List Stmt} {x y n : Str}
theorem gs_tryAs {k : Nat} (j i : Nat) (xs : List Str) (C : Cb X W k) (hG : ∃ G, X.mg x = some (.ref G)) (hx : ∀ c ∈ xs, XCt X.K X.mg x c)
    (hb : ∀ (W' : WX) (pn : List (Addr × Obj)) (xe : Value → Shared → Prop), Cb (X.tr pn xe) W' k → GSs (X.tr pn xe) W' body f)
    (hs : X.stack = X.env :: X.outer := by rfl) (hf : X.env.frame = some X.env.locals := by rfl) (hex : X.ex = [] := by rfl) (hi : X.N[i]? = some n := by rfl) (hln : X.env.kindOf n = some .local := by rfl) (hg : Gl X x := by rfl) (hdx : (x == ("__debug__" : Str)) = false := by decide)
    (hj : X.N[j]? = some y := by rfl) (hly : Loc X.env.scope y := by first | exact Or.inl rfl | exact Or.inr rfl) (hvn : Vis X.env.scope n := by first | exact Or.inl rfl | exact Or.inr (Or.inl rfl) | exact Or.inr (Or.inr rfl)) (hdn : (n == ("__debug__" : Str)) = false := by decide)
    (hcd : (n == ("__classdict__" : Str)) = false := by decide) (hsw : ∀ env : Env, swapsWith (.Name n pn2) (some (.Name y py)) ap.line env = pure false := by intro _; rfl)
    (hfy : X.fn y = true ∨ X.env.scope.names.lookup y = some .local := by first | exact .inl rfl | exact .inr rfl) :
    GS X W (.Try body [.ExceptHandler (some (.Name x np)) (some n) [.Assign [.Name y py] (.Name n pn2) ap] pos'] [] [] pos) (tryAs j i xs f) := by
  obtain ⟨Gc, hG⟩ := hG
  refine PS.imp (ps_try_asT (i := i) (tb := fun W' => tS X W' f) hs hf hex C.cc.nd hi hln ⟨hg, hdx, .inl hG⟩ (fun W' pn xe tk po => hb W' pn xe ⟨⟨C.cc.calm, C.cc.room, C.cc.nd, fun σ => passAt tk σ⟩, po, tk⟩)
    (fun a pn => pss_one (ps_set (X := X.suite a pn) (i := j) C.cc.nd hj hly (pe_var (X := X.suite a pn) hi hvn hdn hcd) (hsw _) hfy))) fun D σ H ⟨F0, H0, ρ, F, cs, R, p⟩ => ?_
  refine ⟨F0, H0, ρ, F, cs, R, ?_⟩
  unfold tryAs at p
  cases q : f ρ with
  | bad => rw [q] at p; exact p
  | nx ρ' => rw [q] at p; exact p
  | bk ρ' => rw [q] at p; exact p
  | ct ρ' => rw [q] at p; exact p
  | rt o => rw [q] at p; exact p
  | ex c ρ' =>
    rw [q] at p
    dsimp only at p
    split at p
    · rename_i hc
      rw [Bool.and_eq_true, Bool.and_eq_true, Bool.and_eq_true, decide_eq_true_eq, decide_eq_true_eq, decide_eq_true_eq] at hc
      obtain ⟨hcx, hjl, li, hij⟩ := hc
      have hij : i ≠ j := by simpa using hij
      obtain ⟨D', C', m1, m2, m3, m4⟩ := (hx c hcx).ex
      intro F' H' σ' cs2 C2 sF R' hm
      rw [m1] at hm
      cases hm
      rw [hG] at m3
      cases m3
      refine ⟨m4, rfl, D', rfl, fun a na => ?_⟩
      have e1 := ext_newF (o := ExH D' a) R'.fh na
      have R2 := R'.ext e1
      obtain ⟨cs3, R3⟩ := R2.drop (i := i) li
      have R4 := R3.setNone (t := i) (x := some (.ref a)) (by simp [li])
      obtain ⟨cs5, R5⟩ := R4.setFz (j := j) (d := .exc c) (v := .ref a) ⟨a, D', rfl, upd_same, m2⟩ (by rw [List.length_set]; exact hjl)
      have R6 := R5.setNone (t := i) (x := none) (by rw [List.getElem?_set_ne (Ne.symm hij)]; simp [li])
      refine ⟨_, ?_, p _ _ _ cs5 (sF.trans e1.ff) R6⟩
      have : i < σ'.length := by rw [R'.sl.len]; exact li
      simp [this]
    · exact p.elim
/-! ### isinstance of a caught exception -/
def subX (c T : Str) : Bool := c == T || T == "GarthError" || T == "ValueError"
structure XIs (K : PySem.W.Frag) (mg : Str → Option Value) (xs : List Str) (T : Str) : Prop where
  ex : ∃ C, mg T = some (.ref C) ∧ ∀ c ∈ xs, ∃ D, PySem.W.nsIn K mainGlobals c = some (some (.ref D)) ∧ ExcC K D ∧ PySem.W.kitOne K (.ref D) (.ref C) = some (subX c T)
structure XIv (K : PySem.W.Frag) (mg : Str → Option Value) (xs : List Str) : Prop where
  mg : mg "ValueError" = none
  ex : ∀ c ∈ xs, ∃ D, PySem.W.nsIn K mainGlobals c = some (some (.ref D)) ∧ ExcC K D ∧ PySem.W.kitOne K (.ref D) (.type "ValueError") = some true
def isxF (xs : List Str) (Ts : List Str) (d : D) : Rs := match d with
  | .exc c => if decide (c ∈ xs) then okB (Ts.any (subX c)) else .bad
  | _ => .bad
def isxE (xs : List Str) (Ts : List Str) (fa : DE) : DE := fun ρ => (fa ρ).bind fun a => isxF xs Ts a.d
theorem ge_isx {p p2 : Pos} {T : Str} (xs : List Str) (hm : X.mg "isinstance" = none) (hT : XIs X.K X.mg xs T) (ha : GE X W a fa) (hg : Gl X "isinstance" := by rfl) (hgT : Gl X T := by rfl) (hd : (T == ("__debug__" : Str)) = false := by decide)
    (he : starEach (a :: [.Name T p2]) X.env = (false, eval a X.env) :: starEach [.Name T p2] X.env := by rfl) (hpl : (backTo pos (starEach [.Name T p2] X.env)).any (·.1) = false := by rfl)
    (hs2 : starEach (.Name T p2 :: []) X.env = (false, eval (.Name T p2) X.env) :: starEach [] X.env := by rfl) :
    GE X W (.Call (.Name "isinstance" p) [a, .Name T p2] [] pos) (isxE xs [T] fa) := by
  obtain ⟨C, mT, hxs⟩ := hT.ex
  refine PE.imp (pe_callB call_isX hg hm (by decide +kernel) (pa_cons ha (pa_cons (pe_glob (v := .ref C) hgT mT rfl hd) pa_nil hs2) he) (by decide) (by decide) he hpl) fun σ H Q ⟨F0, H0, ρ, F, cs, R, p⟩ => ?_
  refine ⟨F0, H0, ρ, F, cs, R, ?_⟩
  unfold isxE at p
  cases q : fa ρ with
  | bad => rw [q] at p; exact p
  | ex c => rw [q] at p; exact p
  | ok a =>
    rw [q] at p
    intro F1 H1 v c1 e1 r1 n1
    have p : post X W (isxF xs [T] a.d) σ F H Q := p
    unfold isxF at p
    have r2 := r1.view e1.fh
    split at p
    · rename_i c ed
      rw [ed] at r2
      obtain ⟨b, D, rfl, hb, hn⟩ := r2
      split at p
      · rename_i hc
        obtain ⟨D', n1, X1, k1⟩ := hxs c (of_decide_eq_true hc)
        rw [hn] at n1
        cases n1
        have e2 : [T].any (subX c) = subX c T := by simp
        rw [e2] at p
        exact ⟨b, D, .ref C, .ref C, _, rfl, hb, X1, fun u r => r, k1, post_flat (d := .bl _) e1.fh rfl (post_ext e1 p)⟩
      · exact p.elim
    · exact p.elim
theorem ge_isxV {p p2 : Pos} (xs : List Str) (hm : X.mg "isinstance" = none) (hT : XIv X.K X.mg xs) (ha : GE X W a fa) (hg : Gl X "isinstance" := by rfl) (hgT : Gl X "ValueError" := by rfl)
    (he : starEach (a :: [.Name "ValueError" p2]) X.env = (false, eval a X.env) :: starEach [.Name "ValueError" p2] X.env := by rfl) (hpl : (backTo pos (starEach [.Name "ValueError" p2] X.env)).any (·.1) = false := by rfl)
    (hs2 : starEach (.Name "ValueError" p2 :: []) X.env = (false, eval (.Name "ValueError" p2) X.env) :: starEach [] X.env := by rfl) :
    GE X W (.Call (.Name "isinstance" p) [a, .Name "ValueError" p2] [] pos) (isxE xs ["ValueError"] fa) := by
  refine PE.imp (pe_callB call_isX hg hm (by decide +kernel) (pa_cons ha (pa_cons (pe_bltn (v := .ty "ValueError") (u := .type "ValueError") hgT hT.mg (by decide +kernel) rfl (by decide) (by decide)) pa_nil hs2) he) (by decide) (by decide) he hpl) fun σ H Q ⟨F0, H0, ρ, F, cs, R, p⟩ => ?_
  refine ⟨F0, H0, ρ, F, cs, R, ?_⟩
  unfold isxE at p
  cases q : fa ρ with
  | bad => rw [q] at p; exact p
  | ex c => rw [q] at p; exact p
  | ok a =>
    rw [q] at p
    intro F1 H1 v c1 e1 r1 n1
    have p : post X W (isxF xs ["ValueError"] a.d) σ F H Q := p
    unfold isxF at p
    have r2 := r1.view e1.fh
    split at p
    · rename_i c ed
      rw [ed] at r2
      obtain ⟨b, D, rfl, hb, hn⟩ := r2
      split at p
      · rename_i hc
        obtain ⟨D', n1, X1, k1⟩ := hT.ex c (of_decide_eq_true hc)
        rw [hn] at n1
        cases n1
        have e2 : (["ValueError"] : List Str).any (subX c) = true := by simp [subX]
        rw [e2] at p
        exact ⟨b, D, .ty "ValueError", .type "ValueError", _, rfl, hb, X1, fun u r => r, k1, post_flat (d := .bl _) e1.fh rfl (post_ext e1 p)⟩
      · exact p.elim
    · exact p.elim
end
end DL

namespace DL
open PySem PySem.Spec L2
variable {K : PySem.W.Frag} {F F' H H' H0 F0 F1 H1 : Hp} {cs cs' : List Addr} {σ σ' : L2.St} {ρ ρ' : Rho}
/-! ### isinstance with a tuple of classes -/
structure XRs (K : PySem.W.Frag) (xs : List Str) : Prop where
  ex : ∀ c ∈ xs, ∃ D, PySem.W.nsIn K mainGlobals c = some (some (.ref D)) ∧ ExcC K D
structure GXs (X : Cx) (xs : List Str) (es : List Expr) (Ts : List Str) : Prop where
  ex : ∃ Cs : List Addr, PA X es (fun _ H Q => Q (Cs.map V.ref) H) ∧ Cs.length = es.length ∧ ∀ c ∈ xs, ∃ D, PySem.W.nsIn X.K mainGlobals c = some (some (.ref D)) ∧ ExcC X.K D ∧ PySem.W.kitAny X.K (.ref D) (Cs.map Value.ref) = some (Ts.any (subX c))
section
variable {X : Cx} {W : WX} {pos p p2 tp : Pos} {a b c e : Expr} {fa fb fc fe : DE} {f : DS} {es : List Expr} {x y n : Str}
theorem gx_nil {xs : List Str} (h : XRs X.K xs) : GXs X xs [] [] := ⟨⟨[], pa_nil, rfl, fun c hc => by
  obtain ⟨D, h1, h2⟩ := h.ex c hc
  exact ⟨D, h1, h2, rfl⟩⟩⟩
theorem gx_cons {xs : List Str} {T : Str} {Ts : List Str} (h : XIs X.K X.mg xs T) (t : GXs X xs es Ts) (hgT : Gl X T := by rfl) (hd : (T == ("__debug__" : Str)) = false := by decide)
    (hs : starEach (.Name T p :: es) X.env = (false, eval (.Name T p) X.env) :: starEach es X.env := by rfl) : GXs X xs (.Name T p :: es) (T :: Ts) := by
  obtain ⟨C, m, hx⟩ := h.ex
  obtain ⟨Cs, pa, hl, ht⟩ := t.ex
  refine ⟨⟨C :: Cs, ?_, by simp [hl], fun c hc => ?_⟩⟩
  · exact PA.imp (pa_cons (pe_glob (v := .ref C) hgT m rfl hd) pa hs) fun σ H Q q => q
  · obtain ⟨D, n1, X1, k1⟩ := hx c hc
    obtain ⟨D', n2, _, k2⟩ := ht c hc
    rw [n1] at n2
    cases n2
    refine ⟨D, n1, X1, ?_⟩
    rw [List.map_cons, List.any_cons]
    exact kitAny_cons k1 (fun hb => by rw [hb, Bool.false_or]; exact k2) fun hb => by rw [hb]; rfl
theorem paired_own : ∀ Cs : List Addr, Paired ClsV (Cs.map V.ref) (Cs.map Value.ref)
  | [] => .nil
  | C :: Cs => .cons (.own C) (paired_own Cs)
theorem ge_isxT {k : Nat} (xs : List Str) {Ts : List Str} (hm : X.mg "isinstance" = none) (hT : GXs X xs es Ts) (ha : GE X W a fa) (hl : es.length ≤ 30) (hg : Gl X "isinstance" := by rfl)
    (he : starEach (a :: [.Tuple es k tp]) X.env = (false, eval a X.env) :: starEach [.Tuple es k tp] X.env := by rfl) (hpl : (backTo pos (starEach [.Tuple es k tp] X.env)).any (·.1) = false := by rfl)
    (hs2 : starEach (.Tuple es k tp :: []) X.env = (false, eval (.Tuple es k tp) X.env) :: starEach [] X.env := by rfl) :
    GE X W (.Call (.Name "isinstance" p) [a, .Tuple es k tp] [] pos) (isxE xs Ts fa) := by
  obtain ⟨Cs, pa, hlc, hxs⟩ := hT.ex
  refine PE.imp (pe_callB call_isXT hg hm (by decide +kernel) (pa_cons ha (pa_cons (pe_tup pa) pa_nil hs2) he) (by decide) (by decide) he hpl) fun σ H Q ⟨F0, H0, ρ, F, cs, R, p⟩ => ?_
  refine ⟨F0, H0, ρ, F, cs, R, ?_⟩
  unfold isxE at p
  cases q : fa ρ with
  | bad => rw [q] at p; exact p
  | ex c => rw [q] at p; exact p
  | ok a =>
    rw [q] at p
    intro F1 H1 v c1 e1 r1 n1
    have p : post X W (isxF xs Ts a.d) σ F H Q := p
    unfold isxF at p
    have r2 := r1.view e1.fh
    refine ⟨by rw [sizeLine_eq, List.length_map]; omega, fun l nl => ?_⟩
    split at p
    · rename_i c ed
      rw [ed] at r2
      obtain ⟨b, D, rfl, hb, hn⟩ := r2
      split at p
      · rename_i hc
        obtain ⟨D', n1, X1, k1⟩ := hxs c (of_decide_eq_true hc)
        rw [hn] at n1
        cases n1
        have e2 := e1.trans (ext_new (o := .tup (Cs.map V.ref)) e1.fh nl)
        refine ⟨b, D, l, Cs.map V.ref, Cs.map Value.ref, _, rfl, by rw [upd_ne (ne_of_none hb nl)]; exact hb, X1, upd_same, paired_own Cs, k1, post_flat (d := .bl _) e2.fh rfl (post_ext e2 p)⟩
      · exact p.elim
    · exact p.elim
end
/-! ### typed -/
def eX : Str → D := .exc
instance : NnE eX := ⟨fun _ h => nomatch h⟩
def isxM (xs Ts : List Str) (c : Str) : M Bool := if decide (c ∈ xs) then .ok (Ts.any (subX c)) else .bad
section
variable {α β γ : Type} {fe fa fb : DE} {a b : Ar} {m : M α} {s : α → O} {e : α → D}
theorem o_isx {xs Ts : List Str} {c : Str} {d : D} (hd : d = eX c) : RQ (isxF xs Ts d) (isxM xs Ts c) (rO (oF eB)) := by
  subst hd
  simp only [RQ_eq]
  unfold isxM
  show RQ0 (if decide (c ∈ xs) then okB (Ts.any (subX c)) else .bad) _ _
  by_cases h : c ∈ xs
  · rw [decide_eq_true h, if_pos rfl, if_pos rfl]
    rfl
  · rw [decide_eq_false h, if_neg (by decide), if_neg (by decide)]
    trivial
theorem rq_isx0 {xs Ts : List Str} {c : Str} (ha : fa ρ = .ok a) (hd : a.d = eX c) : RQ (isxE xs Ts fa ρ) (isxM xs Ts c) (rO (oF eB)) := by
  have : isxE xs Ts fa ρ = isxF xs Ts a.d := by
    unfold isxE Rs.bind
    rw [ha]
  rw [this]
  exact o_isx hd
theorem rq_isx {xs Ts : List Str} {mc : M Str} {sc : Str → Ar} (ha : RQ (fa ρ) mc sc) (hd : ∀ c, (sc c).d = eX c) : RQ (isxE xs Ts fa ρ) (mc.bind fun c => isxM xs Ts c) (rO (oF eB)) := by
  cases mc with
  | bad => simp only [RQ_eq]; trivial
  | ex c =>
    simp only [RQ_eq] at *
    have ha : fa ρ = .ex c := ha
    show isxE xs Ts fa ρ = .ex c
    unfold isxE Rs.bind
    rw [ha]
  | ok c =>
    simp only [RQ_eq] at ha
    exact rq_isx0 ha (hd c)
/-- what a try comes to: what the body gives, or the class that is caught -/
inductive Tr (α : Type) where
  | inl (a : α) | inr (c : Str)
def Tr.okO : Tr α → Option α
  | .inl a => some a
  | .inr _ => none
def Tr.exO : Tr α → Option Str
  | .inl _ => none
  | .inr c => some c
def Tr.okD {α : Type} (a0 : α) : Tr α → α
  | .inl a => a
  | .inr _ => a0
@[simp] theorem Tr.okD_l {α : Type} {a a0 : α} : (Tr.inl a).okD a0 = a := Eq.symm (Eq.symm rfl)
@[simp] theorem Tr.okD_r {α : Type} {c : Str} {a0 : α} : (Tr.inr c).okD a0 = a0 := Eq.symm (Eq.symm rfl)
@[simp] theorem Tr.okO_l {a : α} : (Tr.inl a).okO = some a := Eq.symm (Eq.symm rfl)
@[simp] theorem Tr.okO_r {c : Str} : (Tr.inr c : Tr α).okO = none := Eq.symm (Eq.symm rfl)
@[simp] theorem Tr.exO_l {a : α} : (Tr.inl a).exO = none := Eq.symm (Eq.symm rfl)
@[simp] theorem Tr.exO_r {c : Str} : (Tr.inr c : Tr α).exO = some c := Eq.symm (Eq.symm rfl)
def tryM (xs : List Str) (m : M α) : M (Tr α) := match m with
  | .ok a => .ok (.inl a)
  | .ex c => if decide (c ∈ xs) then .ok (.inr c) else .bad
  | .bad => .bad
theorem tryM_ok {xs : List Str} {a : α} : tryM xs (.ok a) = .ok (.inl a) := rfl
theorem tryM_ex {xs : List Str} {c : Str} (h : decide (c ∈ xs) = true) : tryM xs (.ex c : M α) = .ok (.inr c) := by
  show (if decide (c ∈ xs) then M.ok (Tr.inr c) else .bad) = _
  rw [h]
  rfl
/-- an exception leaves the slots as they were -/
def XSame (f : DS) (ρ : Rho) : Prop := ∀ c ρ', f ρ = .ex c ρ' → ρ' = ρ
theorem xs_expr : XSame (exprS fe) ρ := fun c ρ' h => by
  unfold exprS at h
  split at h
  · cases h
  · cases h; rfl
  · cases h
theorem xs_set {i : Nat} : XSame (setS i fe) ρ := fun c ρ' h => by
  unfold setS at h
  split at h
  · split at h <;> cases h
  · cases h
  · cases h; rfl
  · cases h
theorem xs_if {ct : DT} {f g : DS} (hf : XSame f ρ) (hg : XSame g ρ) : XSame (ifS ct f g) ρ := fun c ρ' h => by
  unfold ifS at h
  split at h
  · exact hf c ρ' h
  · exact hg c ρ' h
  · cases h; rfl
  · cases h
theorem sim_try {j i : Nat} {xs : List Str} {f : DS} {m : M α} {upd : α → Rho} {up : Tr α → Rho} (hS : Sim (f ρ) m (Np upd)) (hX : XSame f ρ) (hj : (decide (j < ρ.length) && (decide (i < ρ.length) && i != j)) = true)
    (h1 : ∀ a, upd a = up (.inl a)) (h2 : ∀ c, (ρ.set i none).set j (some (.fz (.exc c))) = up (.inr c)) : Sim (tryAs j i xs f ρ) (tryM xs m) (Np up) := by
  simp only [Sim_eq] at *
  cases m with
  | bad => trivial
  | ok a =>
    have hS : f ρ = .nx (upd a) := hS
    show tryAs j i xs f ρ = .nx (up (.inl a))
    unfold tryAs
    rw [hS, h1]
  | ex c =>
    obtain ⟨ρ', hS⟩ : ∃ ρ', f ρ = .ex c ρ' := hS
    have e := hX c ρ' hS
    subst e
    show Sim0 (tryAs j i xs f ρ') (if decide (c ∈ xs) then M.ok (Tr.inr c) else .bad) (Np up)
    by_cases hc : c ∈ xs
    · rw [decide_eq_true hc, if_pos rfl]
      show tryAs j i xs f ρ' = .nx (up (.inr c))
      unfold tryAs
      rw [hS]
      dsimp only
      rw [decide_eq_true hc, Bool.true_and, if_pos hj, h2]
    · rw [decide_eq_false hc, if_neg (by decide)]
      trivial
end
end DL

namespace DL
open PySem PySem.Spec L2
theorem kit_ref {K : PySem.W.Frag} {D C : Addr} {b : Bool} (hd : PySem.W.hasDictIn K C = true) (ht : PySem.W.typeIn K (.ref C) = some (.type "type")) (hcc : PySem.W.subIn K (.ref C) (.ref C) = some true) (hs : PySem.W.subIn K (.ref D) (.ref C) = some b) : PySem.W.kitOne K (.ref D) (.ref C) = some b := by
  unfold PySem.W.kitOne
  by_cases h : D = C
  · subst h
    rw [hcc] at hs
    cases hs
    rw [if_pos (by simp)]
  · rw [if_neg (by
      intro e
      have := beq_iff_eq.mp e
      exact h (Value.ref.inj this))]
    obtain ⟨cd, hc, _⟩ := PySem.W.any_some hd
    show (if ((PySem.W.clsIn K C).isSome && PySem.W.typeIn K (.ref C) == some (.type "type")) = true then PySem.W.subIn K (.ref D) (.ref C) else none) = some b
    rw [if_pos (by rw [hc, ht] <;> rfl)]
    exact hs
theorem kit_VE {K : PySem.W.Frag} {D : Addr} {b : Bool} (hs : PySem.W.subIn K (.ref D) (.type "ValueError") = some b) : PySem.W.kitOne K (.ref D) (.type "ValueError") = some b := by
  unfold PySem.W.kitOne
  rw [if_neg (by intro e; have := beq_iff_eq.mp e; cases this)]
  show (if PySem.W.kitMeta "ValueError" = true then PySem.W.subIn K (.ref D) (.type "ValueError") else none) = some b
  rw [if_pos (by decide +kernel)]
  exact hs
theorem all_nil {α : Type} {p : α → Prop} : ∀ c ∈ ([] : List α), p c := fun _ h => nomatch h
theorem all_cons {α : Type} {p : α → Prop} {x : α} {xs : List α} (h : p x) (t : ∀ c ∈ xs, p c) : ∀ c ∈ x :: xs, p c := fun c hc => by
  rcases List.mem_cons.mp hc with rfl | hc
  · exact h
  · exact t c hc
end DL

namespace DL
open PySem PySem.Spec L2
theorem popAtM_ok {α : Type} {xs : List α} {i : Int} (h0 : 0 ≤ i) (h : i < xs.length) (h2 : i < 9223372036854775808) : popAtM xs i = .ok (xs.eraseIdx i.toNat) := by
  unfold popAtM ixN
  rw [decide_eq_true (by omega), decide_eq_true (by omega), Bool.and_self, if_pos rfl]
  rw [if_pos h0, if_pos h]
  exact if_pos (by omega)
theorem insM_at {α : Type} {xs : List α} {i : Int} {x : α} (h : xs.length < 16777216) (h0 : 0 ≤ i) (h2 : i < 9223372036854775808) : insM xs i x = .ok (xs.take i.toNat ++ [x] ++ xs.drop i.toNat) := by
  unfold insM
  rw [if_pos ⟨by unfold lim; omega, h0, by omega⟩]
theorem getZ_app {α : Type} [Inhabited α] {xs : List α} {x : α} {a : Int} (h0 : 0 ≤ a) (h : a ≤ xs.length) : getZ (xs ++ [x]) a = if a = xs.length then x else getZ xs a := by
  rw [getZ_at h0 (by rw [List.length_append, List.length_singleton]; omega), List.getElem_append]
  by_cases e : a = xs.length
  · rw [if_pos e, dif_neg (by omega)]
    rw [List.getElem_singleton]
  · rw [if_neg e, dif_pos (by omega), getZ_at h0 (by omega)]
theorem getZ_set {α : Type} [Inhabited α] {xs : List α} {x : α} {a b : Int} (h0 : 0 ≤ a) (h : a < xs.length) (h1 : 0 ≤ b) (h2 : b < xs.length) : getZ (xs.set a.toNat x) b = if b = a then x else getZ xs b := by
  rw [getZ_at h1 (by rw [List.length_set]; exact h2), List.getElem_set, getZ_at h1 h2]
  by_cases e : b = a
  · rw [if_pos e, if_pos (by omega)]
  · rw [if_neg e, if_neg (by omega)]
theorem b_push {α β γ : Type} {step : γ → List α → M (List α)} {xs : List γ} {f : List α → M β} {Q : β → Prop} (g : γ → α) (hs : ∀ x ∈ xs, ∀ b : List α, b.length < 16777216 → Ok (step x b) fun r => r = b ++ [g x]) (k : Ok (f (xs.map g)) Q) (hl : xs.length ≤ 16777216 := by omega) : Ok ((forM step xs []).bind f) Q := by
  refine b_for (fun ys b => b = ys.map g) rfl (fun ys x zs b e hb => ?_) fun b hb => by rw [hb]; exact k
  have l := congrArg List.length e
  rw [List.length_append, List.length_cons] at l
  refine (hs x (by rw [e]; simp) b (by rw [hb, List.length_map]; omega)).mono fun r hr => ?_
  rw [hr, hb, List.map_append]
  rfl
theorem Ok.cond {α : Type} {m : M α} {P : α → Prop} {c : Prop} (h : Ok m P) (hc : ∀ a, P a → c) : c := let ⟨a, _, p⟩ := h; hc a p
namespace PL
theorem row_loop2 {c n num : Int} (hn : 0 < n := by omega) (hn2 : n < 18446744073709551616 := by omega) (hc : 0 ≤ c := by omega) (hc2 : c ≤ 60 := by omega) : Ok (forM (fun (step12 : Int) (b18 : (Int × (Dc Int Bool))) =>
    (((modM b18.1 n).nox).bind fun v21 => dpM b18.2 v21 true).bind fun ways19 =>
    (fdivM b18.1 n).bind fun number22 =>
    M.ok (number22, ways19)) (rng 0 c) (num, ([] : (Dc Int Bool)))) (fun b => b.2.length ≤ c.toNat ∧ (∀ w ∈ b.2.map (·.1), 0 ≤ w ∧ w < n) ∧ (b.2.map (·.1)).Nodup ∧ (0 < c → b.2 ≠ [])) := by
  have h := row_loop (num := num) hn hn2 hc hc2
  rw [rngM_ok (by omega) (by omega) (by omega) (by omega)] at h
  exact h
structure RowOk (n : Int) (r : Row) : Prop where
  hd : r.1 = 0 ∨ r.1 = 1
  ne : r.2.2 ≠ []
  len : r.2.2.length ≤ 200
  in_ : ∀ w ∈ r.2.2, 0 ≤ w ∧ w < n
structure GmOk (game : List Row) : Prop where
  n : game.length ≤ 200
  row : ∀ r ∈ game, RowOk game.length r
theorem gm_at {game : List Row} (G : GmOk game) {a : Int} (h : In game a) : RowOk game.length (getZ game a) := G.row _ (getZ_mem h.1 h.2)
theorem gm_ne {game : List Row} (G : GmOk game) {a : Int} (h : In game a) : 0 < ((getZ game a).2.2.length : Int) := by
  have := List.length_pos_iff.mpr (gm_at G h).ne
  omega
/-- what a rule of the hand may tell at a place -/
def fitR (game : List Row) (hand : Int) (rule : List (Option Int)) (a : Int) : Prop := ∀ w, getZ rule a = some w → (getZ game a).1 = hand ∧ w ∈ wy game a
def IsR (game : List Row) (hand : Int) (rule : List (Option Int)) : Prop := rule.length = game.length ∧ ∀ a, In game a → fitR game hand rule a
theorem not_isR {game : List Row} {hand : Int} {rule : List (Option Int)} {a w : Int} (h : In game a) (e : getZ rule a = some w) (hw : (getZ game a).1 = hand → w ∉ wy game a) : ¬ IsR game hand rule := fun h2 => by
  obtain ⟨h3, h4⟩ := h2.2 a h w e
  exact hw h3 h4
section
variable {game : List Row} {hand : Int} {rule : List (Option Int)}
theorem is_rule_body (hn : game.length ≤ 1000) : Ok (if (!decide ((rule.length : Int) = (game.length : Int))) then
  (M.ok false)
  else (((rngM 0 (game.length : Int)).bind fun xs31 => forF (fun (place4 : Int) (b18 : Unit) =>
  (ix rule place4).bind fun way19 =>
  (optC way19 (M.ok false) fun way20 => (((ix game place4).bind fun v21 => M.ok v21.1).bind fun v22 => M.ok (!decide (v22 = hand))).bind fun z27 => if z27 then M.ok true else (((ix game place4).bind fun v24 => M.ok v24.2.2).bind fun v26 => M.ok (!decide (way20 ∈ v26)))).bind fun z30 => if z30 then
  (M.ok (Fl.rt false))
  else (M.ok (Fl.nx ()))) xs31 ()).fl fun (b18 : Unit) =>
  M.ok true)) (fun b => b = true ↔ IsR game hand rule) := by
  refine e_ite (fun h => ?_) fun h => ?_
  · simp only [Bool.and_eq_true, Bool.or_eq_true, Bool.and_eq_false_iff, Bool.or_eq_false_iff, Bool.not_eq_true', Bool.not_eq_false', Bool.not_true, Bool.not_false, decide_eq_true_eq, decide_eq_false_iff_not, Bool.not_eq_true, Bool.not_eq_false, Classical.not_not, Option.isNone_iff_eq_none, Option.isSome_iff_ne_none] at h
    refine .of ⟨fun e => (nomatch e), fun e => ?_⟩
    have := e.1
    omega
  · simp only [Bool.and_eq_true, Bool.or_eq_true, Bool.and_eq_false_iff, Bool.or_eq_false_iff, Bool.not_eq_true', Bool.not_eq_false', Bool.not_true, Bool.not_false, decide_eq_true_eq, decide_eq_false_iff_not, Bool.not_eq_true, Bool.not_eq_false, Classical.not_not, Option.isNone_iff_eq_none, Option.isSome_iff_ne_none] at h
    refine b_fl (b_rng (e_forF (fun ys _ => ∀ a ∈ ys, fitR game hand rule a) (fun r => r = true ↔ IsR game hand rule) (fun a ha => nomatch ha) (fun ys x zs b e hi => ?_) (fun b hb => .of ⟨fun _ => ⟨by omega, fun a ha => hb a (rng_mem.mpr ha)⟩, fun _ => rfl⟩) fun r hr => hr))
    have hI : In game x := rng_mem.mp (by rw [e]; simp)
    have ext : fitR game hand rule x → ∀ a ∈ ys ++ [x], fitR game hand rule a := fun hx a ha => by
      rcases List.mem_append.mp ha with ha | ha
      · exact hi a ha
      · rw [List.mem_singleton.mp ha]; exact hx
    have hI1 := hI.1
    have hI2 := hI.2
    refine b_ix (b_opt (fun hnone => ?_) fun w hw => ?_)
    · exact b_ok (e_F rfl (.of (ext fun w hw => by rw [hnone] at hw; cases hw)))
    · (repeat (first | with_reducible refine b_ok ?_ | with_reducible refine b_bind ?_ | with_reducible refine b_lt ?_ | with_reducible refine b_ltb ?_ | with_reducible refine b_nox ?_ | with_reducible refine b_ix ?_ | with_reducible refine b_mod ?_ | with_reducible refine b_fdiv ?_ | with_reducible refine b_mull ?_ | with_reducible refine b_mulr ?_ | with_reducible refine b_app ?_ | with_reducible refine b_cat ?_ | with_reducible refine b_rng ?_ | with_reducible refine b_rngL ?_ | with_reducible refine b_set ?_ | with_reducible refine b_srtS ?_ | with_reducible refine b_dp ?_ | with_reducible refine b_compP ?_ | with_reducible refine b_compFP ?_))
      refine b_ite (fun hc => ?_) fun hc => ?_
      · simp only [Bool.and_eq_true, Bool.or_eq_true, Bool.and_eq_false_iff, Bool.or_eq_false_iff, Bool.not_eq_true', Bool.not_eq_false', Bool.not_true, Bool.not_false, decide_eq_true_eq, decide_eq_false_iff_not, Bool.not_eq_true, Bool.not_eq_false, Classical.not_not, Option.isNone_iff_eq_none, Option.isSome_iff_ne_none] at hc
        refine b_ok (e_T rfl (.of ⟨fun e => (nomatch e), fun h => absurd h (not_isR hI hw fun h => absurd h hc)⟩))
      · simp only [Bool.and_eq_true, Bool.or_eq_true, Bool.and_eq_false_iff, Bool.or_eq_false_iff, Bool.not_eq_true', Bool.not_eq_false', Bool.not_true, Bool.not_false, decide_eq_true_eq, decide_eq_false_iff_not, Bool.not_eq_true, Bool.not_eq_false, Classical.not_not, Option.isNone_iff_eq_none, Option.isSome_iff_ne_none] at hc
        (repeat (first | with_reducible refine b_ok ?_ | with_reducible refine b_bind ?_ | with_reducible refine b_lt ?_ | with_reducible refine b_ltb ?_ | with_reducible refine b_nox ?_ | with_reducible refine b_ix ?_ | with_reducible refine b_mod ?_ | with_reducible refine b_fdiv ?_ | with_reducible refine b_mull ?_ | with_reducible refine b_mulr ?_ | with_reducible refine b_app ?_ | with_reducible refine b_cat ?_ | with_reducible refine b_rng ?_ | with_reducible refine b_rngL ?_ | with_reducible refine b_set ?_ | with_reducible refine b_srtS ?_ | with_reducible refine b_dp ?_ | with_reducible refine b_compP ?_ | with_reducible refine b_compFP ?_))
        refine e_ite (fun hm => ?_) fun hm => ?_
        · simp only [Bool.and_eq_true, Bool.or_eq_true, Bool.and_eq_false_iff, Bool.or_eq_false_iff, Bool.not_eq_true', Bool.not_eq_false', Bool.not_true, Bool.not_false, decide_eq_true_eq, decide_eq_false_iff_not, Bool.not_eq_true, Bool.not_eq_false, Classical.not_not, Option.isNone_iff_eq_none, Option.isSome_iff_ne_none] at hm
          exact .of ⟨fun e => (nomatch e), fun h => absurd h (not_isR hI hw fun _ => hm)⟩
        · simp only [Bool.and_eq_true, Bool.or_eq_true, Bool.and_eq_false_iff, Bool.or_eq_false_iff, Bool.not_eq_true', Bool.not_eq_false', Bool.not_true, Bool.not_false, decide_eq_true_eq, decide_eq_false_iff_not, Bool.not_eq_true, Bool.not_eq_false, Classical.not_not, Option.isNone_iff_eq_none, Option.isSome_iff_ne_none] at hm
          refine .of (ext fun v hv => ?_)
          rw [hw] at hv
          cases hv
          exact ⟨hc, hm⟩
/-- the game that a rule leaves -/
def fxd (game : List Row) (rule : List (Option Int)) : List Row := (rng 0 (game.length : Int)).map fun a => ((getZ game a).1, (getZ game a).2.1, match getZ rule a with | none => wy game a | some w => [w])
theorem fxd_body (hn : game.length ≤ 1000) (hl : rule.length = game.length) : Ok (((rngM 0 (game.length : Int)).bind fun xs46 => forM (fun (place3 : Int) (b25 : (List (Int × Int × (List Int)))) =>
  (((ix game place3).bind fun v26 => M.ok v26.2.2).bind fun v27 => M.ok v27).bind fun ways28 =>
  (((ix rule place3).bind fun v29 => M.ok (!v29.isNone)).bind fun z45 => if z45 then
  ((((ix rule place3).bind fun v34 => unO v34).bind fun v35 => M.ok ([v35] : (List Int))).bind fun ways36 =>
  M.ok ways36)
  else (M.ok ways28)).bind fun (b37 : (List Int)) =>
  (((((ix game place3).bind fun v38 => M.ok v38.1).bind fun v40 => ((ix game place3).bind fun v39 => M.ok v39.2.1).bind fun v41 => M.ok (v40, v41)).bind fun v42 => M.ok (v42.1, v42.2, b37)).bind fun v43 => appM b25 v43).bind fun due_here44 =>
  M.ok due_here44) xs46 ([] : (List (Int × Int × (List Int))))).bind fun (b25 : (List (Int × Int × (List Int)))) =>
  M.ok b25) (fun g => g = fxd game rule) := by
  refine b_bind (b_rng ?_)
  refine b_push (fun a => ((getZ game a).1, (getZ game a).2.1, match getZ rule a with | none => wy game a | some w => [w])) (fun x hx b hb => ?_) (.of rfl) (by rw [rng_len]; omega)
  have hI : In game x := rng_mem.mp hx
  have hI1 := hI.1
  have hI2 := hI.2
  (repeat (first | with_reducible refine b_ok ?_ | with_reducible refine b_bind ?_ | with_reducible refine b_lt ?_ | with_reducible refine b_ltb ?_ | with_reducible refine b_nox ?_ | with_reducible refine b_ix ?_ | with_reducible refine b_mod ?_ | with_reducible refine b_fdiv ?_ | with_reducible refine b_mull ?_ | with_reducible refine b_mulr ?_ | with_reducible refine b_app ?_ | with_reducible refine b_cat ?_ | with_reducible refine b_rng ?_ | with_reducible refine b_rngL ?_ | with_reducible refine b_set ?_ | with_reducible refine b_srtS ?_ | with_reducible refine b_dp ?_ | with_reducible refine b_compP ?_ | with_reducible refine b_compFP ?_))
  refine b_ite (fun hc => ?_) fun hc => ?_
  · cases hq : getZ rule x with
    | none => rw [hq] at hc; cases hc
    | some w =>
      (repeat (first | with_reducible refine b_ok ?_ | with_reducible refine b_bind ?_ | with_reducible refine b_lt ?_ | with_reducible refine b_ltb ?_ | with_reducible refine b_nox ?_ | with_reducible refine b_ix ?_ | with_reducible refine b_mod ?_ | with_reducible refine b_fdiv ?_ | with_reducible refine b_mull ?_ | with_reducible refine b_mulr ?_ | with_reducible refine b_app ?_ | with_reducible refine b_cat ?_ | with_reducible refine b_rng ?_ | with_reducible refine b_rngL ?_ | with_reducible refine b_set ?_ | with_reducible refine b_srtS ?_ | with_reducible refine b_dp ?_ | with_reducible refine b_compP ?_ | with_reducible refine b_compFP ?_))
      refine b_unO hq ?_
      (repeat (first | with_reducible refine b_ok ?_ | with_reducible refine b_bind ?_ | with_reducible refine b_lt ?_ | with_reducible refine b_ltb ?_ | with_reducible refine b_nox ?_ | with_reducible refine b_ix ?_ | with_reducible refine b_mod ?_ | with_reducible refine b_fdiv ?_ | with_reducible refine b_mull ?_ | with_reducible refine b_mulr ?_ | with_reducible refine b_app ?_ | with_reducible refine b_cat ?_ | with_reducible refine b_rng ?_ | with_reducible refine b_rngL ?_ | with_reducible refine b_set ?_ | with_reducible refine b_srtS ?_ | with_reducible refine b_dp ?_ | with_reducible refine b_compP ?_ | with_reducible refine b_compFP ?_))
      exact .of rfl
  · cases hq : getZ rule x with
    | some w => rw [hq] at hc; cases hc
    | none =>
      (repeat (first | with_reducible refine b_ok ?_ | with_reducible refine b_bind ?_ | with_reducible refine b_lt ?_ | with_reducible refine b_ltb ?_ | with_reducible refine b_nox ?_ | with_reducible refine b_ix ?_ | with_reducible refine b_mod ?_ | with_reducible refine b_fdiv ?_ | with_reducible refine b_mull ?_ | with_reducible refine b_mulr ?_ | with_reducible refine b_app ?_ | with_reducible refine b_cat ?_ | with_reducible refine b_rng ?_ | with_reducible refine b_rngL ?_ | with_reducible refine b_set ?_ | with_reducible refine b_srtS ?_ | with_reducible refine b_dp ?_ | with_reducible refine b_compP ?_ | with_reducible refine b_compFP ?_))
      exact .of rfl
theorem rule_body {mx : Int → M Int} (G : GmOk game) (share : Int) (hm : ∀ k, 0 ≤ k → k < 1000000 → Ok (mx k) fun i => 0 ≤ i ∧ i < 2147483629) : Ok (((rngM 0 (game.length : Int)).bind fun xs40 => forM (fun (place5 : Int) (b23 : (List (Option Int))) =>
  (mx (200 + place5)).bind fun number24 =>
  ((ix game place5).bind fun v25 => M.ok v25.2.2).bind fun ways26 =>
  (((((ix game place5).bind fun v27 => M.ok v27.1).bind fun v28 => M.ok (decide (v28 = hand))).bind fun z30 => if z30 then (M.ok (decide ((number24 % 4) < share))) else M.ok false).bind fun z39 => if z39 then
  (((modM (number24 / 4) (ways26.length : Int)).bind fun v35 => ix ways26 v35).bind fun way36 =>
  M.ok (some way36))
  else (M.ok none)).bind fun (b37 : (Option Int)) =>
  (appM b23 b37).bind fun rule_here38 =>
  M.ok rule_here38) xs40 ([] : (List (Option Int)))).bind fun (b23 : (List (Option Int))) =>
  M.ok b23) (IsR game hand) := by
  have hn := G.n
  refine b_bind (b_rng (b_for (fun ys b => b.length = ys.length ∧ ∀ a : Int, 0 ≤ a → a < ys.length → fitR game hand b a) ⟨rfl, fun a h0 h1 => by simp at h1; omega⟩ (fun ys x zs b e ⟨i1, i2⟩ => ?_) fun b ⟨h1, h2⟩ => ?_))
  · obtain ⟨hx, hx2⟩ := rng_split e
    have hI : In game x := ⟨by omega, by omega⟩
    have hI1 := hI.1
    have hI2 := hI.2
    have hp := gm_ne G hI
    have put : ∀ o : Option Int, (∀ w, o = some w → (getZ game x).1 = hand ∧ w ∈ wy game x) → (b ++ [o]).length = (ys ++ [x]).length ∧ ∀ a : Int, 0 ≤ a → a < (ys ++ [x]).length → fitR game hand (b ++ [o]) a := fun o ho => by
      refine ⟨by simp [i1], fun a h0 h1 w hw => ?_⟩
      rw [List.length_append, List.length_singleton] at h1
      rw [getZ_app h0 (by omega)] at hw
      by_cases e : a = b.length
      · rw [if_pos e] at hw
        have : a = x := by omega
        rw [this]
        exact ho w hw
      · rw [if_neg e] at hw
        exact i2 a h0 (by omega) w hw
    refine (hm _ (by omega) (by omega)).call fun number hnum => ?_
    (repeat (first | with_reducible refine b_ok ?_ | with_reducible refine b_bind ?_ | with_reducible refine b_lt ?_ | with_reducible refine b_ltb ?_ | with_reducible refine b_nox ?_ | with_reducible refine b_ix ?_ | with_reducible refine b_mod ?_ | with_reducible refine b_fdiv ?_ | with_reducible refine b_mull ?_ | with_reducible refine b_mulr ?_ | with_reducible refine b_app ?_ | with_reducible refine b_cat ?_ | with_reducible refine b_rng ?_ | with_reducible refine b_rngL ?_ | with_reducible refine b_set ?_ | with_reducible refine b_srtS ?_ | with_reducible refine b_dp ?_ | with_reducible refine b_compP ?_ | with_reducible refine b_compFP ?_))
    refine b_ite (fun hc => ?_) fun hc => ?_
    · simp only [Bool.and_eq_true, Bool.or_eq_true, Bool.and_eq_false_iff, Bool.or_eq_false_iff, Bool.not_eq_true', Bool.not_eq_false', Bool.not_true, Bool.not_false, decide_eq_true_eq, decide_eq_false_iff_not, Bool.not_eq_true, Bool.not_eq_false, Classical.not_not, Option.isNone_iff_eq_none, Option.isSome_iff_ne_none] at hc
      (repeat (first | with_reducible refine b_ok ?_ | with_reducible refine b_bind ?_ | with_reducible refine b_lt ?_ | with_reducible refine b_ltb ?_ | with_reducible refine b_nox ?_ | with_reducible refine b_ix ?_ | with_reducible refine b_mod ?_ | with_reducible refine b_fdiv ?_ | with_reducible refine b_mull ?_ | with_reducible refine b_mulr ?_ | with_reducible refine b_app ?_ | with_reducible refine b_cat ?_ | with_reducible refine b_rng ?_ | with_reducible refine b_rngL ?_ | with_reducible refine b_set ?_ | with_reducible refine b_srtS ?_ | with_reducible refine b_dp ?_ | with_reducible refine b_compP ?_ | with_reducible refine b_compFP ?_))
      refine b_ite (fun hs => ?_) fun hs => ?_
      · refine b_bind (b_bind (b_mod ?_))
        have l0 := Int.emod_nonneg (number / 4) (show ((getZ game x).2.2.length : Int) ≠ 0 by omega)
        have l1 := Int.emod_lt_of_pos (number / 4) hp
        (repeat (first | with_reducible refine b_ok ?_ | with_reducible refine b_bind ?_ | with_reducible refine b_lt ?_ | with_reducible refine b_ltb ?_ | with_reducible refine b_nox ?_ | with_reducible refine b_ix ?_ | with_reducible refine b_mod ?_ | with_reducible refine b_fdiv ?_ | with_reducible refine b_mull ?_ | with_reducible refine b_mulr ?_ | with_reducible refine b_app ?_ | with_reducible refine b_cat ?_ | with_reducible refine b_rng ?_ | with_reducible refine b_rngL ?_ | with_reducible refine b_set ?_ | with_reducible refine b_srtS ?_ | with_reducible refine b_dp ?_ | with_reducible refine b_compP ?_ | with_reducible refine b_compFP ?_))
        exact .of (put _ fun w hw => by cases hw; exact ⟨hc, getZ_mem l0 l1⟩)
      · (repeat (first | with_reducible refine b_ok ?_ | with_reducible refine b_bind ?_ | with_reducible refine b_lt ?_ | with_reducible refine b_ltb ?_ | with_reducible refine b_nox ?_ | with_reducible refine b_ix ?_ | with_reducible refine b_mod ?_ | with_reducible refine b_fdiv ?_ | with_reducible refine b_mull ?_ | with_reducible refine b_mulr ?_ | with_reducible refine b_app ?_ | with_reducible refine b_cat ?_ | with_reducible refine b_rng ?_ | with_reducible refine b_rngL ?_ | with_reducible refine b_set ?_ | with_reducible refine b_srtS ?_ | with_reducible refine b_dp ?_ | with_reducible refine b_compP ?_ | with_reducible refine b_compFP ?_))
        exact .of (put _ fun w hw => by cases hw)
    · (repeat (first | with_reducible refine b_ok ?_ | with_reducible refine b_bind ?_ | with_reducible refine b_lt ?_ | with_reducible refine b_ltb ?_ | with_reducible refine b_nox ?_ | with_reducible refine b_ix ?_ | with_reducible refine b_mod ?_ | with_reducible refine b_fdiv ?_ | with_reducible refine b_mull ?_ | with_reducible refine b_mulr ?_ | with_reducible refine b_app ?_ | with_reducible refine b_cat ?_ | with_reducible refine b_rng ?_ | with_reducible refine b_rngL ?_ | with_reducible refine b_set ?_ | with_reducible refine b_srtS ?_ | with_reducible refine b_dp ?_ | with_reducible refine b_compP ?_ | with_reducible refine b_compFP ?_))
      refine b_F rfl ?_
      (repeat (first | with_reducible refine b_ok ?_ | with_reducible refine b_bind ?_ | with_reducible refine b_lt ?_ | with_reducible refine b_ltb ?_ | with_reducible refine b_nox ?_ | with_reducible refine b_ix ?_ | with_reducible refine b_mod ?_ | with_reducible refine b_fdiv ?_ | with_reducible refine b_mull ?_ | with_reducible refine b_mulr ?_ | with_reducible refine b_app ?_ | with_reducible refine b_cat ?_ | with_reducible refine b_rng ?_ | with_reducible refine b_rngL ?_ | with_reducible refine b_set ?_ | with_reducible refine b_srtS ?_ | with_reducible refine b_dp ?_ | with_reducible refine b_compP ?_ | with_reducible refine b_compFP ?_))
      exact .of (put _ fun w hw => by cases hw)
  · rw [rng_len] at h1
    refine .of ⟨by omega, fun a ha => h2 a ha.1 (by rw [rng_len]; have := ha.2; omega)⟩
end
end PL
end DL

namespace DL
open PySem PySem.Spec L2
/-- extend by any plain list -/
theorem list_extendW (l : Addr) (items : Array Value) (n : Nat) (b : Addr) (items2 : Array Value) (n2 : Nat) (sl2 : Array (Option Value)) (hc0 : ¬(!items.isEmpty && Builtin.List.listTooLong (items.size + items2.size)) = true) (hc1 : items.size ≤ sizeLine) (hs2 : items.size + items2.size ≤ sizeLine + 1) :
    Meets (Builtin.«list.extend» ⟨[.ref l, .ref b], []⟩) (fun _ R s => s.heap.get? l = some { cls := .type "list", dict := none, data := .seq items n, slots := #[] } ∧ s.heap.get? b = some { cls := .type "list", dict := none, data := .seq items2 n2, slots := sl2 } ∧ R (.ok (.ret Value.none)) { s with heap := s.heap.update l (Obj.mapSeq fun x => x ++ items2), toks := s.toks }) :=
  .of_wp fun prog w A R s h => by
    obtain ⟨hp, g, d, tk, os⟩ := s; obtain ⟨hl, hb, h⟩ := h; have f1 := AutoSeq1.idx_int; have f2 := AutoSeq1.sub_tuple_tuple; have f3 := AutoSeq1.sub_list_list; have f4 := AutoSeq1.sub_tuple_list; have f5 := AutoSeq1.sub_list_tuple;
    have hz' : (items ++ items2).size ≤ sizeLine + 1 := by rw [Array.size_append]; exact hs2
    wp_walk using (wpAny_updateSeq hl rfl (hz := hc1) (_hz' := hz')), AutoSeq1.wpAny_loadPart' hl, AutoSeq1.wpAny_loadPart' hb; exact ⟨_, rfl, h⟩

variable {K : PySem.W.Frag} {F F' H H' H0 F0 F1 H1 : Hp} {cs cs' : List Addr} {X : Cx} {α : Type}
def rExtendX (K : PySem.W.Frag) : V → List V → Hp → VK → Prop := fun x vs H Q => ∃ l b xs zs, x = .ref l ∧ vs = [.ref b] ∧ H l = some (.lst xs) ∧ SqL K H b zs ∧ xs.length + zs.length ≤ sizeLine ∧ Q .non (upd H l (.lst (xs ++ zs)))
theorem mt_extendX : MtR X "list.extend" (rExtendX X.K) := by
  intro pins s σ H x vs v us Q I rx rv h
  obtain ⟨l, b, xs, zs, rfl, rfl, hH, hB, hz, q⟩ := h
  cases rx
  obtain ⟨u, rfl, ru⟩ := rv.one
  cases ru
  obtain ⟨z, its, n, r, hl, e⟩ := I.lstM hH
  obtain ⟨its2, r2, ⟨⟨cl2, dd2, dt2, sl2⟩, n2, e2, ec2, ed2, ey2⟩, z2⟩ := I.list hB
  dsimp only at ec2 ed2 ey2
  subst ec2 ed2 ey2
  have hl2 := r2.length
  have hsz : its.toArray.size + its2.toArray.size ≤ sizeLine := by rw [List.size_toArray, List.size_toArray]; omega
  have hlong : ¬ (!its.toArray.isEmpty && Builtin.List.listTooLong (its.toArray.size + its2.toArray.size)) = true := by
    rw [notLongL hsz, Bool.and_false]
    exact Bool.false_ne_true
  refine call_meets PySem.F.slot_list_extend ⟨_, e, rfl⟩ PySem.F.entry_list_extend (PySem.F.args_list_extend_2 _ _)
    (list_extendW l its.toArray n b its2.toArray n2 sl2 hlong (by rw [List.size_toArray]; omega) (by omega)) ⟨e, e2, ?_⟩
  refine ⟨.non, _, I.lset (its' := its ++ its2) hH e (by simp) (r.append r2) ?_, rfl, q⟩
  rw [List.length_append]
  omega
def gExtendF : GMt
  | .lst os, [.fz (.lst ds)] => if os.length + ds.length ≤ lim then some (.lst (os ++ ds.map .fz)) else none
  | _, _ => none
theorem mtt_extendF : MtT X (rExtendX X.K) gExtendF := by
  intro F H s s' as u vs c c' Q fh rs ra nd cf eg k
  unfold gExtendF at eg
  split at eg
  · rename_i os ds
    split at eg
    · rename_i hh
      cases eg
      obtain ⟨a, ys, c2, e1, e2, e3, q⟩ := rs
      obtain ⟨y, r', d1, d2, f1, f2, f3, f4, f5⟩ := ra
      obtain ⟨g0, b, ws, g1, g3, g4⟩ := f3
      subst e1 e2 f1 f2 f4 f5 g0 g1
      have nd2 := nd
      simp only [List.append_nil] at nd2
      rw [List.nodup_cons] at nd2
      refine ⟨a, b, ys, ws, rfl, rfl, e3, sqL_mono fh g3, by rw [← q.len, ← g4.len, ← lim_eq]; exact hh, mt_cell (K := X.K) (F := F) (s' := .lst (os ++ ds.map .fz)) nd (q.append (OReps.fz g4)) ?_ (fun x hx => ?_) k⟩
      · rw [List.append_nil]
        exact nd2.2
      · rw [List.append_nil] at hx
        exact List.mem_append_left _ hx
    · cases eg
  · cases eg
theorem gq_extendF {t : α → D} {v : List α} : GQ gExtendF (oL (oF t)) [oF (eL t) v] (fun xs => extM xs v) := by
  refine ⟨fun y c e => ?_, fun y y' e => ?_⟩
  · unfold extM at e
    dsimp only at e
    split at e <;> cases e
  · unfold extM at e
    dsimp only at e
    split at e
    · rename_i h
      cases e
      show (if (y.map (oF t)).length + (v.map t).length ≤ lim then some (O.lst (y.map (oF t) ++ (v.map t).map .fz)) else none) = some (.lst ((y ++ v).map (oF t)))
      rw [if_pos (by simpa using h), List.map_append, List.map_map]
      rfl
    · cases e
/-- == of what may hold texts -/
def eqQ (e : α → D) (x y : α) : M Bool := if shp (e x) && shp (e y) then .ok (eqD (e x) (e y)) else .bad
def neQ (e : α → D) (x y : α) : M Bool := if shp (e x) && shp (e y) then .ok (!eqD (e x) (e y)) else .bad
theorem o_eqQ {e : α → D} {a b : Ar} {x y : α} (ha : a.d = e x) (hb : b.d = e y) : RQ (gEq a b) (eqQ e x y) (rO (oF eB)) := by
  simp only [RQ_eq]
  unfold gEq eqQ
  rw [ha, hb]
  split
  · exact rfl
  · trivial
theorem o_neQ {e : α → D} {a b : Ar} {x y : α} (ha : a.d = e x) (hb : b.d = e y) : RQ (gNe a b) (neQ e x y) (rO (oF eB)) := by
  simp only [RQ_eq]
  unfold gNe neQ
  rw [ha, hb]
  split
  · exact rfl
  · trivial
theorem shS {x : Str} (h : PyData.strOk x = true) : shp (eS x) = true := Sh.shp (Sh.mono (n := 0) ⟨by simp [eS, toPy, PyData.canLay0, h], by simp [eS, toPy, PyData.depth]⟩ (by decide))
theorem eqQ_S {x y : Str} (hx : PyData.strOk x = true) (hy : PyData.strOk y = true) : eqQ eS x y = .ok (decide (x = y)) := by
  unfold eqQ
  rw [shS hx, shS hy]
  have : eqD (eS x) (eS y) = decide (x = y) := by
    have h : eqD (eS x) (eS y) = true ↔ x = y := by simp [eS, eqD, toPy, PyData.eqv]
    by_cases e : x = y
    · rw [decide_eq_true e]; exact h.mpr e
    · rw [decide_eq_false e]
      cases q : eqD (eS x) (eS y) with
      | false => rfl
      | true => exact absurd (h.mp q) e
  rw [this]
  rfl
end DL

namespace DL
open PySem PySem.Spec L2
namespace PL
/-! ### rows told as a game, and what is refused -/
inductive Vd where | hand | rank | way | many
  deriving DecidableEq
def Vd.exc : Vd → Str
  | .hand => "NoHand"
  | .rank => "NoRank"
  | .way => "NoWay"
  | .many => "TooMany"
def badWs (n : Int) (ws : List Int) : Bool := decide (ws = []) || ws.any fun w => decide (w < 0) || decide (n ≤ w)
def badRow (n : Int) (r : Row) : Option Vd := if (!decide (r.1 = 0)) && (!decide (r.1 = 1)) then some .hand else if decide (r.2.1 < 0) || decide (40 < r.2.1) then some .rank else if badWs n r.2.2 then some .way else none
def grt (rows : List Row) (g : Int) : Int := rows.foldl (fun g r => if r.2.1 > g then r.2.1 else g) g
def ranked (rows : List Row) : Bool := decide (16 < (rows.length : Int)) && rows.any fun r => decide (2 < r.2.1)
def verdict (rows : List Row) : Option Vd := if 160 < (rows.length : Int) then some .many else match rows.findSome? (badRow rows.length) with | some v => some v | none => if ranked rows then some .many else none
def toldR (r : Row) : Row := (r.1, r.2.1, sortU r.2.2)
theorem grt_iff : ∀ {rows : List Row} {g : Int}, 2 < grt rows g ↔ 2 < g ∨ ∃ r ∈ rows, 2 < r.2.1
  | [], g => by simp [grt]
  | r :: rows, g => by
    show 2 < grt rows (if r.2.1 > g then r.2.1 else g) ↔ _
    rw [grt_iff]
    constructor
    · rintro (h | ⟨q, hq, h⟩)
      · split at h
        · exact .inr ⟨r, List.mem_cons_self, h⟩
        · exact .inl h
      · exact .inr ⟨q, List.mem_cons_of_mem _ hq, h⟩
    · rintro (h | ⟨q, hq, h⟩)
      · left
        split <;> omega
      · rcases List.mem_cons.mp hq with rfl | hq
        · left
          split <;> omega
        · exact .inr ⟨q, hq, h⟩
theorem ways_of_body {ws : List Int} {n : Int} (hl : ws.length ≤ 1000) : (if decide ((ws.length : Int) = 0) then
  (M.ex "NoWay")
  else ((forM (fun (way3 : Int) (b5 : Unit) =>
  if (decide (way3 < 0) || decide (n ≤ way3)) then
  (M.ex "NoWay")
  else (M.ok ())) ws ()).bind fun (b5 : Unit) =>
  sortS ws)) = (if badWs n ws then M.ex Vd.way.exc else M.ok (sortU ws) : M (List Int)) := by
  have loop : ∀ us : List Int, forM (fun (way3 : Int) (b5 : Unit) =>
      if (decide (way3 < 0) || decide (n ≤ way3)) then
      (M.ex "NoWay")
      else (M.ok ())) us () = if (us.any fun w => decide (w < 0) || decide (n ≤ w)) then M.ex "NoWay" else M.ok () := fun us => by
    induction us with
    | nil => rfl
    | cons u us ih =>
      unfold forM
      rw [List.any_cons]
      cases q : (decide (u < 0) || decide (n ≤ u)) with
      | true => rfl
      | false => exact ih
  rw [loop]
  unfold badWs
  cases ws with
  | nil => rfl
  | cons w ws =>
    rw [decide_eq_false (by simp; omega), if_neg (by decide), decide_eq_false (by simp), Bool.false_or]
    cases q : ((w :: ws).any fun w => decide (w < 0) || decide (n ≤ w)) with
    | true => rfl
    | false =>
      rw [if_neg (by decide), M.bind_ok, sortS_ok (by omega), if_neg (by decide)]
section
variable {wo : List Int → Int → M (List Int)}
theorem game_of_body (hwo : ∀ ws n, ws.length ≤ 1000 → wo ws n = if badWs n ws then M.ex Vd.way.exc else M.ok (sortU ws)) {rows : List Row} (hr : ∀ r ∈ rows, r.2.2.length ≤ 1000) : (if decide (160 < (rows.length : Int)) then
  (M.ex "TooMany")
  else ((forM (fun (p2 : (Int × Int × (List Int))) (b8 : ((List (Int × Int × (List Int))) × Int)) =>
  if ((!decide (p2.1 = 0)) && (!decide (p2.1 = 1))) then
  (M.ex "NoHand")
  else (if (decide (p2.2.1 < 0) || decide (40 < p2.2.1)) then
  (M.ex "NoRank")
  else ((((wo p2.2.2 (rows.length : Int)).bind fun v9 => M.ok (p2.1, p2.2.1, v9)).bind fun v10 => appM b8.1 v10).bind fun game11 =>
  lt ((if p2.2.1 > b8.2 then p2.2.1 else b8.2) : Int) fun greatest12 =>
  M.ok (game11, greatest12)))) rows (([] : (List (Int × Int × (List Int)))), 0)).bind fun (b8 : ((List (Int × Int × (List Int))) × Int)) =>
  if (decide (16 < (b8.1.length : Int)) && decide (2 < b8.2)) then
  (M.ex "TooMany")
  else (M.ok b8.1))) = (match verdict rows with | some v => M.ex v.exc | none => M.ok (rows.map toldR)) := by
  unfold verdict
  by_cases h160 : 160 < (rows.length : Int)
  · rw [decide_eq_true h160, if_pos rfl, if_pos h160]
    rfl
  rw [decide_eq_false h160, if_neg (by decide), if_neg h160]
  have loop : ∀ (us : List Row) (b : List Row × Int), b.1.length + us.length ≤ 1000 → (∀ r ∈ us, r.2.2.length ≤ 1000) → forM (fun (p2 : (Int × Int × (List Int))) (b8 : ((List (Int × Int × (List Int))) × Int)) =>
      if ((!decide (p2.1 = 0)) && (!decide (p2.1 = 1))) then
      (M.ex "NoHand")
      else (if (decide (p2.2.1 < 0) || decide (40 < p2.2.1)) then
      (M.ex "NoRank")
      else ((((wo p2.2.2 (rows.length : Int)).bind fun v9 => M.ok (p2.1, p2.2.1, v9)).bind fun v10 => appM b8.1 v10).bind fun game11 =>
      lt ((if p2.2.1 > b8.2 then p2.2.1 else b8.2) : Int) fun greatest12 =>
      M.ok (game11, greatest12)))) us b = match us.findSome? (badRow rows.length) with | some v => M.ex v.exc | none => M.ok (b.1 ++ us.map toldR, grt us b.2) := fun us => by
    induction us with
    | nil => intro b _ _; simp [forM, grt]
    | cons u us ih =>
      intro b hb hu
      unfold forM
      rw [List.findSome?_cons]
      rw [List.length_cons] at hb
      cases q1 : ((!decide (u.1 = 0)) && (!decide (u.1 = 1))) with
      | true =>
        have e : badRow rows.length u = some .hand := by unfold badRow; rw [q1]; rfl
        rw [e]
        rfl
      | false =>
        rw [if_neg (by decide)]
        cases q2 : (decide (u.2.1 < 0) || decide (40 < u.2.1)) with
        | true =>
          have e : badRow rows.length u = some .rank := by unfold badRow; rw [q1, q2]; rfl
          rw [e]
          rfl
        | false =>
          rw [if_neg (by decide), hwo _ _ (hu u List.mem_cons_self)]
          cases q3 : badWs (rows.length : Int) u.2.2 with
          | true =>
            have e : badRow rows.length u = some .way := by unfold badRow; rw [q1, q2, q3]; rfl
            rw [e]
            rfl
          | false =>
            have e : badRow rows.length u = none := by unfold badRow; rw [q1, q2, q3]; rfl
            rw [e, if_neg (by decide)]
            simp only [M.bind_ok]
            rw [appM_ok (by omega), M.bind_ok, lt_eq, M.bind_ok, ih _ (by rw [List.length_append, List.length_singleton]; omega) fun r hr => hu r (List.mem_cons_of_mem _ hr)]
            cases us.findSome? _ with
            | some v => rfl
            | none => simp [grt, toldR]
  rw [loop _ _ (by simp; omega) hr]
  cases rows.findSome? (badRow rows.length) with
  | some v => rfl
  | none =>
    rw [M.bind_ok]
    have e : (decide (16 < ((([] : List Row) ++ rows.map toldR).length : Int)) && decide (2 < grt rows 0)) = ranked rows := by
      unfold ranked
      rw [List.nil_append, List.length_map]
      congr 1
      rw [Bool.eq_iff_iff, decide_eq_true_iff, grt_iff, List.any_eq_true]
      simp
    rw [e]
    cases ranked rows with
    | true => rfl
    | false => rfl
end
/-- of which none is refused -/
structure Fine (n : Int) (r : Row) : Prop where
  hand : r.1 = 0 ∨ r.1 = 1
  r0 : 0 ≤ r.2.1
  r1 : r.2.1 ≤ 40
  r2 : 16 < n → r.2.1 ≤ 2
  ne : r.2.2 ≠ []
  len : r.2.2.length ≤ 200
  in_ : ∀ w ∈ r.2.2, 0 ≤ w ∧ w < n
theorem verdict_fine {rows : List Row} (hl : rows.length ≤ 160) (h : ∀ r ∈ rows, Fine rows.length r) : verdict rows = none := by
  unfold verdict
  rw [if_neg (by omega)]
  have e : rows.findSome? (badRow rows.length) = none := List.findSome?_eq_none_iff.mpr fun r hr => by
    have f := h r hr
    have f0 := f.r0
    have f1 := f.r1
    unfold badRow
    have c1 : ((!decide (r.1 = 0)) && (!decide (r.1 = 1))) = false := by
      rcases f.hand with h | h <;> simp [h]
    have c2 : (decide (r.2.1 < 0) || decide (40 < r.2.1)) = false := by
      rw [decide_eq_false (by omega), decide_eq_false (by omega)]
      rfl
    have c3 : badWs (rows.length : Int) r.2.2 = false := by
      unfold badWs
      rw [decide_eq_false f.ne, Bool.false_or, List.any_eq_false]
      intro w hw
      have := f.in_ w hw
      rw [decide_eq_false (by omega), decide_eq_false (by omega)]
      decide
    rw [c1, c2, c3]
    rfl
  rw [e]
  have c : ranked rows = false := by
    unfold ranked
    by_cases h16 : 16 < (rows.length : Int)
    · rw [decide_eq_true h16, Bool.true_and, List.any_eq_false]
      intro r hr
      have := (h r hr).r2 h16
      rw [decide_eq_false (by omega)]
      decide
    · rw [decide_eq_false h16, Bool.false_and]
  show (if ranked rows = true then some Vd.many else none) = none
  rw [c]
  rfl
end PL
end DL

namespace DL
open PySem PySem.Spec L2 PyProof.Rows
variable {K : PySem.W.Frag} {F F' H H' H0 F0 F1 H1 : Hp} {cs cs' : List Addr} {X : Cx} {W : WX} {α : Type}
/-! ### sorted(xs), xs a list of pairs of ints -/
def insP (x : Int × Int) : List (Int × Int) → List (Int × Int)
  | [] => [x]
  | y :: ys => if SrtO.lexB y x then y :: insP x ys else x :: y :: ys
def sortP : List (Int × Int) → List (Int × Int)
  | [] => []
  | x :: xs => insP x (sortP xs)
theorem insP_perm (x : Int × Int) : ∀ ys, (insP x ys).Perm (x :: ys)
  | [] => List.Perm.refl _
  | y :: ys => by
    unfold insP
    split
    · exact ((insP_perm x ys).cons y).trans (List.Perm.swap x y ys)
    · exact List.Perm.refl _
theorem sortP_perm : ∀ xs, (sortP xs).Perm xs
  | [] => List.Perm.refl _
  | x :: xs => (insP_perm x _).trans ((sortP_perm xs).cons x)
/-- no later one is below -/
def leP (p q : Int × Int) : Prop := p.1 < q.1 ∨ (p.1 = q.1 ∧ p.2 ≤ q.2)
theorem insP_sorted {x : Int × Int} : ∀ {ys}, ys.Pairwise leP → (insP x ys).Pairwise leP
  | [], _ => List.pairwise_singleton _ _
  | y :: ys, h => by
    obtain ⟨h1, h2⟩ := List.pairwise_cons.mp h
    unfold insP
    split
    · rename_i hc
      have hc := SrtO.lexB_iff.mp hc
      refine List.pairwise_cons.mpr ⟨fun z hz => ?_, insP_sorted h2⟩
      rcases List.mem_cons.mp ((insP_perm x ys).mem_iff.mp hz) with rfl | hz
      · unfold leP; omega
      · exact h1 z hz
    · rename_i hc
      have hc : SrtO.lexB y x = false := by simpa using hc
      have hc := SrtO.lexB_no.mp hc
      refine List.pairwise_cons.mpr ⟨fun z hz => ?_, h⟩
      rcases List.mem_cons.mp hz with rfl | hz
      · unfold leP; omega
      · have := h1 z hz
        unfold leP at this ⊢
        omega
theorem sortP_sorted : ∀ xs, (sortP xs).Pairwise leP
  | [] => List.Pairwise.nil
  | x :: xs => insP_sorted (sortP_sorted xs)
theorem sortP_uniq : ∀ {l m : List (Int × Int)}, l.Perm m → l.Pairwise leP → m.Pairwise leP → l = m
  | [], m, p, _, _ => (List.nil_perm.mp p).symm
  | x :: l, [], p, _, _ => absurd p.length_eq (by simp)
  | x :: l, y :: m, p, h1, h2 => by
    obtain ⟨a1, a2⟩ := List.pairwise_cons.mp h1
    obtain ⟨b1, b2⟩ := List.pairwise_cons.mp h2
    have e : x = y := by
      have m1 : x ∈ y :: m := p.mem_iff.mp List.mem_cons_self
      have m2 : y ∈ x :: l := p.mem_iff.mpr List.mem_cons_self
      rcases List.mem_cons.mp m1 with e | m1
      · exact e
      · rcases List.mem_cons.mp m2 with e | m2
        · exact e.symm
        · have c1 := a1 y m2
          have c2 := b1 x m1
          unfold leP at c1 c2
          exact Prod.ext (by omega) (by omega)
    subst e
    rw [sortP_uniq ((List.perm_cons x).mp p) a2 b2]
def pD (p : Int × Int) : D := .tup [.int p.1, .int p.2]
theorem rep_pD {p : Int × Int} {v : V} (h : Rep K F (pD p) v) : ∃ t, v = .ref t ∧ F t = some (.tup [.int p.1, .int p.2]) := by
  obtain ⟨a, vs, e, s, r⟩ := h
  obtain ⟨x, r1, e1, rx, y, r2, e2, ry, e3⟩ := r
  subst e1 e2 e3
  rw [show x = .int p.1 from rx, show y = .int p.2 from ry] at s
  exact ⟨a, e, s⟩
def rSortedPX (K : PySem.W.Frag) : List V → Hp → VK → Prop := fun vs H Q => ∃ (F : Hp) (a : Addr) (xs : List V) (ps : List (Int × Int)), Same F H ∧ vs = [V.ref a] ∧ SqL K H a xs ∧ Reps K F (ps.map pD) xs ∧
  ∀ ys p, Reps K F ((sortP ps).map pD) ys → H p = none → Q (.ref p) (upd H p (.lst ys))
theorem reps_mem : ∀ {ps : List (Int × Int)} {xs : List V}, Reps K F (ps.map pD) xs → ∀ x ∈ xs, ∃ p, Rep K F (pD p) x
  | [], xs, h, x, hx => by rw [show xs = [] from h] at hx; cases hx
  | p :: ps, _, ⟨v, r, e, h1, h2⟩, x, hx => by
    subst e
    rcases List.mem_cons.mp hx with rfl | hx
    · exact ⟨p, h1⟩
    · exact reps_mem h2 x hx
open Classical in
theorem cr_sortedPX : CallR X (.builtin "sorted") (rSortedPX X.K) := by
  intro pins s σ H vs us Q I r h
  obtain ⟨F, a, xs, ps, fh, rfl, hs, hx, q⟩ := h
  have inj : ∀ (x : V) (p p' : Int × Int), Rep X.K F (pD p) x → Rep X.K F (pD p') x → p = p' := fun x p p' h h' => by
    obtain ⟨t, e, s1⟩ := rep_pD h
    obtain ⟨t', e', s2⟩ := rep_pD h'
    subst e
    cases e'
    rw [s1] at s2
    injection s2 with s2
    injection s2 with s2
    injection s2 with e1 e2
    injection e2 with e2 _
    injection e1 with e1
    injection e2 with e2
    exact Prod.ext e1 e2
  let k : V → Int × Int := fun x => if h : ∃ p, Rep X.K F (pD p) x then h.choose else (0, 0)
  have hk : ∀ x p, Rep X.K F (pD p) x → k x = p := fun x p h => by
    have h2 : ∃ p, Rep X.K F (pD p) x := ⟨p, h⟩
    show (if h : ∃ p, Rep X.K F (pD p) x then h.choose else (0, 0)) = p
    rw [dif_pos h2]
    exact inj x _ _ h2.choose_spec h
  have hm : ∀ x ∈ xs, Rep X.K F (pD (k x)) x := fun x hxm => by
    obtain ⟨p, hp⟩ := reps_mem hx x hxm
    rw [hk x p hp]
    exact hp
  have hkx : ∀ {ps : List (Int × Int)} {xs : List V}, Reps X.K F (ps.map pD) xs → xs.map k = ps := fun {ps xs} => by
    induction ps generalizing xs with
    | nil => intro h; rw [show xs = [] from h]; rfl
    | cons p ps ih =>
      rintro ⟨v, r, e, h1, h2⟩
      rw [e, List.map_cons, hk v p h1, ih h2]
  have rep_of : ∀ {ys : List V}, (∀ y ∈ ys, Rep X.K F (pD (k y)) y) → Reps X.K F ((ys.map k).map pD) ys := fun {ys} => by
    induction ys with
    | nil => intro _; rfl
    | cons y ys ih => intro h; exact ⟨y, ys, rfl, h y List.mem_cons_self, ih fun z hz => h z (List.mem_cons_of_mem _ hz)⟩
  obtain ⟨its, rv, hl, hz⟩ := I.list hs
  obtain ⟨u, rfl, ru⟩ := vals1 r
  obtain rfl : u = Value.ref a := ru
  obtain ⟨e1, e2⟩ := refs_back rv fun x m => by
    obtain ⟨t, e, _⟩ := rep_pD (hm x m)
    exact ⟨t, e⟩
  refine SrtO.sorted_pairsO (k := fun u => k (backV u)) hl.isList (by rw [← rv.length]; exact hz) (fun v hv => ?_) fun h' d out h1 h2 kp hd hn => ?_
  · obtain ⟨t, rfl⟩ := e2 v hv
    have hmm : V.ref t ∈ xs := by rw [e1]; exact List.mem_map.mpr ⟨_, hv, rfl⟩
    obtain ⟨t', e, ht⟩ := rep_pD (Rep.mono fh (hm _ hmm))
    cases e
    obtain ⟨its2, r2, ⟨o, ho, hc, n, hd⟩, _⟩ := I.tuple (SqT.of ht)
    obtain ⟨u1, u2, rfl, ri, rj⟩ := vals2 r2
    obtain ⟨t1, rfl⟩ := ri
    obtain ⟨t2, rfl⟩ := rj
    exact ⟨t, o, t1, t2, n, rfl, ho, hc, hd⟩
  · have h3 : ∀ u ∈ out, ∃ a, u = Value.ref a := fun u hu => e2 u (h2.perm.mem_iff.mp hu)
    obtain ⟨n, hn⟩ := hn
    have hb : SrtO.Stb (ltP k) (out.map backV) xs := by
      rw [e1]
      exact SrtO.Stb.map (ltP_swo k) backV h2
    refine ⟨.ref d, upd H d (.lst (out.map backV)), I.laid (t' := s.toks) kp hd ⟨?_, out, n, vals_back h3, hn⟩, rfl, q _ d ?_ (I.hok.fresh hd)⟩
    · rw [hb.len]
      exact hz
    · have hy := rep_of (ys := out.map backV) fun y hy => hm y (hb.perm.mem_iff.mp hy)
      have hsort : (out.map backV).map k = sortP ps := by
        refine sortP_uniq ?_ ?_ (sortP_sorted ps)
        · have := (hb.perm.map k).trans (List.Perm.of_eq (hkx hx))
          exact this.trans (sortP_perm ps).symm
        · have hs := SrtO.srtd_map (lt := ltP k) (f := backV) h1
          refine List.pairwise_map.mpr (hs.imp fun {x y} h => ?_)
          have := SrtO.lexB_no.mp h
          unfold leP
          omega
      rw [hsort] at hy
      exact hy

def pairsD : List D → Option (List (Int × Int))
  | [] => some []
  | .tup [.int i, .int j] :: ds => match pairsD ds with
    | some is => some ((i, j) :: is)
    | none => none
  | _ :: _ => none
theorem pairsD_map : ∀ ps : List (Int × Int), pairsD (ps.map (eT2 eI eI)) = some ps
  | [] => rfl
  | p :: ps => by
    show (match pairsD (ps.map (eT2 eI eI)) with | some is => some ((p.1, p.2) :: is) | none => none) = _
    rw [pairsD_map ps]
theorem pairsD_eq : ∀ {ds ps}, pairsD ds = some ps → ds = ps.map pD
  | [], ps, h => by cases h; rfl
  | d :: ds, ps, h => by
    unfold pairsD at h
    split at h
    · rename_i e; cases e
    · rename_i i j ds' e
      injection e with e1 e2
      subst e1 e2
      cases q : pairsD ds with
      | none => rw [q] at h; cases h
      | some is => rw [q] at h; cases h; rw [List.map_cons, ← pairsD_eq q]; rfl
    · cases h
def gSortP : List Ar → Rs
  | [a] => match a.o.seq with
    | some (true, os) => match allFz os with
      | some ds => match pairsD ds with
        | some ps => .ok (.ow (.lst (((sortP ps).map pD).map .fz)))
        | none => .bad
      | none => .bad
    | _ => .bad
  | _ => .bad
theorem vc_sortP : VCall X W (rSortedPX X.K) gSortP := by
  intro σ F H vs as cs Q fh r p
  unfold gSortP at p
  split at p
  · rename_i a
    obtain ⟨v, rfl, ra⟩ := areps1 r
    obtain ⟨c, q⟩ := ra.some
    split at p
    · rename_i os e
      obtain ⟨u, vs, c2, rfl, s, t⟩ := seq_rep fh q e
      split at p
      · rename_i ds ed
        split at p
        · rename_i ps ep
          rw [allFz_eq ed] at t
          obtain ⟨_, t2⟩ := OReps.of_fz t
          rw [pairsD_eq ep] at t2
          exact ⟨F, u, vs, ps, fh, rfl, s, t2, fun ys q hy nq => post_lst fh nq hy rfl p⟩
        · exact p.elim
      · exact p.elim
    · exact p.elim
  · exact p.elim
theorem o_sortP {a : Ar} {ps : List (Int × Int)} {os : List O} (ha : a.o.seq = some (true, os)) (h1 : allFz os = some (ps.map (eT2 eI eI))) : gSortP [a] = .ok (.ow (oL (oF (eT2 eI eI)) (sortP ps))) := by
  unfold gSortP
  dsimp only
  rw [ha]
  dsimp only
  rw [h1]
  dsimp only
  rw [pairsD_map]
  show Rs.ok (.ow (.lst (((sortP ps).map pD).map .fz))) = _
  rw [List.map_map]
  rfl
end DL

namespace DL
open PySem PySem.Spec L2 PyProof.Rows
variable {K : PySem.W.Frag} {F F' H H' H0 F0 F1 H1 : Hp} {cs cs' : List Addr} {X : Cx} {W : WX} {α : Type}
/-! ### any(xs), all(xs) of a list of bools -/
def blsD : List D → Option (List Bool)
  | [] => some []
  | .bl i :: ds => match blsD ds with
    | some is => some (i :: is)
    | none => none
  | _ :: _ => none
theorem blsD_map : ∀ ps : List Bool, blsD (ps.map eB) = some ps
  | [] => rfl
  | p :: ps => by
    show (match blsD (ps.map eB) with | some is => some (p :: is) | none => none) = _
    rw [blsD_map ps]
theorem blsD_rep : ∀ {ds ps vs}, blsD ds = some ps → Reps K F ds vs → vs = ps.map V.bl
  | [], ps, vs, h, r => by cases h; exact r
  | d :: ds, ps, vs, h, r => by
    unfold blsD at h
    split at h
    · rename_i e; cases e
    · rename_i i ds' e
      injection e with e1 e2
      subst e1 e2
      obtain ⟨v, r', e, r1, r2⟩ := r
      cases q : blsD ds with
      | none => rw [q] at h; cases h
      | some is =>
        rw [q] at h
        cases h
        rw [e, show v = .bl i from r1, blsD_rep q r2]
        rfl
    · cases h
def gBls (g : List Bool → Bool) : List Ar → Rs
  | [a] => match a.o.seq with
    | some (true, os) => match allFz os with
      | some ds => match blsD ds with
        | some ps => okB (g ps)
        | none => .bad
      | none => .bad
    | _ => .bad
  | _ => .bad
theorem vc_bls {g : List Bool → Bool} : VCall X W (fun vs H Q => ∃ (a : Addr) (bs : List Bool), vs = [V.ref a] ∧ SqL X.K H a (bs.map V.bl) ∧ Q (.bl (g bs)) H) (gBls g) := by
  intro σ F H vs as cs Q fh r p
  unfold gBls at p
  split at p
  · rename_i a
    obtain ⟨v, rfl, ra⟩ := areps1 r
    obtain ⟨c, q⟩ := ra.some
    split at p
    · rename_i os e
      obtain ⟨u, vs, c2, rfl, s, t⟩ := seq_rep fh q e
      split at p
      · rename_i ds ed
        split at p
        · rename_i ps ep
          rw [allFz_eq ed] at t
          obtain ⟨_, t2⟩ := OReps.of_fz t
          rw [blsD_rep ep t2] at s
          exact ⟨u, ps, rfl, s, post_flat (d := .bl (g ps)) fh rfl p⟩
        · exact p.elim
      · exact p.elim
    · exact p.elim
  · exact p.elim
theorem vc_any : VCall X W (rAny X.K) (gBls fun bs => bs.any id) := vc_bls
theorem vc_all : VCall X W (rAll X.K) (gBls fun bs => bs.all id) := vc_bls
theorem o_bls {g : List Bool → Bool} {a : Ar} {ps : List Bool} {os : List O} (ha : a.o.seq = some (true, os)) (h1 : allFz os = some (ps.map eB)) : gBls g [a] = okB (g ps) := by
  unfold gBls
  dsimp only
  rw [ha]
  dsimp only
  rw [h1]
  dsimp only
  rw [blsD_map]
end DL

namespace DL
open PySem PySem.Spec L2
namespace PL
/-! ### rows of a purse game, and what is refused -/
abbrev PRow := Int × List (Int × Int)
inductive Vp where | hand | way | amount | many
  deriving DecidableEq
def Vp.exc : Vp → Str
  | .hand => "NoHand"
  | .way => "NoWay"
  | .amount => "NoAmount"
  | .many => "TooMany"
def okW (n : Int) : List Int → List (Int × Int) → Bool
  | _, [] => true
  | ks, p :: ps => (decide (0 ≤ p.1) && decide (p.1 < n)) && (!decide (p.1 ∈ ks)) && okW n (p.1 :: ks) ps
theorem okW_iff {n : Int} : ∀ {ps : List (Int × Int)} {ks : List Int}, okW n ks ps = true ↔ (∀ p ∈ ps, 0 ≤ p.1 ∧ p.1 < n ∧ p.1 ∉ ks) ∧ (ps.map (·.1)).Nodup
  | [], ks => by simp [okW]
  | p :: ps, ks => by
    unfold okW
    rw [Bool.and_eq_true, okW_iff, List.map_cons, List.nodup_cons]
    simp only [Bool.and_eq_true, decide_eq_true_eq, Bool.not_eq_true', decide_eq_false_iff_not, List.mem_cons, not_or]
    constructor
    · rintro ⟨⟨⟨h1, h2⟩, h3⟩, h4, h5⟩
      refine ⟨fun q hq => ?_, fun hm => ?_, h5⟩
      · rcases hq with rfl | hq
        · exact ⟨h1, h2, h3⟩
        · obtain ⟨a, b, c⟩ := h4 q hq
          exact ⟨a, b, c.2⟩
      · obtain ⟨q, hq, e⟩ := List.mem_map.mp hm
        exact (h4 q hq).2.2.1 e
    · rintro ⟨h1, h2, h3⟩
      obtain ⟨a, b, c⟩ := h1 p (.inl rfl)
      refine ⟨⟨⟨a, b⟩, c⟩, fun q hq => ?_, h3⟩
      obtain ⟨a', b', c'⟩ := h1 q (.inr hq)
      exact ⟨a', b', fun e => h2 (List.mem_map.mpr ⟨q, hq, e⟩), c'⟩
def badPW (n : Int) (ws : List (Int × Int)) : Bool := decide (ws = []) || !okW n [] ws
def badAm (ws : List (Int × Int)) : Bool := ws.any fun p => decide ((10 ^ 60 : Int) ≤ (if p.2 < 0 then -p.2 else p.2))
def badP (n : Int) (r : PRow) : Option Vp := if (!decide (r.1 = 0)) && (!decide (r.1 = 1)) then some .hand else if badPW n r.2 then some .way else if badAm r.2 then some .amount else none
def verdictP (rows : List PRow) : Option Vp := if 16 < (rows.length : Int) then some .many else rows.findSome? (badP rows.length)
def toldP (r : PRow) : PRow := (r.1, sortP r.2)
theorem look_ways_body {ws : List (Int × Int)} {n : Int} (hl : ws.length ≤ 1000) : (if decide ((ws.length : Int) = 0) then
  (M.ex "NoWay")
  else ((forM (fun (p3 : (Int × Int)) (b8 : (Dc Int Bool)) =>
  if ((!(decide (0 ≤ p3.1) && decide (p3.1 < n))) || (dg b8 p3.1).isSome) then
  (M.ex "NoWay")
  else ((dpM b8 p3.1 true).bind fun seen9 =>
  M.ok seen9)) ws ([] : (Dc Int Bool))).bind fun (b8 : (Dc Int Bool)) =>
  M.ok ())) = (if badPW n ws then M.ex Vp.way.exc else M.ok () : M Unit) := by
  have loop : ∀ (us : List (Int × Int)) (ks : List Int) (d : Dc Int Bool), d.length + us.length ≤ 1000 → (∀ x, (dg d x).isSome = decide (x ∈ ks)) → (forM (fun (p3 : (Int × Int)) (b8 : (Dc Int Bool)) =>
      if ((!(decide (0 ≤ p3.1) && decide (p3.1 < n))) || (dg b8 p3.1).isSome) then
      (M.ex "NoWay")
      else ((dpM b8 p3.1 true).bind fun seen9 =>
      M.ok seen9)) us d).bind (fun (b8 : (Dc Int Bool)) => M.ok ()) = if okW n ks us then M.ok () else M.ex Vp.way.exc := fun us => by
    induction us with
    | nil => intro ks d _ _; rfl
    | cons u us ih =>
      intro ks d hd hk
      rw [List.length_cons] at hd
      unfold forM okW
      rw [hk]
      cases q1 : (decide (0 ≤ u.1) && decide (u.1 < n)) with
      | false => rfl
      | true =>
        cases q2 : decide (u.1 ∈ ks) with
        | true => rfl
        | false =>
          rw [if_neg (by decide), dpM_ok (by omega), M.bind_ok, M.bind_ok]
          have l := dp_len (d := d) (k := u.1) (v := true)
          rw [ih (u.1 :: ks) _ (by omega) fun x => ?_]
          · rfl
          · rw [dg_dp]
            by_cases e : u.1 = x
            · rw [if_pos e, e]; simp
            · rw [if_neg e, hk]
              have : x ≠ u.1 := fun h => e h.symm
              simp [this]
  unfold badPW
  cases ws with
  | nil => rfl
  | cons w ws =>
    rw [decide_eq_false (by simp; omega), if_neg (by decide), loop _ [] [] (by simpa using hl) fun x => by simp [dg]]
    rw [decide_eq_false (by simp), Bool.false_or]
    cases okW n [] (w :: ws) <;> rfl
theorem look_amounts_body {ws : List (Int × Int)} : ((forM (fun (p2 : (Int × Int)) (b4 : Unit) =>
  if decide ((10 ^ 60 : Int) ≤ (if p2.2 < 0 then -p2.2 else p2.2)) then
  (M.ex "NoAmount")
  else (M.ok ())) ws ()).bind fun (b4 : Unit) =>
  M.ok ()) = (if badAm ws then M.ex Vp.amount.exc else M.ok () : M Unit) := by
  unfold badAm
  induction ws with
  | nil => rfl
  | cons u us ih =>
    unfold forM
    rw [List.any_cons]
    cases q : decide ((10 ^ 60 : Int) ≤ (if u.2 < 0 then -u.2 else u.2)) with
    | true => rfl
    | false => exact ih
theorem purse_game_body {lw : List (Int × Int) → Int → M Unit} {la : List (Int × Int) → M Unit} (hw : ∀ ws n, ws.length ≤ 1000 → lw ws n = if badPW n ws then M.ex Vp.way.exc else M.ok ()) (ha : ∀ ws, la ws = if badAm ws then M.ex Vp.amount.exc else M.ok ()) {rows : List PRow} (hr : ∀ r ∈ rows, r.2.length ≤ 1000) : (if decide (16 < (rows.length : Int)) then
  (M.ex "TooMany")
  else ((forM (fun (p2 : (Int × (List (Int × Int)))) (b6 : Unit) =>
  if ((!decide (p2.1 = 0)) && (!decide (p2.1 = 1))) then
  (M.ex "NoHand")
  else ((lw p2.2 (rows.length : Int)).bind fun u7 =>
  (la p2.2).bind fun u8 =>
  M.ok ())) rows ()).bind fun (b6 : Unit) =>
  compP (fun (p10 : (Int × (List (Int × Int)))) => (p10.1, sortP p10.2)) rows)) = (match verdictP rows with | some v => M.ex v.exc | none => M.ok (rows.map toldP)) := by
  unfold verdictP
  by_cases h16 : 16 < (rows.length : Int)
  · rw [decide_eq_true h16, if_pos rfl, if_pos h16]
    rfl
  rw [decide_eq_false h16, if_neg (by decide), if_neg h16]
  have loop : ∀ us : List PRow, (∀ r ∈ us, r.2.length ≤ 1000) → forM (fun (p2 : (Int × (List (Int × Int)))) (b6 : Unit) =>
      if ((!decide (p2.1 = 0)) && (!decide (p2.1 = 1))) then
      (M.ex "NoHand")
      else ((lw p2.2 (rows.length : Int)).bind fun u7 =>
      (la p2.2).bind fun u8 =>
      M.ok ())) us () = match us.findSome? (badP rows.length) with | some v => M.ex v.exc | none => M.ok () := fun us => by
    induction us with
    | nil => intro _; rfl
    | cons u us ih =>
      intro hu
      unfold forM
      rw [List.findSome?_cons]
      cases q1 : ((!decide (u.1 = 0)) && (!decide (u.1 = 1))) with
      | true =>
        have e : badP rows.length u = some .hand := by unfold badP; rw [q1]; rfl
        rw [e]
        rfl
      | false =>
        rw [if_neg (by decide), hw _ _ (hu u List.mem_cons_self), ha]
        cases q2 : badPW (rows.length : Int) u.2 with
        | true =>
          have e : badP rows.length u = some .way := by unfold badP; rw [q1, q2]; rfl
          rw [e]
          rfl
        | false =>
          cases q3 : badAm u.2 with
          | true =>
            have e : badP rows.length u = some .amount := by unfold badP; rw [q1, q2, q3]; rfl
            rw [e]
            rfl
          | false =>
            have e : badP rows.length u = none := by unfold badP; rw [q1, q2, q3]; rfl
            rw [e]
            exact ih fun r hr => hu r (List.mem_cons_of_mem _ hr)
  rw [loop rows hr]
  cases rows.findSome? (badP rows.length) with
  | some v => rfl
  | none =>
    show compP _ rows = _
    rw [compP_ok (by omega)]
    rfl
structure FineP (n : Int) (r : PRow) : Prop where
  hand : r.1 = 0 ∨ r.1 = 1
  ne : r.2 ≠ []
  in_ : ∀ p ∈ r.2, 0 ≤ p.1 ∧ p.1 < n
  nd : (r.2.map (·.1)).Nodup
  am : ∀ p ∈ r.2, -(10 ^ 60 : Int) < p.2 ∧ p.2 < (10 ^ 60 : Int)
theorem badP_fine {n : Int} {r : PRow} (f : FineP n r) : badP n r = none := by
  unfold badP
  have c1 : ((!decide (r.1 = 0)) && (!decide (r.1 = 1))) = false := by
    rcases f.hand with h | h <;> simp [h]
  have c2 : badPW n r.2 = false := by
    unfold badPW
    rw [decide_eq_false f.ne, Bool.false_or, okW_iff.mpr ⟨fun p hp => ?_, f.nd⟩]
    · rfl
    · exact ⟨(f.in_ p hp).1, (f.in_ p hp).2, fun h => nomatch h⟩
  have c3 : badAm r.2 = false := by
    unfold badAm
    rw [List.any_eq_false]
    intro p hp
    have := f.am p hp
    rw [decide_eq_false (by split <;> omega)]
    decide
  rw [c1, c2, c3]
  rfl
theorem verdictP_fine {rows : List PRow} (hl : rows.length ≤ 16) (h : ∀ r ∈ rows, FineP rows.length r) : verdictP rows = none := by
  unfold verdictP
  rw [if_neg (by omega)]
  exact List.findSome?_eq_none_iff.mpr fun r hr => badP_fine (h r hr)
theorem sortP_id {ps : List (Int × Int)} (h : ps.Pairwise fun p q => p.1 < q.1) : sortP ps = ps := sortP_uniq (sortP_perm ps) (sortP_sorted ps) (h.imp fun h => .inl h)
theorem sortP_of {ps qs : List (Int × Int)} (h : qs.Pairwise fun p q => p.1 < q.1) (e : ps.Perm qs) : sortP ps = qs := sortP_uniq ((sortP_perm ps).trans e) (sortP_sorted ps) (h.imp fun h => .inl h)
/-- the lookup of a script -/
theorem at_body {ns : List Int} (hn : ns.length ≤ 63) (k : Int) (h0 : 0 ≤ k := by omega) (h1 : k < 1000000 := by omega) : Ok (if decide (k < (ns.length : Int)) then
  (ix ns k)
  else (lt (((7 * k) + 3) : Int) fun mixed3 =>
  (if decide (0 < (ns.length : Int)) then
  ((((((modM k (ns.length : Int)).bind fun v14 => ix ns v14).bind fun v15 => M.ok (v15 % 1000003)).bind fun v17 => mulM v17 (k + 1)).bind fun v20 => M.ok (mixed3 + v20)).bind fun mixed21 =>
  M.ok mixed21)
  else (M.ok mixed3)).bind fun (b22 : Int) =>
  ((mulM b22 b22).bind fun v23 => M.ok (v23 % 999979)).bind fun v25 => M.ok (v25 + (b22 % 101)))) (fun _ => True) := by
  refine e_ite (fun hc => ?_) fun hc => ?_
  · simp only [Bool.and_eq_true, Bool.or_eq_true, Bool.and_eq_false_iff, Bool.or_eq_false_iff, Bool.not_eq_true', Bool.not_eq_false', Bool.not_true, Bool.not_false, decide_eq_true_eq, decide_eq_false_iff_not, Bool.not_eq_true, Bool.not_eq_false, Classical.not_not, Option.isNone_iff_eq_none, Option.isSome_iff_ne_none] at hc
    refine e_end (b_ix (.of trivial))
  · simp only [Bool.and_eq_true, Bool.or_eq_true, Bool.and_eq_false_iff, Bool.or_eq_false_iff, Bool.not_eq_true', Bool.not_eq_false', Bool.not_true, Bool.not_false, decide_eq_true_eq, decide_eq_false_iff_not, Bool.not_eq_true, Bool.not_eq_false, Classical.not_not, Option.isNone_iff_eq_none, Option.isSome_iff_ne_none] at hc
    (repeat (first | with_reducible refine b_ok ?_ | with_reducible refine b_bind ?_ | with_reducible refine b_lt ?_ | with_reducible refine b_ltb ?_ | with_reducible refine b_nox ?_ | with_reducible refine b_ix ?_ | with_reducible refine b_mod ?_ | with_reducible refine b_fdiv ?_ | with_reducible refine b_mull ?_ | with_reducible refine b_mulr ?_ | with_reducible refine b_app ?_ | with_reducible refine b_cat ?_ | with_reducible refine b_rng ?_ | with_reducible refine b_rngL ?_ | with_reducible refine b_set ?_ | with_reducible refine b_srtS ?_ | with_reducible refine b_dp ?_ | with_reducible refine b_compP ?_ | with_reducible refine b_compFP ?_))
    have fin : ∀ m : Int, -18446744073709551616 < m → m < 18446744073709551616 → Ok (((mulM m m).bind fun v23 => M.ok (v23 % 999979)).bind fun v25 => M.ok (v25 + (m % 101))) fun _ => True := fun m h1 h2 => b_bind (b_mull (b_ok (.of trivial)))
    refine b_ite (fun hz => ?_) fun hz => ?_
    · simp only [Bool.and_eq_true, Bool.or_eq_true, Bool.and_eq_false_iff, Bool.or_eq_false_iff, Bool.not_eq_true', Bool.not_eq_false', Bool.not_true, Bool.not_false, decide_eq_true_eq, decide_eq_false_iff_not, Bool.not_eq_true, Bool.not_eq_false, Classical.not_not, Option.isNone_iff_eq_none, Option.isSome_iff_ne_none] at hz
      have a1 : 0 ≤ k % (ns.length : Int) := Int.emod_nonneg _ (by omega)
      have a2 : k % (ns.length : Int) < ns.length := Int.emod_lt_of_pos _ hz
      have b1 := Int.emod_nonneg (getZ ns (k % (ns.length : Int))) (show (1000003 : Int) ≠ 0 by decide)
      have b2 := Int.emod_lt_of_pos (getZ ns (k % (ns.length : Int))) (show (0 : Int) < 1000003 by decide)
      refine b_bind (b_bind (b_bind (b_bind (b_bind (b_mod (b_ix (b_ok (b_mull (b_ok (b_ok (fin _ ?_ ?_))))))))))) 
      · have := Int.mul_nonneg b1 (show 0 ≤ k + 1 by omega)
        omega
      · have := Int.mul_le_mul (show getZ ns (k % (ns.length : Int)) % 1000003 ≤ 1000003 by omega) (show k + 1 ≤ 1000000 by omega) (by omega) (by omega)
        omega
    · exact b_ok (fin _ (by omega) (by omega))
end PL
end DL

namespace DL
open PySem PySem.Spec L2 PyProof.Rows
variable {K : PySem.W.Frag} {F F' H H' H0 F0 F1 H1 : Hp} {cs cs' : List Addr} {X : Cx} {W : WX} {α : Type} {fk fv : DE} {k v : Expr} {pos : Pos}
/-! ### {k: v} -/
def disp1E (fk fv : DE) : DE := fun ρ => match fk ρ, fv ρ with
  | .ok a, .ok b => match a.d with
    | .int i => if flatD b.d then .ok (.ow (.dK [.inl i] [b.d])) else .bad
    | _ => .bad
  | _, _ => .bad
theorem ge_disp1 (hk : GE X W k fk) (hv : GE X W v fv) : GE X W (.Dict [some k] [v] pos) (disp1E fk fv) := by
  refine PE.imp (pe_disp (pps_cons hk hv pps_nil) rfl rfl (fun z => by cases z) (by show 1 ≤ 15; decide)) fun σ H Q ⟨F0, H0, ρ, F, cs, R, p⟩ => fun l nl => ?_
  unfold disp1E at p
  have E0 : Ext F H F (upd H l (.dK [])) := ext_new R.fh nl
  split at p
  · rename_i a b ea eb
    refine ⟨F0, H0, ρ, F, cs, R.ext E0, ?_⟩
    rw [ea]
    intro F1 H1 x c1 e1 r1 n1
    refine ⟨F0, H0, ρ, F1, cs, (R.ext E0).ext e1, ?_⟩
    rw [eb]
    intro F2 H2 y c2 e2 r2 n2
    have hl : H2 l = some (.dK []) := e2.hh _ _ (e1.hh _ _ upd_same)
    refine ⟨hl, ?_⟩
    have v1 := r1.view e1.fh
    have v2 := r2.view e2.fh
    split at p
    · rename_i i ei
      split at p
      · rename_i hf
        rw [ei] at v1
        have hx : x = .int i := v1
        have hy : y = vOf b.d := rep_flat v2 hf
        subst hx hy
        refine ⟨[(.inl i, vOf b.d)], rfl, by show 1 ≤ 15; decide, ?_⟩
        have E2 := (E0.trans e1).trans e2
        have hfl : F2 l = none := by
          have q1 : F1 l = F l := e1.nw l (by rw [upd_same]; exact fun h => nomatch h)
          have q2 : F2 l = F1 l := e2.nw l (by rw [e1.hh _ _ upd_same]; exact fun h => nomatch h)
          rw [q2, q1]
          exact R.fh.free nl
        refine p F2 (upd H2 l (.dK [(.inl i, vOf b.d)])) (.ref l) [l] ⟨fun c o q => ?_, E2.ff, fun c o q => ?_, E2.nw⟩ ⟨l, [vOf b.d], rfl, rfl, upd_same, rfl, ⟨_, [], rfl, rep_vOf hf, rfl⟩⟩ ⟨List.nodup_cons.mpr ⟨(nomatch ·), List.nodup_nil⟩, fun c hc => by
          cases List.mem_singleton.mp hc
          exact ⟨nl, hfl⟩⟩
        · rw [upd_ne (ne_of_none q nl)]
          exact E2.hh c o q
        · rw [upd_ne (ne_of_none q hfl)]
          exact E2.fh c o q
      · exact p.elim
    · exact p.elim
  · exact p.elim
theorem pq_disp1 {ρ : Rho} {a b : Ar} {i : Int} {e : α → D} [FlatE e] {x : α} (ha : fk ρ = .ok a) (hb : fv ρ = .ok b) (ei : a.d = .int i) (ex : b.d = e x) : disp1E fk fv ρ = .ok (.ow (oDk kI e [(i, x)])) := by
  unfold disp1E
  rw [ha, hb]
  dsimp only
  rw [ei, ex]
  dsimp only
  rw [if_pos (FlatE.fl x)]
  rfl
/-! ### xs.count(y), ints -/
def gCount : GR := fun x as => match as with
  | [y] => match intsA x, y.d with
    | some ns, .int k => okI (ns.count k : Nat)
    | _, _ => .bad
  | _ => .bad
theorem vmt_count : VMt X W (rCntI X.K) gCount := by
  intro σ F H x vs a as c c' Q fh ra rs p
  unfold gCount at p
  split at p
  · rename_i y
    obtain ⟨u, rfl, ru⟩ := areps1 rs
    split at p
    · rename_i ns k e1 e2
      obtain ⟨l, rfl, s⟩ := intsA_rep fh ra e1
      have rv := ru.view fh
      rw [e2] at rv
      exact ⟨l, ns, k, rfl, by rw [show u = .int k from rv], s, post_flat (d := .int (ns.count k : Nat)) fh rfl p⟩
    · exact p.elim
  · exact p.elim
def cntI (xs : List Int) (i : Int) : Int := (xs.count i : Nat)
theorem o_count {a b : Ar} {i : Int} {xs : List Int} {os : List O} (ha : a.o.seq = some (true, os)) (h1 : allFz os = some (xs.map D.int)) (hb : b.d = .int i) : gCount a [b] = okI (cntI xs i) := by
  unfold gCount
  dsimp only
  rw [intsA_of ha h1, hb]
  rfl
theorem pq_methP {T : String} {fa : DE} {fv : DA} {g : GR} {ρ : Rho} {a : Ar} {as : List Ar} {s : Ar} (ha : fa ρ = .ok a) (ht : tyA a = T) (hv : fv ρ = .ok as) (hg : g a as = .ok s) : methE T fa fv g ρ = .ok s := by
  unfold methE Rs.bind
  rw [ha]
  show (if tyA a = T then _ else _) = _
  rw [if_pos ht, hv]
  exact hg
end DL

namespace DL
open PySem PySem.Spec L2
variable {K : PySem.W.Frag} {F F' F2 F3 H H' H0 F0 F1 H1 : Hp} {cs cs' : List Addr}
/-! ### a call with views whose result holds tuples of flat items -/
def isOwn : O → Bool
  | .fz _ => false
  | _ => true
mutual
/-- no tuple of flat items of its own -/
def nft : O → Bool
  | .fz _ => true
  | .lst xs => nfts xs
  | .tup xs => xs.any isOwn && nfts xs
  | .dK _ _ => true
  | .dT _ _ => true
def nfts : List O → Bool
  | [] => true
  | x :: xs => nft x && nfts xs
end
def hasRef (us : List V) : Prop := ∃ v ∈ us, ∃ a, v = V.ref a
theorem own_ref {o : O} {v : V} (h : isOwn o = true) (r : ORep K F H o v cs) : ∃ a, v = .ref a := by
  cases o with
  | fz d => cases h
  | lst xs => obtain ⟨a, vs, c, e1, _⟩ := r; exact ⟨a, e1⟩
  | tup xs => obtain ⟨a, vs, c, e1, _⟩ := r; exact ⟨a, e1⟩
  | dK ks ds => obtain ⟨a, vs, e1, _⟩ := r; exact ⟨a, e1⟩
  | dT ks ds => obtain ⟨a, vs, e1, _⟩ := r; exact ⟨a, e1⟩
theorem any_ref : ∀ {xs : List O} {vs : List V} {cs}, xs.any isOwn = true → OReps K F H xs vs cs → hasRef vs
  | [], _, _, h, _ => by cases h
  | x :: xs, _, _, h, ⟨v, r, c1, c2, e1, e2, rx, ry⟩ => by
    subst e1
    rw [List.any_cons, Bool.or_eq_true] at h
    rcases h with h | h
    · obtain ⟨a, e⟩ := own_ref h rx
      exact ⟨v, List.mem_cons_self, a, e⟩
    · obtain ⟨u, hu, h2⟩ := any_ref h ry
      exact ⟨u, List.mem_cons_of_mem _ hu, h2⟩
mutual
theorem nft_cells : ∀ {o v cs}, nft o = true → ORep K F H o v cs → ∀ c ∈ cs, ∀ us, H c = some (.tup us) → hasRef us
  | .fz d, v, cs, _, ⟨e, _⟩, c, hc, _, _ => by rw [e] at hc; cases hc
  | .lst xs, v, cs, h, ⟨a, vs, c, e1, e2, e3, r⟩, b, hb, us, hu => by
    rw [e2] at hb
    rcases List.mem_cons.mp hb with rfl | hb
    · rw [e3] at hu; cases hu
    · exact nfts_cells h r b hb us hu
  | .tup xs, v, cs, h, ⟨a, vs, c, e1, e2, e3, r⟩, b, hb, us, hu => by
    have h' : xs.any isOwn = true ∧ nfts xs = true := by simpa [nft] using h
    rw [e2] at hb
    rcases List.mem_cons.mp hb with rfl | hb
    · rw [e3] at hu
      cases hu
      exact any_ref h'.1 r
    · exact nfts_cells h'.2 r b hb us hu
  | .dK ks ds, v, cs, _, ⟨a, vs, e1, e2, e3, l, r⟩, b, hb, us, hu => by
    rw [e2] at hb
    rw [List.mem_singleton.mp hb, e3] at hu
    cases hu
  | .dT ks ds, v, cs, _, ⟨a, vs, e1, e2, e3, l, r⟩, b, hb, us, hu => by
    rw [e2] at hb
    rw [List.mem_singleton.mp hb, e3] at hu
    cases hu
theorem nfts_cells : ∀ {os vs cs}, nfts os = true → OReps K F H os vs cs → ∀ c ∈ cs, ∀ us, H c = some (.tup us) → hasRef us
  | [], _, _, _, ⟨_, e⟩, c, hc, _, _ => by rw [e] at hc; cases hc
  | o :: os, _, _, h, ⟨v, r, c1, c2, e1, e2, x, y⟩, c, hc, us, hu => by
    have h' : nft o = true ∧ nfts os = true := by simpa [nfts] using h
    rw [e2] at hc
    rcases List.mem_append.mp hc with hc | hc
    · exact nft_cells h'.1 x c hc us hu
    · exact nfts_cells h'.2 y c hc us hu
end
def nftAs : List Ar → Bool
  | [] => true
  | a :: as => nft a.o && nftAs as
theorem nfa_nil : nftAs [] = true := rfl
theorem nfa_cons {a : Ar} {as : List Ar} (h : nft a.o = true) (t : nftAs as = true) : nftAs (a :: as) = true := by
  unfold nftAs
  rw [h, t]
  rfl
/-- the cells of the arguments, views too -/
theorem areps_cells (fh : Same F H) : ∀ {as : List Ar} {vs cs}, nftAs as = true → AReps K F H as vs cs → ∃ cv : List Addr, (∀ c ∈ cv, ∀ us, H c = some (.tup us) → hasRef us) ∧ ∀ F', Same F F' → (∀ c ∈ cv, F' c = H c) → Reps K F' (as.map Ar.d) vs
  | [], _, _, _, ⟨e, _⟩ => ⟨[], (fun c h => nomatch h), fun _ _ _ => e⟩
  | a :: as, _, _, h, ⟨v, r, c1, c2, e1, e2, x, y⟩ => by
    have h' : nft a.o = true ∧ nftAs as = true := by simpa [nftAs] using h
    obtain ⟨cv, q1, q2⟩ := areps_cells fh h'.2 y
    obtain ⟨c, rx⟩ := x.some
    refine ⟨c ++ cv, fun b hb us hu => ?_, fun F' s k => ⟨v, r, e1, ?_, q2 F' s fun b hb => k b (List.mem_append_right _ hb)⟩⟩
    · rcases List.mem_append.mp hb with hb | hb
      · exact nft_cells h'.1 rx b hb us hu
      · exact q1 b hb us hu
    · have := ORep.close (o := a.o) s (fun b hb => k b (List.mem_append_left _ hb)) rx
      exact this
def flatT : D → Bool
  | .tup ds => flats ds
  | _ => false
def flat2 (d : D) : Bool := flatD d || flatT d
mutual
def leaf2 : O → Bool
  | .fz d => flat2 d
  | .lst xs => leaf2s xs
  | .tup xs => leaf2s xs
  | .dK _ vs => vs.all flat2
  | .dT _ vs => vs.all flat2
def leaf2s : List O → Bool
  | [] => true
  | x :: xs => leaf2 x && leaf2s xs
end
theorem vOf_nref {d : D} (h : flatD d = true) (a : Addr) : vOf d ≠ .ref a := by
  cases d <;> first | (intro e; cases e) | cases h
theorem flats_nref : ∀ {ds : List D}, flats ds = true → ¬ hasRef (ds.map vOf)
  | [], _, ⟨_, h, _⟩ => nomatch h
  | d :: ds, h, ⟨v, hv, a, e⟩ => by
    have h' : flatD d = true ∧ flats ds = true := by simpa [flats] using h
    rw [List.map_cons] at hv
    rcases List.mem_cons.mp hv with rfl | hv
    · exact vOf_nref h'.1 a e
    · exact flats_nref h'.2 ⟨v, hv, a, e⟩
section
variable (hF : ∀ t us, F2 t = some (.tup us) → ¬ hasRef us → F3 t = some (.tup us))
include hF
theorem rep_to3 {d : D} {v : V} (h : flat2 d = true) (r : Rep K F2 d v) : Rep K F3 d v := by
  unfold flat2 at h
  rw [Bool.or_eq_true] at h
  rcases h with h | h
  · rw [rep_flat r h]; exact rep_vOf h
  · cases d with
    | tup ds =>
      have h : flats ds = true := h
      obtain ⟨a, vs, e1, e2, e3⟩ := r
      have ev := reps_flat e3 h
      subst ev
      exact ⟨a, _, e1, hF a _ e2 (flats_nref h), reps_anyF h e3⟩
    | _ => cases h
theorem reps_to3 : ∀ {ds : List D} {vs}, ds.all flat2 = true → Reps K F2 ds vs → Reps K F3 ds vs
  | [], _, _, e => e
  | d :: ds, _, h, ⟨v, r, e, x, y⟩ => by
    rw [List.all_cons, Bool.and_eq_true] at h
    exact ⟨v, r, e, rep_to3 hF h.1 x, reps_to3 h.2 y⟩
mutual
theorem ORep.to3 : ∀ {o v cs}, leaf2 o = true → ORep K F2 H o v cs → ORep K F3 H o v cs
  | .fz d, v, cs, h, ⟨e, r⟩ => ⟨e, rep_to3 hF h r⟩
  | .lst xs, v, cs, h, ⟨a, vs, c, e1, e2, e3, r⟩ => ⟨a, vs, c, e1, e2, e3, OReps.to3 h r⟩
  | .tup xs, v, cs, h, ⟨a, vs, c, e1, e2, e3, r⟩ => ⟨a, vs, c, e1, e2, e3, OReps.to3 h r⟩
  | .dK ks ds, v, cs, h, ⟨a, vs, e1, e2, e3, l, r⟩ => ⟨a, vs, e1, e2, e3, l, reps_to3 hF h r⟩
  | .dT ks ds, v, cs, h, ⟨a, vs, e1, e2, e3, l, r⟩ => ⟨a, vs, e1, e2, e3, l, reps_to3 hF h r⟩
theorem OReps.to3 : ∀ {os vs cs}, leaf2s os = true → OReps K F2 H os vs cs → OReps K F3 H os vs cs
  | [], _, _, _, e => e
  | o :: os, _, _, h, ⟨v, r, c1, c2, e1, e2, x, y⟩ => by
    have h' : leaf2 o = true ∧ leaf2s os = true := by simpa [leaf2s] using h
    exact ⟨v, r, c1, c2, e1, e2, ORep.to3 h'.1 x, OReps.to3 h'.2 y⟩
end
end
theorem backF_ext2 {G0 G : Hp} (fh : Same F H) (e : Ext G0 H G H') : Ext F H (backF F H G) H' where
  hh := e.hh
  ff := fun a o q => by unfold backF; rw [fh a o q]; exact q
  fh := fun a o q => by
    unfold backF at q
    cases h : H a with
    | none => rw [h] at q; exact e.fh a o q
    | some u => rw [h] at q; exact e.hh a o (fh a o q)
  nw := fun a h => by
    unfold backF
    cases q : H a with
    | none => exact absurd q h
    | some u => rfl
def toRs2 (as : List Ar) : Rf → Rs
  | .ok o => if nftAs as && leaf2 o then .ok (.ow o) else .bad
  | .ex c => .ex c
  | .bad => .bad
def callV (sem : DF) (n : Nat) (f : DA) : DE := fun ρ => match f ρ with
  | .ok as => if as.length = n && nftAs as then toRs2 as (sem (as.map Ar.d)) else .bad
  | .ex c => .ex c
  | .bad => .bad
section
variable {X : Cx} {W : WX} {pos : Pos}
theorem ge_callV {k j n : Nat} {x : Str} {p : Pos} {sem : DF} {e : Expr} {es : List Expr} {f : DA} (C : Cc X W j) (D : DOk X.prog X.w X.K X.mg X.base k x sem n) (hk : k ≤ j) (ha : GA X W (e :: es) f) (hg : Gl X x := by rfl)
    (hdb : (x == ("__debug__" : Str)) = false := by decide) (he : starEach (e :: es) X.env = (false, eval e X.env) :: starEach es X.env := by rfl) (hpl : (backTo pos (starEach es X.env)).any (·.1) = false := by rfl) :
    GE X W (.Call (.Name x p) (e :: es) [] pos) (callV sem n f) := by
  obtain ⟨fa, fd, ps, Fo, hm, kp, hb⟩ := D.ex
  refine PE.imp (pe_callS (E := WE W) Fo (C.room.mono hk) hg hm kp hb C.pass ha hdb he hpl) fun σ H Q ⟨F0, H0, ρ, F, cs, R, p⟩ => ?_
  refine ⟨F0, H0, ρ, F, cs, R, ?_⟩
  unfold callV at p
  cases q : f ρ with
  | bad => rw [q] at p; exact p
  | ex c => rw [q] at p; exact p
  | ok as =>
    simp only [q] at p
    split at p
    · rename_i hn
      rw [Bool.and_eq_true, decide_eq_true_iff] at hn
      obtain ⟨hn, hnf⟩ := hn
      intro F1 H1 vs c1 e1 r1 n1
      have hvn : vs.length = n := by rw [← r1.len]; exact hn
      obtain ⟨cv, q1, q2⟩ := areps_cells e1.fh hnf r1
      have sm : Same F1 (DL.shut F1 H1 cv) := fun a o h => by
        by_cases hc : a ∈ cv
        · rw [shut_in hc]; exact e1.fh a o h
        · rw [shut_out hc]; exact h
      refine ⟨DL.shut F1 H1 cv, as.map Ar.d, hvn, shut_same e1.fh, q2 _ sm (fun c hc => shut_in hc), ?_⟩
      cases qs : sem (as.map Ar.d) with
      | bad => rw [qs] at p; exact p
      | ex c =>
        rw [qs] at p
        exact fun F2 H2 C2 e2 m => p (backF F1 H1 F2) H2 C2 (e1.trans (backF_ext2 e1.fh e2)) m
      | ok o =>
        rw [qs] at p
        simp only [toRs2, hnf, Bool.true_and] at p
        split at p
        · rename_i hl
          refine fun F2 H2 v c2 e2 r2 n2 => p (backF F1 H1 F2) H2 v c2 (e1.trans (backF_ext2 e1.fh e2)) (ORep.to3 (F2 := F2) (fun t us ht hr => ?_) (o := o) hl r2) ?_
          · unfold backF
            cases h1 : H1 t with
            | none => exact ht
            | some u =>
              have h2 : F2 t = DL.shut F1 H1 cv t := e2.nw t (by rw [h1]; exact fun h => nomatch h)
              show F1 t = _
              by_cases hc : t ∈ cv
              · rw [shut_in hc, ht] at h2
                exact absurd (q1 t hc us h2.symm) hr
              · rw [shut_out hc] at h2
                rw [← h2]
                exact ht
          · refine ⟨n2.nd, fun c hc => ⟨e1.hh.free (n2.nw c hc).1, ?_⟩⟩
            unfold backF
            rw [(n2.nw c hc).1]
            exact (n2.nw c hc).2
        · exact p.elim
    · exact p.elim
end
/-! ### the same, typed -/
class Flat2E {α : Type} (e : α → D) : Prop where
  f2 : ∀ a, flat2 (e a) = true
theorem flat2_of {d : D} (h : flatD d = true) : flat2 d = true := by unfold flat2; rw [h]; rfl
instance {α : Type} {e : α → D} [FlatE e] : Flat2E e := ⟨fun a => flat2_of (FlatE.fl a)⟩
instance {α β : Type} {e : α → D} {f : β → D} [FlatE e] [FlatE f] : Flat2E (eT2 e f) := ⟨fun p => by
  unfold flat2 eT2
  simp [flatT, flats, FlatE.fl (e := e), FlatE.fl (e := f)]⟩
instance {α β γ : Type} {e : α → D} {f : β → D} {g : γ → D} [FlatE e] [FlatE f] [FlatE g] : Flat2E (eT3 e f g) := ⟨fun p => by
  unfold flat2 eT3
  simp [flatT, flats, FlatE.fl (e := e), FlatE.fl (e := f), FlatE.fl (e := g)]⟩
class Leaf2 {α : Type} (s : α → O) : Prop where
  l2 : ∀ a, leaf2 (s a) = true
instance {α : Type} {e : α → D} [Flat2E e] : Leaf2 (oF e) := ⟨fun a => Flat2E.f2 a⟩
theorem leaf2s_of {α : Type} {s : α → O} (h : ∀ a, leaf2 (s a) = true) : ∀ xs : List α, leaf2s (xs.map s) = true
  | [] => rfl
  | x :: xs => by simp [leaf2s, h x, leaf2s_of h xs]
instance {α : Type} {s : α → O} [Leaf2 s] : Leaf2 (oL s) := ⟨fun xs => leaf2s_of Leaf2.l2 xs⟩
instance {α : Type} {s : α → O} [Leaf2 s] : Leaf2 (oO s) := ⟨fun x => by
  cases x with
  | none => rfl
  | some a => exact Leaf2.l2 a⟩
instance {α β : Type} {s : α → O} {t : β → O} [Leaf2 s] [Leaf2 t] : Leaf2 (oT2 s t) := ⟨fun p => by simp [oT2, leaf2, leaf2s, Leaf2.l2]⟩
instance {α β γ : Type} {s : α → O} {t : β → O} {u : γ → O} [Leaf2 s] [Leaf2 t] [Leaf2 u] : Leaf2 (oT3 s t u) := ⟨fun p => by simp [oT3, leaf2, leaf2s, Leaf2.l2]⟩
instance {κ α : Type} {ke : κ → Key} {e : α → D} [Flat2E e] : Leaf2 (oDk ke e) := ⟨fun d => by
  show (d.map fun p => e p.2).all flat2 = true
  rw [List.all_map, List.all_eq_true]
  intro p _
  exact Flat2E.f2 p.2⟩
class OwnO {α : Type} (s : α → O) : Prop where
  ow : ∀ a, isOwn (s a) = true
instance {α : Type} {s : α → O} : OwnO (oL s) := ⟨fun _ => rfl⟩
instance {κ α : Type} {ke : κ → Key} {e : α → D} : OwnO (oDk ke e) := ⟨fun _ => rfl⟩
class Nft {α : Type} (s : α → O) : Prop where
  nf : ∀ a, nft (s a) = true
instance {α : Type} {e : α → D} : Nft (oF e) := ⟨fun _ => rfl⟩
theorem nfts_of {α : Type} {s : α → O} (h : ∀ a, nft (s a) = true) : ∀ xs : List α, nfts (xs.map s) = true
  | [] => rfl
  | x :: xs => by simp [nfts, h x, nfts_of h xs]
instance {α : Type} {s : α → O} [Nft s] : Nft (oL s) := ⟨fun xs => nfts_of Nft.nf xs⟩
instance {κ α : Type} {ke : κ → Key} {e : α → D} : Nft (oDk ke e) := ⟨fun _ => rfl⟩
instance {α : Type} {s : α → O} [Nft s] : Nft (oO s) := ⟨fun x => by
  cases x with
  | none => rfl
  | some a => exact Nft.nf a⟩
instance {α β : Type} {s : α → O} {t : β → O} [OwnO t] [Nft s] [Nft t] : Nft (oT2 s t) := ⟨fun p => by simp [oT2, nft, nfts, Nft.nf, OwnO.ow]⟩
instance {α β : Type} {s : α → O} {t : β → O} [OwnO s] [Nft s] [Nft t] : Nft (oT2 s t) := ⟨fun p => by simp [oT2, nft, nfts, Nft.nf, OwnO.ow]⟩
instance {α β γ : Type} {s : α → O} {t : β → O} {u : γ → O} [OwnO u] [Nft s] [Nft t] [Nft u] : Nft (oT3 s t u) := ⟨fun p => by simp [oT3, nft, nfts, Nft.nf, OwnO.ow]⟩
section
variable {α β γ δ : Type} {ρ : Rho} {ga : DA}
theorem fq_toRs2 {sem : DF} {m : M γ} {o : γ → O} {as : List Ar} (hv : nftAs as = true) (hl : ∀ a, leaf2 (o a) = true) (h : FQ (sem (as.map Ar.d)) m o) : RQ (toRs2 as (sem (as.map Ar.d))) m (rO o) := by
  simp only [RQ_eq]
  cases m with
  | ok x =>
    have h : sem (as.map Ar.d) = .ok (o x) := h.out
    show toRs2 as (sem (as.map Ar.d)) = .ok (.ow (o x))
    rw [h]
    exact if_pos (by rw [hv, hl x]; rfl)
  | ex c =>
    have h : sem (as.map Ar.d) = .ex c := h.out
    show toRs2 as (sem (as.map Ar.d)) = .ex c
    rw [h]; rfl
  | bad => trivial
theorem rq_callV0 {sem : DF} {n : Nat} {m : M γ} {o : γ → O} {as : List Ar} {ds : List D} (ha : ga ρ = .ok as) (hn : as.length = n) (hd : as.map Ar.d = ds) (hv : nftAs as = true) (hl : ∀ a, leaf2 (o a) = true) (h : FQ (sem ds) m o) : RQ (callV sem n ga ρ) m (rO o) := by
  have : callV sem n ga ρ = toRs2 as (sem (as.map Ar.d)) := by unfold callV; rw [ha]; exact if_pos (by rw [hv, hn]; simp)
  rw [this]
  subst hd
  exact fq_toRs2 hv hl h
theorem rq_callV {sem : DF} {n : Nat} {o : γ → O} {mas : M β} {ss : β → List Ar} {mo : β → M γ} {ds : β → List D} (ha : AQ (ga ρ) mas ss) (hn : ∀ y, (ss y).length = n) (hd : ∀ y, (ss y).map Ar.d = ds y) (hv : ∀ y, nftAs (ss y) = true) (hl : ∀ a, leaf2 (o a) = true) (h : ∀ y, FQ (sem (ds y)) (mo y) o) : RQ (callV sem n ga ρ) (mas.bind mo) (rO o) := by
  simp only [AQ_eq] at ha
  cases mas with
  | ok y => exact rq_callV0 ha (hn y) (hd y) (hv y) hl (h y)
  | ex c =>
    have ha : ga ρ = .ex c := ha
    simp only [RQ_eq]
    show callV sem n ga ρ = .ex c
    unfold callV
    rw [ha]
  | bad =>
    simp only [RQ_eq]
    trivial
end
end DL

namespace DL
open PySem PySem.Spec PyProof.Rows
section
variable {prog : Program} {w : World} {A : Around} {E : Value → Shared → Prop} {s : Shared}
theorem extend_rev {R : Result → Shared → Prop} {it l : Addr} {items : Array Value} (hh : A.handled = none) (hit : s.heap.IsRevIter it l ((items.size : Int) - 1)) (hl : s.heap.IsList l items) (hne : l ≠ it) (hn : items.size ≤ sizeLine) (S : Addr) (res : Value) (c₀ : Nat) (hSi : S ≠ it) (hSl : S ≠ l)
    (hS : s.heap.get? S = some { cls := .type "list", data := .seq #[] c₀ })
    (hR : ∀ h' tk acc' c', (∀ b o, b ≠ S → b ≠ it → s.heap.get? b = some o → h'.get? b = some o) → h'.get? S = some { cls := .type "list", dict := none, data := .seq acc' c', slots := #[] } →
      ItemsOf (fun i v => items[items.size - 1 - i]? = some v) acc' items.size → R (.ok (.ret res)) { s with heap := h', toks := tk }) :
    wpAny (model prog w) A.in1 (Builtin.List.listExtendWith (.ref S) (.ref it) res)
      (fun fin s' => match fin with | .done f => R (.ok f) s' | .again c' => c'.quiet = true ∧ codeAny (model prog w) A c' R s') (fun e s' => R (.error e) s') s := by
  have W := (Walks.listRev (prog := prog) (w := w) (A := A.in1) hh it l hne items).toS
  have hSf : S ∉ [it, l] := by simp only [List.mem_cons, List.not_mem_nil, or_false, not_or]; exact ⟨hSi, hSl⟩
  have hT : s.TypeIs (.ref it) "list_reverseiterator" := hit.typeIs
  have h1 : Builtin.List.listSameRef (.ref S) (.ref it) = false := by simp [Builtin.List.listSameRef, hSi]
  unfold Builtin.List.listExtendWith
  refine wpAny_bind (wpAny_typeOf hT ?_)
  rw [if_neg (by rw [h1]; decide)]
  refine wpAny_bind (wpAny_pyIter_revIter hit ?_)
  refine wpAny_bind (wpAny_holding ?_)
  unfold Builtin.List.listLengthHint
  refine wpAny_bind (wpAny_specialOf hT RT.nolen_lri ?_)
  show wpAny _ A.in1 (specialOf (Value.ref it) (Str.ofString "__length_hint__") >>= _) _ _ _
  refine wpAny_bind (wpAny_specialOf hT RT.hint_lri ?_)
  generalize hid : ("list_reverseiterator.__length_hint__" : String) = id0
  wp_delta
  rw [show splitId id0 = some ("list_reverseiterator", "__length_hint__") from by subst hid; decide +kernel]
  subst hid
  refine wpAny_bind (wpAny_isInstance (b := true) hT (by rw [isSubtype_type]; kernel_rfl) ?_)
  refine wpAny_pure ?_
  rw [if_neg (by decide)]
  have e0 : ((items.size : Nat) : Int) - 1 - ((0 : Nat) : Int) = (items.size : Int) - 1 := by omega
  refine wpAny_pure ⟨plainId_quiet F.plain_extend_loop _, codeAny_extend_loopS W hn _ hSf _ items.size 0 _ _ _ rfl (Nat.zero_le _) ⟨Nat.zero_le _, by rw [e0]; exact hit, hl⟩ hS (ItemsOf.nil _) fun s' acc' c' hm hS' hacc => ?_⟩
  rw [Moved.eq_with hm]
  refine hR s'.heap s'.toks acc' c' (fun b o hb hb2 e => hm.heap b o (fun hmem => ?_) e) hS' hacc
  rcases List.mem_cons.mp hmem with e' | hmem
  · exact hb e'
  · exact hb2 (List.mem_singleton.mp hmem)
theorem list_init_rev {R : Result → Shared → Prop} {it l : Addr} {items : Array Value} (hh : A.handled = none) (hit : s.heap.IsRevIter it l ((items.size : Int) - 1)) (hl : s.heap.IsList l items) (hne : l ≠ it) (hn : items.size ≤ sizeLine) (S : Addr) (hSi : S ≠ it) (hSl : S ≠ l)
    (hS : s.heap.get? S = some { cls := .type "list", data := .seq #[] })
    (hR : ∀ h' tk acc' c', (∀ b o, b ≠ S → b ≠ it → s.heap.get? b = some o → h'.get? b = some o) → h'.get? S = some { cls := .type "list", dict := none, data := .seq acc' c', slots := #[] } →
      ItemsOf (fun i v => items[items.size - 1 - i]? = some v) acc' items.size → R (.ok (.ret .none)) { s with heap := h', toks := tk }) :
    wpAny (model prog w) A.in1 (Builtin.«list.__init__» ⟨[.ref S, .ref it], []⟩)
      (fun fin s' => match fin with | .done f => R (.ok f) s' | .again c' => c'.quiet = true ∧ codeAny (model prog w) A c' R s') (fun e s' => R (.error e) s') s := by
  show wpAny _ _ (do let old ← Builtin.List.listItems (.ref S); Builtin.List.listUpdate (.ref S) (fun _ => #[]); letGo old.toList.reverse; Builtin.List.listExtendWith (.ref S) (.ref it) .none) _ _ s
  refine wpAny_bind ?_
  unfold Builtin.List.listItems
  refine wpAny_bind (wpAny_seqItems hS rfl (wpAny_pure ?_))
  show wpAny _ _ (updateSeq S (fun _ => #[]) >>= fun _ => letGo (#[] : Array Value).toList.reverse >>= fun _ => Builtin.List.listExtendWith (.ref S) (.ref it) .none) _ _ s
  refine wpAny_bind (wpAny_updateSeq hS rfl ?_)
  have hS₂ := Heap.get?_update_self (Obj.mapSeq (fun _ => (#[] : Array Value))) hS rfl
  have oth : ∀ b o, b ≠ S → s.heap.get? b = some o → (s.heap.update S (Obj.mapSeq (fun _ => (#[] : Array Value)))).get? b = some o :=
    fun b o hb e => (Heap.get?_update_other _ _ (Ne.symm hb)).trans e
  refine wpAny_bind (wpAny_letGo ?_)
  have hl2 : (s.heap.update S (Obj.mapSeq (fun _ => (#[] : Array Value)))).IsList l items := by
    obtain ⟨o, ho, r⟩ := hl
    exact ⟨o, oth l o (Ne.symm hSl) ho, r⟩
  refine extend_rev (s := { s with heap := s.heap.update S (Obj.mapSeq (fun _ => (#[] : Array Value))) }) hh (hit.at fun o e => oth it o (Ne.symm hSi) e) hl2 hne hn S .none _ hSi hSl hS₂ fun h' tk acc' c' hk hS' hacc => ?_
  exact hR h' tk acc' c' (fun b o hb hb2 e => hk b o hb hb2 (oth b o hb e)) hS' hacc
theorem call_list_rev {Q : Value → Shared → Prop} {it l : Addr} {items : Array Value} (hh : A.handled = none) (hit : s.heap.IsRevIter it l ((items.size : Int) - 1)) (hl : s.heap.IsList l items) (hne : l ≠ it) (hn : items.size ≤ sizeLine)
    (hQ : ∀ h' tk acc' c', (∀ b o, b ≠ it → s.heap.get? b = some o → h'.get? b = some o) →
      h'.get? s.heap.objs.size = some { cls := .type "list", dict := none, data := .seq acc' c', slots := #[] } → ItemsOf (fun i v => items[items.size - 1 - i]? = some v) acc' items.size → Q (.ref s.heap.objs.size) { s with heap := h', toks := tk }) :
    wpAny (model prog w) A (call (.type "list") [.ref it]) Q E s := by
  have hiS : s.heap.objs.size ≠ it := by obtain ⟨o, ho, _⟩ := hit; exact Nat.ne_of_gt (Heap.lt_size ho)
  have hlS : s.heap.objs.size ≠ l := by obtain ⟨o, ho, _⟩ := hl; exact Nat.ne_of_gt (Heap.lt_size ho)
  refine callType_codes (Q₁ := fun obj s₁ => obj = .ref s.heap.objs.size ∧ s₁ = { s with heap := s.heap.push { cls := .type "list", data := .seq #[] } }) F.called_list (F.typeCall_list_1 _) F.entry_list_init
    (code_list_new _ ⟨rfl, rfl⟩) fun obj s₁ h₁ => ?_
  obtain ⟨rfl, rfl⟩ := h₁
  have hS : (s.heap.push { cls := .type "list", data := .seq #[] }).get? s.heap.objs.size = some { cls := .type "list", data := .seq #[] } := Heap.get?_push_size _ rfl
  refine ⟨⟨_, hS, rfl⟩, F.args_list_init_2 _ _, list_init_rev (A := A.in1) hh (hit.at fun o e => Heap.get?_push_of_some _ e) (hl.push _) hne hn _ hiS hlS hS fun h' tk acc' c' hk hS' hacc => ?_⟩
  exact ⟨rfl, hQ h' tk acc' c' (fun b o hb e => hk b o (Nat.ne_of_lt (Heap.lt_size e)) hb (Heap.get?_push_of_some _ e)) hS' hacc⟩
end
section
open L2
variable {X : Cx} {W : WX}
def tListRev (K : PySem.W.Frag) (te : TE) : TE := fun σ H Q => te σ H fun v H1 => ∃ (a : Addr) (xs : List V), v = .ref a ∧ SqL K H1 a xs ∧ ∀ q, H1 q = none → Q (.ref q) (upd H1 q (.lst xs.reverse))
theorem pe_listRev {e : Expr} {te : TE} {p p2 pos pos2 : Pos} (hc : X.calm = true) (hg : Gl X "list") (hm : X.mg "list" = none) (hv : bootBuiltins "list" = some (.type "list")) (hg2 : Gl X "reversed") (hm2 : X.mg "reversed" = none) (he : PE X e te)
    (hs : starEach [e] X.env = (false, eval e X.env) :: starEach [] X.env := by rfl)
    (hs2 : starEach [.Call (.Name "reversed" p2) [e] [] pos2] X.env = (false, eval (.Call (.Name "reversed" p2) [e] [] pos2) X.env) :: starEach [] X.env := by rfl) :
    PE X (.Call (.Name "list" p) [.Call (.Name "reversed" p2) [e] [] pos2] [] pos) (tListRev X.K te) := by
  refine ⟨fun pins s σ H Q I h => ?_⟩
  refine Call_ (ld_blt I hg hm hv (PyProof.Rows.callWith_type1 (args_cons (Call_ (ld_blt I hg2 hm2 PyProof.Rows.boot_reversed (PyProof.Rows.callWith_type1 (args_cons (thn (he.run pins s σ H _ I h) fun u s1 ⟨v, H1, I1, r1, q1⟩ => args_nil ?_) hs) hs rfl))) hs2) hs2 rfl))
  obtain ⟨a, xs, ev, hq, q⟩ := q1
  subst ev
  obtain rfl : u = Value.ref a := r1
  obtain ⟨its, rv, p', hz⟩ := I1.list hq
  refine call_reversed_list p'.isList (args_nil ?_)
  have hl := p'.isList
  obtain ⟨ol, hol, _⟩ := id hl
  have hne : a ≠ s1.heap.objs.size := Nat.ne_of_lt (Heap.lt_size hol)
  have hn : its.toArray.size ≤ sizeLine := by rw [List.size_toArray, ← rv.length]; exact hz
  refine call_list_rev (s := { s1 with heap := s1.heap.push (revObj a ((its.toArray.size : Int) - 1)) }) (I1.ok.hd hc) ⟨_, Heap.get?_push_size _ rfl, rfl, rfl⟩ (hl.push _) hne hn fun h' tk acc c hk hS hi => ?_
  have hsz : (s1.heap.push (revObj a ((its.toArray.size : Int) - 1))).objs.size = s1.heap.objs.size + 1 := by simp [Heap.push]
  refine ⟨.ref (s1.heap.push (revObj a ((its.toArray.size : Int) - 1))).objs.size, upd H1 (s1.heap.push (revObj a ((its.toArray.size : Int) - 1))).objs.size (.lst xs.reverse), I1.laid (t' := tk) (fun b o e => hk b o (Nat.ne_of_lt (Heap.lt_size e)) (Heap.get?_push_of_some _ e)) (by rw [hsz]; exact Nat.le_succ _) (show ObjOk X.prog X.w _ h' _ (.lst xs.reverse) from ⟨by rw [List.length_reverse]; exact hz, acc.toList, c, RT.vals_rev rv hi, ?_⟩), rfl, q _ (I1.hok.fresh (by rw [hsz]; exact Nat.le_succ _))⟩
  rw [Array.toArray_toList]
  exact hS
theorem ge_listRev {e : Expr} {fe : DE} {p p2 pos pos2 : Pos} (hc : X.calm = true) (hm : X.mg "list" = none) (hm2 : X.mg "reversed" = none) (he : GE X W e fe) (hg : Gl X "list" := by rfl) (hg2 : Gl X "reversed" := by rfl) (hv : bootBuiltins "list" = some (.type "list") := by decide +kernel)
    (hs : starEach [e] X.env = (false, eval e X.env) :: starEach [] X.env := by rfl)
    (hs2 : starEach [.Call (.Name "reversed" p2) [e] [] pos2] X.env = (false, eval (.Call (.Name "reversed" p2) [e] [] pos2) X.env) :: starEach [] X.env := by rfl) :
    GE X W (.Call (.Name "list" p) [.Call (.Name "reversed" p2) [e] [] pos2] [] pos) (revE fe) := by
  refine PE.imp (pe_listRev hc hg hm hv hg2 hm2 he hs hs2) fun σ H Q ⟨F0, H0, ρ, F, cs, R, p⟩ => ?_
  refine ⟨F0, H0, ρ, F, cs, R, ?_⟩
  unfold revE at p
  cases q : fe ρ with
  | bad => rw [q] at p; exact p
  | ex c => rw [q] at p; exact p
  | ok x =>
    simp only [q, Rs.bind] at p
    intro F1 H1 v c1 e1 r1 n1
    have p := post_ext (X := X) (W := W) e1 p
    split at p
    · rename_i os e
      obtain ⟨c2, q2⟩ := r1.some
      obtain ⟨u, vs, c3, rfl, s, t⟩ := seq_rep e1.fh q2 e
      split at p
      · rename_i ds ed
        rw [allFz_eq ed] at t
        obtain ⟨_, t2⟩ := OReps.of_fz t
        exact ⟨u, vs, rfl, s, fun q nq => post_lst e1.fh nq t2.reverse rfl p⟩
      · exact p.elim
    · exact p.elim
end
end DL

namespace DL
open PySem PySem.Spec L2
variable {K : PySem.W.Frag} {F F' H H' H0 F0 F1 H1 : Hp} {cs cs' : List Addr} {σ σ' : L2.St} {ρ ρ' : Rho}
/-! ### for a, b in xs: what changes b alone; xs an own list of own pairs -/
def tupAt (ρ : Rho) (i : Nat) (p : List Nat) : Bool := match ρ[i]? with
  | some (some o) => match O.at p o with
    | some (.tup [_, _]) => true
    | _ => false
  | _ => false
def loopO2 (body : DSa) (i : Nat) (p : List Nat) (ta t N : Nat) : Nat → Nat → DS
  | 0, _, ρ => if lenAt ρ i p = some N then .nx ρ else .bad
  | n + 1, j, ρ => if noneAt ρ ta = true ∧ noneAt ρ t = true ∧ lenAt ρ i p = some N ∧ tupAt ρ i (p ++ [j]) = true then (match body i ((p ++ [j]) ++ [1]) ρ with
    | .nx ρ' => loopO2 body i p ta t N n (j + 1) ρ'
    | _ => .bad) else .bad
def forOS2 (ta t : Nat) (fp : DP) (body : DSa) : DS := fun ρ => match fp ρ with
  | .ok i p => if i = ta ∨ i = t ∨ ta = t ∨ ρ.length ≤ ta ∨ ρ.length ≤ t then .bad else (match lenAt ρ i p with
    | some N => loopO2 body i p ta t N N 0 ((ρ.set ta none).set t none)
    | none => .bad)
  | .ex c => .ex c ρ
  | .bad => .bad
theorem tupAt_rep {i : Nat} {p : List Nat} {v u : V} (R : RS K F0 H0 ρ F σ H cs) (h : tupAt ρ i p = true) (hv : σ[i]? = some (some v)) (hat : VAt K H p v u) : ∃ a w1 w2, u = .ref a ∧ H a = some (.tup [w1, w2]) := by
  unfold tupAt at h
  split at h
  · rename_i o eo
    split at h
    · rename_i o1 o2 es
      obtain ⟨v', u', c1, c2, c3, _, g2, g3, g4, _⟩ := R.putAt eo es
      rw [hv] at g2
      cases g2
      have : u' = u := g3.fun_ hat
      subst this
      obtain ⟨a, vs, c', e1, e2, e3, w1, r1, d1, d2, f1, f2, f3, w2, r2, d3, d4, g1, g2, g3, g4, g5⟩ := g4
      subst f1 g1 g4
      exact ⟨a, w1, w2, e1, e3⟩
    · cases h
  · cases h
section
variable {X : Cx} {W : WX} {pos : Pos} {a b c e : Expr} {fa fb fc fe : DE} {st : Stmt} {sts rest : List Stmt}
theorem gs_forO2 {ta t : Nat} {x y : Str} {p1 p2 p3 : Pos} {kk : Nat} {body : List Stmt} {bd : DSa} {fp : DP} {k : Nat} (hp : PassesOwn (model X.prog X.w) X.A X.env X.xe) (C : Cc X W k) (ho : GP X W e fp) (hb : GSas X t body bd)
    (hia : X.N[ta]? = some x := by rfl) (hxa : Loc X.env.scope x := by first | exact Or.inl rfl | exact Or.inr rfl) (hfa : X.fn x = true ∨ X.env.scope.names.lookup x = some .local := by first | exact .inl rfl | exact .inr rfl)
    (hi : X.N[t]? = some y := by rfl) (hx : Loc X.env.scope y := by first | exact Or.inl rfl | exact Or.inr rfl) (hf : X.fn y = true ∨ X.env.scope.names.lookup y = some .local := by first | exact .inl rfl | exact .inr rfl)
    (hn : (assignEach [Expr.Name x p1, Expr.Name y p2] X.env).length = 2 := by rfl) (hst : (assignEach [Expr.Name x p1, Expr.Name y p2] X.env).findIdx? (·.1) = none := by rfl)
    (hs : ∀ z, foldedSetIterable e X.env z = pure z := by intro _; rfl) : GS X W (.For (.Tuple [.Name x p1, .Name y p2] kk p3) e body [] pos) (forOS2 ta t fp bd) := by
  refine PS.imp (ps_for hp C.calm (pi_list ho) (pg_tup C.calm (pgs_cons (pg_name C.nd hia hxa hfa) (pgs_cons (pg_name C.nd hi hx hf) pgs_nil)) hn hst) hb hs) fun D σ H ⟨F0, H0, ρ, F, cs, R, p⟩ => ?_
  refine ⟨F0, H0, ρ, F, cs, R, ?_⟩
  unfold forOS2 at p
  cases q1 : fp ρ with
  | bad => rw [q1] at p; exact p
  | ex c => rw [q1] at p; exact fun F2 H2 C e m => p F2 H2 σ cs C e.ff (R.ext e) m
  | ok i pl =>
    simp only [q1] at p
    split at p
    · exact p.elim
    · rename_i hit
      have hne : i ≠ t := fun e => hit (.inr (.inl e))
      have hna : i ≠ ta := fun e => hit (.inl e)
      have hat' : ta ≠ t := fun e => hit (.inr (.inr (.inl e)))
      have hal : ta < ρ.length := Nat.lt_of_not_le fun h => hit (.inr (.inr (.inr (.inl h))))
      have htl : t < ρ.length := Nat.lt_of_not_le fun h => hit (.inr (.inr (.inr (.inr h))))
      split at p
      · rename_i N eN
        intro F1 H1 v u e1 hv hat
        have R1 := R.ext e1
        obtain ⟨q, vs, rfl, hq, hl⟩ := lenAt_rep R1 eN hv hat
        refine ⟨q, rfl, ⟨vs, SqL.of hq⟩, ?_⟩
        obtain ⟨cs0, R1b⟩ := R1.drop hal
        obtain ⟨cs1, R2⟩ := R1b.drop (show t < (ρ.set ta none).length by simpa using htl)
        refine ⟨fun j m σ H => m = N - j ∧ j ≤ N ∧ ∃ ρ F cs v0, RS X.K F0 H0 ρ F σ H cs ∧ σ[i]? = some (some v0) ∧ VAt X.K H pl v0 (.ref q) ∧ postS X W (loopO2 bd i pl ta t N (N - j) j ρ) F0 H0 F D,
          ⟨N, by simp, Nat.zero_le _, (ρ.set ta none).set t none, F1, cs1, v, R2, hv, hat, postS_same e1.ff p⟩, ?_⟩
        rintro j m σ2 H2 ⟨rfl, hj, ρ2, F2, cs2, v2, R3, hv2, hat2, p2⟩
        by_cases hlt : j < N
        · obtain ⟨n, hn⟩ : ∃ n, N - j = n + 1 := ⟨N - j - 1, by omega⟩
          rw [hn] at p2
          unfold loopO2 at p2
          split at p2
          · rename_i hc
            obtain ⟨hca, hcb, hcl, hct⟩ := hc
            obtain ⟨q', vs2, eq', hvs2, hl2⟩ := lenAt_rep R3 hcl hv2 hat2
            cases eq'
            have hjv : j < vs2.length := by omega
            refine .inr ⟨⟨vs2, vs2[j], SqL.of hvs2, List.getElem?_eq_getElem hjv⟩, fun σ3 H3 => ∃ ρ F cs v0, RS X.K F0 H0 ρ F σ3 H3 cs ∧ σ3[i]? = some (some v0) ∧ VAt X.K H3 pl v0 (.ref q) ∧ postS X W (loopO2 bd i pl ta t N (N - (j + 1)) (j + 1) ρ) F0 H0 F D, fun σ' H' h => ⟨N - (j + 1), by omega, rfl, hlt, h⟩, fun z H' yz => ?_⟩
            obtain ⟨e, yz⟩ := yz
            subst e
            have ez := yz vs2 (SqL.of hvs2)
            have none_of : ∀ t', noneAt ρ2 t' = true → ρ2[t']? = some none := fun t' h => by
              unfold noneAt at h
              split at h
              · rename_i h2; exact h2
              · cases h
            have hva := hat2.snoc rfl (.inl hvs2) ez
            obtain ⟨za, w1, w2, ezz, hz⟩ := tupAt_rep R3 hct hv2 hva
            subst ezz
            have R4 := (R3.setNone (x := some w1) (none_of ta hca)).setNone (x := some w2) (none_of t hcb)
            have hlen := R3.lenS
            have hta2 : ta < ρ2.length := (List.getElem?_eq_some_iff.mp (none_of ta hca)).1
            have ht2 : t < ρ2.length := (List.getElem?_eq_some_iff.mp (none_of t hcb)).1
            have hvi : ((σ2.set ta (some w1)).set t (some w2))[i]? = some (some v2) := by rw [List.getElem?_set_ne hne.symm, List.getElem?_set_ne hna.symm]; exact hv2
            have ep : pl ++ [j, 1] = (pl ++ [j]) ++ [1] := by simp
            have al : Al X.K _ ((σ2.set ta (some w1)).set t (some w2)) i t pl [j, 1] q := ⟨v2, w2, hvi, List.getElem?_set_self (by rw [List.length_set]; omega), hat2, by rw [ep]; exact hva.snoc rfl (.inr hz) rfl⟩
            refine ⟨za, [w1, w2], rfl, SqT.of hz, rfl, w1, [w2], rfl, w2, [], rfl, rfl, ?_⟩
            refine ⟨F0, H0, ρ2, F2, cs2, i, pl, [j, 1], q, R4, al, ?_⟩
            rw [ep]
            cases eb : bd i ((pl ++ [j]) ++ [1]) ρ2 with
            | nx ρ3 =>
              rw [eb] at p2
              dsimp only at p2
              intro F5 H5 σ5 cs5 s5 R5 A5
              obtain ⟨x0, x1, a1, a2, a3, a4⟩ := A5.ex
              have hnn : N - (j + 1) = n := by omega
              rw [hnn]
              exact ⟨ρ3, F5, cs5, x0, R5, a1, a3, postS_same s5 p2⟩
            | _ => rw [eb] at p2; exact p2.elim
          · exact p2.elim
        · have e : j = N := by omega
          subst e
          rw [Nat.sub_self] at p2
          unfold loopO2 at p2
          split at p2
          · rename_i hc
            obtain ⟨q', vs2, eq', hvs2, hl2⟩ := lenAt_rep R3 hc hv2 hat2
            cases eq'
            exact .inl ⟨⟨vs2, SqL.of hvs2, by omega⟩, p2 F2 H2 σ2 cs2 (Same.refl _) R3⟩
          · exact p2.elim
      · exact p.elim
end
/-! ### the same, typed -/
section
variable {α β A : Type} {s : α → O} {t : β → O}
theorem loopO2_ok {bd bd' : DSa} {F : α → M α} (h : IB bd' s F) (hsh : ∀ ρ i p o a b, ρ[i]? = some (some o) → O.at p o = some (.tup [a, b]) → bd' i p ρ = bd i (p ++ [1]) ρ) (hs2 : ∀ x, ∃ a b, s x = .tup [a, b]) {ρ : Rho} {i ta t' : Nat} {p : List Nat} {o s0 : O} (hit : i ≠ t') (hia : i ≠ ta) (hta : ρ[ta]? = some none) (ht : ρ[t']? = some none) (hil : i < ρ.length) (ho : O.at p o = some s0) : ∀ (xs zs pre : List α) (N : Nat), pre.length + xs.length = N → mapM F xs = .ok zs →
    loopO2 bd i p ta t' N xs.length pre.length (ρ.set i (some (O.put p (oL s (pre ++ xs)) o))) = .nx (ρ.set i (some (O.put p (oL s (pre ++ zs)) o)))
  | [], zs, pre, N, hN, hm => by
    cases hm
    unfold loopO2
    have : lenAt (ρ.set i (some (O.put p (oL s (pre ++ [])) o))) i p = some N := by
      unfold lenAt
      rw [List.getElem?_set_self hil]
      dsimp only
      rw [at_put ho]
      show some ((pre ++ []).map s).length = some N
      rw [List.length_map, List.length_append]
      simp at hN ⊢
      exact hN
    show (if lenAt (ρ.set i (some (O.put p (oL s (pre ++ [])) o))) i p = some N then SR.nx _ else SR.bad) = _
    rw [if_pos this]
  | x :: xs, zs, pre, N, hN, hm => by
    unfold mapM at hm
    cases q : F x with
    | bad => rw [q] at hm; cases hm
    | ex c => rw [q] at hm; cases hm
    | ok x' =>
      rw [q] at hm
      simp only [M.bind_ok] at hm
      cases q2 : mapM F xs with
      | bad => rw [q2] at hm; cases hm
      | ex c => rw [q2] at hm; cases hm
      | ok zs' =>
        rw [q2] at hm
        simp only [M.bind_ok] at hm
        cases hm
        have h1 : lenAt (ρ.set i (some (O.put p (oL s (pre ++ x :: xs)) o))) i p = some N := by
          unfold lenAt
          rw [List.getElem?_set_self hil]
          dsimp only
          rw [at_put ho]
          show some ((pre ++ x :: xs).map s).length = some N
          rw [List.length_map, List.length_append]
          exact congrArg some hN
        have h2 : noneAt (ρ.set i (some (O.put p (oL s (pre ++ x :: xs)) o))) t' = true := by
          unfold noneAt
          rw [List.getElem?_set_ne hit, ht]
        have h3 : noneAt (ρ.set i (some (O.put p (oL s (pre ++ x :: xs)) o))) ta = true := by
          unfold noneAt
          rw [List.getElem?_set_ne hia, hta]
        have hk : (oL s (pre ++ x :: xs)).kids = some ((pre ++ x :: xs).map s) := rfl
        have hx : ((pre ++ x :: xs).map s)[pre.length]? = some (s x) := by simp
        have hat := at_snoc (at_put ho) hk hx
        obtain ⟨c1, c2, hc⟩ := hs2 x
        have h4 : tupAt (ρ.set i (some (O.put p (oL s (pre ++ x :: xs)) o))) i (p ++ [pre.length]) = true := by
          unfold tupAt
          rw [List.getElem?_set_self hil]
          dsimp only
          rw [hat, hc]
        have e := h.2 (ρ.set i (some (O.put p (oL s (pre ++ x :: xs)) o))) i (p ++ [pre.length]) (O.put p (oL s (pre ++ x :: xs)) o) x x' (List.getElem?_set_self hil) (at_snoc (at_put ho) hk hx) q
        rw [hsh _ _ _ _ c1 c2 (List.getElem?_set_self hil) (by rw [hat, hc])] at e
        have e2 : O.put (p ++ [pre.length]) (s x') (O.put p (oL s (pre ++ x :: xs)) o) = O.put p (oL s ((pre ++ [x']) ++ xs)) o := by
          rw [put_snoc (at_put ho) hk hx, put_put ho]
          congr 1
          show O.lst (((pre ++ x :: xs).map s).set pre.length (s x')) = .lst (((pre ++ [x']) ++ xs).map s)
          rw [← List.map_set]
          simp
        have ih := loopO2_ok h hsh hs2 hit hia hta ht hil ho xs zs' (pre ++ [x']) N (by simp at hN ⊢; omega) q2
        unfold loopO2
        show (if noneAt _ ta = true ∧ noneAt _ t' = true ∧ lenAt _ i p = some N ∧ tupAt _ i (p ++ [pre.length]) = true then _ else _) = _
        rw [if_pos ⟨h3, h2, h1, h4⟩, e]
        dsimp only
        rw [e2, List.set_set]
        simpa using ih
theorem put_at_self : ∀ (p : List Nat) (o x : O), O.at p o = some x → O.put p x o = o := by
  intro p
  induction p with
  | nil => intro o x h; cases h; rfl
  | cons n p ih =>
    intro o x h
    unfold O.at at h
    cases q : o.kids with
    | none => rw [q] at h; cases h
    | some us =>
      rw [q] at h
      dsimp only at h
      cases q2 : us[n]? with
      | none => rw [q2] at h; cases h
      | some w =>
        rw [q2] at h
        have e : O.put (n :: p) x o = o.withKids (us.set n (O.put p x w)) := by simp only [O.put, q, q2]
        rw [e, ih w x h]
        have hn : n < us.length := (List.getElem?_eq_some_iff.mp q2).1
        have : us.set n w = us := by
          have : w = us[n] := by rw [List.getElem?_eq_getElem hn] at q2; exact (Option.some.inj q2).symm
          rw [this]; simp
        rw [this]
        cases o <;> first | (cases q; rfl) | cases q
theorem sim_forO2_z {bd bd' : DSa} {F : α → M α} {ρ : Rho} {i ta t' : Nat} {sA : A → O} {fp : DP} {md : (List α → M (List α)) → M A} (hp : MQ (fp ρ) ρ i sA (oL s) md) (h : IB bd' s F) (hsh : ∀ ρ i p o a b, ρ[i]? = some (some o) → O.at p o = some (.tup [a, b]) → bd' i p ρ = bd i (p ++ [1]) ρ) (hs2 : ∀ x, ∃ a b, s x = .tup [a, b]) (hc : (decide (i ≠ t') && (decide (i ≠ ta) && (decide (ta ≠ t') && (decide (t' < ρ.length) && decide (ta < ρ.length))))) = true) {upd : A → Rho} (hu : ∀ x, ((ρ.set ta none).set t' none).set i (some (sA x)) = upd x) : Sim0 (forOS2 ta t' fp bd ρ) (md (fun xs => mapM F xs)) (Np upd) := by
  have e : (fun x => ((ρ.set ta none).set t' none).set i (some (sA x))) = upd := funext hu
  rw [← e]
  simp only [Bool.and_eq_true, decide_eq_true_eq] at hc
  obtain ⟨hit, hia, hat, htl, hal⟩ := hc
  have := hp (fun xs => mapM F xs) (fun xs c => mapM_nex h.1 xs c)
  cases q : md (fun xs => mapM F xs) with
  | bad => trivial
  | ex c => rw [q] at this; exact this.elim
  | ok x' =>
    rw [q] at this
    obtain ⟨p, o, xs, zs, h1, h2, h3, h4, h5⟩ := this
    have hil : i < ρ.length := (List.getElem?_eq_some_iff.mp h2).1
    have hl : lenAt ρ i p = some xs.length := by
      unfold lenAt
      rw [h2]
      dsimp only
      rw [h3]
      show some (xs.map s).length = _
      rw [List.length_map]
    have e1 : ((ρ.set ta none).set t' none)[i]? = some (some o) := by rw [List.getElem?_set_ne hit.symm, List.getElem?_set_ne hia.symm]; exact h2
    have ha1 : ((ρ.set ta none).set t' none)[ta]? = some none := by rw [List.getElem?_set_ne hat.symm, List.getElem?_set_self hal]
    have ht1 : ((ρ.set ta none).set t' none)[t']? = some none := List.getElem?_set_self (by rw [List.length_set]; exact htl)
    have hil2 : i < ((ρ.set ta none).set t' none).length := by simpa using hil
    have := loopO2_ok (ρ := (ρ.set ta none).set t' none) (t' := t') (o := o) (s0 := oL s xs) h hsh hs2 hit hia ha1 ht1 hil2 h3 xs zs [] xs.length (by simp) h4
    have e0 : ((ρ.set ta none).set t' none).set i (some (O.put p (oL s ([] ++ xs)) o)) = (ρ.set ta none).set t' none := by
      rw [show O.put p (oL s ([] ++ xs)) o = o from put_at_self p o _ h3]
      have : some o = ((ρ.set ta none).set t' none)[i] := by rw [List.getElem?_eq_getElem hil2] at e1; exact (Option.some.inj e1).symm
      rw [this]; simp
    show forOS2 ta t' fp bd ρ = .nx _
    unfold forOS2
    rw [h1]
    dsimp only
    rw [if_neg (by omega), hl]
    dsimp only
    rw [List.length_nil, e0] at this
    rw [List.nil_append, h5] at this
    exact this
theorem meth_shift {T : String} {fa : DVs} {g : GMt} {ρ : Rho} {i : Nat} {p : List Nat} {o a b : O} (h : ρ[i]? = some (some o)) (ha : O.at p o = some (.tup [a, b])) : methA T (ixPa alP (cE (.int 1))) fa g i p ρ = methA T alP fa g i (p ++ [1]) ρ := by
  have e : ixPa alP (cE (.int 1)) i p ρ = .ok i (p ++ [1]) := by
    show (match ρ[i]? with
        | some (some o) => match O.at p o with
          | some s => match s.kids with
            | some os => match ixN os.length 1 with
              | some n => if n < os.length then Rp.ok i (p ++ [n]) else .bad
              | none => .bad
            | none => .bad
          | none => .bad
        | _ => .bad) = _
    rw [h]
    dsimp only
    rw [ha]
    rfl
  have em : methS T (ixPa alP (cE (.int 1)) i p) fa g ρ = methS T (alP i (p ++ [1])) fa g ρ := by
    unfold methS
    rw [e]
    rfl
  unfold methA
  rw [e]
  show (if i = i ∧ p <+: p ++ [1] then methS T (ixPa alP (cE (.int 1)) i p) fa g ρ else SR.bad) = (if i = i ∧ p ++ [1] <+: p ++ [1] then methS T (alP i (p ++ [1])) fa g ρ else SR.bad)
  rw [if_pos ⟨rfl, List.prefix_append _ _⟩, if_pos ⟨rfl, List.prefix_refl _⟩, em]
theorem sim_forO2 {bd bd' : DSa} {F : α → M α} {ρ : Rho} {i ta t' : Nat} {sA : A → O} {fp : DP} {md : (List α → M (List α)) → M A} (hp : MQ (fp ρ) ρ i sA (oL s) md) (h : IB bd' s F) (hsh : ∀ ρ i p o a b, ρ[i]? = some (some o) → O.at p o = some (.tup [a, b]) → bd' i p ρ = bd i (p ++ [1]) ρ) (hs2 : ∀ x, ∃ a b, s x = .tup [a, b]) (hc : (decide (i ≠ t') && (decide (i ≠ ta) && (decide (ta ≠ t') && (decide (t' < ρ.length) && decide (ta < ρ.length))))) = true) {upd : A → Rho} (hu : ∀ x, ((ρ.set ta none).set t' none).set i (some (sA x)) = upd x) : Sim (forOS2 ta t' fp bd ρ) (md (fun xs => mapM F xs)) (Np upd) := by
  simp only [Sim_eq]
  exact sim_forO2_z hp h hsh hs2 hc hu
end
end DL

namespace DL
open PySem PySem.Spec L2 PyProof.Rows
/-! ### a script, its numbers' bits too -/
def spScrB (K : PySem.W.Frag) : Sp := fun vs H Q E => (∃ (a : Addr) (ns : List Int), vs = [.ref a] ∧ SqL K H a (ns.map V.int) ∧ ns.length ≤ 63 ∧ (∀ z ∈ ns, Builtin.Int.intBits z ≤ 1048576) ∧ ∀ H', Q (.bl true) H')
variable {P : Program} {w : World} {K : PySem.W.Frag} {mg : Str → Option Value} {base : Heap}
theorem fn_scrB {sem : DF} {k : Nat} {f : Addr} {fd : FuncData} {x : Str} (F : FnOk P w K mg base (L2.CX P w) k f fd [x] (spD K mg sem 1)) (h : ∀ ns : List Int, ns.length ≤ 63 → (∀ z ∈ ns, Builtin.Int.intBits z ≤ 1048576) → sem [scrD ns] = .ok (.fz (.bl true))) : FnOk P w K mg base (L2.CX P w) k f fd [x] (spScrB K) :=
  F.imp fun vs H Q E ⟨a, ns, e, s, l, hb, q⟩ => by
    subst e
    refine ⟨H, [scrD ns], rfl, Same.refl _, ⟨_, _, rfl, ⟨a, _, rfl, s, Reps.ints.mpr rfl⟩, rfl⟩, ?_⟩
    rw [h ns l hb]
    intro F' H' v cs' _ r _
    cases (show v = .bl true from r.2)
    exact q H'
theorem scr_walkB {l : PySem.W.OpenLaw} {q : Program} {loose : List Str} {XP : (Str → Option Value) → Heap → Prop} {YP : World → Heap → Prop} {d : DefRec} {K : Params → PySem.W.Frag} {k : Nat} {x : Str} (hn : l.most = some 63) (hdf : d.params.defaults = []) (hr : Room k callerA)
    (hY : ∀ (w : World) (h : Heap), YP w h → (K w.params).In h)
    (F : ∀ (w : World) (mg : Str → Option Value) (fa : Addr) (h : Heap), (K w.params).In h → h.Ns mainGlobals mg → mg d.name = some (.ref fa) →
      ∃ fd : FuncData, (∀ (s : Shared) (u : Value), BindsTo s fd ⟨[u], []⟩ [(x, u)]) ∧ ∀ base : Heap, (K w.params).In base → base.Ns mainGlobals mg → FnOk l.prog w (K w.params) mg base (L2.CX l.prog w) k fa fd [x] (spScrB (K w.params))) :
    PySem.W.WalkO q loose XP YP l.row.toRowW d [] (fun f vs => PySem.call f vs) :=
  L2.walk_ofB (n := 63) (CX := fun w => L2.CX l.prog w) (sp := fun w => spScrB (K w.params)) hn (by decide) hdf hr hY F (fun _ _ a ns hl hb _ hS => ⟨a, ns, rfl, hS, hl, hb, fun _ => rfl⟩) fun _ _ _ _ _ c => cx_no c
/-- below a power of two -/
def Sz (k : Nat) (i : Int) : Prop := i.natAbs < 2 ^ k
theorem sz_up {k m : Nat} {i : Int} (h : Sz k i) (l : k ≤ m) : Sz m i := Nat.lt_of_lt_of_le h (Nat.pow_le_pow_right (by decide) l)
theorem sz_mul {k m : Nat} {i j : Int} (h : Sz k i) (h2 : Sz m j) : Sz (k + m) (i * j) := by
  unfold Sz at *
  rw [Int.natAbs_mul, Nat.pow_add]
  exact Nat.mul_lt_mul'' h h2
theorem sz_log {k : Nat} {i : Int} (h : Sz k i) : i.natAbs.log2 ≤ k := by
  by_cases e : i.natAbs = 0
  · rw [e]; simp
  · exact Nat.le_of_lt ((Nat.log2_lt e).mpr h)
theorem sz_bits {z : Int} (h : Builtin.Int.intBits z ≤ 1048576) : Sz 1048576 z := by
  unfold Builtin.Int.intBits at h
  unfold Sz
  by_cases e : z = 0
  · subst e
    exact Nat.two_pow_pos _
  · rw [if_neg (by simpa using e)] at h
    have h0 : z.natAbs ≠ 0 := by omega
    exact (Nat.log2_lt h0).mp (by omega)
theorem sz_small {i : Int} (h : -18446744073709551616 < i) (h2 : i < 18446744073709551616) : Sz 64 i := by
  show i.natAbs < 18446744073709551616
  omega
theorem sz_near {k : Nat} {i j : Int} (h : Sz k i) (hj : j.natAbs ≤ i.natAbs + 16) : Sz (k + 5) j := by
  unfold Sz at *
  have p := Nat.two_pow_pos k
  rw [Nat.pow_add]
  show j.natAbs < 2 ^ k * 32
  omega
theorem mulM_sz {k m : Nat} {i j : Int} (h : Sz k i) (h2 : Sz m j) (l : k + m < 100000000) : mulM i j = .ok (i * j) := by
  refine if_pos ?_
  unfold okMul
  have a := sz_log h
  have b := sz_log h2
  rw [decide_eq_true (show i.natAbs.log2 + j.natAbs.log2 < 100000000 by omega), Bool.or_true]
end DL

namespace K
open PySem PySem.Spec L2 DL
def top (i : Nat) : Stmt := PySem.Challenge.pw_rankgarth_k26_a_purse_game.main.body.getD i (.Pass ⟨0, 0, 0, 0⟩)
abbrev XS : List Str := ["NoWay", "NoAmount", "TooMany", "NoHand"]
structure Txt (K : PySem.W.Frag) (mg : Str → Option Value) : Prop where
  g_len : mg "len" = none
  g_abs : mg "abs" = none
  g_sorted : mg "sorted" = none
  g_isinstance : mg "isinstance" = none
  g_int : mg "int" = none
  g_bool : mg "bool" = none
  g_range : mg "range" = none
  g_enumerate : mg "enumerate" = none
  g_list : mg "list" = none
  g_reversed : mg "reversed" = none
  g_zip : mg "zip" = none
  g_tuple : mg "tuple" = none
  x_NoWay : XOk K mg "NoWay"
  x_NoAmount : XOk K mg "NoAmount"
  x_TooMany : XOk K mg "TooMany"
  x_NoHand : XOk K mg "NoHand"
  c_MOST_PLACES : GlI mg "MOST_PLACES" 16
abbrev s_look_at_ways : Stmt := top 8
def N_look_at_ways : List Str := ["ways", "many", "seen", "amount", "place"]
theorem sc_look_at_ways : FnScope N_look_at_ways ["ways", "many"] (defScope s_look_at_ways) := ⟨rfl, rfl, rfl, by decide +kernel, rfl, by decide +kernel, by decide +kernel⟩
def d_look_at_ways : DS :=
  (seqS (ifS (testE (bin gEq (callB gLen (consA (varE 0) nilA)) (cE (.int 0))))
  (raiseS "NoWay")
  nilS)
  (ghS [] (seqS (setS 2 (newE (.dK [] [])))
  (ghS [] (seqS (forS (listI (varE 0)) (tupB 2 (consB (nameB 4) (consB (nameB 3) nilB)))
  (seqS (ifS (orT (notT (testE (chainE gLe gLt (cE (.int 0)) (varE 4) (varE 1)))) (testE (bin (gIn false) (varE 4) (varE 2))))
  (raiseS "NoWay")
  nilS)
  (ghS [] (seqS (storeS (owV (cE (.bl true))) (varP 2) (varE 4))
  (ghS [] nilS)))) [3, 4])
  (ghS [] nilS))))))
def m_look_at_ways : DF := semOf 5 d_look_at_ways
abbrev s_look_at_amounts : Stmt := top 9
def N_look_at_amounts : List Str := ["ways", "amount", "place"]
theorem sc_look_at_amounts : FnScope N_look_at_amounts ["ways"] (defScope s_look_at_amounts) := ⟨rfl, rfl, rfl, by decide +kernel, rfl, by decide +kernel, by decide +kernel⟩
def d_look_at_amounts : DS :=
  (seqS (forS (listI (varE 0)) (tupB 2 (consB (nameB 2) (consB (nameB 1) nilB)))
  (ifS (testE (bin gGe (callB (g1I fun i => if i < 0 then -i else i) (consA (varE 1) nilA)) (bin gPow (cE (.int 10)) (cE (.int 60)))))
  (raiseS "NoAmount")
  nilS) [1, 2])
  (ghS [] nilS))
def m_look_at_amounts : DF := semOf 3 d_look_at_amounts
abbrev s_purse_game : Stmt := top 10
def N_purse_game : List Str := ["rows", "ways", "hand"]
theorem sc_purse_game : FnScope N_purse_game ["rows"] (defScope s_purse_game) := ⟨rfl, rfl, rfl, by decide +kernel, rfl, by decide +kernel, by decide +kernel⟩
def d_purse_game : DS :=
  (seqS (ifS (testE (bin gGt (callB gLen (consA (varE 0) nilA)) (cE (.int 16))))
  (raiseS "TooMany")
  nilS)
  (ghS [] (seqS (forS (listI (varE 0)) (tupB 2 (consB (nameB 2) (consB (nameB 1) nilB)))
  (seqS (ifS (andT (testE (bin gNe (varE 2) (cE (.int 0)))) (testE (bin gNe (varE 2) (cE (.int 1)))))
  (raiseS "NoHand")
  nilS)
  (ghS [] (seqS (exprS (callF m_look_at_ways 2 (consA (varE 1) (consA (callB gLen (consA (varE 0) nilA)) nilA))))
  (ghS [] (seqS (exprS (callF m_look_at_amounts 1 (consA (varE 1) nilA)))
  (ghS [] nilS)))))) [1, 2])
  (ghS [] (retS (owV (compE (listI (varE 0)) (tupB 2 (consB (nameB 2) (consB (nameB 1) nilB))) yesT (tupE (consA (varE 2) (consA (callB gSortP (consA (varE 1) nilA)) nilA))) [2, 1])))))))
def m_purse_game : DF := semOf 3 d_purse_game
abbrev s__law_at : Stmt := top 12
def N__law_at : List Str := ["_law_script", "_law_k", "_law_mixed"]
theorem sc__law_at : FnScope N__law_at ["_law_script", "_law_k"] (defScope s__law_at) := ⟨rfl, rfl, rfl, by decide +kernel, rfl, by decide +kernel, by decide +kernel⟩
def d__law_at : DS :=
  (seqS (ifS (testE (bin gLt (varE 1) (callB gLen (consA (varE 0) nilA))))
  (retS (owV (bin gIx (varE 0) (varE 1))))
  nilS)
  (ghS [] (seqS (setS 2 (bin gAdd (bin gMul (cE (.int 7)) (varE 1)) (cE (.int 3))))
  (ghS [] (seqS (ifS (testE (bin gGt (callB gLen (consA (varE 0) nilA)) (cE (.int 0))))
  (seqS (setS 2 (bin gAdd (varE 2) (bin gMul (bin gMod (bin gIx (varE 0) (bin gMod (varE 1) (callB gLen (consA (varE 0) nilA)))) (cE (.int 1000003))) (bin gAdd (varE 1) (cE (.int 1))))))
  (ghS [] nilS))
  nilS)
  (ghS [] (retS (owV (bin gAdd (bin gMod (bin gMul (varE 2) (varE 2)) (cE (.int 999979))) (bin gMod (varE 2) (cE (.int 101))))))))))))
def m__law_at : DF := semOf 3 d__law_at
abbrev s__law_whole : Stmt := top 13
def N__law_whole : List Str := ["_law_found"]
theorem sc__law_whole : FnScope N__law_whole ["_law_found"] (defScope s__law_whole) := ⟨rfl, rfl, rfl, by decide +kernel, rfl, by decide +kernel, by decide +kernel⟩
def d__law_whole : DS :=
  (retS (owV (andV (isiE "int" (varE 0)) (notV (isiE "bool" (varE 0))))))
def m__law_whole : DF := semOf 1 d__law_whole
abbrev s__law_amount : Stmt := top 14
def N__law_amount : List Str := ["_law_cell", "_law_j", "_law_by"]
theorem sc__law_amount : FnScope N__law_amount ["_law_cell", "_law_j"] (defScope s__law_amount) := ⟨rfl, rfl, rfl, by decide +kernel, rfl, by decide +kernel, by decide +kernel⟩
def d__law_amount : DS :=
  (seqS (setS 2 (bin gMul (bin gAdd (bin gFdiv (varE 0) (cE (.int 4))) (varE 1)) (bin gAdd (bin gMul (varE 1) (varE 1)) (cE (.int 3)))))
  (ghS [] (seqS (ifS (testE (bin gEq (bin gMod (varE 0) (cE (.int 4))) (cE (.int 0))))
  (retS (owV (bin gSub (bin gMod (varE 2) (cE (.int 7))) (cE (.int 3)))))
  nilS)
  (ghS [] (seqS (ifS (testE (bin gEq (bin gMod (varE 0) (cE (.int 4))) (cE (.int 1))))
  (retS (owV (bin gSub (bin gMod (bin gMul (varE 2) (bin gPow (cE (.int 31)) (cE (.int 41)))) (bin gSub (bin gMul (cE (.int 2)) (bin gPow (cE (.int 10)) (cE (.int 60)))) (cE (.int 1)))) (bin gSub (bin gPow (cE (.int 10)) (cE (.int 60))) (cE (.int 1))))))
  nilS)
  (ghS [] (seqS (ifS (testE (bin gEq (bin gMod (varE 0) (cE (.int 4))) (cE (.int 2))))
  (retS (owV (bin gMul (bin gSub (cE (.int 1)) (bin gMul (cE (.int 2)) (bin gMod (varE 2) (cE (.int 2))))) (bin gSub (bin gPow (cE (.int 10)) (cE (.int 60))) (cE (.int 1))))))
  nilS)
  (ghS [] (retS (owV (bin gSub (bin gMod (varE 2) (cE (.int 1000000000))) (cE (.int 500000000)))))))))))))
def m__law_amount : DF := semOf 3 d__law_amount
abbrev s__law_row : Stmt := top 15
def N__law_row : List Str := ["_law_script", "_law_k", "_law_many", "_law_number", "_law_goals", "_law_goal", "_law_cell", "_law_j"]
theorem sc__law_row : FnScope N__law_row ["_law_script", "_law_k", "_law_many"] (defScope s__law_row) := ⟨rfl, rfl, rfl, by decide +kernel, rfl, by decide +kernel, by decide +kernel⟩
def d__law_row : DS :=
  (seqS (setS 3 (bin gFdiv (callF m__law_at 2 (consA (varE 0) (consA (bin gAdd (cE (.int 2)) (bin gMul (cE (.int 2)) (varE 1))) nilA))) (cE (.int 2))))
  (ghS [] (seqS (setS 4 (lstE nilA))
  (ghS [] (seqS (forS (argsI gRange1 (consA (varE 2) nilA)) (nameB 5)
  (seqS (ifS (testE (bin gEq (bin gMod (varE 3) (cE (.int 2))) (cE (.int 1))))
  (seqS (methS "list" (varP 4) (consV (mvV 5) nilV) gAppend)
  (ghS [] nilS))
  nilS)
  (ghS [] (seqS (setS 3 (bin gFdiv (varE 3) (cE (.int 2))))
  (ghS [] nilS)))) [5])
  (ghS [] (seqS (ifS (testE (bin gEq (callB gLen (consA (varE 4) nilA)) (cE (.int 0))))
  (seqS (setS 4 (lstE (consA (varE 1) nilA)))
  (ghS [] nilS))
  nilS)
  (ghS [] (seqS (setS 6 (callF m__law_at 2 (consA (varE 0) (consA (bin gAdd (cE (.int 3)) (bin gMul (cE (.int 2)) (varE 1))) nilA))))
  (ghS [.frz 4] (retS (owV (tupE (consA (bin gMod (callF m__law_at 2 (consA (varE 0) (consA (bin gAdd (cE (.int 2)) (bin gMul (cE (.int 2)) (varE 1))) nilA))) (cE (.int 2))) (consA (compE (argsI gEnum (consA (varE 4) nilA)) (tupB 2 (consB (nameB 7) (consB (nameB 5) nilB))) yesT (tupE (consA (varE 5) (consA (callF m__law_amount 2 (consA (varE 6) (consA (varE 7) nilA))) nilA))) [7, 5]) nilA)))))))))))))))
def m__law_row : DF := semOf 8 d__law_row
abbrev s__law_mixed_row : Stmt := top 16
def N__law_mixed_row : List Str := ["_law_script", "_law_k", "_law_row_here", "_law_cell", "_law_cut", "_law_ways"]
theorem sc__law_mixed_row : FnScope N__law_mixed_row ["_law_script", "_law_k", "_law_row_here"] (defScope s__law_mixed_row) := ⟨rfl, rfl, rfl, by decide +kernel, rfl, by decide +kernel, by decide +kernel⟩
def d__law_mixed_row : DS :=
  (seqS (setS 3 (bin gFdiv (callF m__law_at 2 (consA (varE 0) (consA (cE (.int 1)) nilA))) (bin gAdd (varE 1) (cE (.int 1)))))
  (ghS [] (seqS (setS 4 (bin gMod (varE 3) (callB gLen (consA (bin gIx (varE 2) (cE (.int 1))) nilA))))
  (ghS [] (seqS (setS 5 (bin gAdd (cutE (bin gIx (varE 2) (cE (.int 1))) (someO (varE 4)) noO) (cutE (bin gIx (varE 2) (cE (.int 1))) noO (someO (varE 4)))))
  (ghS [] (seqS (ifS (testE (bin gEq (bin gMod (bin gFdiv (varE 3) (cE (.int 16))) (cE (.int 2))) (cE (.int 1))))
  (seqS (setS 5 (revE (varE 5)))
  (ghS [] nilS))
  nilS)
  (ghS [] (retS (tupV (consV (owV (bin gIx (varE 2) (cE (.int 0)))) (consV (mvV 5) nilV))))))))))))
def m__law_mixed_row : DF := semOf 6 d__law_mixed_row
abbrev s__law_is_game : Stmt := top 17
def N__law_is_game : List Str := ["_law_found", "_law_due", "_law_other", "_law_way", "_law_row_here", "_law_one"]
theorem sc__law_is_game : FnScope N__law_is_game ["_law_found", "_law_due"] (defScope s__law_is_game) := ⟨rfl, rfl, rfl, by decide +kernel, rfl, by decide +kernel, by decide +kernel⟩
def d__law_is_game : DS :=
  (seqS (ifS (orT (notT (testE (isiE "list" (varE 0)))) (testE (bin gNe (callB gLen (consA (varE 0) nilA)) (callB gLen (consA (varE 1) nilA)))))
  (retS (owV (cE (.bl false))))
  nilS)
  (ghS [] (seqS (forS (argsI gZip (consA (varE 0) (consA (varE 1) nilA))) (tupB 2 (consB (nameB 5) (consB (nameB 4) nilB)))
  (seqS (ifS (orT (notT (testE (isiE "tuple" (varE 5)))) (orT (testE (bin gNe (callB gLen (consA (varE 5) nilA)) (cE (.int 2)))) (orT (notT (testE (callF m__law_whole 1 (consA (bin gIx (varE 5) (cE (.int 0))) nilA)))) (testE (bin gNe (bin gIx (varE 5) (cE (.int 0))) (bin gIx (varE 4) (cE (.int 0))))))))
  (retS (owV (cE (.bl false))))
  nilS)
  (ghS [] (seqS (ifS (orT (notT (testE (isiE "list" (bin gIx (varE 5) (cE (.int 1)))))) (testE (bin gNe (callB gLen (consA (bin gIx (varE 5) (cE (.int 1))) nilA)) (callB gLen (consA (bin gIx (varE 4) (cE (.int 1))) nilA)))))
  (retS (owV (cE (.bl false))))
  nilS)
  (ghS [] (seqS (forS (argsI gZip (consA (bin gIx (varE 5) (cE (.int 1))) (consA (bin gIx (varE 4) (cE (.int 1))) nilA))) (tupB 2 (consB (nameB 3) (consB (nameB 2) nilB)))
  (seqS (ifS (orT (notT (testE (isiE "tuple" (varE 3)))) (orT (testE (bin gNe (callB gLen (consA (varE 3) nilA)) (cE (.int 2)))) (orT (notT (testE (callF m__law_whole 1 (consA (bin gIx (varE 3) (cE (.int 0))) nilA)))) (notT (testE (callF m__law_whole 1 (consA (bin gIx (varE 3) (cE (.int 1))) nilA)))))))
  (retS (owV (cE (.bl false))))
  nilS)
  (ghS [] (ifS (orT (testE (bin gNe (bin gIx (varE 3) (cE (.int 0))) (bin gIx (varE 2) (cE (.int 0))))) (testE (bin gNe (bin gIx (varE 3) (cE (.int 1))) (bin gIx (varE 2) (cE (.int 1))))))
  (retS (owV (cE (.bl false))))
  nilS))) [2, 3])
  (ghS [] nilS)))))) [2, 3, 4, 5])
  (ghS [] (retS (owV (cE (.bl true))))))))
def m__law_is_game : DF := semOf 6 d__law_is_game
abbrev s_law : Stmt := top 18
def N_law : List Str := ["_law_script", "_law_many", "_law_due", "_law_rows", "_law_handed", "_law_found", "_law_other", "_law_ways", "_law_hand", "_law_k"]
theorem sc_law : FnScope N_law ["_law_script"] (defScope s_law) := ⟨rfl, rfl, rfl, by decide +kernel, rfl, by decide +kernel, by decide +kernel⟩
def d_law : DS :=
  (seqS (setS 1 (bin gMod (callF m__law_at 2 (consA (varE 0) (consA (cE (.int 0)) nilA))) (cE (.int 17))))
  (ghS [] (seqS (setS 2 (compE (argsI gRange1 (consA (varE 1) nilA)) (nameB 9) yesT (callF m__law_row 3 (consA (varE 0) (consA (varE 9) (consA (varE 1) nilA)))) [9]))
  (ghS [] (seqS (setS 3 (compE (argsI gRange1 (consA (varE 1) nilA)) (nameB 9) yesT (callV m__law_mixed_row 3 (consA (varE 0) (consA (varE 9) (consA (bin gIx (varE 2) (varE 9)) nilA)))) [9]))
  (ghS [.frz 3] (seqS (setS 4 (compE (listI (varE 3)) (tupB 2 (consB (nameB 8) (consB (nameB 7) nilB))) yesT (tupE (consA (varE 8) (consA (callB gList (consA (varE 7) nilA)) nilA))) [8, 7]))
  (ghS [] (seqS (setS 5 (callV m_purse_game 1 (consA (varE 4) nilA)))
  (ghS [] (seqS (ifS (orT (notT (testE (callF m__law_is_game 2 (consA (varE 5) (consA (varE 2) nilA))))) (testE (bin gNe (varE 4) (varE 3))))
  (retS (owV (cE (.bl false))))
  nilS)
  (ghS [] (seqS (setS 6 (callV m_purse_game 1 (consA (varE 4) nilA)))
  (ghS [] (seqS (methS "list" (varP 5) (consV (tupV (consV (owV (cE (.int 0))) (consV (lstV (consV (owV (tupE (consA (cE (.int 0)) (consA (cE (.int 0)) nilA)))) nilV)) nilV))) nilV) gAppend)
  (ghS [] (seqS (forOS2 8 7 (varP 5) (methA "list" alP nilV gClear))
  (ghS [] (seqS (ifS (orT (testE (bin gNe (varE 4) (varE 3))) (orT (notT (testE (callF m__law_is_game 2 (consA (varE 6) (consA (varE 2) nilA))))) (notT (testE (callF m__law_is_game 2 (consA (callV m_purse_game 1 (consA (varE 4) nilA)) (consA (varE 2) nilA)))))))
  (retS (owV (cE (.bl false))))
  nilS)
  (ghS [] (seqS (forOS2 8 7 (varP 4) (methA "list" alP (consV (owV (tupE (consA (cE (.int 0)) (consA (cE (.int 1)) nilA)))) nilV) gAppend))
  (ghS [] (seqS (meth0S "list" (varP 4) gClear)
  (ghS [] (retS (owV (callF m__law_is_game 2 (consA (varE 6) (consA (varE 2) nilA)))))))))))))))))))))))))))))
def m_law : DF := semOf 10 d_law
section
variable {P : Program} {w : World} {K : PySem.W.Frag} {mg : Str → Option Value} {base : Heap}
abbrev X_look_at_ways (P : Program) (w : World) (K : PySem.W.Frag) (mg : Str → Option Value) (base : Heap) (f : Addr) (cdv : Value) (A : Around) (outer : List Env) (s : Shared) (H : Hp) (E : XK) : Cx := cxOf (L2.CX P w) P w K mg base N_look_at_ways "look_at_ways" (defScope s_look_at_ways) f cdv A outer s H E
theorem b_look_at_ways (T : Txt K mg)  {f : Addr} {cdv : Value} {A : Around} {outer : List Env} {s : Shared} {H : Hp} {E : XK} (C : Cb (X_look_at_ways P w K mg base f cdv A outer s H E) (WEx E) 0) : GSs (X_look_at_ways P w K mg base f cdv A outer s H E) (WEx E) (defBody s_look_at_ways) d_look_at_ways :=
  (gss_cons (gs_if (gt_cmp (op_eqD C.cc.hu) ok_eq (ge_callB call_lenX vc_len T.g_len (ga_cons (ge_var 0) ga_nil)) ge_int rfl)
  (gss_one (gs_raise C T.x_NoWay))
  gss_nil)
  (gss_gh [] (gss_cons (gs_set C.cc ge_dK)
  (gss_gh [] (gss_cons (gs_for [3, 4] C.own C.cc (gi_list (ge_var 0)) (gg_tup C.cc.calm (ggs_cons (gg_name C.cc.nd) (ggs_cons (gg_name C.cc.nd) ggs_nil)))
  (gss_cons (gs_if (GW.pt (gw_or (gt_not (gt_chain op_le op_lt ok_cmpI ok_cmpI ge_int (ge_var 4) (ge_var 1))) (gw_or1 (gt_cmp (op_inX C.cc.hu) ok_in (ge_var 4) (ge_var 2) rfl))))
  (gss_one (gs_raise C T.x_NoWay))
  gss_nil)
  (gss_gh [] (gss_cons (gs_store C.cc (gv_ge ge_bl) (gp_var 2) (ge_var 4))
  (gss_gh [] gss_nil)))))
  (gss_gh [] gss_nil))))))
theorem ok_look_at_ways (T : Txt K mg)  {f : Addr} {fd : FuncData} (F : Fun K "look_at_ways" "look_at_ways" s_look_at_ways f fd) (hm : mg "look_at_ways" = some (.ref f)) (hb : Binds K fd ["ways", "many"] []) : DOk P w K mg base 1 "look_at_ways" m_look_at_ways 2 :=
  dok_of F sc_look_at_ways hm hb fun cdv A outer s H E C => b_look_at_ways T  C
abbrev X_look_at_amounts (P : Program) (w : World) (K : PySem.W.Frag) (mg : Str → Option Value) (base : Heap) (f : Addr) (cdv : Value) (A : Around) (outer : List Env) (s : Shared) (H : Hp) (E : XK) : Cx := cxOf (L2.CX P w) P w K mg base N_look_at_amounts "look_at_amounts" (defScope s_look_at_amounts) f cdv A outer s H E
theorem b_look_at_amounts (T : Txt K mg)  {f : Addr} {cdv : Value} {A : Around} {outer : List Env} {s : Shared} {H : Hp} {E : XK} (C : Cb (X_look_at_amounts P w K mg base f cdv A outer s H E) (WEx E) 0) : GSs (X_look_at_amounts P w K mg base f cdv A outer s H E) (WEx E) (defBody s_look_at_amounts) d_look_at_amounts :=
  (gss_cons (gs_for [1, 2] C.own C.cc (gi_list (ge_var 0)) (gg_tup C.cc.calm (ggs_cons (gg_name C.cc.nd) (ggs_cons (gg_name C.cc.nd) ggs_nil)))
  (gss_one (gs_if (gt_cmp op_ge ok_cmpI (ge_callB call_abs vc_1I T.g_abs (ga_cons (ge_var 1) ga_nil)) (ge_pow ge_int ge_int) rfl)
  (gss_one (gs_raise C T.x_NoAmount))
  gss_nil)))
  (gss_gh [] gss_nil))
theorem ok_look_at_amounts (T : Txt K mg)  {f : Addr} {fd : FuncData} (F : Fun K "look_at_amounts" "look_at_amounts" s_look_at_amounts f fd) (hm : mg "look_at_amounts" = some (.ref f)) (hb : Binds K fd ["ways"] []) : DOk P w K mg base 1 "look_at_amounts" m_look_at_amounts 1 :=
  dok_of F sc_look_at_amounts hm hb fun cdv A outer s H E C => b_look_at_amounts T  C
abbrev X_purse_game (P : Program) (w : World) (K : PySem.W.Frag) (mg : Str → Option Value) (base : Heap) (f : Addr) (cdv : Value) (A : Around) (outer : List Env) (s : Shared) (H : Hp) (E : XK) : Cx := cxOf (L2.CX P w) P w K mg base N_purse_game "purse_game" (defScope s_purse_game) f cdv A outer s H E
theorem b_purse_game (T : Txt K mg) (D_look_at_ways : DOk P w K mg base 1 "look_at_ways" m_look_at_ways 2) (D_look_at_amounts : DOk P w K mg base 1 "look_at_amounts" m_look_at_amounts 1) {f : Addr} {cdv : Value} {A : Around} {outer : List Env} {s : Shared} {H : Hp} {E : XK} (C : Cb (X_purse_game P w K mg base f cdv A outer s H E) (WEx E) 1) : GSs (X_purse_game P w K mg base f cdv A outer s H E) (WEx E) (defBody s_purse_game) d_purse_game :=
  (gss_cons (gs_if (gt_cmp op_gt ok_cmpI (ge_callB call_lenX vc_len T.g_len (ga_cons (ge_var 0) ga_nil)) (ge_glob T.c_MOST_PLACES) rfl)
  (gss_one (gs_raise C T.x_TooMany))
  gss_nil)
  (gss_gh [] (gss_cons (gs_for [1, 2] C.own C.cc (gi_list (ge_var 0)) (gg_tup C.cc.calm (ggs_cons (gg_name C.cc.nd) (ggs_cons (gg_name C.cc.nd) ggs_nil)))
  (gss_cons (gs_if (GW.pt (gw_and (gt_cmp (op_neD C.cc.hu) ok_ne (ge_var 2) ge_int rfl) (gw_and1 (gt_cmp (op_neD C.cc.hu) ok_ne (ge_var 2) ge_int rfl))))
  (gss_one (gs_raise C T.x_NoHand))
  gss_nil)
  (gss_gh [] (gss_cons (gs_expr (ge_call C.cc D_look_at_ways (by decide) (ga_cons (ge_var 1) (ga_cons (ge_callB call_lenX vc_len T.g_len (ga_cons (ge_var 0) ga_nil)) ga_nil))))
  (gss_gh [] (gss_cons (gs_expr (ge_call C.cc D_look_at_amounts (by decide) (ga_cons (ge_var 1) ga_nil)))
  (gss_gh [] gss_nil)))))))
  (gss_gh [] (gss_one (gs_ret (gv_ge (ge_lc C.cc (gi_list (ge_var 0)) (own := [("hand", 2), ("ways", 1)]) (blk_of (N := N_purse_game) (sc := defScope s_purse_game) rfl rfl (by decide +kernel)) (by rintro _ ⟨_, _, _, _, _, rfl⟩ C'; exact ⟨(gc_tup C'.calm (gcs_cons (gc_name C'.nd) (gcs_cons (gc_name C'.nd) gcs_nil))), gts_nil, (ge_tup (ga_cons (ge_var 2) (ga_cons (ge_callB cr_sortedPX vc_sortP T.g_sorted (ga_cons (ge_var 1) ga_nil)) ga_nil)))⟩)))))))))
theorem ok_purse_game (T : Txt K mg) (D_look_at_ways : DOk P w K mg base 1 "look_at_ways" m_look_at_ways 2) (D_look_at_amounts : DOk P w K mg base 1 "look_at_amounts" m_look_at_amounts 1) {f : Addr} {fd : FuncData} (F : Fun K "purse_game" "purse_game" s_purse_game f fd) (hm : mg "purse_game" = some (.ref f)) (hb : Binds K fd ["rows"] []) : DOk P w K mg base 2 "purse_game" m_purse_game 1 :=
  dok_of F sc_purse_game hm hb fun cdv A outer s H E C => b_purse_game T D_look_at_ways D_look_at_amounts C
abbrev X__law_at (P : Program) (w : World) (K : PySem.W.Frag) (mg : Str → Option Value) (base : Heap) (f : Addr) (cdv : Value) (A : Around) (outer : List Env) (s : Shared) (H : Hp) (E : XK) : Cx := cxOf (L2.CX P w) P w K mg base N__law_at "_law_at" (defScope s__law_at) f cdv A outer s H E
theorem b__law_at (T : Txt K mg)  {f : Addr} {cdv : Value} {A : Around} {outer : List Env} {s : Shared} {H : Hp} {E : XK} (C : Cb (X__law_at P w K mg base f cdv A outer s H E) (WEx E) 0) : GSs (X__law_at P w K mg base f cdv A outer s H E) (WEx E) (defBody s__law_at) d__law_at :=
  (gss_cons (gs_if (gt_cmp op_lt ok_cmpI (ge_var 1) (ge_callB call_lenX vc_len T.g_len (ga_cons (ge_var 0) ga_nil)) rfl)
  (gss_one (gs_ret (gv_ge (ge_ix C.cc.hu (ge_var 0) (ge_var 1)))))
  gss_nil)
  (gss_gh [] (gss_cons (gs_set C.cc (ge_add (ge_mul ge_int (ge_var 1)) ge_int))
  (gss_gh [] (gss_cons (gs_if (gt_cmp op_gt ok_cmpI (ge_callB call_lenX vc_len T.g_len (ga_cons (ge_var 0) ga_nil)) ge_int rfl)
  (gss_cons (gs_set C.cc (ge_add (ge_var 2) (ge_mul (ge_mod (ge_ix C.cc.hu (ge_var 0) (ge_mod (ge_var 1) (ge_callB call_lenX vc_len T.g_len (ga_cons (ge_var 0) ga_nil)))) ge_int) (ge_add (ge_var 1) ge_int))))
  (gss_gh [] gss_nil))
  gss_nil)
  (gss_gh [] (gss_one (gs_ret (gv_ge (ge_add (ge_mod (ge_mul (ge_var 2) (ge_var 2)) ge_int) (ge_mod (ge_var 2) ge_int)))))))))))
theorem ok__law_at (T : Txt K mg)  {f : Addr} {fd : FuncData} (F : Fun K "_law_at" "_law_at" s__law_at f fd) (hm : mg "_law_at" = some (.ref f)) (hb : Binds K fd ["_law_script", "_law_k"] []) : DOk P w K mg base 1 "_law_at" m__law_at 2 :=
  dok_of F sc__law_at hm hb fun cdv A outer s H E C => b__law_at T  C
abbrev X__law_whole (P : Program) (w : World) (K : PySem.W.Frag) (mg : Str → Option Value) (base : Heap) (f : Addr) (cdv : Value) (A : Around) (outer : List Env) (s : Shared) (H : Hp) (E : XK) : Cx := cxOf (L2.CX P w) P w K mg base N__law_whole "_law_whole" (defScope s__law_whole) f cdv A outer s H E
theorem b__law_whole (T : Txt K mg)  {f : Addr} {cdv : Value} {A : Around} {outer : List Env} {s : Shared} {H : Hp} {E : XK} (C : Cb (X__law_whole P w K mg base f cdv A outer s H E) (WEx E) 0) : GSs (X__law_whole P w K mg base f cdv A outer s H E) (WEx E) (defBody s__law_whole) d__law_whole :=
  (gss_one (gs_ret (gv_ge (ge_and (ge_isi T.g_isinstance T.g_int (ge_var 0)) (ge_one (ge_not (ge_isi T.g_isinstance T.g_bool (ge_var 0))))))))
theorem ok__law_whole (T : Txt K mg)  {f : Addr} {fd : FuncData} (F : Fun K "_law_whole" "_law_whole" s__law_whole f fd) (hm : mg "_law_whole" = some (.ref f)) (hb : Binds K fd ["_law_found"] []) : DOk P w K mg base 1 "_law_whole" m__law_whole 1 :=
  dok_of F sc__law_whole hm hb fun cdv A outer s H E C => b__law_whole T  C
abbrev X__law_amount (P : Program) (w : World) (K : PySem.W.Frag) (mg : Str → Option Value) (base : Heap) (f : Addr) (cdv : Value) (A : Around) (outer : List Env) (s : Shared) (H : Hp) (E : XK) : Cx := cxOf (L2.CX P w) P w K mg base N__law_amount "_law_amount" (defScope s__law_amount) f cdv A outer s H E
theorem b__law_amount (T : Txt K mg)  {f : Addr} {cdv : Value} {A : Around} {outer : List Env} {s : Shared} {H : Hp} {E : XK} (C : Cb (X__law_amount P w K mg base f cdv A outer s H E) (WEx E) 0) : GSs (X__law_amount P w K mg base f cdv A outer s H E) (WEx E) (defBody s__law_amount) d__law_amount :=
  (gss_cons (gs_set C.cc (ge_mul (ge_add (ge_fdiv (ge_var 0) ge_int) (ge_var 1)) (ge_add (ge_mul (ge_var 1) (ge_var 1)) ge_int)))
  (gss_gh [] (gss_cons (gs_if (gt_cmp (op_eqD C.cc.hu) ok_eq (ge_mod (ge_var 0) ge_int) ge_int rfl)
  (gss_one (gs_ret (gv_ge (ge_sub (ge_mod (ge_var 2) ge_int) ge_int))))
  gss_nil)
  (gss_gh [] (gss_cons (gs_if (gt_cmp (op_eqD C.cc.hu) ok_eq (ge_mod (ge_var 0) ge_int) ge_int rfl)
  (gss_one (gs_ret (gv_ge (ge_sub (ge_mod (ge_mul (ge_var 2) (ge_pow ge_int ge_int)) (ge_sub (ge_mul ge_int (ge_pow ge_int ge_int)) ge_int)) (ge_sub (ge_pow ge_int ge_int) ge_int)))))
  gss_nil)
  (gss_gh [] (gss_cons (gs_if (gt_cmp (op_eqD C.cc.hu) ok_eq (ge_mod (ge_var 0) ge_int) ge_int rfl)
  (gss_one (gs_ret (gv_ge (ge_mul (ge_sub ge_int (ge_mul ge_int (ge_mod (ge_var 2) ge_int))) (ge_sub (ge_pow ge_int ge_int) ge_int)))))
  gss_nil)
  (gss_gh [] (gss_one (gs_ret (gv_ge (ge_sub (ge_mod (ge_var 2) ge_int) ge_int))))))))))))
theorem ok__law_amount (T : Txt K mg)  {f : Addr} {fd : FuncData} (F : Fun K "_law_amount" "_law_amount" s__law_amount f fd) (hm : mg "_law_amount" = some (.ref f)) (hb : Binds K fd ["_law_cell", "_law_j"] []) : DOk P w K mg base 1 "_law_amount" m__law_amount 2 :=
  dok_of F sc__law_amount hm hb fun cdv A outer s H E C => b__law_amount T  C
abbrev X__law_row (P : Program) (w : World) (K : PySem.W.Frag) (mg : Str → Option Value) (base : Heap) (f : Addr) (cdv : Value) (A : Around) (outer : List Env) (s : Shared) (H : Hp) (E : XK) : Cx := cxOf (L2.CX P w) P w K mg base N__law_row "_law_row" (defScope s__law_row) f cdv A outer s H E
theorem b__law_row (T : Txt K mg) (D__law_at : DOk P w K mg base 1 "_law_at" m__law_at 2) (D__law_amount : DOk P w K mg base 1 "_law_amount" m__law_amount 2) {f : Addr} {cdv : Value} {A : Around} {outer : List Env} {s : Shared} {H : Hp} {E : XK} (C : Cb (X__law_row P w K mg base f cdv A outer s H E) (WEx E) 1) : GSs (X__law_row P w K mg base f cdv A outer s H E) (WEx E) (defBody s__law_row) d__law_row :=
  (gss_cons (gs_set C.cc (ge_fdiv (ge_call C.cc D__law_at (by decide) (ga_cons (ge_var 0) (ga_cons (ge_add ge_int (ge_mul ge_int (ge_var 1))) ga_nil))) ge_int))
  (gss_gh [] (gss_cons (gs_set C.cc (ge_lst ga_nil))
  (gss_gh [] (gss_cons (gs_for [5] C.own C.cc (gi_range1 T.g_range (ga_cons (ge_var 2) ga_nil)) (gg_name C.cc.nd)
  (gss_cons (gs_if (gt_cmp (op_eqD C.cc.hu) ok_eq (ge_mod (ge_var 3) ge_int) ge_int rfl)
  (gss_cons (gs_append (gp_var 4) (gvs_cons (gv_var 5) gvs_nil))
  (gss_gh [] gss_nil))
  gss_nil)
  (gss_gh [] (gss_cons (gs_set C.cc (ge_fdiv (ge_var 3) ge_int))
  (gss_gh [] gss_nil)))))
  (gss_gh [] (gss_cons (gs_if (gt_cmp (op_eqD C.cc.hu) ok_eq (ge_callB call_lenX vc_len T.g_len (ga_cons (ge_var 4) ga_nil)) ge_int rfl)
  (gss_cons (gs_set C.cc (ge_lst (ga_cons (ge_var 1) ga_nil)))
  (gss_gh [] gss_nil))
  gss_nil)
  (gss_gh [] (gss_cons (gs_set C.cc (ge_call C.cc D__law_at (by decide) (ga_cons (ge_var 0) (ga_cons (ge_add ge_int (ge_mul ge_int (ge_var 1))) ga_nil))))
  (gss_gh [.frz 4] (gss_one (gs_ret (gv_ge (ge_tup (ga_cons (ge_mod (ge_call C.cc D__law_at (by decide) (ga_cons (ge_var 0) (ga_cons (ge_add ge_int (ge_mul ge_int (ge_var 1))) ga_nil))) ge_int) (ga_cons (ge_lc C.cc (gi_enum T.g_enumerate (ga_cons (ge_var 4) ga_nil)) (own := [("_law_j", 7), ("_law_goal", 5)]) (blk_of (N := N__law_row) (sc := defScope s__law_row) rfl rfl (by decide +kernel)) (by rintro _ ⟨_, _, _, _, _, rfl⟩ C'; exact ⟨(gc_tup C'.calm (gcs_cons (gc_name C'.nd) (gcs_cons (gc_name C'.nd) gcs_nil))), gts_nil, (ge_tup (ga_cons (ge_var 5) (ga_cons (ge_call C' D__law_amount (by decide) (ga_cons (ge_var 6) (ga_cons (ge_var 7) ga_nil))) ga_nil)))⟩)) ga_nil))))))))))))))))
theorem ok__law_row (T : Txt K mg) (D__law_at : DOk P w K mg base 1 "_law_at" m__law_at 2) (D__law_amount : DOk P w K mg base 1 "_law_amount" m__law_amount 2) {f : Addr} {fd : FuncData} (F : Fun K "_law_row" "_law_row" s__law_row f fd) (hm : mg "_law_row" = some (.ref f)) (hb : Binds K fd ["_law_script", "_law_k", "_law_many"] []) : DOk P w K mg base 2 "_law_row" m__law_row 3 :=
  dok_of F sc__law_row hm hb fun cdv A outer s H E C => b__law_row T D__law_at D__law_amount C
abbrev X__law_mixed_row (P : Program) (w : World) (K : PySem.W.Frag) (mg : Str → Option Value) (base : Heap) (f : Addr) (cdv : Value) (A : Around) (outer : List Env) (s : Shared) (H : Hp) (E : XK) : Cx := cxOf (L2.CX P w) P w K mg base N__law_mixed_row "_law_mixed_row" (defScope s__law_mixed_row) f cdv A outer s H E
theorem b__law_mixed_row (T : Txt K mg) (D__law_at : DOk P w K mg base 1 "_law_at" m__law_at 2) {f : Addr} {cdv : Value} {A : Around} {outer : List Env} {s : Shared} {H : Hp} {E : XK} (C : Cb (X__law_mixed_row P w K mg base f cdv A outer s H E) (WEx E) 1) : GSs (X__law_mixed_row P w K mg base f cdv A outer s H E) (WEx E) (defBody s__law_mixed_row) d__law_mixed_row :=
  (gss_cons (gs_set C.cc (ge_fdiv (ge_call C.cc D__law_at (by decide) (ga_cons (ge_var 0) (ga_cons ge_int ga_nil))) (ge_add (ge_var 1) ge_int)))
  (gss_gh [] (gss_cons (gs_set C.cc (ge_mod (ge_var 3) (ge_callB call_lenX vc_len T.g_len (ga_cons (ge_ix C.cc.hu (ge_var 2) ge_int) ga_nil))))
  (gss_gh [] (gss_cons (gs_set C.cc (ge_add (ge_cut (ge_ix C.cc.hu (ge_var 2) ge_int) (go_some (W := (WEx E)) (ge_var 4)) go_none) (ge_cut (ge_ix C.cc.hu (ge_var 2) ge_int) go_none (go_some (W := (WEx E)) (ge_var 4)))))
  (gss_gh [] (gss_cons (gs_if (gt_cmp (op_eqD C.cc.hu) ok_eq (ge_mod (ge_fdiv (ge_var 3) ge_int) ge_int) ge_int rfl)
  (gss_cons (gs_set C.cc (ge_listRev C.cc.calm T.g_list T.g_reversed (ge_var 5)))
  (gss_gh [] gss_nil))
  gss_nil)
  (gss_gh [] (gss_one (gs_ret (gv_tup (gvs_cons (gv_ge (ge_ix C.cc.hu (ge_var 2) ge_int)) (gvs_cons (gv_var 5) gvs_nil)))))))))))))
theorem ok__law_mixed_row (T : Txt K mg) (D__law_at : DOk P w K mg base 1 "_law_at" m__law_at 2) {f : Addr} {fd : FuncData} (F : Fun K "_law_mixed_row" "_law_mixed_row" s__law_mixed_row f fd) (hm : mg "_law_mixed_row" = some (.ref f)) (hb : Binds K fd ["_law_script", "_law_k", "_law_row_here"] []) : DOk P w K mg base 2 "_law_mixed_row" m__law_mixed_row 3 :=
  dok_of F sc__law_mixed_row hm hb fun cdv A outer s H E C => b__law_mixed_row T D__law_at C
abbrev X__law_is_game (P : Program) (w : World) (K : PySem.W.Frag) (mg : Str → Option Value) (base : Heap) (f : Addr) (cdv : Value) (A : Around) (outer : List Env) (s : Shared) (H : Hp) (E : XK) : Cx := cxOf (L2.CX P w) P w K mg base N__law_is_game "_law_is_game" (defScope s__law_is_game) f cdv A outer s H E
theorem b__law_is_game (T : Txt K mg) (D__law_whole : DOk P w K mg base 1 "_law_whole" m__law_whole 1) {f : Addr} {cdv : Value} {A : Around} {outer : List Env} {s : Shared} {H : Hp} {E : XK} (C : Cb (X__law_is_game P w K mg base f cdv A outer s H E) (WEx E) 1) : GSs (X__law_is_game P w K mg base f cdv A outer s H E) (WEx E) (defBody s__law_is_game) d__law_is_game :=
  (gss_cons (gs_if (GW.pt (gw_or (gt_not (gt_val (ge_isi T.g_isinstance T.g_list (ge_var 0)))) (gw_or1 (gt_cmp (op_neD C.cc.hu) ok_ne (ge_callB call_lenX vc_len T.g_len (ga_cons (ge_var 0) ga_nil)) (ge_callB call_lenX vc_len T.g_len (ga_cons (ge_var 1) ga_nil)) rfl))))
  (gss_one (gs_ret (gv_ge ge_bl)))
  gss_nil)
  (gss_gh [] (gss_cons (gs_for [2, 3, 4, 5] C.own C.cc (gi_zip T.g_zip (ga_cons (ge_var 0) (ga_cons (ge_var 1) ga_nil))) (gg_tup C.cc.calm (ggs_cons (gg_name C.cc.nd) (ggs_cons (gg_name C.cc.nd) ggs_nil)))
  (gss_cons (gs_if (GW.pt (gw_or (gt_not (gt_val (ge_isi T.g_isinstance T.g_tuple (ge_var 5)))) (gw_or (gt_cmp (op_neD C.cc.hu) ok_ne (ge_callB call_lenX vc_len T.g_len (ga_cons (ge_var 5) ga_nil)) ge_int rfl) (gw_or (gt_not (gt_val (ge_call C.cc D__law_whole (by decide) (ga_cons (ge_ix C.cc.hu (ge_var 5) ge_int) ga_nil)))) (gw_or1 (gt_cmp (op_neD C.cc.hu) ok_ne (ge_ix C.cc.hu (ge_var 5) ge_int) (ge_ix C.cc.hu (ge_var 4) ge_int) rfl))))))
  (gss_one (gs_ret (gv_ge ge_bl)))
  gss_nil)
  (gss_gh [] (gss_cons (gs_if (GW.pt (gw_or (gt_not (gt_val (ge_isi T.g_isinstance T.g_list (ge_ix C.cc.hu (ge_var 5) ge_int)))) (gw_or1 (gt_cmp (op_neD C.cc.hu) ok_ne (ge_callB call_lenX vc_len T.g_len (ga_cons (ge_ix C.cc.hu (ge_var 5) ge_int) ga_nil)) (ge_callB call_lenX vc_len T.g_len (ga_cons (ge_ix C.cc.hu (ge_var 4) ge_int) ga_nil)) rfl))))
  (gss_one (gs_ret (gv_ge ge_bl)))
  gss_nil)
  (gss_gh [] (gss_cons (gs_for [2, 3] C.own C.cc (gi_zip T.g_zip (ga_cons (ge_ix C.cc.hu (ge_var 5) ge_int) (ga_cons (ge_ix C.cc.hu (ge_var 4) ge_int) ga_nil))) (gg_tup C.cc.calm (ggs_cons (gg_name C.cc.nd) (ggs_cons (gg_name C.cc.nd) ggs_nil)))
  (gss_cons (gs_if (GW.pt (gw_or (gt_not (gt_val (ge_isi T.g_isinstance T.g_tuple (ge_var 3)))) (gw_or (gt_cmp (op_neD C.cc.hu) ok_ne (ge_callB call_lenX vc_len T.g_len (ga_cons (ge_var 3) ga_nil)) ge_int rfl) (gw_or (gt_not (gt_val (ge_call C.cc D__law_whole (by decide) (ga_cons (ge_ix C.cc.hu (ge_var 3) ge_int) ga_nil)))) (gw_or1 (gt_not (gt_val (ge_call C.cc D__law_whole (by decide) (ga_cons (ge_ix C.cc.hu (ge_var 3) ge_int) ga_nil)))))))))
  (gss_one (gs_ret (gv_ge ge_bl)))
  gss_nil)
  (gss_gh [] (gss_one (gs_if (GW.pt (gw_or (gt_cmp (op_neD C.cc.hu) ok_ne (ge_ix C.cc.hu (ge_var 3) ge_int) (ge_ix C.cc.hu (ge_var 2) ge_int) rfl) (gw_or1 (gt_cmp (op_neD C.cc.hu) ok_ne (ge_ix C.cc.hu (ge_var 3) ge_int) (ge_ix C.cc.hu (ge_var 2) ge_int) rfl))))
  (gss_one (gs_ret (gv_ge ge_bl)))
  gss_nil)))))
  (gss_gh [] gss_nil)))))))
  (gss_gh [] (gss_one (gs_ret (gv_ge ge_bl)))))))
theorem ok__law_is_game (T : Txt K mg) (D__law_whole : DOk P w K mg base 1 "_law_whole" m__law_whole 1) {f : Addr} {fd : FuncData} (F : Fun K "_law_is_game" "_law_is_game" s__law_is_game f fd) (hm : mg "_law_is_game" = some (.ref f)) (hb : Binds K fd ["_law_found", "_law_due"] []) : DOk P w K mg base 2 "_law_is_game" m__law_is_game 2 :=
  dok_of F sc__law_is_game hm hb fun cdv A outer s H E C => b__law_is_game T D__law_whole C
abbrev X_law (P : Program) (w : World) (K : PySem.W.Frag) (mg : Str → Option Value) (base : Heap) (f : Addr) (cdv : Value) (A : Around) (outer : List Env) (s : Shared) (H : Hp) (E : XK) : Cx := cxOf (L2.CX P w) P w K mg base N_law "law" (defScope s_law) f cdv A outer s H E
theorem b_law (T : Txt K mg) (D__law_at : DOk P w K mg base 1 "_law_at" m__law_at 2) (D__law_row : DOk P w K mg base 2 "_law_row" m__law_row 3) (D__law_mixed_row : DOk P w K mg base 2 "_law_mixed_row" m__law_mixed_row 3) (D_purse_game : DOk P w K mg base 2 "purse_game" m_purse_game 1) (D__law_is_game : DOk P w K mg base 2 "_law_is_game" m__law_is_game 2) {f : Addr} {cdv : Value} {A : Around} {outer : List Env} {s : Shared} {H : Hp} {E : XK} (C : Cb (X_law P w K mg base f cdv A outer s H E) (WEx E) 2) : GSs (X_law P w K mg base f cdv A outer s H E) (WEx E) (defBody s_law) d_law :=
  (gss_cons (gs_set C.cc (ge_mod (ge_call C.cc D__law_at (by decide) (ga_cons (ge_var 0) (ga_cons ge_int ga_nil))) ge_int))
  (gss_gh [] (gss_cons (gs_set C.cc (ge_lc C.cc (gi_range1 T.g_range (ga_cons (ge_var 1) ga_nil)) (own := [("_law_k", 9)]) (blk_of (N := N_law) (sc := defScope s_law) rfl rfl (by decide +kernel)) (by rintro _ ⟨_, _, _, _, _, rfl⟩ C'; exact ⟨(gc_name C'.nd), gts_nil, (ge_call C' D__law_row (by decide) (ga_cons (ge_var 0) (ga_cons (ge_var 9) (ga_cons (ge_var 1) ga_nil))))⟩)))
  (gss_gh [] (gss_cons (gs_setLc C.cc (gi_range1 T.g_range (ga_cons (ge_var 1) ga_nil)) (own := [("_law_k", 9)]) (blk_of (N := N_law) (sc := defScope s_law) rfl rfl (by decide +kernel)) (by rintro _ ⟨_, _, _, _, _, rfl⟩ C'; exact ⟨(gc_name C'.nd), gts_nil, (ge_callV C' D__law_mixed_row (by decide) (ga_cons (ge_var 0) (ga_cons (ge_var 9) (ga_cons (ge_ix C'.hu (ge_var 2) (ge_var 9)) ga_nil))))⟩))
  (gss_gh [.frz 3] (gss_cons (gs_setLc C.cc (gi_list (ge_var 3)) (own := [("_law_hand", 8), ("_law_ways", 7)]) (blk_of (N := N_law) (sc := defScope s_law) rfl rfl (by decide +kernel)) (by rintro _ ⟨_, _, _, _, _, rfl⟩ C'; exact ⟨(gc_tup C'.calm (gcs_cons (gc_name C'.nd) (gcs_cons (gc_name C'.nd) gcs_nil))), gts_nil, (ge_tup (ga_cons (ge_var 8) (ga_cons (ge_callTy call_list_of vc_list T.g_list (ga_cons (ge_var 7) ga_nil)) ga_nil)))⟩))
  (gss_gh [] (gss_cons (gs_set C.cc (ge_callV C.cc D_purse_game (by decide) (ga_cons (ge_var 4) ga_nil)))
  (gss_gh [] (gss_cons (gs_if (GW.pt (gw_or (gt_not (gt_val (ge_call C.cc D__law_is_game (by decide) (ga_cons (ge_var 5) (ga_cons (ge_var 2) ga_nil))))) (gw_or1 (gt_cmp (op_neD C.cc.hu) ok_ne (ge_var 4) (ge_var 3) rfl))))
  (gss_one (gs_ret (gv_ge ge_bl)))
  gss_nil)
  (gss_gh [] (gss_cons (gs_set C.cc (ge_callV C.cc D_purse_game (by decide) (ga_cons (ge_var 4) ga_nil)))
  (gss_gh [] (gss_cons (gs_append (gp_var 5) (gvs_cons (gv_tup (gvs_cons (gv_ge ge_int) (gvs_cons (gv_lst (gvs_cons (gv_ge (ge_tup (ga_cons ge_int (ga_cons ge_int ga_nil)))) gvs_nil)) gvs_nil))) gvs_nil))
  (gss_gh [] (gss_cons (gs_forO2 (ta := 8) (t := 7) C.own C.cc (gp_var 5) (gsa_one (gsa_meth0 (W := (WEx E)) PySem.F.plainAttrs_list PySem.F.slot_list_clear PySem.F.type_list_clear mt_clear mtt_clear (by decide) (gpa_var 7))))
  (gss_gh [] (gss_cons (gs_if (GW.pt (gw_or (gt_cmp (op_neD C.cc.hu) ok_ne (ge_var 4) (ge_var 3) rfl) (gw_or (gt_not (gt_val (ge_call C.cc D__law_is_game (by decide) (ga_cons (ge_var 6) (ga_cons (ge_var 2) ga_nil))))) (gw_or1 (gt_not (gt_val (ge_call C.cc D__law_is_game (by decide) (ga_cons (ge_callV C.cc D_purse_game (by decide) (ga_cons (ge_var 4) ga_nil)) (ga_cons (ge_var 2) ga_nil)))))))))
  (gss_one (gs_ret (gv_ge ge_bl)))
  gss_nil)
  (gss_gh [] (gss_cons (gs_forO2 (ta := 8) (t := 7) C.own C.cc (gp_var 4) (gsa_one (gsa_append (W := (WEx E)) (gpa_var 7) (gvs_cons (gv_ge (ge_tup (ga_cons ge_int (ga_cons ge_int ga_nil)))) gvs_nil))))
  (gss_gh [] (gss_cons (gs_meth0 PySem.F.plainAttrs_list PySem.F.slot_list_clear PySem.F.type_list_clear mt_clear mtt_clear (by decide) (gp_var 4))
  (gss_gh [] (gss_one (gs_ret (gv_ge (ge_call C.cc D__law_is_game (by decide) (ga_cons (ge_var 6) (ga_cons (ge_var 2) ga_nil))))))))))))))))))))))))))))))
theorem fn_law (T : Txt K mg) (D__law_at : DOk P w K mg base 1 "_law_at" m__law_at 2) (D__law_row : DOk P w K mg base 2 "_law_row" m__law_row 3) (D__law_mixed_row : DOk P w K mg base 2 "_law_mixed_row" m__law_mixed_row 3) (D_purse_game : DOk P w K mg base 2 "purse_game" m_purse_game 1) (D__law_is_game : DOk P w K mg base 2 "_law_is_game" m__law_is_game 2) {f : Addr} {fd : FuncData} (F : Fun K "law" "law" s_law f fd) : FnOk P w K mg base (L2.CX P w) 3 f fd ["_law_script"] (spD K mg m_law 1) :=
  fnD F sc_law fun cdv A outer s H E C => b_law T D__law_at D__law_row D__law_mixed_row D_purse_game D__law_is_game C
end
end K

namespace K
open PySem PySem.Spec L2 DL
def f_look_at_ways (ways1 : (List (Int × Int))) (many2 : Int) : M Unit :=
  if decide ((ways1.length : Int) = 0) then
  (M.ex "NoWay")
  else ((forM (fun (p3 : (Int × Int)) (b8 : (Dc Int Bool)) =>
  if ((!(decide (0 ≤ p3.1) && decide (p3.1 < many2))) || (dg b8 p3.1).isSome) then
  (M.ex "NoWay")
  else ((dpM b8 p3.1 true).bind fun seen9 =>
  M.ok seen9)) ways1 ([] : (Dc Int Bool))).bind fun (b8 : (Dc Int Bool)) =>
  M.ok ())
theorem mr_look_at_ways (ways1 : (List (Int × Int))) (many2 : Int) : FQ (m_look_at_ways [(eL (eT2 eI eI)) ways1, eI many2]) (f_look_at_ways ways1 many2) (oF eN) := by
  refine fq_sem (ρ := [some (oF (eL (eT2 eI eI)) ways1), some (oF eI many2), none, none, none]) rfl ?_
  unfold f_look_at_ways d_look_at_ways
  refine sim_ifK_p (tq_p (pq_bin (pq_callB (aq_pp (pq_varF (d := (eL (eT2 eI eI)) ways1) rfl) aq_nil) (o_len rfl (by simp))) rfl (o_eq (e := eI) (by decide) (td_o (s := (oF eI))) (td_o (s := (oF eI)))))) ?_ ?_
  · refine sim_seq_end ?_
    exact sim_raise
  · refine sim_nil (sim_gh (ρ1 := [some (oF (eL (eT2 eI eI)) ways1), some (oF eI many2), none, none, none]) gh_n ?_)
    refine sim_p (ρ1 := [some (oF (eL (eT2 eI eI)) ways1), some (oF eI many2), some (oDk kI eB ([] : (Dc Int Bool))), none, none]) (ρ2 := [some (oF (eL (eT2 eI eI)) ways1), some (oF eI many2), some (oDk kI eB ([] : (Dc Int Bool))), none, none]) (set_p rfl) gh_n ?_
    refine sim_s (upd := fun (b8 : (Dc Int Bool)) => [some (oF (eL (eT2 eI eI)) ways1), some (oF eI many2), some (oDk kI eB b8), none, none]) (up := fun (b8 : (Dc Int Bool)) => [some (oF (eL (eT2 eI eI)) ways1), some (oF eI many2), some (oDk kI eB b8), none, none]) ?_ (fun b8 => gh_n) fun b8 => ?_
    · refine sim_for (upb := (fun (b8 : (Dc Int Bool)) => [some (oF (eL (eT2 eI eI)) ways1), some (oF eI many2), some (oDk kI eB b8), none, none])) (upx := (fun (p3 : (Int × Int)) (b8 : (Dc Int Bool)) => [some (oF (eL (eT2 eI eI)) ways1), some (oF eI many2), some (oDk kI eB b8), some (oF eI p3.2), some (oF eI p3.1)])) (iq_list (mi := .ok ways1) (sL := (oF (eL (eT2 eI eI)))) (rq_of (pq_varF (d := (eL (eT2 eI eI)) ways1) rfl))) rfl (fun _ _ => rfl) fun p3 b8 => ?_
      refine sim_ifK_p (tq_or_pp (tq_not_p (tq_p (rq_chain (w := dI 0) rfl (pq_varF (d := eI p3.1) rfl) (pq_varF (d := eI many2) rfl) o_le o_lt))) (tq_p (pq_bin (pq_varF (d := eI p3.1) rfl) (pq_var (o := oDk kI eB b8) rfl) (o_inDt (ke := kI) (td_v (s := (oDk kI eB))) rfl rfl rfl)))) ?_ ?_
      · refine sim_seq_end ?_
        exact sim_raise
      · refine sim_nil (sim_gh (ρ1 := [some (oF (eL (eT2 eI eI)) ways1), some (oF eI many2), some (oDk kI eB b8), some (oF eI p3.2), some (oF eI p3.1)]) gh_n ?_)
        refine sim_s (upd := fun seen9 => [some (oF (eL (eT2 eI eI)) ways1), some (oF eI many2), some (oDk kI eB seen9), some (oF eI p3.2), some (oF eI p3.1)]) (up := fun seen9 => [some (oF (eL (eT2 eI eI)) ways1), some (oF eI many2), some (oDk kI eB seen9), some (oF eI p3.2), some (oF eI p3.1)]) ?_ (fun seen9 => gh_n) fun seen9 => ?_
        · refine (sim_store (s := (oDk kI eB)) (ρ' := [some (oF (eL (eT2 eI eI)) ways1), some (oF eI many2), some (oDk kI eB b8), some (oF eI p3.2), some (oF eI p3.1)]) (i := 2) (sA := (oDk kI eB)) (o := oF eB true) (y := (rO (oF eI)) p3.1) (md := (fun (f : (Dc Int Bool) → M (Dc Int Bool)) => f b8)) (F := fun (y : (Dc Int Bool)) => dpM y p3.1 true) ?_ ?_ ?_ ?_ ?_)
          · exact (vp_ow rfl)
          · exact (mq_var (s := (oDk kI eB)) (x := b8) rfl)
          · exact (pq_varF (d := eI p3.1) rfl)
          · exact (sq_dict (ke := kI) (e := eB))
          · exact (fun _ => rfl)
        exact sim_end ⟨_, .inl rfl, rfl⟩
    exact sim_end (.inr ⟨rfl, _, rfl⟩)
def f_look_at_amounts (ways1 : (List (Int × Int))) : M Unit :=
  (forM (fun (p2 : (Int × Int)) (b4 : Unit) =>
  if decide ((10 ^ 60 : Int) ≤ (if p2.2 < 0 then -p2.2 else p2.2)) then
  (M.ex "NoAmount")
  else (M.ok ())) ways1 ()).bind fun (b4 : Unit) =>
  M.ok ()
theorem mr_look_at_amounts (ways1 : (List (Int × Int))) : FQ (m_look_at_amounts [(eL (eT2 eI eI)) ways1]) (f_look_at_amounts ways1) (oF eN) := by
  refine fq_sem (ρ := [some (oF (eL (eT2 eI eI)) ways1), none, none]) rfl ?_
  unfold f_look_at_amounts d_look_at_amounts
  refine sim_s (upd := fun (b4 : Unit) => [some (oF (eL (eT2 eI eI)) ways1), none, none]) (up := fun (b4 : Unit) => [some (oF (eL (eT2 eI eI)) ways1), none, none]) ?_ (fun b4 => gh_n) fun b4 => ?_
  · refine sim_for (upb := (fun (b4 : Unit) => [some (oF (eL (eT2 eI eI)) ways1), none, none])) (upx := (fun (p2 : (Int × Int)) (b4 : Unit) => [some (oF (eL (eT2 eI eI)) ways1), some (oF eI p2.2), some (oF eI p2.1)])) (iq_list (mi := .ok ways1) (sL := (oF (eL (eT2 eI eI)))) (rq_of (pq_varF (d := (eL (eT2 eI eI)) ways1) rfl))) rfl (fun _ _ => rfl) fun p2 b4 => ?_
    refine sim_if_p (tq_p (pq_bin (pq_callB (aq_pp (pq_varF (d := eI p2.2) rfl) aq_nil) rfl) (pq_bin rfl rfl (pow_I (by decide))) o_ge)) ?_ ?_
    · exact sim_raise
    · exact sim_end ⟨_, .inl rfl, rfl⟩
  exact sim_end (.inr ⟨rfl, _, rfl⟩)
def f_purse_game (rows1 : (List (Int × (List (Int × Int))))) : M (List (Int × (List (Int × Int)))) :=
  if decide (16 < (rows1.length : Int)) then
  (M.ex "TooMany")
  else ((forM (fun (p2 : (Int × (List (Int × Int)))) (b6 : Unit) =>
  if ((!decide (p2.1 = 0)) && (!decide (p2.1 = 1))) then
  (M.ex "NoHand")
  else ((f_look_at_ways p2.2 (rows1.length : Int)).bind fun u7 =>
  (f_look_at_amounts p2.2).bind fun u8 =>
  M.ok ())) rows1 ()).bind fun (b6 : Unit) =>
  compP (fun (p10 : (Int × (List (Int × Int)))) => (p10.1, sortP p10.2)) rows1)
theorem mr_purse_game (rows1 : (List (Int × (List (Int × Int))))) : FQ (m_purse_game [(eL (eT2 eI (eL (eT2 eI eI)))) rows1]) (f_purse_game rows1) (oL (oT2 (oF eI) (oL (oF (eT2 eI eI))))) := by
  refine fq_sem (ρ := [some (oF (eL (eT2 eI (eL (eT2 eI eI)))) rows1), none, none]) rfl ?_
  unfold f_purse_game d_purse_game
  refine sim_ifK_p (tq_p (pq_bin (pq_callB (aq_pp (pq_varF (d := (eL (eT2 eI (eL (eT2 eI eI)))) rows1) rfl) aq_nil) (o_len rfl (by simp))) rfl o_gt)) ?_ ?_
  · refine sim_seq_end ?_
    exact sim_raise
  · refine sim_nil (sim_gh (ρ1 := [some (oF (eL (eT2 eI (eL (eT2 eI eI)))) rows1), none, none]) gh_n ?_)
    refine sim_s (upd := fun (b6 : Unit) => [some (oF (eL (eT2 eI (eL (eT2 eI eI)))) rows1), none, none]) (up := fun (b6 : Unit) => [some (oF (eL (eT2 eI (eL (eT2 eI eI)))) rows1), none, none]) ?_ (fun b6 => gh_n) fun b6 => ?_
    · refine sim_for (upb := (fun (b6 : Unit) => [some (oF (eL (eT2 eI (eL (eT2 eI eI)))) rows1), none, none])) (upx := (fun (p2 : (Int × (List (Int × Int)))) (b6 : Unit) => [some (oF (eL (eT2 eI (eL (eT2 eI eI)))) rows1), some (oF (eL (eT2 eI eI)) p2.2), some (oF eI p2.1)])) (iq_list (mi := .ok rows1) (sL := (oF (eL (eT2 eI (eL (eT2 eI eI)))))) (rq_of (pq_varF (d := (eL (eT2 eI (eL (eT2 eI eI)))) rows1) rfl))) rfl (fun _ _ => rfl) fun p2 b6 => ?_
      refine sim_ifK_p (tq_and_pp (tq_p (pq_bin (pq_varF (d := eI p2.1) rfl) rfl (o_ne (e := eI) (by decide) (td_o (s := (oF eI))) (td_o (s := (oF eI)))))) (tq_p (pq_bin (pq_varF (d := eI p2.1) rfl) rfl (o_ne (e := eI) (by decide) (td_o (s := (oF eI))) (td_o (s := (oF eI))))))) ?_ ?_
      · refine sim_seq_end ?_
        exact sim_raise
      · refine sim_nil (sim_gh (ρ1 := [some (oF (eL (eT2 eI (eL (eT2 eI eI)))) rows1), some (oF (eL (eT2 eI eI)) p2.2), some (oF eI p2.1)]) gh_n ?_)
        refine sim_s (upd := fun u7 => [some (oF (eL (eT2 eI (eL (eT2 eI eI)))) rows1), some (oF (eL (eT2 eI eI)) p2.2), some (oF eI p2.1)]) (up := fun u7 => [some (oF (eL (eT2 eI (eL (eT2 eI eI)))) rows1), some (oF (eL (eT2 eI eI)) p2.2), some (oF eI p2.1)]) ?_ (fun u7 => gh_n) fun u7 => ?_
        · exact (expr_m (rq_callF0 (aq_pp (pq_varF (d := (eL (eT2 eI eI)) p2.2) rfl) (aq_pp (pq_callB (aq_pp (pq_varF (d := (eL (eT2 eI (eL (eT2 eI eI)))) rows1) rfl) aq_nil) (o_len rfl (by simp))) aq_nil)) rfl (d_cons (td_o (s := (oF (eL (eT2 eI eI))))) (d_cons (td_o (s := (oF eI))) d_nil)) (.inl rfl) (mr_look_at_ways p2.2 (rows1.length : Int))))
        refine sim_s (upd := fun u8 => [some (oF (eL (eT2 eI (eL (eT2 eI eI)))) rows1), some (oF (eL (eT2 eI eI)) p2.2), some (oF eI p2.1)]) (up := fun u8 => [some (oF (eL (eT2 eI (eL (eT2 eI eI)))) rows1), some (oF (eL (eT2 eI eI)) p2.2), some (oF eI p2.1)]) ?_ (fun u8 => gh_n) fun u8 => ?_
        · exact (expr_m (rq_callF0 (aq_pp (pq_varF (d := (eL (eT2 eI eI)) p2.2) rfl) aq_nil) rfl (d_cons (td_o (s := (oF (eL (eT2 eI eI))))) d_nil) (.inl rfl) (mr_look_at_amounts p2.2)))
        exact sim_end ⟨_, .inl rfl, rfl⟩
    exact sim_ret_id (so := (oL (oT2 (oF eI) (oL (oF (eT2 eI eI)))))) (vq_ow (s := (oL (oT2 (oF eI) (oL (oF (eT2 eI eI)))))) (rq_compP (ρx := (fun (p10 : (Int × (List (Int × Int)))) => [some (oF (eL (eT2 eI (eL (eT2 eI eI)))) rows1), some (oF (eL (eT2 eI eI)) p10.2), some (oF eI p10.1)])) (s := (oT2 (oF eI) (oL (oF (eT2 eI eI))))) (iq_list (mi := .ok rows1) (sL := (oF (eL (eT2 eI (eL (eT2 eI eI)))))) (rq_of (pq_varF (d := (eL (eT2 eI (eL (eT2 eI eI)))) rows1) rfl))) (fun _ => rfl) (fun p10 => (pq_tupO (aq_pp (pq_varF (d := eI p10.1) rfl) (aq_pp (pq_callB (aq_pp (pq_varF (d := (eL (eT2 eI eI)) p10.2) rfl) aq_nil) (o_sortP seq_fL fz_L)) aq_nil)) rfl rfl rfl)))) (fun _ => (.inl rfl))
def f__law_at (script1 : (List Int)) (k2 : Int) : M Int :=
  if decide (k2 < (script1.length : Int)) then
  (ix script1 k2)
  else (lt (((7 * k2) + 3) : Int) fun mixed3 =>
  (if decide (0 < (script1.length : Int)) then
  ((((((modM k2 (script1.length : Int)).bind fun v14 => ix script1 v14).bind fun v15 => M.ok (v15 % 1000003)).bind fun v17 => mulM v17 (k2 + 1)).bind fun v20 => M.ok (mixed3 + v20)).bind fun mixed21 =>
  M.ok mixed21)
  else (M.ok mixed3)).bind fun (b22 : Int) =>
  ((mulM b22 b22).bind fun v23 => M.ok (v23 % 999979)).bind fun v25 => M.ok (v25 + (b22 % 101)))
theorem mr__law_at (script1 : (List Int)) (k2 : Int) : FQ (m__law_at [(eL eI) script1, eI k2]) (f__law_at script1 k2) (oF eI) := by
  refine fq_sem (ρ := [some (oF (eL eI) script1), some (oF eI k2), none]) rfl ?_
  unfold f__law_at d__law_at
  refine sim_ifK_p (tq_p (pq_bin (pq_varF (d := eI k2) rfl) (pq_callB (aq_pp (pq_varF (d := (eL eI) script1) rfl) aq_nil) (o_len rfl (by simp))) o_lt)) ?_ ?_
  · refine sim_seq_end ?_
    exact sim_ret_id (so := (oF eI)) (vq_ow (s := (oF eI)) (rq_pp (s := (rO (oF eI))) (pq_varF (d := (eL eI) script1) rfl) (pq_varF (d := eI k2) rfl) (o_ixF rfl))) (fun _ => ⟨⟨_, rfl⟩, (.inl rfl)⟩)
  · refine sim_nil (sim_gh (ρ1 := [some (oF (eL eI) script1), some (oF eI k2), none]) gh_n ?_)
    refine sim_l (upd := fun mixed3 => [some (oF (eL eI) script1), some (oF eI k2), some (oF eI mixed3)]) (up := fun mixed3 => [some (oF (eL eI) script1), some (oF eI k2), some (oF eI mixed3)]) (set_p (pq_bin (pq_bin rfl (pq_varF (d := eI k2) rfl) (o_mulp (okMul_l (by decide)))) rfl rfl)) (fun mixed3 => gh_n) fun mixed3 => ?_
    refine sim_j (up := fun (b22 : Int) => [some (oF (eL eI) script1), some (oF eI k2), some (oF eI b22)]) ?_ fun b22 => ?_
    · refine sim_if_p (tq_p (pq_bin (pq_callB (aq_pp (pq_varF (d := (eL eI) script1) rfl) aq_nil) (o_len rfl (by simp))) rfl o_gt)) ?_ ?_
      · refine sim_s (upd := fun mixed21 => [some (oF (eL eI) script1), some (oF eI k2), some (oF eI mixed21)]) (up := fun mixed21 => [some (oF (eL eI) script1), some (oF eI k2), some (oF eI mixed21)]) ?_ (fun mixed21 => gh_n) fun mixed21 => ?_
        · exact (set_m (s := (oF eI)) (rq_pm (s := (rO (oF eI))) (pq_varF (d := eI mixed3) rfl) (rq_mp (s := (rO (oF eI))) (rq_mp (s := (rO (oF eI))) (rq_pm (s := (rO (oF eI))) (pq_varF (d := (eL eI) script1) rfl) (rq_pp (s := (rO (oF eI))) (pq_varF (d := eI k2) rfl) (pq_callB (aq_pp (pq_varF (d := (eL eI) script1) rfl) aq_nil) (o_len rfl (by simp))) o_mod) fun v14 => (o_ixF rfl)) rfl fun v15 => (rq_of (mod_I (by decide)))) (pq_bin (pq_varF (d := eI k2) rfl) rfl rfl) fun v17 => o_mul) fun v20 => (rq_of rfl)))
        exact sim_end ⟨_, rfl, gh_n⟩
      · exact sim_end ⟨_, rfl, gh_n⟩
    exact sim_ret_id (so := (oF eI)) (vq_ow (s := (oF eI)) (rq_mp (s := (rO (oF eI))) (rq_mp (s := (rO (oF eI))) (rq_pp (s := (rO (oF eI))) (pq_varF (d := eI b22) rfl) (pq_varF (d := eI b22) rfl) o_mul) rfl fun v23 => (rq_of (mod_I (by decide)))) (pq_bin (pq_varF (d := eI b22) rfl) rfl (mod_I (by decide))) fun v25 => (rq_of rfl))) (fun _ => (.inl rfl))
def f__law_whole (found1 : Int) : M Bool :=
  M.ok true
theorem mr__law_whole (found1 : Int) : FQ (m__law_whole [eI found1]) (f__law_whole found1) (oF eB) := by
  refine fq_sem (ρ := [some (oF eI found1)]) rfl ?_
  unfold f__law_whole d__law_whole
  exact sim_ret_p (vp_ow (rq_ok (s := (rO (oF eB))) (vq_and (mo := .ok true) (tq_of (tq_and_t (tq_p (pq_isi (pq_varF (d := eI found1) rfl) (td_o (s := (oF eI))) (isi_int_int))) (tq_p (rq_ok (s := (rO (oF eB))) (vq_not (mo := .ok true) (tq_of (tq_not_p (tq_p (pq_isi (pq_varF (d := eI found1) rfl) (td_o (s := (oF eI))) (isi_bool_int))))))))))))) (.inl rfl)
def f__law_amount (cell1 : Int) (j2 : Int) : M Int :=
  (((mulM j2 j2).bind fun v3 => M.ok (v3 + 3)).bind fun v6 => mulM ((cell1 / 4) + j2) v6).bind fun by_7 =>
  if decide ((cell1 % 4) = 0) then
  (M.ok ((by_7 % 7) - 3))
  else (if decide ((cell1 % 4) = 1) then
  (((mulM by_7 (31 ^ 41 : Int)).bind fun v8 => M.ok (v8 % ((2 * (10 ^ 60 : Int)) - 1))).bind fun v10 => M.ok (v10 - ((10 ^ 60 : Int) - 1)))
  else (if decide ((cell1 % 4) = 2) then
  (mulM (1 - (2 * (by_7 % 2))) ((10 ^ 60 : Int) - 1))
  else (M.ok ((by_7 % 1000000000) - 500000000))))
theorem mr__law_amount (cell1 : Int) (j2 : Int) : FQ (m__law_amount [eI cell1, eI j2]) (f__law_amount cell1 j2) (oF eI) := by
  refine fq_sem (ρ := [some (oF eI cell1), some (oF eI j2), none]) rfl ?_
  unfold f__law_amount d__law_amount
  refine sim_s (upd := fun by_7 => [some (oF eI cell1), some (oF eI j2), some (oF eI by_7)]) (up := fun by_7 => [some (oF eI cell1), some (oF eI j2), some (oF eI by_7)]) ?_ (fun by_7 => gh_n) fun by_7 => ?_
  · exact (set_m (s := (oF eI)) (rq_pm (s := (rO (oF eI))) (pq_bin (pq_bin (pq_varF (d := eI cell1) rfl) rfl (fdiv_I (by decide))) (pq_varF (d := eI j2) rfl) rfl) (rq_mp (s := (rO (oF eI))) (rq_pp (s := (rO (oF eI))) (pq_varF (d := eI j2) rfl) (pq_varF (d := eI j2) rfl) o_mul) rfl fun v3 => (rq_of rfl)) fun v6 => o_mul))
  refine sim_ifK_p (tq_p (pq_bin (pq_bin (pq_varF (d := eI cell1) rfl) rfl (mod_I (by decide))) rfl (o_eq (e := eI) (by decide) (td_o (s := (oF eI))) (td_o (s := (oF eI)))))) ?_ ?_
  · refine sim_seq_end ?_
    exact sim_ret_p (vp_ow (pq_bin (pq_bin (pq_varF (d := eI by_7) rfl) rfl (mod_I (by decide))) rfl rfl)) ⟨⟨_, rfl⟩, (.inl rfl)⟩
  · refine sim_nil (sim_gh (ρ1 := [some (oF eI cell1), some (oF eI j2), some (oF eI by_7)]) gh_n ?_)
    refine sim_ifK_p (tq_p (pq_bin (pq_bin (pq_varF (d := eI cell1) rfl) rfl (mod_I (by decide))) rfl (o_eq (e := eI) (by decide) (td_o (s := (oF eI))) (td_o (s := (oF eI)))))) ?_ ?_
    · refine sim_seq_end ?_
      exact sim_ret_id (so := (oF eI)) (vq_ow (s := (oF eI)) (rq_mp (s := (rO (oF eI))) (rq_mp (s := (rO (oF eI))) (rq_pp (s := (rO (oF eI))) (pq_varF (d := eI by_7) rfl) (pq_bin rfl rfl (pow_I (by decide))) o_mul) (pq_bin (pq_bin rfl (pq_bin rfl rfl (pow_I (by decide))) (o_mulp (okMul_l (by decide)))) rfl rfl) fun v8 => (rq_of (mod_I (by decide)))) (pq_bin (pq_bin rfl rfl (pow_I (by decide))) rfl rfl) fun v10 => (rq_of rfl))) (fun _ => ⟨⟨_, rfl⟩, (.inl rfl)⟩)
    · refine sim_nil (sim_gh (ρ1 := [some (oF eI cell1), some (oF eI j2), some (oF eI by_7)]) gh_n ?_)
      refine sim_ifK_p (tq_p (pq_bin (pq_bin (pq_varF (d := eI cell1) rfl) rfl (mod_I (by decide))) rfl (o_eq (e := eI) (by decide) (td_o (s := (oF eI))) (td_o (s := (oF eI)))))) ?_ ?_
      · refine sim_seq_end ?_
        exact sim_ret_id (so := (oF eI)) (vq_ow (s := (oF eI)) (rq_pp (s := (rO (oF eI))) (pq_bin rfl (pq_bin rfl (pq_bin (pq_varF (d := eI by_7) rfl) rfl (mod_I (by decide))) (o_mulp (okMul_l (by decide)))) rfl) (pq_bin (pq_bin rfl rfl (pow_I (by decide))) rfl rfl) o_mul)) (fun _ => ⟨⟨_, rfl⟩, (.inl rfl)⟩)
      · refine sim_nil (sim_gh (ρ1 := [some (oF eI cell1), some (oF eI j2), some (oF eI by_7)]) gh_n ?_)
        exact sim_ret_p (vp_ow (pq_bin (pq_bin (pq_varF (d := eI by_7) rfl) rfl (mod_I (by decide))) rfl rfl)) (.inl rfl)
def f__law_row (script1 : (List Int)) (k2 : Int) (many3 : Int) : M (Int × (List (Int × Int))) :=
  ((f__law_at script1 (2 + (2 * k2))).bind fun v4 => M.ok (v4 / 2)).bind fun number6 =>
  ((rngM 0 many3).bind fun xs18 => forM (fun (goal7 : Int) (b13 : (Int × (List Int))) =>
  (if decide ((b13.1 % 2) = 1) then
  ((appM b13.2 goal7).bind fun goals15 =>
  M.ok goals15)
  else (M.ok b13.2)).bind fun (b16 : (List Int)) =>
  lt ((b13.1 / 2) : Int) fun number17 =>
  M.ok (number17, b16)) xs18 (number6, ([] : (List Int)))).bind fun (b13 : (Int × (List Int))) =>
  (if decide ((b13.2.length : Int) = 0) then
  (lt (([k2] : (List Int)) : (List Int)) fun goals20 =>
  M.ok goals20)
  else (M.ok b13.2)).bind fun (b21 : (List Int)) =>
  (f__law_at script1 (3 + (2 * k2))).bind fun cell22 =>
  (((f__law_at script1 (2 + (2 * k2))).bind fun v23 => M.ok (v23 % 2)).bind fun v27 => (compM (fun (p25 : (Int × Int)) => ((f__law_amount cell22 p25.1).bind fun v26 => M.ok (p25.2, v26)).nox) (enumL b21)).bind fun v28 => M.ok (v27, v28)).bind fun v29 => M.ok (v29.1, v29.2)
theorem mr__law_row (script1 : (List Int)) (k2 : Int) (many3 : Int) : FQ (m__law_row [(eL eI) script1, eI k2, eI many3]) (f__law_row script1 k2 many3) (oT2 (oF eI) (oL (oF (eT2 eI eI)))) := by
  refine fq_sem (ρ := [some (oF (eL eI) script1), some (oF eI k2), some (oF eI many3), none, none, none, none, none]) rfl ?_
  unfold f__law_row d__law_row
  refine sim_s (upd := fun number6 => [some (oF (eL eI) script1), some (oF eI k2), some (oF eI many3), some (oF eI number6), none, none, none, none]) (up := fun number6 => [some (oF (eL eI) script1), some (oF eI k2), some (oF eI many3), some (oF eI number6), none, none, none, none]) ?_ (fun number6 => gh_n) fun number6 => ?_
  · exact (set_m (s := (oF eI)) (rq_mp (s := (rO (oF eI))) (rq_callF0 (aq_pp (pq_varF (d := (eL eI) script1) rfl) (aq_pp (pq_bin rfl (pq_bin rfl (pq_varF (d := eI k2) rfl) (o_mulp (okMul_l (by decide)))) rfl) aq_nil)) rfl (d_cons (td_o (s := (oF (eL eI)))) (d_cons (td_o (s := (oF eI))) d_nil)) (.inl rfl) (mr__law_at script1 (2 + (2 * k2)))) rfl fun v4 => (rq_of (fdiv_I (by decide)))))
  refine sim_p (ρ1 := [some (oF (eL eI) script1), some (oF eI k2), some (oF eI many3), some (oF eI number6), some (oL (oF eI) ([] : (List Int))), none, none, none]) (ρ2 := [some (oF (eL eI) script1), some (oF eI k2), some (oF eI many3), some (oF eI number6), some (oL (oF eI) ([] : (List Int))), none, none, none]) (set_p (pq_lst aq_nil rfl rfl)) gh_n ?_
  refine sim_s (upd := fun (b13 : (Int × (List Int))) => [some (oF (eL eI) script1), some (oF eI k2), some (oF eI many3), some (oF eI b13.1), some (oL (oF eI) b13.2), none, none, none]) (up := fun (b13 : (Int × (List Int))) => [some (oF (eL eI) script1), some (oF eI k2), some (oF eI many3), some (oF eI b13.1), some (oL (oF eI) b13.2), none, none, none]) ?_ (fun b13 => gh_n) fun b13 => ?_
  · refine sim_forI (iq_args0 (aq_pp (pq_varF (d := eI many3) rfl) aq_nil) rfl (d_cons (td_o (s := (oF eI))) d_nil) g_range1) fun xs18 hi => ?_
    refine sim_for (upb := (fun (b13 : (Int × (List Int))) => [some (oF (eL eI) script1), some (oF eI k2), some (oF eI many3), some (oF eI b13.1), some (oL (oF eI) b13.2), none, none, none])) (upx := (fun (goal7 : Int) (b13 : (Int × (List Int))) => [some (oF (eL eI) script1), some (oF eI k2), some (oF eI many3), some (oF eI b13.1), some (oL (oF eI) b13.2), some (oF eI goal7), none, none])) hi rfl (fun _ _ => rfl) fun goal7 b13 => ?_
    refine sim_j (up := fun (b16 : (List Int)) => [some (oF (eL eI) script1), some (oF eI k2), some (oF eI many3), some (oF eI b13.1), some (oL (oF eI) b16), some (oF eI goal7), none, none]) ?_ fun b16 => ?_
    · refine sim_if_p (tq_p (pq_bin (pq_bin (pq_varF (d := eI b13.1) rfl) rfl (mod_I (by decide))) rfl (o_eq (e := eI) (by decide) (td_o (s := (oF eI))) (td_o (s := (oF eI)))))) ?_ ?_
      · refine sim_s (upd := fun goals15 => [some (oF (eL eI) script1), some (oF eI k2), some (oF eI many3), some (oF eI b13.1), some (oL (oF eI) goals15), some (oF eI goal7), none, none]) (up := fun goals15 => [some (oF (eL eI) script1), some (oF eI k2), some (oF eI many3), some (oF eI b13.1), some (oL (oF eI) goals15), some (oF eI goal7), none, none]) ?_ (fun goals15 => gh_n) fun goals15 => ?_
        · refine (sim_meth (s := (oL (oF eI))) (ρ' := [some (oF (eL eI) script1), some (oF eI k2), some (oF eI many3), some (oF eI b13.1), some (oL (oF eI) b13.2), some (oF eI goal7), none, none]) (i := 4) (sA := (oL (oF eI))) (as := [oF eI goal7]) (md := (fun (f : (List Int) → M (List Int)) => f b13.2)) (F := fun (y : (List Int)) => appM y goal7) ?_ (fun _ => rfl) ?_ ?_ ?_ ?_)
          · exact (mq_var (s := (oL (oF eI))) (x := b13.2) rfl)
          · exact (vs_pp (vp_mvF rfl) vs_nil)
          · exact rfl
          · exact (gq_append (t := (oF eI)))
          · exact (fun _ => rfl)
        exact sim_end ⟨_, rfl, gh_n⟩
      · exact sim_end ⟨_, rfl, gh_n⟩
    refine sim_l (upd := fun number17 => [some (oF (eL eI) script1), some (oF eI k2), some (oF eI many3), some (oF eI number17), some (oL (oF eI) b16), some (oF eI goal7), none, none]) (up := fun number17 => [some (oF (eL eI) script1), some (oF eI k2), some (oF eI many3), some (oF eI number17), some (oL (oF eI) b16), some (oF eI goal7), none, none]) (set_p (pq_bin (pq_varF (d := eI b13.1) rfl) rfl (fdiv_I (by decide)))) (fun number17 => gh_n) fun number17 => ?_
    exact sim_end ⟨_, .inl rfl, rfl⟩
  refine sim_j (up := fun (b21 : (List Int)) => [some (oF (eL eI) script1), some (oF eI k2), some (oF eI many3), some (oF eI b13.1), some (oL (oF eI) b21), none, none, none]) ?_ fun b21 => ?_
  · refine sim_if_p (tq_p (pq_bin (pq_callB (aq_pp (pq_var (o := oL (oF eI) b13.2) rfl) aq_nil) (o_len rfl (by simp))) rfl (o_eq (e := eI) (by decide) (td_o (s := (oF eI))) (td_o (s := (oF eI)))))) ?_ ?_
    · refine sim_l (upd := fun goals20 => [some (oF (eL eI) script1), some (oF eI k2), some (oF eI many3), some (oF eI b13.1), some (oL (oF eI) goals20), none, none, none]) (up := fun goals20 => [some (oF (eL eI) script1), some (oF eI k2), some (oF eI many3), some (oF eI b13.1), some (oL (oF eI) goals20), none, none, none]) (set_p (pq_lst (aq_pp (pq_varF (d := eI k2) rfl) aq_nil) rfl rfl)) (fun goals20 => gh_n) fun goals20 => ?_
      exact sim_end ⟨_, rfl, gh_n⟩
    · exact sim_end ⟨_, rfl, gh_n⟩
  refine sim_s (upd := fun cell22 => [some (oF (eL eI) script1), some (oF eI k2), some (oF eI many3), some (oF eI b13.1), some (oL (oF eI) b21), none, some (oF eI cell22), none]) (up := fun cell22 => [some (oF (eL eI) script1), some (oF eI k2), some (oF eI many3), some (oF eI b13.1), some (oF (eL eI) b21), none, some (oF eI cell22), none]) ?_ (fun cell22 => (gh_z (s := (oL (oF eI))) (x := b21) rfl gh_n)) fun cell22 => ?_
  · exact (set_m (s := (oF eI)) (rq_callF0 (aq_pp (pq_varF (d := (eL eI) script1) rfl) (aq_pp (pq_bin rfl (pq_bin rfl (pq_varF (d := eI k2) rfl) (o_mulp (okMul_l (by decide)))) rfl) aq_nil)) rfl (d_cons (td_o (s := (oF (eL eI)))) (d_cons (td_o (s := (oF eI))) d_nil)) (.inl rfl) (mr__law_at script1 (3 + (2 * k2)))))
  exact sim_ret_id (so := (oT2 (oF eI) (oL (oF (eT2 eI eI))))) (vq_ow (s := (oT2 (oF eI) (oL (oF (eT2 eI eI))))) (rq_tup (s := (oT2 (oF eI) (oL (oF (eT2 eI eI))))) (aq_mm (rq_mp (s := (rO (oF eI))) (rq_callF0 (aq_pp (pq_varF (d := (eL eI) script1) rfl) (aq_pp (pq_bin rfl (pq_bin rfl (pq_varF (d := eI k2) rfl) (o_mulp (okMul_l (by decide)))) rfl) aq_nil)) rfl (d_cons (td_o (s := (oF (eL eI)))) (d_cons (td_o (s := (oF eI))) d_nil)) (.inl rfl) (mr__law_at script1 (2 + (2 * k2)))) rfl fun v23 => (rq_of (mod_I (by decide)))) (aq_mp (rq_compM (ρx := (fun (p25 : (Int × Int)) => [some (oF (eL eI) script1), some (oF eI k2), some (oF eI many3), some (oF eI b13.1), some (oF (eL eI) b21), some (oF eI p25.2), some (oF eI cell22), some (oF eI p25.1)])) (s := (oF (eT2 eI eI))) (iq_args0 (aq_pp (pq_varF (d := (eL eI) b21) rfl) aq_nil) rfl (d_cons (td_o (s := (oF (eL eI)))) d_nil) g_enum) (fun _ => rfl) (fun p25 => (rq_tup (s := (oF (eT2 eI eI))) (aq_pm (pq_varF (d := eI p25.2) rfl) (aq_mp (rq_callF0 (aq_pp (pq_varF (d := eI cell22) rfl) (aq_pp (pq_varF (d := eI p25.1) rfl) aq_nil)) rfl (d_cons (td_o (s := (oF eI))) (d_cons (td_o (s := (oF eI))) d_nil)) (.inl rfl) (mr__law_amount cell22 p25.1)) aq_nil)) fun _ h => pq_tupF h rfl rfl rfl))) aq_nil)) fun _ h => pq_tupO h rfl rfl rfl)) (fun _ => (.inl rfl))
def f__law_mixed_row (script1 : (List Int)) (k2 : Int) (row_here3 : (Int × (List (Int × Int)))) : M (Int × (List (Int × Int))) :=
  ((f__law_at script1 1).bind fun v4 => fdivM v4 (k2 + 1)).bind fun cell6 =>
  (modM cell6 (row_here3.2.length : Int)).bind fun cut7 =>
  (catM (cutD row_here3.2 (some cut7) none) (cutD row_here3.2 none (some cut7))).bind fun ways8 =>
  (if decide (((cell6 / 16) % 2) = 1) then
  (lt (ways8.reverse : (List (Int × Int))) fun ways10 =>
  M.ok ways10)
  else (M.ok ways8)).bind fun (b11 : (List (Int × Int))) =>
  M.ok (row_here3.1, b11)
theorem mr__law_mixed_row (script1 : (List Int)) (k2 : Int) (row_here3 : (Int × (List (Int × Int)))) : FQ (m__law_mixed_row [(eL eI) script1, eI k2, (eT2 eI (eL (eT2 eI eI))) row_here3]) (f__law_mixed_row script1 k2 row_here3) (oT2 (oF eI) (oL (oF (eT2 eI eI)))) := by
  refine fq_sem (ρ := [some (oF (eL eI) script1), some (oF eI k2), some (oF (eT2 eI (eL (eT2 eI eI))) row_here3), none, none, none]) rfl ?_
  unfold f__law_mixed_row d__law_mixed_row
  refine sim_s (upd := fun cell6 => [some (oF (eL eI) script1), some (oF eI k2), some (oF (eT2 eI (eL (eT2 eI eI))) row_here3), some (oF eI cell6), none, none]) (up := fun cell6 => [some (oF (eL eI) script1), some (oF eI k2), some (oF (eT2 eI (eL (eT2 eI eI))) row_here3), some (oF eI cell6), none, none]) ?_ (fun cell6 => gh_n) fun cell6 => ?_
  · exact (set_m (s := (oF eI)) (rq_mp (s := (rO (oF eI))) (rq_callF0 (aq_pp (pq_varF (d := (eL eI) script1) rfl) (aq_pp rfl aq_nil)) rfl (d_cons (td_o (s := (oF (eL eI)))) (d_cons (td_o (s := (oF eI))) d_nil)) (.inl rfl) (mr__law_at script1 1)) (pq_bin (pq_varF (d := eI k2) rfl) rfl rfl) fun v4 => o_fdiv))
  refine sim_s (upd := fun cut7 => [some (oF (eL eI) script1), some (oF eI k2), some (oF (eT2 eI (eL (eT2 eI eI))) row_here3), some (oF eI cell6), some (oF eI cut7), none]) (up := fun cut7 => [some (oF (eL eI) script1), some (oF eI k2), some (oF (eT2 eI (eL (eT2 eI eI))) row_here3), some (oF eI cell6), some (oF eI cut7), none]) ?_ (fun cut7 => gh_n) fun cut7 => ?_
  · exact (set_m (s := (oF eI)) (rq_pp (s := (rO (oF eI))) (pq_varF (d := eI cell6) rfl) (pq_callB (aq_pp (pq_bin (pq_varF (d := (eT2 eI (eL (eT2 eI eI))) row_here3) rfl) rfl (o_t1 (o := oF (eL (eT2 eI eI)) row_here3.2) rfl)) aq_nil) (o_len rfl (by simp))) o_mod))
  refine sim_s (upd := fun ways8 => [some (oF (eL eI) script1), some (oF eI k2), some (oF (eT2 eI (eL (eT2 eI eI))) row_here3), some (oF eI cell6), some (oF eI cut7), some (oL (oF (eT2 eI eI)) ways8)]) (up := fun ways8 => [some (oF (eL eI) script1), some (oF eI k2), some (oF (eT2 eI (eL (eT2 eI eI))) row_here3), some (oF eI cell6), some (oF eI cut7), some (oL (oF (eT2 eI eI)) ways8)]) ?_ (fun ways8 => gh_n) fun ways8 => ?_
  · exact (set_m (s := (oL (oF (eT2 eI eI)))) (rq_pp (s := (rO (oL (oF (eT2 eI eI))))) (pq_cut (pq_bin (pq_varF (d := (eT2 eI (eL (eT2 eI eI))) row_here3) rfl) rfl (o_t1 (o := oF (eL (eT2 eI eI)) row_here3.2) rfl)) (xq_p (pq_varF (d := eI cut7) rfl)) xq_no (o_cut seq_fL fz_L)) (pq_cut (pq_bin (pq_varF (d := (eT2 eI (eL (eT2 eI eI))) row_here3) rfl) rfl (o_t1 (o := oF (eL (eT2 eI eI)) row_here3.2) rfl)) xq_no (xq_p (pq_varF (d := eI cut7) rfl)) (o_cut seq_fL fz_L)) (o_cat (fun _ _ h => (nomatch h)) (fun _ _ h => (nomatch h)) rfl rfl fz_oL fz_oL)))
  refine sim_j (up := fun (b11 : (List (Int × Int))) => [some (oF (eL eI) script1), some (oF eI k2), some (oF (eT2 eI (eL (eT2 eI eI))) row_here3), some (oF eI cell6), some (oF eI cut7), some (oL (oF (eT2 eI eI)) b11)]) ?_ fun b11 => ?_
  · refine sim_if_p (tq_p (pq_bin (pq_bin (pq_bin (pq_varF (d := eI cell6) rfl) rfl (fdiv_I (by decide))) rfl (mod_I (by decide))) rfl (o_eq (e := eI) (by decide) (td_o (s := (oF eI))) (td_o (s := (oF eI)))))) ?_ ?_
    · refine sim_l (upd := fun ways10 => [some (oF (eL eI) script1), some (oF eI k2), some (oF (eT2 eI (eL (eT2 eI eI))) row_here3), some (oF eI cell6), some (oF eI cut7), some (oL (oF (eT2 eI eI)) ways10)]) (up := fun ways10 => [some (oF (eL eI) script1), some (oF eI k2), some (oF (eT2 eI (eL (eT2 eI eI))) row_here3), some (oF eI cell6), some (oF eI cut7), some (oL (oF (eT2 eI eI)) ways10)]) (set_p (pq_rev (pq_var (o := oL (oF (eT2 eI eI)) ways8) rfl) rfl fz_oL)) (fun ways10 => gh_n) fun ways10 => ?_
      exact sim_end ⟨_, rfl, gh_n⟩
    · exact sim_end ⟨_, rfl, gh_n⟩
  exact sim_ret_p (vp_tup (vs_pp (vp_ow (pq_bin (pq_varF (d := (eT2 eI (eL (eT2 eI eI))) row_here3) rfl) rfl (o_t0 (o := oF eI row_here3.1) rfl))) (vs_pp (vp_mvL rfl) vs_nil)) rfl) (.inl rfl)
def f__law_is_game (found1 : (List (Int × (List (Int × Int))))) (due2 : (List (Int × (List (Int × Int))))) : M Bool :=
  if (!decide ((found1.length : Int) = (due2.length : Int))) then
  (M.ok false)
  else ((forF (fun (p3 : ((Int × (List (Int × Int))) × (Int × (List (Int × Int))))) (b15 : Unit) =>
  (if (!decide (2 = 2)) then M.ok true else (((f__law_whole p3.1.1).bind fun z => M.ok (!z)).bind fun z16 => if z16 then M.ok true else (M.ok (!decide (p3.1.1 = p3.2.1))))).bind fun z25 => if z25 then
  (M.ok (Fl.rt false))
  else (if (!decide ((p3.1.2.length : Int) = (p3.2.2.length : Int))) then
  (M.ok (Fl.rt false))
  else ((forF (fun (p17 : ((Int × Int) × (Int × Int))) (b21 : Unit) =>
  (if (!decide (2 = 2)) then M.ok true else (((f__law_whole p17.1.1).bind fun z => M.ok (!z)).bind fun z22 => if z22 then M.ok true else ((f__law_whole p17.1.2).bind fun z => M.ok (!z)))).bind fun z23 => if z23 then
  (M.ok (Fl.rt (Fl.rt false)))
  else (if ((!decide (p17.1.1 = p17.2.1)) || (!decide (p17.1.2 = p17.2.2))) then
  (M.ok (Fl.rt (Fl.rt false)))
  else (M.ok (Fl.nx ())))) (p3.1.2.zip p3.2.2) ()).fl fun (b21 : Unit) =>
  M.ok (Fl.nx ())))) (found1.zip due2) ()).fl fun (b15 : Unit) =>
  M.ok true)
theorem mr__law_is_game (found1 : (List (Int × (List (Int × Int))))) (due2 : (List (Int × (List (Int × Int))))) : FQ (m__law_is_game [(eL (eT2 eI (eL (eT2 eI eI)))) found1, (eL (eT2 eI (eL (eT2 eI eI)))) due2]) (f__law_is_game found1 due2) (oF eB) := by
  refine fq_sem (ρ := [some (oF (eL (eT2 eI (eL (eT2 eI eI)))) found1), some (oF (eL (eT2 eI (eL (eT2 eI eI)))) due2), none, none, none, none]) rfl ?_
  unfold f__law_is_game d__law_is_game
  refine sim_ifK_p (tq_or_f (tq_not_p (tq_p (pq_isi (pq_varF (d := (eL (eT2 eI (eL (eT2 eI eI)))) found1) rfl) (td_o (s := (oF (eL (eT2 eI (eL (eT2 eI eI))))))) (isi_list_lst)))) (tq_p (pq_bin (pq_callB (aq_pp (pq_varF (d := (eL (eT2 eI (eL (eT2 eI eI)))) found1) rfl) aq_nil) (o_len rfl (by simp))) (pq_callB (aq_pp (pq_varF (d := (eL (eT2 eI (eL (eT2 eI eI)))) due2) rfl) aq_nil) (o_len rfl (by simp))) (o_ne (e := eI) (by decide) (td_o (s := (oF eI))) (td_o (s := (oF eI))))))) ?_ ?_
  · refine sim_seq_end ?_
    exact sim_ret_p (vp_ow rfl) ⟨⟨_, rfl⟩, (.inl rfl)⟩
  · refine sim_nil (sim_gh (ρ1 := [some (oF (eL (eT2 eI (eL (eT2 eI eI)))) found1), some (oF (eL (eT2 eI (eL (eT2 eI eI)))) due2), none, none, none, none]) gh_n ?_)
    refine sim_sF (upd := fun (b15 : Unit) => [some (oF (eL (eT2 eI (eL (eT2 eI eI)))) found1), some (oF (eL (eT2 eI (eL (eT2 eI eI)))) due2), none, none, none, none]) (up := fun (b15 : Unit) => [some (oF (eL (eT2 eI (eL (eT2 eI eI)))) found1), some (oF (eL (eT2 eI (eL (eT2 eI eI)))) due2), none, none, none, none]) ?_ (fun b15 => gh_n) fun b15 => ?_
    · refine sim_forF (upb := (fun (b15 : Unit) => [some (oF (eL (eT2 eI (eL (eT2 eI eI)))) found1), some (oF (eL (eT2 eI (eL (eT2 eI eI)))) due2), none, none, none, none])) (upx := (fun (p3 : ((Int × (List (Int × Int))) × (Int × (List (Int × Int))))) (b15 : Unit) => [some (oF (eL (eT2 eI (eL (eT2 eI eI)))) found1), some (oF (eL (eT2 eI (eL (eT2 eI eI)))) due2), none, none, some (oF (eT2 eI (eL (eT2 eI eI))) p3.2), some (oF (eT2 eI (eL (eT2 eI eI))) p3.1)])) (iq_args0 (aq_pp (pq_varF (d := (eL (eT2 eI (eL (eT2 eI eI)))) found1) rfl) (aq_pp (pq_varF (d := (eL (eT2 eI (eL (eT2 eI eI)))) due2) rfl) aq_nil)) rfl (d_cons (td_o (s := (oF (eL (eT2 eI (eL (eT2 eI eI))))))) (d_cons (td_o (s := (oF (eL (eT2 eI (eL (eT2 eI eI))))))) d_nil)) g_zip) rfl (fun _ _ => rfl) fun p3 b15 => ?_
      refine sim_ifK_m (tq_or_fm (tq_not_p (tq_p (pq_isi (pq_varF (d := (eT2 eI (eL (eT2 eI eI))) p3.1) rfl) (td_o (s := (oF (eT2 eI (eL (eT2 eI eI)))))) (isi_tuple_tup)))) (tq_or_pm (tq_p (pq_bin (pq_callB (aq_pp (pq_varF (d := (eT2 eI (eL (eT2 eI eI))) p3.1) rfl) aq_nil) rfl) rfl (o_ne (e := eI) (by decide) (td_o (s := (oF eI))) (td_o (s := (oF eI)))))) (tq_or_mm (tq_not_m (tq_m (rq_callF0 (aq_pp (pq_bin (pq_varF (d := (eT2 eI (eL (eT2 eI eI))) p3.1) rfl) rfl (o_t0 (o := oF eI p3.1.1) rfl)) aq_nil) rfl (d_cons (td_o (s := (oF eI))) d_nil) (.inl rfl) (mr__law_whole p3.1.1)))) (tq_of (tq_p (pq_bin (pq_bin (pq_varF (d := (eT2 eI (eL (eT2 eI eI))) p3.1) rfl) rfl (o_t0 (o := oF eI p3.1.1) rfl)) (pq_bin (pq_varF (d := (eT2 eI (eL (eT2 eI eI))) p3.2) rfl) rfl (o_t0 (o := oF eI p3.2.1) rfl)) (o_ne (e := eI) (by decide) (td_o (s := (oF eI))) (td_o (s := (oF eI)))))))))) ?_ ?_
      · refine sim_seq_end ?_
        exact sim_ret_p (vp_ow rfl) ⟨⟨_, rfl⟩, ⟨⟨_, rfl⟩, (.inl rfl)⟩⟩
      · refine sim_nil (sim_gh (ρ1 := [some (oF (eL (eT2 eI (eL (eT2 eI eI)))) found1), some (oF (eL (eT2 eI (eL (eT2 eI eI)))) due2), none, none, some (oF (eT2 eI (eL (eT2 eI eI))) p3.2), some (oF (eT2 eI (eL (eT2 eI eI))) p3.1)]) gh_n ?_)
        refine sim_ifK_p (tq_or_f (tq_not_p (tq_p (pq_isi (pq_bin (pq_varF (d := (eT2 eI (eL (eT2 eI eI))) p3.1) rfl) rfl (o_t1 (o := oF (eL (eT2 eI eI)) p3.1.2) rfl)) (td_o (s := (oF (eL (eT2 eI eI))))) (isi_list_lst)))) (tq_p (pq_bin (pq_callB (aq_pp (pq_bin (pq_varF (d := (eT2 eI (eL (eT2 eI eI))) p3.1) rfl) rfl (o_t1 (o := oF (eL (eT2 eI eI)) p3.1.2) rfl)) aq_nil) (o_len rfl (by simp))) (pq_callB (aq_pp (pq_bin (pq_varF (d := (eT2 eI (eL (eT2 eI eI))) p3.2) rfl) rfl (o_t1 (o := oF (eL (eT2 eI eI)) p3.2.2) rfl)) aq_nil) (o_len rfl (by simp))) (o_ne (e := eI) (by decide) (td_o (s := (oF eI))) (td_o (s := (oF eI))))))) ?_ ?_
        · refine sim_seq_end ?_
          exact sim_ret_p (vp_ow rfl) ⟨⟨_, rfl⟩, ⟨⟨_, rfl⟩, (.inl rfl)⟩⟩
        · refine sim_nil (sim_gh (ρ1 := [some (oF (eL (eT2 eI (eL (eT2 eI eI)))) found1), some (oF (eL (eT2 eI (eL (eT2 eI eI)))) due2), none, none, some (oF (eT2 eI (eL (eT2 eI eI))) p3.2), some (oF (eT2 eI (eL (eT2 eI eI))) p3.1)]) gh_n ?_)
          refine sim_sF (upd := fun (b21 : Unit) => [some (oF (eL (eT2 eI (eL (eT2 eI eI)))) found1), some (oF (eL (eT2 eI (eL (eT2 eI eI)))) due2), none, none, some (oF (eT2 eI (eL (eT2 eI eI))) p3.2), some (oF (eT2 eI (eL (eT2 eI eI))) p3.1)]) (up := fun (b21 : Unit) => [some (oF (eL (eT2 eI (eL (eT2 eI eI)))) found1), some (oF (eL (eT2 eI (eL (eT2 eI eI)))) due2), none, none, some (oF (eT2 eI (eL (eT2 eI eI))) p3.2), some (oF (eT2 eI (eL (eT2 eI eI))) p3.1)]) ?_ (fun b21 => gh_n) fun b21 => ?_
          · refine sim_forF (upb := (fun (b21 : Unit) => [some (oF (eL (eT2 eI (eL (eT2 eI eI)))) found1), some (oF (eL (eT2 eI (eL (eT2 eI eI)))) due2), none, none, some (oF (eT2 eI (eL (eT2 eI eI))) p3.2), some (oF (eT2 eI (eL (eT2 eI eI))) p3.1)])) (upx := (fun (p17 : ((Int × Int) × (Int × Int))) (b21 : Unit) => [some (oF (eL (eT2 eI (eL (eT2 eI eI)))) found1), some (oF (eL (eT2 eI (eL (eT2 eI eI)))) due2), some (oF (eT2 eI eI) p17.2), some (oF (eT2 eI eI) p17.1), some (oF (eT2 eI (eL (eT2 eI eI))) p3.2), some (oF (eT2 eI (eL (eT2 eI eI))) p3.1)])) (iq_args0 (aq_pp (pq_bin (pq_varF (d := (eT2 eI (eL (eT2 eI eI))) p3.1) rfl) rfl (o_t1 (o := oF (eL (eT2 eI eI)) p3.1.2) rfl)) (aq_pp (pq_bin (pq_varF (d := (eT2 eI (eL (eT2 eI eI))) p3.2) rfl) rfl (o_t1 (o := oF (eL (eT2 eI eI)) p3.2.2) rfl)) aq_nil)) rfl (d_cons (td_o (s := (oF (eL (eT2 eI eI))))) (d_cons (td_o (s := (oF (eL (eT2 eI eI))))) d_nil)) g_zip) rfl (fun _ _ => rfl) fun p17 b21 => ?_
            refine sim_ifK_m (tq_or_fm (tq_not_p (tq_p (pq_isi (pq_varF (d := (eT2 eI eI) p17.1) rfl) (td_o (s := (oF (eT2 eI eI)))) (isi_tuple_tup)))) (tq_or_pm (tq_p (pq_bin (pq_callB (aq_pp (pq_varF (d := (eT2 eI eI) p17.1) rfl) aq_nil) rfl) rfl (o_ne (e := eI) (by decide) (td_o (s := (oF eI))) (td_o (s := (oF eI)))))) (tq_or_mm (tq_not_m (tq_m (rq_callF0 (aq_pp (pq_bin (pq_varF (d := (eT2 eI eI) p17.1) rfl) rfl (o_t0 (o := oF eI p17.1.1) rfl)) aq_nil) rfl (d_cons (td_o (s := (oF eI))) d_nil) (.inl rfl) (mr__law_whole p17.1.1)))) (tq_not_m (tq_m (rq_callF0 (aq_pp (pq_bin (pq_varF (d := (eT2 eI eI) p17.1) rfl) rfl (o_t1 (o := oF eI p17.1.2) rfl)) aq_nil) rfl (d_cons (td_o (s := (oF eI))) d_nil) (.inl rfl) (mr__law_whole p17.1.2))))))) ?_ ?_
            · refine sim_seq_end ?_
              exact sim_ret_p (vp_ow rfl) ⟨⟨_, rfl⟩, ⟨⟨_, rfl⟩, ⟨⟨_, rfl⟩, (.inl rfl)⟩⟩⟩
            · refine sim_nil (sim_gh (ρ1 := [some (oF (eL (eT2 eI (eL (eT2 eI eI)))) found1), some (oF (eL (eT2 eI (eL (eT2 eI eI)))) due2), some (oF (eT2 eI eI) p17.2), some (oF (eT2 eI eI) p17.1), some (oF (eT2 eI (eL (eT2 eI eI))) p3.2), some (oF (eT2 eI (eL (eT2 eI eI))) p3.1)]) gh_n ?_)
              refine sim_if_p (tq_or_pp (tq_p (pq_bin (pq_bin (pq_varF (d := (eT2 eI eI) p17.1) rfl) rfl (o_t0 (o := oF eI p17.1.1) rfl)) (pq_bin (pq_varF (d := (eT2 eI eI) p17.2) rfl) rfl (o_t0 (o := oF eI p17.2.1) rfl)) (o_ne (e := eI) (by decide) (td_o (s := (oF eI))) (td_o (s := (oF eI)))))) (tq_p (pq_bin (pq_bin (pq_varF (d := (eT2 eI eI) p17.1) rfl) rfl (o_t1 (o := oF eI p17.1.2) rfl)) (pq_bin (pq_varF (d := (eT2 eI eI) p17.2) rfl) rfl (o_t1 (o := oF eI p17.2.2) rfl)) (o_ne (e := eI) (by decide) (td_o (s := (oF eI))) (td_o (s := (oF eI))))))) ?_ ?_
              · exact sim_ret_p (vp_ow rfl) ⟨⟨_, rfl⟩, ⟨⟨_, rfl⟩, (.inl rfl)⟩⟩
              · exact sim_end ⟨_, .inl rfl, rfl⟩
          exact sim_end ⟨_, .inl rfl, rfl⟩
    exact sim_ret_p (vp_ow rfl) (.inl rfl)
def f_law (script1 : (List Int)) : M Bool :=
  ((f__law_at script1 0).bind fun v2 => M.ok (v2 % 17)).bind fun many4 =>
  ((rngM 0 many4).bind fun xs6 => compM (fun (k5 : Int) => (f__law_row script1 k5 many4).nox) xs6).bind fun due7 =>
  ((rngM 0 many4).bind fun xs10 => compM (fun (k8 : Int) => ((ix due7 k8).bind fun v9 => f__law_mixed_row script1 k8 v9).nox) xs10).bind fun rows11 =>
  (compP (fun (p12 : (Int × (List (Int × Int)))) => (p12.1, p12.2)) rows11).bind fun handed13 =>
  (f_purse_game handed13).bind fun found14 =>
  (((f__law_is_game found14 due7).bind fun z => M.ok (!z)).bind fun z15 => if z15 then M.ok true else (M.ok (!decide (handed13 = rows11)))).bind fun z28 => if z28 then
  (M.ok false)
  else ((f_purse_game handed13).bind fun other16 =>
  (appM found14 (0, ([(0, 0)] : (List (Int × Int))))).bind fun found17 =>
  (mapM (fun (it18 : (Int × (List (Int × Int)))) => (M.ok ([] : (List (Int × Int)))).bind fun z19 => M.ok (it18.1, z19)) found17).bind fun found20 =>
  (if (!decide (handed13 = rows11)) then M.ok true else (((f__law_is_game other16 due7).bind fun z => M.ok (!z)).bind fun z22 => if z22 then M.ok true else (((f_purse_game handed13).bind fun v21 => f__law_is_game v21 due7).bind fun z => M.ok (!z)))).bind fun z27 => if z27 then
  (M.ok false)
  else ((mapM (fun (it23 : (Int × (List (Int × Int)))) => (appM it23.2 (0, 1)).bind fun z24 => M.ok (it23.1, z24)) handed13).bind fun handed25 =>
  (M.ok ([] : (List (Int × (List (Int × Int)))))).bind fun handed26 =>
  f__law_is_game other16 due7))
theorem mr_law (script1 : (List Int)) : FQ (m_law [(eL eI) script1]) (f_law script1) (oF eB) := by
  refine fq_sem (ρ := [some (oF (eL eI) script1), none, none, none, none, none, none, none, none, none]) rfl ?_
  unfold f_law d_law
  refine sim_s (upd := fun many4 => [some (oF (eL eI) script1), some (oF eI many4), none, none, none, none, none, none, none, none]) (up := fun many4 => [some (oF (eL eI) script1), some (oF eI many4), none, none, none, none, none, none, none, none]) ?_ (fun many4 => gh_n) fun many4 => ?_
  · exact (set_m (s := (oF eI)) (rq_mp (s := (rO (oF eI))) (rq_callF0 (aq_pp (pq_varF (d := (eL eI) script1) rfl) (aq_pp rfl aq_nil)) rfl (d_cons (td_o (s := (oF (eL eI)))) (d_cons (td_o (s := (oF eI))) d_nil)) (.inl rfl) (mr__law_at script1 0)) rfl fun v2 => (rq_of (mod_I (by decide)))))
  refine sim_s (upd := fun due7 => [some (oF (eL eI) script1), some (oF eI many4), some (oL (oT2 (oF eI) (oL (oF (eT2 eI eI)))) due7), none, none, none, none, none, none, none]) (up := fun due7 => [some (oF (eL eI) script1), some (oF eI many4), some (oL (oT2 (oF eI) (oL (oF (eT2 eI eI)))) due7), none, none, none, none, none, none, none]) ?_ (fun due7 => gh_n) fun due7 => ?_
  · exact (set_m (s := (oL (oT2 (oF eI) (oL (oF (eT2 eI eI)))))) (rq_compI (iq_args0 (aq_pp (pq_varF (d := eI many4) rfl) aq_nil) rfl (d_cons (td_o (s := (oF eI))) d_nil) g_range1) fun xs6 hi => (rq_compM (ρx := (fun (k5 : Int) => [some (oF (eL eI) script1), some (oF eI many4), none, none, none, none, none, none, none, some (oF eI k5)])) (s := (oT2 (oF eI) (oL (oF (eT2 eI eI))))) hi (fun _ => rfl) (fun k5 => (rq_callF0 (aq_pp (pq_varF (d := (eL eI) script1) rfl) (aq_pp (pq_varF (d := eI k5) rfl) (aq_pp (pq_varF (d := eI many4) rfl) aq_nil))) rfl (d_cons (td_o (s := (oF (eL eI)))) (d_cons (td_o (s := (oF eI))) (d_cons (td_o (s := (oF eI))) d_nil))) (.inl rfl) (mr__law_row script1 k5 many4))))))
  refine sim_s (upd := fun rows11 => [some (oF (eL eI) script1), some (oF eI many4), some (oL (oT2 (oF eI) (oL (oF (eT2 eI eI)))) due7), some (oL (oT2 (oF eI) (oL (oF (eT2 eI eI)))) rows11), none, none, none, none, none, none]) (up := fun rows11 => [some (oF (eL eI) script1), some (oF eI many4), some (oL (oT2 (oF eI) (oL (oF (eT2 eI eI)))) due7), some (oF (eL (eT2 eI (eL (eT2 eI eI)))) rows11), none, none, none, none, none, none]) ?_ (fun rows11 => (gh_z (s := (oL (oT2 (oF eI) (oL (oF (eT2 eI eI)))))) (x := rows11) rfl gh_n)) fun rows11 => ?_
  · exact (set_m (s := (oL (oT2 (oF eI) (oL (oF (eT2 eI eI)))))) (rq_compI (iq_args0 (aq_pp (pq_varF (d := eI many4) rfl) aq_nil) rfl (d_cons (td_o (s := (oF eI))) d_nil) g_range1) fun xs10 hi => (rq_compM (ρx := (fun (k8 : Int) => [some (oF (eL eI) script1), some (oF eI many4), some (oL (oT2 (oF eI) (oL (oF (eT2 eI eI)))) due7), none, none, none, none, none, none, some (oF eI k8)])) (s := (oT2 (oF eI) (oL (oF (eT2 eI eI))))) hi (fun _ => rfl) (fun k8 => (rq_callV (aq_pm (pq_varF (d := (eL eI) script1) rfl) (aq_pm (pq_varF (d := eI k8) rfl) (aq_mp (rq_pp (s := (rV (oT2 (oF eI) (oL (oF (eT2 eI eI)))))) (pq_var (o := oL (oT2 (oF eI) (oL (oF (eT2 eI eI)))) due7) rfl) (pq_varF (d := eI k8) rfl) (o_ixL rfl)) aq_nil))) (fun _ => rfl) (fun v9 => (d_cons (td_o (s := (oF (eL eI)))) (d_cons (td_o (s := (oF eI))) (d_cons (td_v (s := (oT2 (oF eI) (oL (oF (eT2 eI eI)))))) d_nil)))) (fun _ => (nfa_cons (Nft.nf (s := (oF (eL eI))) _) (nfa_cons (Nft.nf (s := (oF eI)) _) (nfa_cons (Nft.nf (s := (oT2 (oF eI) (oL (oF (eT2 eI eI))))) _) nfa_nil)))) Leaf2.l2 (fun v9 => mr__law_mixed_row script1 k8 v9))))))
  refine sim_s (upd := fun handed13 => [some (oF (eL eI) script1), some (oF eI many4), some (oL (oT2 (oF eI) (oL (oF (eT2 eI eI)))) due7), some (oF (eL (eT2 eI (eL (eT2 eI eI)))) rows11), some (oL (oT2 (oF eI) (oL (oF (eT2 eI eI)))) handed13), none, none, none, none, none]) (up := fun handed13 => [some (oF (eL eI) script1), some (oF eI many4), some (oL (oT2 (oF eI) (oL (oF (eT2 eI eI)))) due7), some (oF (eL (eT2 eI (eL (eT2 eI eI)))) rows11), some (oL (oT2 (oF eI) (oL (oF (eT2 eI eI)))) handed13), none, none, none, none, none]) ?_ (fun handed13 => gh_n) fun handed13 => ?_
  · exact (set_m (s := (oL (oT2 (oF eI) (oL (oF (eT2 eI eI)))))) (rq_compP (ρx := (fun (p12 : (Int × (List (Int × Int)))) => [some (oF (eL eI) script1), some (oF eI many4), some (oL (oT2 (oF eI) (oL (oF (eT2 eI eI)))) due7), some (oF (eL (eT2 eI (eL (eT2 eI eI)))) rows11), none, none, none, some (oF (eL (eT2 eI eI)) p12.2), some (oF eI p12.1), none])) (s := (oT2 (oF eI) (oL (oF (eT2 eI eI))))) (iq_list (mi := .ok rows11) (sL := (oF (eL (eT2 eI (eL (eT2 eI eI)))))) (rq_of (pq_varF (d := (eL (eT2 eI (eL (eT2 eI eI)))) rows11) rfl))) (fun _ => rfl) (fun p12 => (pq_tupO (aq_pp (pq_varF (d := eI p12.1) rfl) (aq_pp (pq_callB (aq_pp (pq_varF (d := (eL (eT2 eI eI)) p12.2) rfl) aq_nil) (o_list seq_fL fz_L)) aq_nil)) rfl rfl rfl))))
  refine sim_s (upd := fun found14 => [some (oF (eL eI) script1), some (oF eI many4), some (oL (oT2 (oF eI) (oL (oF (eT2 eI eI)))) due7), some (oF (eL (eT2 eI (eL (eT2 eI eI)))) rows11), some (oL (oT2 (oF eI) (oL (oF (eT2 eI eI)))) handed13), some (oL (oT2 (oF eI) (oL (oF (eT2 eI eI)))) found14), none, none, none, none]) (up := fun found14 => [some (oF (eL eI) script1), some (oF eI many4), some (oL (oT2 (oF eI) (oL (oF (eT2 eI eI)))) due7), some (oF (eL (eT2 eI (eL (eT2 eI eI)))) rows11), some (oL (oT2 (oF eI) (oL (oF (eT2 eI eI)))) handed13), some (oL (oT2 (oF eI) (oL (oF (eT2 eI eI)))) found14), none, none, none, none]) ?_ (fun found14 => gh_n) fun found14 => ?_
  · exact (set_m (s := (oL (oT2 (oF eI) (oL (oF (eT2 eI eI)))))) (rq_callV0 (aq_pp (pq_var (o := oL (oT2 (oF eI) (oL (oF (eT2 eI eI)))) handed13) rfl) aq_nil) rfl (d_cons (td_v (s := (oL (oT2 (oF eI) (oL (oF (eT2 eI eI))))))) d_nil) (nfa_cons (Nft.nf (s := (oL (oT2 (oF eI) (oL (oF (eT2 eI eI)))))) _) nfa_nil) Leaf2.l2 (mr_purse_game handed13)))
  refine sim_ifK_m (tq_or_mm (tq_not_m (tq_m (rq_callF0 (aq_pp (pq_var (o := oL (oT2 (oF eI) (oL (oF (eT2 eI eI)))) found14) rfl) (aq_pp (pq_var (o := oL (oT2 (oF eI) (oL (oF (eT2 eI eI)))) due7) rfl) aq_nil)) rfl (d_cons (td_v (s := (oL (oT2 (oF eI) (oL (oF (eT2 eI eI))))))) (d_cons (td_v (s := (oL (oT2 (oF eI) (oL (oF (eT2 eI eI))))))) d_nil)) (.inr LeafF.lf) (mr__law_is_game found14 due7)))) (tq_of (tq_p (pq_bin (pq_var (o := oL (oT2 (oF eI) (oL (oF (eT2 eI eI)))) handed13) rfl) (pq_varF (d := (eL (eT2 eI (eL (eT2 eI eI)))) rows11) rfl) (o_ne (e := (eL (eT2 eI (eL (eT2 eI eI))))) (by decide) (td_v (s := (oL (oT2 (oF eI) (oL (oF (eT2 eI eI))))))) (td_o (s := (oF (eL (eT2 eI (eL (eT2 eI eI)))))))))))) ?_ ?_
  · refine sim_seq_end ?_
    exact sim_ret_p (vp_ow rfl) ⟨⟨_, rfl⟩, (.inl rfl)⟩
  · refine sim_nil (sim_gh (ρ1 := [some (oF (eL eI) script1), some (oF eI many4), some (oL (oT2 (oF eI) (oL (oF (eT2 eI eI)))) due7), some (oF (eL (eT2 eI (eL (eT2 eI eI)))) rows11), some (oL (oT2 (oF eI) (oL (oF (eT2 eI eI)))) handed13), some (oL (oT2 (oF eI) (oL (oF (eT2 eI eI)))) found14), none, none, none, none]) gh_n ?_)
    refine sim_s (upd := fun other16 => [some (oF (eL eI) script1), some (oF eI many4), some (oL (oT2 (oF eI) (oL (oF (eT2 eI eI)))) due7), some (oF (eL (eT2 eI (eL (eT2 eI eI)))) rows11), some (oL (oT2 (oF eI) (oL (oF (eT2 eI eI)))) handed13), some (oL (oT2 (oF eI) (oL (oF (eT2 eI eI)))) found14), some (oL (oT2 (oF eI) (oL (oF (eT2 eI eI)))) other16), none, none, none]) (up := fun other16 => [some (oF (eL eI) script1), some (oF eI many4), some (oL (oT2 (oF eI) (oL (oF (eT2 eI eI)))) due7), some (oF (eL (eT2 eI (eL (eT2 eI eI)))) rows11), some (oL (oT2 (oF eI) (oL (oF (eT2 eI eI)))) handed13), some (oL (oT2 (oF eI) (oL (oF (eT2 eI eI)))) found14), some (oL (oT2 (oF eI) (oL (oF (eT2 eI eI)))) other16), none, none, none]) ?_ (fun other16 => gh_n) fun other16 => ?_
    · exact (set_m (s := (oL (oT2 (oF eI) (oL (oF (eT2 eI eI)))))) (rq_callV0 (aq_pp (pq_var (o := oL (oT2 (oF eI) (oL (oF (eT2 eI eI)))) handed13) rfl) aq_nil) rfl (d_cons (td_v (s := (oL (oT2 (oF eI) (oL (oF (eT2 eI eI))))))) d_nil) (nfa_cons (Nft.nf (s := (oL (oT2 (oF eI) (oL (oF (eT2 eI eI)))))) _) nfa_nil) Leaf2.l2 (mr_purse_game handed13)))
    refine sim_s (upd := fun found17 => [some (oF (eL eI) script1), some (oF eI many4), some (oL (oT2 (oF eI) (oL (oF (eT2 eI eI)))) due7), some (oF (eL (eT2 eI (eL (eT2 eI eI)))) rows11), some (oL (oT2 (oF eI) (oL (oF (eT2 eI eI)))) handed13), some (oL (oT2 (oF eI) (oL (oF (eT2 eI eI)))) found17), some (oL (oT2 (oF eI) (oL (oF (eT2 eI eI)))) other16), none, none, none]) (up := fun found17 => [some (oF (eL eI) script1), some (oF eI many4), some (oL (oT2 (oF eI) (oL (oF (eT2 eI eI)))) due7), some (oF (eL (eT2 eI (eL (eT2 eI eI)))) rows11), some (oL (oT2 (oF eI) (oL (oF (eT2 eI eI)))) handed13), some (oL (oT2 (oF eI) (oL (oF (eT2 eI eI)))) found17), some (oL (oT2 (oF eI) (oL (oF (eT2 eI eI)))) other16), none, none, none]) ?_ (fun found17 => gh_n) fun found17 => ?_
    · refine (sim_meth (s := (oL (oT2 (oF eI) (oL (oF (eT2 eI eI)))))) (ρ' := [some (oF (eL eI) script1), some (oF eI many4), some (oL (oT2 (oF eI) (oL (oF (eT2 eI eI)))) due7), some (oF (eL (eT2 eI (eL (eT2 eI eI)))) rows11), some (oL (oT2 (oF eI) (oL (oF (eT2 eI eI)))) handed13), some (oL (oT2 (oF eI) (oL (oF (eT2 eI eI)))) found14), some (oL (oT2 (oF eI) (oL (oF (eT2 eI eI)))) other16), none, none, none]) (i := 5) (sA := (oL (oT2 (oF eI) (oL (oF (eT2 eI eI)))))) (as := [oT2 (oF eI) (oL (oF (eT2 eI eI))) (0, ([(0, 0)] : (List (Int × Int))))]) (md := (fun (f : (List (Int × (List (Int × Int)))) → M (List (Int × (List (Int × Int))))) => f found14)) (F := fun (y : (List (Int × (List (Int × Int))))) => appM y (0, ([(0, 0)] : (List (Int × Int))))) ?_ (fun _ => rfl) ?_ ?_ ?_ ?_)
      · exact (mq_var (s := (oL (oT2 (oF eI) (oL (oF (eT2 eI eI)))))) (x := found14) rfl)
      · exact (vs_pp (vp_tup (vs_pp (vp_ow rfl) (vs_pp (vp_lst (vs_pp (vp_ow (pq_tupF (aq_pp rfl (aq_pp rfl aq_nil)) rfl rfl rfl)) vs_nil) rfl) vs_nil)) rfl) vs_nil)
      · exact rfl
      · exact (gq_append (t := (oT2 (oF eI) (oL (oF (eT2 eI eI))))))
      · exact (fun _ => rfl)
    refine sim_s (upd := fun found20 => [some (oF (eL eI) script1), some (oF eI many4), some (oL (oT2 (oF eI) (oL (oF (eT2 eI eI)))) due7), some (oF (eL (eT2 eI (eL (eT2 eI eI)))) rows11), some (oL (oT2 (oF eI) (oL (oF (eT2 eI eI)))) handed13), some (oL (oT2 (oF eI) (oL (oF (eT2 eI eI)))) found20), some (oL (oT2 (oF eI) (oL (oF (eT2 eI eI)))) other16), none, none, none]) (up := fun found20 => [some (oF (eL eI) script1), some (oF eI many4), some (oL (oT2 (oF eI) (oL (oF (eT2 eI eI)))) due7), some (oF (eL (eT2 eI (eL (eT2 eI eI)))) rows11), some (oL (oT2 (oF eI) (oL (oF (eT2 eI eI)))) handed13), some (oL (oT2 (oF eI) (oL (oF (eT2 eI eI)))) found20), some (oL (oT2 (oF eI) (oL (oF (eT2 eI eI)))) other16), none, none, none]) ?_ (fun found20 => gh_n) fun found20 => ?_
    · refine (sim_forO2 (bd' := (methA "list" (ixPa alP (cE (.int 1))) nilV gClear)) (s := (oT2 (oF eI) (oL (oF (eT2 eI eI))))) (i := 5) (sA := (oL (oT2 (oF eI) (oL (oF (eT2 eI eI)))))) (md := (fun (f : (List (Int × (List (Int × Int)))) → M (List (Int × (List (Int × Int))))) => f found17)) (F := fun (it18 : (Int × (List (Int × Int)))) => (M.ok ([] : (List (Int × Int)))).bind fun z19 => .ok (it18.1, z19)) ?_ ?_ (fun _ _ _ _ _ _ h1 h2 => meth_shift h1 h2) (fun _ => ⟨_, _, rfl⟩) rfl ?_)
      · exact (mq_var (s := (oL (oT2 (oF eI) (oL (oF (eT2 eI eI)))))) (x := found17) rfl)
      · exact (ib_meth (s := (oT2 (oF eI) (oL (oF (eT2 eI eI))))) (f := (fun (it18 : (List (Int × Int))) => M.ok ([] : (List (Int × Int))))) (md := fun f it18 => (f it18.2).bind fun z19 => .ok (it18.1, z19)) (fun ρ i p o y h1 h2 => (mq_tup (s := (oT2 (oF eI) (oL (oF (eT2 eI eI))))) (t := (oL (oF (eT2 eI eI)))) (n := 1) (ks := (fun y => [oF eI y.1, oL (oF (eT2 eI eI)) y.2])) (g := fun y => y.2) (st := (fun y z => (y.1, z))) (mq_al h1 h2) rfl (fun _ => rfl) (fun _ => rfl) (fun _ => rfl) (fun _ _ => rfl))) (pre_ix pre_al) (fun _ => rfl) (fun _ => vs_nil) (gq_clear (t := (oF (eT2 eI eI)))) (by intro y c h; cases h))
      · exact (fun _ => rfl)
    refine sim_ifK_m (tq_or_pm (tq_p (pq_bin (pq_var (o := oL (oT2 (oF eI) (oL (oF (eT2 eI eI)))) handed13) rfl) (pq_varF (d := (eL (eT2 eI (eL (eT2 eI eI)))) rows11) rfl) (o_ne (e := (eL (eT2 eI (eL (eT2 eI eI))))) (by decide) (td_v (s := (oL (oT2 (oF eI) (oL (oF (eT2 eI eI))))))) (td_o (s := (oF (eL (eT2 eI (eL (eT2 eI eI)))))))))) (tq_or_mm (tq_not_m (tq_m (rq_callF0 (aq_pp (pq_var (o := oL (oT2 (oF eI) (oL (oF (eT2 eI eI)))) other16) rfl) (aq_pp (pq_var (o := oL (oT2 (oF eI) (oL (oF (eT2 eI eI)))) due7) rfl) aq_nil)) rfl (d_cons (td_v (s := (oL (oT2 (oF eI) (oL (oF (eT2 eI eI))))))) (d_cons (td_v (s := (oL (oT2 (oF eI) (oL (oF (eT2 eI eI))))))) d_nil)) (.inr LeafF.lf) (mr__law_is_game other16 due7)))) (tq_not_m (tq_m (rq_callF (aq_mp (rq_callV0 (aq_pp (pq_var (o := oL (oT2 (oF eI) (oL (oF (eT2 eI eI)))) handed13) rfl) aq_nil) rfl (d_cons (td_v (s := (oL (oT2 (oF eI) (oL (oF (eT2 eI eI))))))) d_nil) (nfa_cons (Nft.nf (s := (oL (oT2 (oF eI) (oL (oF (eT2 eI eI)))))) _) nfa_nil) Leaf2.l2 (mr_purse_game handed13)) (aq_pp (pq_var (o := oL (oT2 (oF eI) (oL (oF (eT2 eI eI)))) due7) rfl) aq_nil)) (fun _ => rfl) (fun v21 => (d_cons (td_o (s := (oL (oT2 (oF eI) (oL (oF (eT2 eI eI))))))) (d_cons (td_v (s := (oL (oT2 (oF eI) (oL (oF (eT2 eI eI))))))) d_nil))) (.inr LeafF.lf) (fun v21 => mr__law_is_game v21 due7)))))) ?_ ?_
    · refine sim_seq_end ?_
      exact sim_ret_p (vp_ow rfl) ⟨⟨_, rfl⟩, (.inl rfl)⟩
    · refine sim_nil (sim_gh (ρ1 := [some (oF (eL eI) script1), some (oF eI many4), some (oL (oT2 (oF eI) (oL (oF (eT2 eI eI)))) due7), some (oF (eL (eT2 eI (eL (eT2 eI eI)))) rows11), some (oL (oT2 (oF eI) (oL (oF (eT2 eI eI)))) handed13), some (oL (oT2 (oF eI) (oL (oF (eT2 eI eI)))) found20), some (oL (oT2 (oF eI) (oL (oF (eT2 eI eI)))) other16), none, none, none]) gh_n ?_)
      refine sim_s (upd := fun handed25 => [some (oF (eL eI) script1), some (oF eI many4), some (oL (oT2 (oF eI) (oL (oF (eT2 eI eI)))) due7), some (oF (eL (eT2 eI (eL (eT2 eI eI)))) rows11), some (oL (oT2 (oF eI) (oL (oF (eT2 eI eI)))) handed25), some (oL (oT2 (oF eI) (oL (oF (eT2 eI eI)))) found20), some (oL (oT2 (oF eI) (oL (oF (eT2 eI eI)))) other16), none, none, none]) (up := fun handed25 => [some (oF (eL eI) script1), some (oF eI many4), some (oL (oT2 (oF eI) (oL (oF (eT2 eI eI)))) due7), some (oF (eL (eT2 eI (eL (eT2 eI eI)))) rows11), some (oL (oT2 (oF eI) (oL (oF (eT2 eI eI)))) handed25), some (oL (oT2 (oF eI) (oL (oF (eT2 eI eI)))) found20), some (oL (oT2 (oF eI) (oL (oF (eT2 eI eI)))) other16), none, none, none]) ?_ (fun handed25 => gh_n) fun handed25 => ?_
      · refine (sim_forO2 (bd' := (methA "list" (ixPa alP (cE (.int 1))) (consV (owV (tupE (consA (cE (.int 0)) (consA (cE (.int 1)) nilA)))) nilV) gAppend)) (s := (oT2 (oF eI) (oL (oF (eT2 eI eI))))) (i := 4) (sA := (oL (oT2 (oF eI) (oL (oF (eT2 eI eI)))))) (md := (fun (f : (List (Int × (List (Int × Int)))) → M (List (Int × (List (Int × Int))))) => f handed13)) (F := fun (it23 : (Int × (List (Int × Int)))) => (appM it23.2 (0, 1)).bind fun z24 => .ok (it23.1, z24)) ?_ ?_ (fun _ _ _ _ _ _ h1 h2 => meth_shift h1 h2) (fun _ => ⟨_, _, rfl⟩) rfl ?_)
        · exact (mq_var (s := (oL (oT2 (oF eI) (oL (oF (eT2 eI eI)))))) (x := handed13) rfl)
        · exact (ib_meth (s := (oT2 (oF eI) (oL (oF (eT2 eI eI))))) (f := (fun (it23 : (List (Int × Int))) => appM it23 (0, 1))) (md := fun f it23 => (f it23.2).bind fun z24 => .ok (it23.1, z24)) (fun ρ i p o y h1 h2 => (mq_tup (s := (oT2 (oF eI) (oL (oF (eT2 eI eI))))) (t := (oL (oF (eT2 eI eI)))) (n := 1) (ks := (fun y => [oF eI y.1, oL (oF (eT2 eI eI)) y.2])) (g := fun y => y.2) (st := (fun y z => (y.1, z))) (mq_al h1 h2) rfl (fun _ => rfl) (fun _ => rfl) (fun _ => rfl) (fun _ _ => rfl))) (pre_ix pre_al) (fun _ => rfl) (fun _ => (vs_pp (vp_ow (pq_tupF (aq_pp rfl (aq_pp rfl aq_nil)) rfl rfl rfl)) vs_nil)) (gq_append (t := (oF (eT2 eI eI)))) (by intro y c; exact nex_b (gq_append (t := (oF (eT2 eI eI)))).1 _ _))
        · exact (fun _ => rfl)
      refine sim_s (upd := fun handed26 => [some (oF (eL eI) script1), some (oF eI many4), some (oL (oT2 (oF eI) (oL (oF (eT2 eI eI)))) due7), some (oF (eL (eT2 eI (eL (eT2 eI eI)))) rows11), some (oL (oT2 (oF eI) (oL (oF (eT2 eI eI)))) handed26), some (oL (oT2 (oF eI) (oL (oF (eT2 eI eI)))) found20), some (oL (oT2 (oF eI) (oL (oF (eT2 eI eI)))) other16), none, none, none]) (up := fun handed26 => [some (oF (eL eI) script1), some (oF eI many4), some (oL (oT2 (oF eI) (oL (oF (eT2 eI eI)))) due7), some (oF (eL (eT2 eI (eL (eT2 eI eI)))) rows11), some (oL (oT2 (oF eI) (oL (oF (eT2 eI eI)))) handed26), some (oL (oT2 (oF eI) (oL (oF (eT2 eI eI)))) found20), some (oL (oT2 (oF eI) (oL (oF (eT2 eI eI)))) other16), none, none, none]) ?_ (fun handed26 => gh_n) fun handed26 => ?_
      · refine (sim_meth (s := (oL (oT2 (oF eI) (oL (oF (eT2 eI eI)))))) (ρ' := [some (oF (eL eI) script1), some (oF eI many4), some (oL (oT2 (oF eI) (oL (oF (eT2 eI eI)))) due7), some (oF (eL (eT2 eI (eL (eT2 eI eI)))) rows11), some (oL (oT2 (oF eI) (oL (oF (eT2 eI eI)))) handed25), some (oL (oT2 (oF eI) (oL (oF (eT2 eI eI)))) found20), some (oL (oT2 (oF eI) (oL (oF (eT2 eI eI)))) other16), none, none, none]) (i := 4) (sA := (oL (oT2 (oF eI) (oL (oF (eT2 eI eI)))))) (as := []) (md := (fun (f : (List (Int × (List (Int × Int)))) → M (List (Int × (List (Int × Int))))) => f handed25)) (F := fun (y : (List (Int × (List (Int × Int))))) => M.ok ([] : (List (Int × (List (Int × Int)))))) ?_ (fun _ => rfl) ?_ rfl ?_ ?_)
        · exact (mq_var (s := (oL (oT2 (oF eI) (oL (oF (eT2 eI eI)))))) (x := handed25) rfl)
        · exact vs_nil
        · exact gq_clear
        · exact (fun _ => rfl)
      exact sim_ret_id (so := (oF eB)) (vq_ow (s := (oF eB)) (rq_callF0 (aq_pp (pq_var (o := oL (oT2 (oF eI) (oL (oF (eT2 eI eI)))) other16) rfl) (aq_pp (pq_var (o := oL (oT2 (oF eI) (oL (oF (eT2 eI eI)))) due7) rfl) aq_nil)) rfl (d_cons (td_v (s := (oL (oT2 (oF eI) (oL (oF (eT2 eI eI))))))) (d_cons (td_v (s := (oL (oT2 (oF eI) (oL (oF (eT2 eI eI))))))) d_nil)) (.inr LeafF.lf) (mr__law_is_game other16 due7))) (fun _ => (.inl rfl))
end K

namespace K
open PySem PySem.Spec L2 DL DL.PL
structure Bt (ns : List Int) : Prop where
  n : ns.length ≤ 63
  b : ∀ z ∈ ns, Sz 1048576 z
theorem at_ok {ns : List Int} (B : Bt ns) (k : Int) (h0 : 0 ≤ k := by omega) (h1 : k < 1000000 := by omega) : Ok (f__law_at ns k) fun i => Sz 1048576 i := by
  have hn := B.n
  unfold f__law_at
  refine e_ite (fun hc => ?_) fun hc => ?_
  · simp only [Bool.and_eq_true, Bool.or_eq_true, Bool.and_eq_false_iff, Bool.or_eq_false_iff, Bool.not_eq_true', Bool.not_eq_false', Bool.not_true, Bool.not_false, decide_eq_true_eq, decide_eq_false_iff_not, Bool.not_eq_true, Bool.not_eq_false, Classical.not_not, Option.isNone_iff_eq_none, Option.isSome_iff_ne_none] at hc
    exact e_end (b_ix (.of (B.b _ (getZ_mem h0 hc))))
  · simp only [Bool.and_eq_true, Bool.or_eq_true, Bool.and_eq_false_iff, Bool.or_eq_false_iff, Bool.not_eq_true', Bool.not_eq_false', Bool.not_true, Bool.not_false, decide_eq_true_eq, decide_eq_false_iff_not, Bool.not_eq_true, Bool.not_eq_false, Classical.not_not, Option.isNone_iff_eq_none, Option.isSome_iff_ne_none] at hc
    have fin : ∀ m : Int, -18446744073709551616 < m → m < 18446744073709551616 → Ok (((mulM m m).bind fun v23 => M.ok (v23 % 999979)).bind fun v25 => M.ok (v25 + (m % 101))) fun i => Sz 1048576 i := fun m h1 h2 => b_bind (b_mull (b_ok (.of (sz_up (sz_small (by omega) (by omega)) (by omega)))))
    refine b_lt (b_ite (fun hz => ?_) fun hz => ?_)
    · simp only [Bool.and_eq_true, Bool.or_eq_true, Bool.and_eq_false_iff, Bool.or_eq_false_iff, Bool.not_eq_true', Bool.not_eq_false', Bool.not_true, Bool.not_false, decide_eq_true_eq, decide_eq_false_iff_not, Bool.not_eq_true, Bool.not_eq_false, Classical.not_not, Option.isNone_iff_eq_none, Option.isSome_iff_ne_none] at hz
      have a1 : 0 ≤ k % (ns.length : Int) := Int.emod_nonneg _ (by omega)
      have a2 : k % (ns.length : Int) < ns.length := Int.emod_lt_of_pos _ hz
      have b1 := Int.emod_nonneg (getZ ns (k % (ns.length : Int))) (show (1000003 : Int) ≠ 0 by decide)
      have b2 := Int.emod_lt_of_pos (getZ ns (k % (ns.length : Int))) (show (0 : Int) < 1000003 by decide)
      refine b_bind (b_bind (b_bind (b_bind (b_bind (b_mod (b_ix (b_ok (b_mull (b_ok (b_ok (fin _ ?_ ?_))))))))))) 
      · have := Int.mul_nonneg b1 (show 0 ≤ k + 1 by omega)
        omega
      · have := Int.mul_le_mul (show getZ ns (k % (ns.length : Int)) % 1000003 ≤ 1000003 by omega) (show k + 1 ≤ 1000000 by omega) (by omega) (by omega)
        omega
    · exact b_ok (fin _ (by omega) (by omega))
def Am (i : Int) : Prop := -(10 ^ 60 : Int) < i ∧ i < (10 ^ 60 : Int)
theorem amount_ok {c j : Int} {k : Nat} (hc : Sz k c) (hk : k ≤ 2000000) (h0 : 0 ≤ j) (h1 : j ≤ 16) : Ok (f__law_amount c j) Am := by
  unfold f__law_amount
  have j2 : 0 ≤ j * j := Int.mul_nonneg h0 h0
  have j3 : j * j ≤ 16 * 16 := Int.mul_le_mul h1 h1 h0 (by decide)
  have s1 : Sz (k + 5) (c / 4 + j) := sz_near hc (by omega)
  have s2 : Sz 64 (j * j + 3) := sz_small (by omega) (by omega)
  have s3 := sz_mul s1 s2
  refine b_bind (b_bind (b_mull (b_ok (.eqc (mulM_sz s1 s2 (by omega)) ?_))))
  generalize (c / 4 + j) * (j * j + 3) = y at s3
  unfold Am
  refine e_ite (fun _ => .of (by omega)) fun _ => e_ite (fun _ => ?_) fun _ => e_ite (fun _ => ?_) fun _ => .of (by omega)
  · have s4 : Sz 210 (31 ^ 41 : Int) := by unfold Sz; decide +kernel
    refine b_bind (.eqc (mulM_sz s3 s4 (by omega)) (b_ok (.of ?_)))
    have m0 := Int.emod_nonneg (y * 31 ^ 41) (show (2 * (10 ^ 60 : Int)) - 1 ≠ 0 by decide)
    have m1 := Int.emod_lt_of_pos (y * 31 ^ 41) (show (0 : Int) < (2 * (10 ^ 60 : Int)) - 1 by decide)
    generalize y * 31 ^ 41 % ((2 * (10 ^ 60 : Int)) - 1) = z at m0 m1
    omega
  · refine e_end (b_mull (.of ?_))
    rcases (show y % 2 = 0 ∨ y % 2 = 1 by omega) with h | h <;> rw [h] <;> decide
structure RowK (n : Int) (r : PRow) : Prop where
  hand : r.1 = 0 ∨ r.1 = 1
  ne : r.2 ≠ []
  len : r.2.length ≤ 16
  lt : r.2.Pairwise fun p q => p.1 < q.1
  in_ : ∀ p ∈ r.2, 0 ≤ p.1 ∧ p.1 < n
  am : ∀ p ∈ r.2, Am p.2
theorem enum_get {xs : List Int} {i : Nat} (h : i < xs.length) : (enumL xs)[i]? = some ((i : Int), xs[i]) := by
  unfold enumL
  rw [List.getElem?_map, List.getElem?_zipIdx, List.getElem?_eq_getElem h]
  simp
theorem enum_len {xs : List Int} : (enumL xs).length = xs.length := by
  unfold enumL
  rw [List.length_map, List.length_zipIdx]
theorem row_ok {ns : List Int} (B : Bt ns) {k n : Int} (k0 : 0 ≤ k) (k1 : k < n) (n1 : n ≤ 16) : Ok (f__law_row ns k n) (RowK n) := by
  unfold f__law_row
  refine b_bind ((at_ok B _).call fun c _ => b_ok (b_bind (b_rng ?_)))
  refine b_for (fun ys b => b.2.length ≤ ys.length ∧ b.2.Pairwise (· < ·) ∧ ∀ g ∈ b.2, 0 ≤ g ∧ g < ys.length) ⟨Nat.le_refl _, List.Pairwise.nil, fun g h => nomatch h⟩ (fun ys x zs b e ⟨i1, i2, i3⟩ => ?_) fun b ⟨i1, i2, i3⟩ => ?_
  · obtain ⟨hx, hx2⟩ := rng_split e
    refine b_ite (fun _ => ?_) fun _ => ?_
    · refine b_bind (b_app (b_ok (b_ok (b_lt (.of ⟨by simp; omega, ?_, fun g hg => ?_⟩)))))
      · refine List.pairwise_append.mpr ⟨i2, List.pairwise_singleton _ _, fun g hg y hy => ?_⟩
        rw [List.mem_singleton.mp hy]
        have := i3 g hg
        omega
      · rw [List.length_append, List.length_singleton]
        rcases List.mem_append.mp hg with hg | hg
        · have := i3 g hg
          omega
        · rw [List.mem_singleton.mp hg]
          omega
    · refine b_ok (b_lt (.of ⟨by simp; omega, i2, fun g hg => ?_⟩))
      have := i3 g hg
      rw [List.length_append, List.length_singleton]
      omega
  · rw [rng_len] at i1 i3
    have core : ∀ gs : List Int, gs ≠ [] → gs.length ≤ 16 → gs.Pairwise (· < ·) → (∀ g ∈ gs, 0 ≤ g ∧ g < n) → Ok ((f__law_at ns (3 + (2 * k))).bind fun cell22 =>
        (((f__law_at ns (2 + (2 * k))).bind fun v23 => M.ok (v23 % 2)).bind fun v27 => (compM (fun (p25 : (Int × Int)) => ((f__law_amount cell22 p25.1).bind fun v26 => M.ok (p25.2, v26)).nox) (enumL gs)).bind fun v28 => M.ok (v27, v28)).bind fun v29 => M.ok (v29.1, v29.2)) (RowK n) := fun gs g0 g1 g2 g3 => by
      refine (at_ok B _).call fun cell hcell => b_bind (b_bind ((at_ok B _).call fun d _ => b_ok (b_bind ?_)))
      refine b_compM (fun p r => r.1 = p.2 ∧ Am r.2) (by rw [enum_len]; omega) (fun p hp => ?_) fun ys hl hy => ?_
      · obtain ⟨i, hi⟩ := List.getElem?_of_mem hp
        have hil : i < gs.length := by
          have := (List.getElem?_eq_some_iff.mp hi).1
          rw [enum_len] at this
          exact this
        rw [enum_get hil] at hi
        have e1 : p = ((i : Int), gs[i]) := (Option.some.inj hi).symm
        rw [e1]
        exact e_nox ((amount_ok hcell (by omega) (by show (0 : Int) ≤ (i : Int); omega) (by show (i : Int) ≤ 16; omega)).call fun v hv => .of ⟨rfl, hv⟩)
      · rw [enum_len] at hl
        have ef : ys.map (·.1) = gs := by
          refine List.ext_getElem (by rw [List.length_map, hl]) fun i h1 h2 => ?_
          rw [List.getElem_map]
          have := (hy i (by rw [enum_len]; exact h2) (by omega)).1
          rw [this]
          have q := enum_get (xs := gs) h2
          have := (List.getElem?_eq_some_iff.mp q).2
          rw [this]
        have hp : ∀ q ∈ ys, Am q.2 := fun q hq => by
          obtain ⟨i, hi, rfl⟩ := List.mem_iff_getElem.mp hq
          exact (hy i (by rw [enum_len]; omega) hi).2
        refine b_ok (.of ⟨?_, ?_, by show ys.length ≤ 16; omega, ?_, fun q hq => ?_, hp⟩)
        · show d % 2 = 0 ∨ d % 2 = 1
          omega
        · intro e
          have e : ys = [] := e
          rw [e] at ef
          exact g0 ef.symm
        · rw [← ef] at g2
          exact List.pairwise_map.mp g2
        · exact g3 q.1 (by rw [← ef]; exact List.mem_map_of_mem (f := fun p : Int × Int => p.1) hq)
    refine b_ite (fun hc => ?_) fun hc => ?_
    · refine b_ltb (b_ok (core _ (by simp) (by simp) (List.pairwise_singleton _ _) fun g hg => ?_))
      rw [List.mem_singleton.mp hg]
      exact ⟨k0, k1⟩
    · simp only [Bool.and_eq_true, Bool.or_eq_true, Bool.and_eq_false_iff, Bool.or_eq_false_iff, Bool.not_eq_true', Bool.not_eq_false', Bool.not_true, Bool.not_false, decide_eq_true_eq, decide_eq_false_iff_not, Bool.not_eq_true, Bool.not_eq_false, Classical.not_not, Option.isNone_iff_eq_none, Option.isSome_iff_ne_none] at hc
      refine b_ok (core _ (fun e => hc (by rw [e]; rfl)) (by omega) i2 fun g hg => ?_)
      have := i3 g hg
      omega
theorem mixed_ok {ns : List Int} (B : Bt ns) {k : Int} (k0 : 0 ≤ k) (k1 : k < 16) {r : PRow} (h0 : r.2 ≠ []) (hl : r.2.length ≤ 16) : Ok (f__law_mixed_row ns k r) fun q => q.1 = r.1 ∧ q.2.Perm r.2 := by
  unfold f__law_mixed_row
  have hp : 0 < (r.2.length : Int) := by
    have := List.length_pos_iff.mpr h0
    omega
  refine b_bind ((at_ok B 1).call fun c _ => b_fdiv (b_mod ?_))
  have m0 := Int.emod_nonneg (c / (k + 1)) (show (r.2.length : Int) ≠ 0 by omega)
  generalize c / (k + 1) % (r.2.length : Int) = cut at m0
  rw [cut_from _ _ m0, cut_to _ _ m0]
  have pm : (r.2.drop cut.toNat ++ r.2.take cut.toNat).Perm r.2 := by
    have := List.perm_append_comm (l₁ := r.2.drop cut.toNat) (l₂ := r.2.take cut.toNat)
    rw [List.take_append_drop] at this
    exact this
  refine b_cat ?_ (by rw [← List.length_append, pm.length_eq]; omega)
  refine b_ite (fun _ => ?_) fun _ => ?_
  · exact b_ltb (b_ok (.of ⟨rfl, (List.reverse_perm _).trans pm⟩))
  · exact b_ok (.of ⟨rfl, pm⟩)
theorem zip_self {α : Type} : ∀ xs : List α, xs.zip xs = xs.map fun x => (x, x)
  | [] => rfl
  | x :: xs => by rw [List.zip_cons_cons, zip_self xs, List.map_cons]
theorem is_game_ok (xs : List PRow) : f__law_is_game xs xs = .ok true := by
  unfold f__law_is_game
  rw [decide_eq_true rfl, Bool.not_true, if_neg (by decide)]
  rw [forF_all fun p hp => by
    rw [zip_self] at hp
    obtain ⟨r, hr, rfl⟩ := List.mem_map.mp hp
    simp only [zip_self]
    rw [forF_all fun q hq => by
      obtain ⟨v, hv, rfl⟩ := List.mem_map.mp hq
      simp [f__law_whole]]
    simp [f__law_whole]]
  rfl
theorem purse_ok {rows : List PRow} (hr : ∀ r ∈ rows, r.2.length ≤ 1000) : f_purse_game rows = (match verdictP rows with | some v => M.ex v.exc | none => M.ok (rows.map toldP)) := by
  unfold f_purse_game
  exact purse_game_body (lw := f_look_at_ways) (la := f_look_at_amounts) (fun ws n h => by unfold f_look_at_ways; exact look_ways_body h) (fun ws => by unfold f_look_at_amounts; exact look_amounts_body) hr
theorem f_law_true (ns : List Int) (B : Bt ns) : f_law ns = .ok true := by
  refine Ok.get ?_
  unfold f_law
  refine b_bind ((at_ok B 0).call fun c _ => b_ok ?_)
  have n0 := Int.emod_nonneg c (show (17 : Int) ≠ 0 by decide)
  have n1 := Int.emod_lt_of_pos c (show (0 : Int) < 17 by decide)
  generalize c % 17 = n at n0 n1
  refine b_bind (b_rng (b_compM (fun _ r => RowK n r) (by rw [rng_len]; omega) (fun k hk => ?_) fun due dl hd => ?_))
  · obtain ⟨k0, k1⟩ := rng_mem.mp hk
    exact e_nox (row_ok B k0 k1 (by omega))
  rw [rng_len] at dl
  have hdue : ∀ r ∈ due, RowK n r := fun r hr => by
    obtain ⟨i, hi, rfl⟩ := List.mem_iff_getElem.mp hr
    exact hd i (by rw [rng_len]; omega) hi
  refine b_bind (b_rng (b_compM (fun k q => q.1 = (getZ due k).1 ∧ q.2.Perm (getZ due k).2) (by rw [rng_len]; omega) (fun k hk => ?_) fun rows rl hq => ?_))
  · obtain ⟨k0, k1⟩ := rng_mem.mp hk
    have R := hdue _ (getZ_mem (xs := due) (i := k) k0 (by omega))
    exact e_nox (b_ix (mixed_ok B k0 (by omega) R.ne R.len) k0 (by omega))
  rw [rng_len] at rl
  have hid : rows.map (fun (p12 : (Int × (List (Int × Int)))) => (p12.1, p12.2)) = rows := List.map_id _
  have hrow : ∀ i (h : i < rows.length) (h2 : i < due.length), rows[i].1 = due[i].1 ∧ rows[i].2.Perm due[i].2 := fun i h h2 => by
    have := hq i (by rw [rng_len]; omega) h
    rw [rng_get, show (0 : Int) + (i : Nat) = (i : Nat) by omega, getZ_nat h2] at this
    exact this
  have hfine : ∀ r ∈ rows, FineP rows.length r ∧ r.2.length ≤ 16 := fun r hr => by
    obtain ⟨i, hi, rfl⟩ := List.mem_iff_getElem.mp hr
    have hi2 : i < due.length := by omega
    obtain ⟨e1, pm⟩ := hrow i hi hi2
    have R := hdue _ (List.getElem_mem hi2)
    refine ⟨⟨by rw [e1]; exact R.hand, fun e => ?_, fun p hp => ?_, ?_, fun p hp => R.am p (pm.mem_iff.mp hp)⟩, by rw [pm.length_eq]; exact R.len⟩
    · rw [e] at pm
      exact R.ne (List.nil_perm.mp pm)
    · have := R.in_ p (pm.mem_iff.mp hp)
      omega
    · refine (pm.map (·.1)).nodup_iff.mpr ?_
      exact lt_nodup (List.pairwise_map.mpr R.lt)
  have hg : f_purse_game rows = .ok due := by
    rw [purse_ok fun r hr => by have := (hfine r hr).2; omega, verdictP_fine (by omega) fun r hr => (hfine r hr).1]
    refine congrArg M.ok ?_
    refine List.ext_getElem (by rw [List.length_map]; omega) fun i h1 h2 => ?_
    rw [List.getElem_map]
    have hi : i < rows.length := by rw [List.length_map] at h1; exact h1
    obtain ⟨e1, pm⟩ := hrow i hi h2
    unfold toldP
    rw [e1, sortP_of (hdue _ (List.getElem_mem h2)).lt pm]
  refine b_compP ?_ (by omega)
  rw [hid]
  refine .eqc hg (b_bind (b_bind (.eqc (is_game_ok due) (b_ok (b_F rfl (b_ok (e_F (by simp) ?_)))))))
  refine .eqc hg (b_app ?_)
  have ap : ∀ xs : List PRow, mapM (fun (it18 : (Int × (List (Int × Int)))) => (M.ok ([] : (List (Int × Int)))).bind fun z19 => M.ok (it18.1, z19)) xs = .ok (xs.map fun r => (r.1, [])) := fun xs => mapM_ok fun r hr => rfl
  refine .eqc (ap _) (b_F (by simp) ?_)
  refine b_bind (b_bind (.eqc (is_game_ok due) (b_ok (b_F rfl ?_))))
  refine b_bind (b_bind (.eqc hg (.eqc (is_game_ok due) (b_ok (e_F rfl ?_)))))
  have ap2 : mapM (fun (it23 : (Int × (List (Int × Int)))) => (appM it23.2 (0, 1)).bind fun z24 => M.ok (it23.1, z24)) rows = .ok (rows.map fun r => (r.1, r.2 ++ [(0, 1)])) := mapM_ok fun r hr => by
    have := (hfine r hr).2
    rw [appM_ok (by omega)]
    rfl
  exact .eqc ap2 (b_ok (.eq (is_game_ok due) rfl))
theorem law_true (ns : List Int) (hn : ns.length ≤ 63) (hb : ∀ z ∈ ns, Builtin.Int.intBits z ≤ 1048576) : m_law [scrD ns] = .ok (.fz (.bl true)) := by
  have h := (mr_law ns).out
  rw [f_law_true ns ⟨hn, fun z hz => sz_bits (hb z hz)⟩] at h
  exact h
end K

namespace K
open PySem PySem.Spec L2 DL
theorem all_mk {P : Program} {w : World} {K : PySem.W.Frag} {h : Heap} {mg : Str → Option Value} {fa f0 f1 f2 f3 f4 f5 f6 f7 f8 f9 gx_NoWay gx_NoAmount gx_TooMany gx_NoHand : Addr} (X : K.In h) (G : h.Ns mainGlobals mg) (hfa : mg "law" = some (.ref fa))
    {od0 an0 od1 an1 od2 an2 od3 an3 od4 an4 od5 an5 od6 an6 od7 an7 od8 an8 od9 an9 : Option Addr} {sl0 sl1 sl2 sl3 sl4 sl5 sl6 sl7 sl8 sl9 : Array (Option Value)} {oc0 kV0 dc0 pm0 cd0 ct0 oc1 kV1 dc1 pm1 cd1 ct1 oc2 kV2 dc2 pm2 cd2 ct2 oc3 kV3 dc3 pm3 cd3 ct3 oc4 kV4 dc4 pm4 cd4 ct4 oc5 kV5 dc5 pm5 cd5 ct5 oc6 kV6 dc6 pm6 cd6 ct6 oc7 kV7 dc7 pm7 cd7 ct7 oc8 kV8 dc8 pm8 cd8 ct8 oc9 kV9 dc9 pm9 cd9 ct9 : Value} {t_MOST_PLACES : Tok}
    (a0 : PySem.W.nsIn K mainGlobals "look_at_ways" = some (some (.ref f0))) (l0 : K.lookup f0 = some ⟨oc0, od0, .func (PySem.W.fnOf "look_at_ways" "look_at_ways" (defArgs s_look_at_ways) (defBody s_look_at_ways) (defScope s_look_at_ways) .none kV0 dc0 pm0 an0 cd0 ct0), sl0⟩) (c0 : PySem.W.codeIn K cd0 "look_at_ways" = true) (k0 : PySem.W.keepIn K (.ref f0) = true)
    (a1 : PySem.W.nsIn K mainGlobals "look_at_amounts" = some (some (.ref f1))) (l1 : K.lookup f1 = some ⟨oc1, od1, .func (PySem.W.fnOf "look_at_amounts" "look_at_amounts" (defArgs s_look_at_amounts) (defBody s_look_at_amounts) (defScope s_look_at_amounts) .none kV1 dc1 pm1 an1 cd1 ct1), sl1⟩) (c1 : PySem.W.codeIn K cd1 "look_at_amounts" = true) (k1 : PySem.W.keepIn K (.ref f1) = true)
    (a2 : PySem.W.nsIn K mainGlobals "purse_game" = some (some (.ref f2))) (l2 : K.lookup f2 = some ⟨oc2, od2, .func (PySem.W.fnOf "purse_game" "purse_game" (defArgs s_purse_game) (defBody s_purse_game) (defScope s_purse_game) .none kV2 dc2 pm2 an2 cd2 ct2), sl2⟩) (c2 : PySem.W.codeIn K cd2 "purse_game" = true) (k2 : PySem.W.keepIn K (.ref f2) = true)
    (a3 : PySem.W.nsIn K mainGlobals "_law_at" = some (some (.ref f3))) (l3 : K.lookup f3 = some ⟨oc3, od3, .func (PySem.W.fnOf "_law_at" "_law_at" (defArgs s__law_at) (defBody s__law_at) (defScope s__law_at) .none kV3 dc3 pm3 an3 cd3 ct3), sl3⟩) (c3 : PySem.W.codeIn K cd3 "_law_at" = true) (k3 : PySem.W.keepIn K (.ref f3) = true)
    (a4 : PySem.W.nsIn K mainGlobals "_law_whole" = some (some (.ref f4))) (l4 : K.lookup f4 = some ⟨oc4, od4, .func (PySem.W.fnOf "_law_whole" "_law_whole" (defArgs s__law_whole) (defBody s__law_whole) (defScope s__law_whole) .none kV4 dc4 pm4 an4 cd4 ct4), sl4⟩) (c4 : PySem.W.codeIn K cd4 "_law_whole" = true) (k4 : PySem.W.keepIn K (.ref f4) = true)
    (a5 : PySem.W.nsIn K mainGlobals "_law_amount" = some (some (.ref f5))) (l5 : K.lookup f5 = some ⟨oc5, od5, .func (PySem.W.fnOf "_law_amount" "_law_amount" (defArgs s__law_amount) (defBody s__law_amount) (defScope s__law_amount) .none kV5 dc5 pm5 an5 cd5 ct5), sl5⟩) (c5 : PySem.W.codeIn K cd5 "_law_amount" = true) (k5 : PySem.W.keepIn K (.ref f5) = true)
    (a6 : PySem.W.nsIn K mainGlobals "_law_row" = some (some (.ref f6))) (l6 : K.lookup f6 = some ⟨oc6, od6, .func (PySem.W.fnOf "_law_row" "_law_row" (defArgs s__law_row) (defBody s__law_row) (defScope s__law_row) .none kV6 dc6 pm6 an6 cd6 ct6), sl6⟩) (c6 : PySem.W.codeIn K cd6 "_law_row" = true) (k6 : PySem.W.keepIn K (.ref f6) = true)
    (a7 : PySem.W.nsIn K mainGlobals "_law_mixed_row" = some (some (.ref f7))) (l7 : K.lookup f7 = some ⟨oc7, od7, .func (PySem.W.fnOf "_law_mixed_row" "_law_mixed_row" (defArgs s__law_mixed_row) (defBody s__law_mixed_row) (defScope s__law_mixed_row) .none kV7 dc7 pm7 an7 cd7 ct7), sl7⟩) (c7 : PySem.W.codeIn K cd7 "_law_mixed_row" = true) (k7 : PySem.W.keepIn K (.ref f7) = true)
    (a8 : PySem.W.nsIn K mainGlobals "_law_is_game" = some (some (.ref f8))) (l8 : K.lookup f8 = some ⟨oc8, od8, .func (PySem.W.fnOf "_law_is_game" "_law_is_game" (defArgs s__law_is_game) (defBody s__law_is_game) (defScope s__law_is_game) .none kV8 dc8 pm8 an8 cd8 ct8), sl8⟩) (c8 : PySem.W.codeIn K cd8 "_law_is_game" = true) (k8 : PySem.W.keepIn K (.ref f8) = true)
    (a9 : PySem.W.nsIn K mainGlobals "law" = some (some (.ref f9))) (l9 : K.lookup f9 = some ⟨oc9, od9, .func (PySem.W.fnOf "law" "law" (defArgs s_law) (defBody s_law) (defScope s_law) .none kV9 dc9 pm9 an9 cd9 ct9), sl9⟩) (c9 : PySem.W.codeIn K cd9 "law" = true) (k9 : PySem.W.keepIn K (.ref f9) = true)
    (z_len : PySem.W.nsIn K mainGlobals "len" = some none)
    (z_abs : PySem.W.nsIn K mainGlobals "abs" = some none)
    (z_sorted : PySem.W.nsIn K mainGlobals "sorted" = some none)
    (z_isinstance : PySem.W.nsIn K mainGlobals "isinstance" = some none)
    (z_int : PySem.W.nsIn K mainGlobals "int" = some none)
    (z_bool : PySem.W.nsIn K mainGlobals "bool" = some none)
    (z_range : PySem.W.nsIn K mainGlobals "range" = some none)
    (z_enumerate : PySem.W.nsIn K mainGlobals "enumerate" = some none)
    (z_list : PySem.W.nsIn K mainGlobals "list" = some none)
    (z_reversed : PySem.W.nsIn K mainGlobals "reversed" = some none)
    (z_zip : PySem.W.nsIn K mainGlobals "zip" = some none)
    (z_tuple : PySem.W.nsIn K mainGlobals "tuple" = some none)
    (v_MOST_PLACES : PySem.W.nsIn K mainGlobals "MOST_PLACES" = some (some (.int 16 t_MOST_PLACES)))
    (xe_NoWay : PySem.W.nsIn K mainGlobals "NoWay" = some (some (.ref gx_NoWay))) (xq_NoWay : PySem.W.excIn K gx_NoWay [.type "ValueError", .type "Exception", .type "BaseException", .type "object"] "ValueError.__new__" = true) (xk_NoWay : PySem.W.keepIn K (.ref gx_NoWay) = true) (xs_NoWay : PySem.W.subIn K (.ref gx_NoWay) (.type "BaseException") = some true) (xt_NoWay : PySem.W.typeIn K (.ref gx_NoWay) = some (.type "type"))
    (xe_NoAmount : PySem.W.nsIn K mainGlobals "NoAmount" = some (some (.ref gx_NoAmount))) (xq_NoAmount : PySem.W.excIn K gx_NoAmount [.type "ValueError", .type "Exception", .type "BaseException", .type "object"] "ValueError.__new__" = true) (xk_NoAmount : PySem.W.keepIn K (.ref gx_NoAmount) = true) (xs_NoAmount : PySem.W.subIn K (.ref gx_NoAmount) (.type "BaseException") = some true) (xt_NoAmount : PySem.W.typeIn K (.ref gx_NoAmount) = some (.type "type"))
    (xe_TooMany : PySem.W.nsIn K mainGlobals "TooMany" = some (some (.ref gx_TooMany))) (xq_TooMany : PySem.W.excIn K gx_TooMany [.type "ValueError", .type "Exception", .type "BaseException", .type "object"] "ValueError.__new__" = true) (xk_TooMany : PySem.W.keepIn K (.ref gx_TooMany) = true) (xs_TooMany : PySem.W.subIn K (.ref gx_TooMany) (.type "BaseException") = some true) (xt_TooMany : PySem.W.typeIn K (.ref gx_TooMany) = some (.type "type"))
    (xe_NoHand : PySem.W.nsIn K mainGlobals "NoHand" = some (some (.ref gx_NoHand))) (xq_NoHand : PySem.W.excIn K gx_NoHand [.type "ValueError", .type "Exception", .type "BaseException", .type "object"] "ValueError.__new__" = true) (xk_NoHand : PySem.W.keepIn K (.ref gx_NoHand) = true) (xs_NoHand : PySem.W.subIn K (.ref gx_NoHand) (.type "BaseException") = some true) (xt_NoHand : PySem.W.typeIn K (.ref gx_NoHand) = some (.type "type"))
    : ∃ fd : FuncData, (∀ (s : Shared) (u : Value), BindsTo s fd ⟨[u], []⟩ [("_law_script", u)]) ∧ ∀ base : Heap, K.In base → base.Ns mainGlobals mg → FnOk P w K mg base (L2.CX P w) 3 fa fd ["_law_script"] (spScrB K) := by
  have e := hfa.symm.trans (PySem.W.mg_of X G a9)
  cases e
  have T : Txt K mg := ⟨PySem.W.mg_none_of X G z_len, PySem.W.mg_none_of X G z_abs, PySem.W.mg_none_of X G z_sorted, PySem.W.mg_none_of X G z_isinstance, PySem.W.mg_none_of X G z_int, PySem.W.mg_none_of X G z_bool, PySem.W.mg_none_of X G z_range, PySem.W.mg_none_of X G z_enumerate, PySem.W.mg_none_of X G z_list, PySem.W.mg_none_of X G z_reversed, PySem.W.mg_none_of X G z_zip, PySem.W.mg_none_of X G z_tuple, ⟨⟨gx_NoWay, "ValueError", "ValueError.__new__", "ValueError.__init__", [.type "ValueError", .type "Exception", .type "BaseException", .type "object"], PySem.F.excBase_ValueError, xq_NoWay, PySem.W.mg_of X G xe_NoWay, xk_NoWay, xs_NoWay, xt_NoWay⟩⟩, ⟨⟨gx_NoAmount, "ValueError", "ValueError.__new__", "ValueError.__init__", [.type "ValueError", .type "Exception", .type "BaseException", .type "object"], PySem.F.excBase_ValueError, xq_NoAmount, PySem.W.mg_of X G xe_NoAmount, xk_NoAmount, xs_NoAmount, xt_NoAmount⟩⟩, ⟨⟨gx_TooMany, "ValueError", "ValueError.__new__", "ValueError.__init__", [.type "ValueError", .type "Exception", .type "BaseException", .type "object"], PySem.F.excBase_ValueError, xq_TooMany, PySem.W.mg_of X G xe_TooMany, xk_TooMany, xs_TooMany, xt_TooMany⟩⟩, ⟨⟨gx_NoHand, "ValueError", "ValueError.__new__", "ValueError.__init__", [.type "ValueError", .type "Exception", .type "BaseException", .type "object"], PySem.F.excBase_ValueError, xq_NoHand, PySem.W.mg_of X G xe_NoHand, xk_NoHand, xs_NoHand, xt_NoHand⟩⟩, ⟨_, PySem.W.mg_of X G v_MOST_PLACES⟩⟩
  have F0 := fun_mk (st := s_look_at_ways) l0 c0 k0
  have b0 := F0.binds (ps := ["ways", "many"]) fun _ _ _ _ _ _ us hl => match us, hl with | [_, _], _ => rfl
  have F1 := fun_mk (st := s_look_at_amounts) l1 c1 k1
  have b1 := F1.binds (ps := ["ways"]) fun _ _ _ _ _ _ us hl => match us, hl with | [_], _ => rfl
  have F2 := fun_mk (st := s_purse_game) l2 c2 k2
  have b2 := F2.binds (ps := ["rows"]) fun _ _ _ _ _ _ us hl => match us, hl with | [_], _ => rfl
  have F3 := fun_mk (st := s__law_at) l3 c3 k3
  have b3 := F3.binds (ps := ["_law_script", "_law_k"]) fun _ _ _ _ _ _ us hl => match us, hl with | [_, _], _ => rfl
  have F4 := fun_mk (st := s__law_whole) l4 c4 k4
  have b4 := F4.binds (ps := ["_law_found"]) fun _ _ _ _ _ _ us hl => match us, hl with | [_], _ => rfl
  have F5 := fun_mk (st := s__law_amount) l5 c5 k5
  have b5 := F5.binds (ps := ["_law_cell", "_law_j"]) fun _ _ _ _ _ _ us hl => match us, hl with | [_, _], _ => rfl
  have F6 := fun_mk (st := s__law_row) l6 c6 k6
  have b6 := F6.binds (ps := ["_law_script", "_law_k", "_law_many"]) fun _ _ _ _ _ _ us hl => match us, hl with | [_, _, _], _ => rfl
  have F7 := fun_mk (st := s__law_mixed_row) l7 c7 k7
  have b7 := F7.binds (ps := ["_law_script", "_law_k", "_law_row_here"]) fun _ _ _ _ _ _ us hl => match us, hl with | [_, _, _], _ => rfl
  have F8 := fun_mk (st := s__law_is_game) l8 c8 k8
  have b8 := F8.binds (ps := ["_law_found", "_law_due"]) fun _ _ _ _ _ _ us hl => match us, hl with | [_, _], _ => rfl
  have F9 := fun_mk (st := s_law) l9 c9 k9
  refine ⟨PySem.W.fnOf "law" "law" (defArgs s_law) (defBody s_law) (defScope s_law) .none kV9 dc9 pm9 an9 cd9 ct9, fun s v => .of_eq rfl, fun base _ _ => ?_⟩
  have D__law_at := ok__law_at (P := P) (w := w) (base := base) T  F3 (PySem.W.mg_of X G a3) b3
  have D__law_amount := ok__law_amount (P := P) (w := w) (base := base) T  F5 (PySem.W.mg_of X G a5) b5
  have D__law_row := ok__law_row (P := P) (w := w) (base := base) T D__law_at D__law_amount F6 (PySem.W.mg_of X G a6) b6
  have D__law_mixed_row := ok__law_mixed_row (P := P) (w := w) (base := base) T D__law_at F7 (PySem.W.mg_of X G a7) b7
  have D_look_at_ways := ok_look_at_ways (P := P) (w := w) (base := base) T  F0 (PySem.W.mg_of X G a0) b0
  have D_look_at_amounts := ok_look_at_amounts (P := P) (w := w) (base := base) T  F1 (PySem.W.mg_of X G a1) b1
  have D_purse_game := ok_purse_game (P := P) (w := w) (base := base) T D_look_at_ways D_look_at_amounts F2 (PySem.W.mg_of X G a2) b2
  have D__law_whole := ok__law_whole (P := P) (w := w) (base := base) T  F4 (PySem.W.mg_of X G a4) b4
  have D__law_is_game := ok__law_is_game (P := P) (w := w) (base := base) T D__law_whole F8 (PySem.W.mg_of X G a8) b8
  exact fn_scrB (fn_law T D__law_at D__law_row D__law_mixed_row D_purse_game D__law_is_game F9) law_true
end K
open PySem PySem.W PyProof.Rows in
set_option maxRecDepth 100000 in
set_option maxHeartbeats 0 in
theorem PySem.Challenge.cw_rankgarth_k26_a_purse_game_holds : PySem.Challenge.rw_rankgarth_k26_a_purse_game.Holds := by
  w_on; o_law; k_head; (case hw => w_witness2)
  k_fill
  refine DL.scr_walkB (l := PySem.Challenge.rw_rankgarth_k26_a_purse_game) (k := 3) (x := "_law_script") rfl rfl ⟨rfl, by decide, by decide⟩ (fun w h Y => PySem.W.kIn_of Y) ?F
  case F =>
    intro w mg fa h KX G hmg
    refine' K.all_mk KX G hmg ?a0 ?l0 ?c0 ?k0 ?a1 ?l1 ?c1 ?k1 ?a2 ?l2 ?c2 ?k2 ?a3 ?l3 ?c3 ?k3 ?a4 ?l4 ?c4 ?k4 ?a5 ?l5 ?c5 ?k5 ?a6 ?l6 ?c6 ?k6 ?a7 ?l7 ?c7 ?k7 ?a8 ?l8 ?c8 ?k8 ?a9 ?l9 ?c9 ?k9 ?z_len ?z_abs ?z_sorted ?z_isinstance ?z_int ?z_bool ?z_range ?z_enumerate ?z_list ?z_reversed ?z_zip ?z_tuple ?v_MOST_PLACES ?xe_NoWay ?xq_NoWay ?xk_NoWay ?xs_NoWay ?xt_NoWay ?xe_NoAmount ?xq_NoAmount ?xk_NoAmount ?xs_NoAmount ?xt_NoAmount ?xe_TooMany ?xq_TooMany ?xk_TooMany ?xs_TooMany ?xt_TooMany ?xe_NoHand ?xq_NoHand ?xk_NoHand ?xs_NoHand ?xt_NoHand
    (case a0 => k_is)
    (case l0 => k_is)
    (case c0 => k_is)
    (case k0 => k_is)
    (case a1 => k_is)
    (case l1 => k_is)
    (case c1 => k_is)
    (case k1 => k_is)
    (case a2 => k_is)
    (case l2 => k_is)
    (case c2 => k_is)
    (case k2 => k_is)
    (case a3 => k_is)
    (case l3 => k_is)
    (case c3 => k_is)
    (case k3 => k_is)
    (case a4 => k_is)
    (case l4 => k_is)
    (case c4 => k_is)
    (case k4 => k_is)
    (case a5 => k_is)
    (case l5 => k_is)
    (case c5 => k_is)
    (case k5 => k_is)
    (case a6 => k_is)
    (case l6 => k_is)
    (case c6 => k_is)
    (case k6 => k_is)
    (case a7 => k_is)
    (case l7 => k_is)
    (case c7 => k_is)
    (case k7 => k_is)
    (case a8 => k_is)
    (case l8 => k_is)
    (case c8 => k_is)
    (case k8 => k_is)
    (case a9 => k_is)
    (case l9 => k_is)
    (case c9 => k_is)
    (case k9 => k_is)
    (case z_len => k_is)
    (case z_abs => k_is)
    (case z_sorted => k_is)
    (case z_isinstance => k_is)
    (case z_int => k_is)
    (case z_bool => k_is)
    (case z_range => k_is)
    (case z_enumerate => k_is)
    (case z_list => k_is)
    (case z_reversed => k_is)
    (case z_zip => k_is)
    (case z_tuple => k_is)
    (case v_MOST_PLACES => k_is)
    (case xe_NoWay => k_is)
    (case xq_NoWay => k_exc)
    (case xk_NoWay => k_is)
    (case xs_NoWay => k_is)
    (case xt_NoWay => k_is)
    (case xe_NoAmount => k_is)
    (case xq_NoAmount => k_exc)
    (case xk_NoAmount => k_is)
    (case xs_NoAmount => k_is)
    (case xt_NoAmount => k_is)
    (case xe_TooMany => k_is)
    (case xq_TooMany => k_exc)
    (case xk_TooMany => k_is)
    (case xs_TooMany => k_is)
    (case xt_TooMany => k_is)
    (case xe_NoHand => k_is)
    (case xq_NoHand => k_exc)
    (case xk_NoHand => k_is)
    (case xs_NoHand => k_is)
    (case xt_NoHand => k_is)

