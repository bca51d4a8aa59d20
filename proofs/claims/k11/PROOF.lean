import PyProof.Rows.All
import Wide.All
import OpenK.AllK
import Wide.FinOn
import HandS.ForMost
import HandS.ForExc
import HandS.TupAny
import HandS.TupLe
import HandS.Style
import HandS.Deep
import HandS.IsInst
import HandS.Wide
import HandS.Defaults
import HandS.Iter
import HandS.Zip
import HandS.Rev
import HandS.HeadHook1
import HandS.HeadHook2
import HandS.EndBits
import HandS.Head2
import PySem.Challenge.RW_fitmost_k11_names
set_option Elab.async false
set_option linter.all false
set_option maxRecDepth 100000
set_option maxHeartbeats 4000000
/-! Values as plain data, and how they lie in the heap: frozen data, owned trees, slots, steps. -/
namespace Vm
open PySem PySem.Spec PyProof.Rows L2

/-! ### plain data -/
inductive D where
  | non | bl (b : Bool) | int (i : Int) | str (s : List Nat)
  | tup (xs : List D) | lst (xs : List D) | dct (ks vs : List D)
  | ins (c : Str) (ns : List Str) (vs : List D)
  /-- the script -/
  | scr (ns : List Int)
  deriving Inhabited

mutual
/-- how deep a value is owned: not at all, or its node with its children -/
inductive Md where
  | z
  | o (k : Kd)
inductive Kd where
  | all (m : Md)
  | one (m : Md) (k : Kd)
end
def Kd.hd : Kd → Md
  | .all m => m
  | .one m _ => m
def Kd.tl : Kd → Kd
  | .all m => .all m
  | .one _ k => k
/-- a node of its own, its children frozen -/
abbrev m1 : Md := .o (.all .z)

abbrev Sl := Option (Md × D)
abbrev En := List Sl
inductive Res (α : Type) where
  | ok (a : α) (r : En)
  | exc (c : Str) (ns : List Str) (vs : List D) (r : En)
  | bad
abbrev M (α : Type) := En → Res α
def Res.bind {α β : Type} (x : Res α) (f : α → M β) : Res β := match x with
  | .ok a r => f a r
  | .exc c ns vs r => .exc c ns vs r
  | .bad => .bad
@[simp] theorem bind_ok {α β : Type} (a : α) (r : En) (f : α → M β) : (Res.ok a r).bind f = f a r := rfl
@[simp] theorem bind_exc {α β : Type} (c : Str) (ns : List Str) (vs : List D) (r : En) (f : α → M β) : (Res.exc c ns vs r : Res α).bind f = .exc c ns vs r := rfl
@[simp] theorem bind_bad {α β : Type} (f : α → M β) : (Res.bad : Res α).bind f = .bad := rfl
abbrev getS (r : En) (i : Nat) : Sl := r.getD i none

/-- which slots may be changed -/
abbrev Ms := Nat → Bool
abbrev ms0 : Ms := fun _ => false
abbrev msA : Ms := fun _ => true
abbrev msU (a b : Ms) : Ms := fun i => a i || b i
abbrev msO (i : Nat) : Ms := fun j => j == i

/-! ### frozen data in the heap -/
def kD : Key → D
  | .inl i => .int i
  | .inr x => .str x.cps.toList
abbrev sV (s : List Nat) : V := .str ⟨s.toArray⟩
def sOk (s : List Nat) : Bool := decide (s.length ≤ 16777216) && s.all (fun c => decide (c < 1114112))
/-- the texts of a key are of a fit size -/
def kOk : Key → Bool
  | .inl _ => true
  | .inr x => sOk x.cps.toList
def DctAt (H : Hp) (a : Addr) (ks : List D) (vs : List V) : Prop :=
  (∃ kvs : List (Key × V), H a = some (.dK kvs) ∧ (kvs.all fun p => kOk p.1) = true ∧ ks = kvs.map (fun p => kD p.1) ∧ vs = kvs.map (·.2)) ∨
  ∃ kvs : List (List Key × V), H a = some (.dT kvs) ∧ (kvs.all fun p => p.1.all kOk) = true ∧ ks = kvs.map (fun p => .tup (p.1.map kD)) ∧ vs = kvs.map (·.2)
def DctOw (H : Hp) (a : Addr) (ks : List D) (vs : List V) : Prop :=
  (∃ kvs : List (Key × V), H a = some (.dK kvs) ∧ (kvs.all fun p => kOk p.1) = true ∧ ks = kvs.map (fun p => kD p.1) ∧ vs = kvs.map (·.2)) ∨
  ∃ kvs : List (List Key × V), H a = some (.dT kvs) ∧ (kvs.all fun p => p.1.all kOk) = true ∧ ks = kvs.map (fun p => .tup (p.1.map kD)) ∧ vs = kvs.map (·.2)
section
variable (K : PySem.W.Frag) (mg : Str → Option Value)
mutual
def Fz (H : Hp) : D → V → Prop
  | .non, v => v = .non
  | .bl b, v => v = .bl b
  | .int i, v => v = .int i
  | .str s, v => v = sV s ∧ sOk s = true
  | .scr ns, v => ∃ a, v = .ref a ∧ SqL K H a (ns.map V.int)
  | .tup ds, v => ∃ a vs, v = .ref a ∧ SqT K H a vs ∧ Fzs H ds vs
  | .lst ds, v => ∃ a vs, v = .ref a ∧ H a = some (.lst vs) ∧ Fzs H ds vs
  | .dct ks ds, v => ∃ a vs, v = .ref a ∧ DctAt H a ks vs ∧ Fzs H ds vs
  | .ins c ns ds, v => ∃ a C dx vs, v = .ref a ∧ mg c = some (.ref C) ∧ H a = some (.ins C dx (ns.zip vs)) ∧ ns.length = ds.length ∧ Fzs H ds vs
def Fzs (H : Hp) : List D → List V → Prop
  | [], vs => vs = []
  | d :: ds, vs => ∃ v r, vs = v :: r ∧ Fz H d v ∧ Fzs H ds r
end
/-- the node is read in H, what is within is frozen in H0 -/
def Sh (H0 H : Hp) : D → V → Prop
  | .lst ds, v => ∃ a vs, v = .ref a ∧ H a = some (.lst vs) ∧ Fzs K mg H0 ds vs
  | .scr ns, v => ∃ a, v = .ref a ∧ SqL K H a (ns.map V.int)
  | .dct ks ds, v => ∃ a vs, v = .ref a ∧ DctAt H a ks vs ∧ Fzs K mg H0 ds vs
  | .ins c ns ds, v => ∃ a C dx vs, v = .ref a ∧ mg c = some (.ref C) ∧ H a = some (.ins C dx (ns.zip vs)) ∧ ns.length = ds.length ∧ Fzs K mg H0 ds vs
  | d, v => Fz K mg H0 d v
mutual
/-- an owned tree: its nodes' addresses at fp -/
def Ow (H0 H : Hp) : D → Md → V → List Addr → Prop
  | d, .z, v, fp => fp = [] ∧ Fz K mg H0 d v
  | .lst ds, .o k, v, fp => ∃ a vs g, v = .ref a ∧ H a = some (.lst vs) ∧ fp = a :: g ∧ Ows H0 H ds k vs g
  | .tup ds, .o k, v, fp => ∃ a vs g, v = .ref a ∧ H a = some (.tup vs) ∧ fp = a :: g ∧ Ows H0 H ds k vs g
  | .dct ks ds, .o k, v, fp => ∃ a vs g, v = .ref a ∧ fp = a :: g ∧ DctOw H a ks vs ∧ Ows H0 H ds k vs g
  | .ins c ns ds, .o k, v, fp => ∃ a C dx vs g, v = .ref a ∧ fp = a :: g ∧ mg c = some (.ref C) ∧ H a = some (.ins C dx (ns.zip vs)) ∧ ns.length = ds.length ∧ Ows H0 H ds k vs g
  | .non, .o _, v, fp => fp = [] ∧ v = .non
  | .bl b, .o _, v, fp => fp = [] ∧ v = .bl b
  | .int i, .o _, v, fp => fp = [] ∧ v = .int i
  | .str s, .o _, v, fp => fp = [] ∧ v = sV s ∧ sOk s = true
  | .scr ns, .o _, v, fp => False
def Ows (H0 H : Hp) : List D → Kd → List V → List Addr → Prop
  | [], _, vs, fp => vs = [] ∧ fp = []
  | d :: ds, k, vs, fp => ∃ v r f g, vs = v :: r ∧ fp = f ++ g ∧ Ow H0 H d k.hd v f ∧ Ows H0 H ds k.tl r g
end
end
/-! ### they stay -/
def ext (H0 H : Hp) (fp : List Addr) : Hp := fun a => if a ∈ fp then H a else H0 a
theorem ext_in {H0 H : Hp} {fp : List Addr} {a : Addr} (h : a ∈ fp) : ext H0 H fp a = H a := by unfold ext; rw [if_pos h]
theorem ext_out {H0 H : Hp} {fp : List Addr} {a : Addr} (h : a ∉ fp) : ext H0 H fp a = H0 a := by unfold ext; rw [if_neg h]
theorem ext_nil {H0 H : Hp} : ext H0 H [] = H0 := by funext a; exact ext_out (by simp)
theorem same_ext {H0 H : Hp} {fp : List Addr} (s : Same H0 H) : Same H0 (ext H0 H fp) := fun a o e => by
  by_cases h : a ∈ fp
  · rw [ext_in h]; exact s a o e
  · rw [ext_out h]; exact e
theorem ext_same {H0 H : Hp} {fp : List Addr} (s : Same H0 H) : Same (ext H0 H fp) H := fun a o e => by
  by_cases h : a ∈ fp
  · rw [ext_in h] at e; exact e
  · rw [ext_out h] at e; exact s a o e
theorem ext_mono {H0 H : Hp} {fp g : List Addr} (s : Same H0 H) (h : ∀ a ∈ g, a ∈ fp) : Same (ext H0 H g) (ext H0 H fp) := fun a o e => by
  by_cases k : a ∈ fp
  · rw [ext_in k]; exact ext_same s a o e
  · rw [ext_out k]; rw [ext_out (fun z => k (h a z))] at e; exact e
section
variable {K : PySem.W.Frag} {mg : Str → Option Value} {H H' H0 H0' : Hp}
theorem same_rd {a : Addr} {u : HO} (s : Same H H') (h : Rd H a u) : Rd H' a u := by
  rcases h with h | ⟨o, h⟩
  · exact .inl (s _ _ h)
  · exact .inr ⟨o, s _ _ h⟩
theorem same_t {a : Addr} {xs : List V} (s : Same H H') (h : SqT K H a xs) : SqT K H' a xs := by
  rcases h with h | h
  · exact .inl (same_rd s h)
  · exact .inr h
theorem same_d {a : Addr} {ks : List D} {vs : List V} (s : Same H H') (h : DctAt H a ks vs) : DctAt H' a ks vs := by
  rcases h with ⟨kvs, h, e⟩ | ⟨kvs, h, e⟩
  · exact .inl ⟨kvs, s _ _ h, e⟩
  · exact .inr ⟨kvs, s _ _ h, e⟩
theorem DctOw.at {a : Addr} {ks : List D} {vs : List V} (h : DctOw H a ks vs) : DctAt H a ks vs := h
theorem DctOw.eq {a : Addr} {ks : List D} {vs : List V} (h : DctOw H a ks vs) (e : H' a = H a) : DctOw H' a ks vs := by
  rcases h with ⟨kvs, h, q⟩ | ⟨kvs, h, q⟩
  · exact .inl ⟨kvs, by rw [e]; exact h, q⟩
  · exact .inr ⟨kvs, by rw [e]; exact h, q⟩
mutual
theorem Fz.mono (s : Same H H') : ∀ (d : D) (v : V), Fz K mg H d v → Fz K mg H' d v
  | .non, _, h => h
  | .bl _, _, h => h
  | .int _, _, h => h
  | .str _, _, h => h
  | .tup ds, _, ⟨a, vs, e, h, r⟩ => ⟨a, vs, e, same_t s h, Fzs.mono s ds vs r⟩
  | .lst ds, _, ⟨a, vs, e, h, r⟩ => ⟨a, vs, e, s _ _ h, Fzs.mono s ds vs r⟩
  | .scr ns, _, ⟨a, e, h⟩ => ⟨a, e, s.seq h⟩
  | .dct ks ds, _, ⟨a, vs, e, h, r⟩ => ⟨a, vs, e, same_d s h, Fzs.mono s ds vs r⟩
  | .ins c ns ds, _, ⟨a, C, dx, vs, e, g, h, l, r⟩ => ⟨a, C, dx, vs, e, g, s _ _ h, l, Fzs.mono s ds vs r⟩
theorem Fzs.mono (s : Same H H') : ∀ (ds : List D) (vs : List V), Fzs K mg H ds vs → Fzs K mg H' ds vs
  | [], _, h => h
  | d :: ds, _, ⟨v, r, e, h, t⟩ => ⟨v, r, e, Fz.mono s d v h, Fzs.mono s ds r t⟩
end
theorem Fz.sh (s : Same H0 H) : ∀ {d : D} {v : V}, Fz K mg H0 d v → Sh K mg H0 H d v
  | .non, _, h => h
  | .bl _, _, h => h
  | .int _, _, h => h
  | .str _, _, h => h
  | .tup _, _, h => h
  | .lst _, _, ⟨a, vs, e, h, r⟩ => ⟨a, vs, e, s _ _ h, r⟩
  | .scr _, _, ⟨a, e, h⟩ => ⟨a, e, s.seq h⟩
  | .dct _ _, _, ⟨a, vs, e, h, r⟩ => ⟨a, vs, e, same_d s h, r⟩
  | .ins _ _ _, _, ⟨a, C, dx, vs, e, g, h, l, r⟩ => ⟨a, C, dx, vs, e, g, s _ _ h, l, r⟩
theorem Sh.fz (s : Same H0 H) : ∀ {d : D} {v : V}, Sh K mg H0 H d v → Fz K mg H d v
  | .scr _, _, h => h
  | .non, _, h => h
  | .bl _, _, h => h
  | .int _, _, h => h
  | .str _, _, h => h
  | .tup ds, v, h => Fz.mono s (.tup ds) v h
  | .lst _, _, ⟨a, vs, e, h, r⟩ => ⟨a, vs, e, h, Fzs.mono s _ _ r⟩
  | .dct _ _, _, ⟨a, vs, e, h, r⟩ => ⟨a, vs, e, h, Fzs.mono s _ _ r⟩
  | .ins _ _ _, _, ⟨a, C, dx, vs, e, g, h, l, r⟩ => ⟨a, C, dx, vs, e, g, h, l, Fzs.mono s _ _ r⟩
theorem Ow.zero {d : D} {v : V} {fp : List Addr} : Ow K mg H0 H d .z v fp ↔ fp = [] ∧ Fz K mg H0 d v := by cases d <;> simp [Ow]
mutual
/-- the tree stays where its nodes stay -/
theorem Ow.mono (s : Same H0 H0') : ∀ (d : D) (m : Md) (v : V) (fp : List Addr), (∀ a ∈ fp, H' a = H a) → Ow K mg H0 H d m v fp → Ow K mg H0' H' d m v fp
  | d, .z, v, fp, _, h => Ow.zero.mpr ⟨(Ow.zero.mp h).1, Fz.mono s d v (Ow.zero.mp h).2⟩
  | .non, .o _, _, _, _, h => h
  | .bl _, .o _, _, _, _, h => h
  | .int _, .o _, _, _, _, h => h
  | .str _, .o _, _, _, _, h => h
  | .scr _, .o _, _, _, _, h => h
  | .tup ds, .o k, _, _, q, ⟨a, vs, g, e, h, ef, r⟩ => by
    subst ef
    exact ⟨a, vs, g, e, by rw [q a List.mem_cons_self]; exact h, rfl, Ows.mono s ds k vs g (fun b hb => q b (List.mem_cons_of_mem _ hb)) r⟩
  | .lst ds, .o k, _, _, q, ⟨a, vs, g, e, h, ef, r⟩ => by
    subst ef
    exact ⟨a, vs, g, e, by rw [q a List.mem_cons_self]; exact h, rfl, Ows.mono s ds k vs g (fun b hb => q b (List.mem_cons_of_mem _ hb)) r⟩
  | .dct ks ds, .o k, _, _, q, ⟨a, vs, g, e, ef, h, r⟩ => by
    subst ef
    exact ⟨a, vs, g, e, rfl, h.eq (q a List.mem_cons_self), Ows.mono s ds k vs g (fun b hb => q b (List.mem_cons_of_mem _ hb)) r⟩
  | .ins c ns ds, .o k, _, _, q, ⟨a, C, dx, vs, g, e, ef, hm, h, l, r⟩ => by
    subst ef
    exact ⟨a, C, dx, vs, g, e, rfl, hm, by rw [q a List.mem_cons_self]; exact h, l, Ows.mono s ds k vs g (fun b hb => q b (List.mem_cons_of_mem _ hb)) r⟩
theorem Ows.mono (s : Same H0 H0') : ∀ (ds : List D) (k : Kd) (vs : List V) (fp : List Addr), (∀ a ∈ fp, H' a = H a) → Ows K mg H0 H ds k vs fp → Ows K mg H0' H' ds k vs fp
  | [], _, _, _, _, h => h
  | d :: ds, k, _, _, q, ⟨v, r, f, g, e, ef, h, t⟩ => by
    subst ef
    exact ⟨v, r, f, g, e, rfl, Ow.mono s d k.hd v f (fun a ha => q a (List.mem_append_left _ ha)) h, Ows.mono s ds k.tl r g (fun a ha => q a (List.mem_append_right _ ha)) t⟩
end
mutual
/-- frozen: the nodes are handed to the frozen heap -/
theorem Ow.frz (s : Same H0 H) : ∀ (d : D) (m : Md) (v : V) (fp : List Addr), Ow K mg H0 H d m v fp → Fz K mg (ext H0 H fp) d v
  | d, .z, v, fp, h => Fz.mono (same_ext s) d v (Ow.zero.mp h).2
  | .non, .o _, _, _, h => h.2
  | .bl _, .o _, _, _, h => h.2
  | .int _, .o _, _, _, h => h.2
  | .str _, .o _, _, _, h => h.2
  | .scr _, .o _, _, _, h => h.elim
  | .tup ds, .o k, _, _, ⟨a, vs, g, e, h, ef, r⟩ => by
    subst ef
    exact ⟨a, vs, e, .inl (.inl (by rw [ext_in List.mem_cons_self]; exact h)), Fzs.mono (ext_mono s fun b hb => List.mem_cons_of_mem _ hb) ds vs (Ows.frz s ds k vs g r)⟩
  | .lst ds, .o k, _, _, ⟨a, vs, g, e, h, ef, r⟩ => by
    subst ef
    exact ⟨a, vs, e, by rw [ext_in List.mem_cons_self]; exact h, Fzs.mono (ext_mono s fun b hb => List.mem_cons_of_mem _ hb) ds vs (Ows.frz s ds k vs g r)⟩
  | .dct ks ds, .o k, _, _, ⟨a, vs, g, e, ef, h, r⟩ => by
    subst ef
    exact ⟨a, vs, e, (h.eq (ext_in List.mem_cons_self)).at, Fzs.mono (ext_mono s fun b hb => List.mem_cons_of_mem _ hb) ds vs (Ows.frz s ds k vs g r)⟩
  | .ins c ns ds, .o k, _, _, ⟨a, C, dx, vs, g, e, ef, hm, h, l, r⟩ => by
    subst ef
    exact ⟨a, C, dx, vs, e, hm, by rw [ext_in List.mem_cons_self]; exact h, l, Fzs.mono (ext_mono s fun b hb => List.mem_cons_of_mem _ hb) ds vs (Ows.frz s ds k vs g r)⟩
theorem Ows.frz (s : Same H0 H) : ∀ (ds : List D) (k : Kd) (vs : List V) (fp : List Addr), Ows K mg H0 H ds k vs fp → Fzs K mg (ext H0 H fp) ds vs
  | [], _, _, _, h => h.1
  | d :: ds, k, _, _, ⟨v, r, f, g, e, ef, h, t⟩ => by
    subst ef
    exact ⟨v, r, e, Fz.mono (ext_mono s fun b hb => List.mem_append_left _ hb) d v (Ow.frz s d k.hd v f h), Fzs.mono (ext_mono s fun b hb => List.mem_append_right _ hb) ds r (Ows.frz s ds k.tl r g t)⟩
end
/-- an owned tree is readable in the whole heap -/
theorem Ow.fz (s : Same H0 H) {d : D} {m : Md} {v : V} {fp : List Addr} (h : Ow K mg H0 H d m v fp) : Fz K mg H d v := Fz.mono (ext_same s) d v (Ow.frz s d m v fp h)
theorem Ows.all_z : ∀ {ds : List D} {vs : List V} {fp : List Addr}, Ows K mg H0 H ds (.all .z) vs fp ↔ fp = [] ∧ Fzs K mg H0 ds vs
  | [], vs, fp => ⟨fun h => ⟨h.2, h.1⟩, fun h => ⟨h.2, h.1⟩⟩
  | d :: ds, vs, fp => by
    constructor
    · rintro ⟨v, r, f, g, e, ef, h, t⟩
      obtain ⟨z1, q1⟩ := Ow.zero.mp h
      obtain ⟨z2, q2⟩ := Ows.all_z.mp t
      subst z1 z2
      exact ⟨ef, v, r, e, q1, q2⟩
    · rintro ⟨ef, v, r, e, q1, q2⟩
      exact ⟨v, r, [], [], e, ef, Ow.zero.mpr ⟨rfl, q1⟩, Ows.all_z.mpr ⟨rfl, q2⟩⟩
/-- what may be lent for reading -/
def lend : D → Bool
  | .tup _ => false
  | .scr _ => false
  | _ => true
/-- at mode one what is within is frozen -/
theorem Ow.sh : ∀ {d : D} {v : V} {fp : List Addr}, lend d = true → Ow K mg H0 H d m1 v fp → Sh K mg H0 H d v
  | .non, _, _, _, h => h.2
  | .bl _, _, _, _, h => h.2
  | .int _, _, _, _, h => h.2
  | .str _, _, _, _, h => h.2
  | .lst _, _, _, _, ⟨a, vs, g, e, h, ef, r⟩ => ⟨a, vs, e, h, (Ows.all_z.mp r).2⟩
  | .dct _ _, _, _, _, ⟨a, vs, g, e, ef, h, r⟩ => ⟨a, vs, e, h.at, (Ows.all_z.mp r).2⟩
  | .ins _ _ _, _, _, _, ⟨a, C, dx, vs, g, e, ef, hm, h, l, r⟩ => ⟨a, C, dx, vs, e, hm, h, l, (Ows.all_z.mp r).2⟩
end
end Vm
set_option Elab.async false
set_option linter.all false
set_option maxRecDepth 100000
set_option maxHeartbeats 4000000
namespace Vm
open PySem PySem.Spec PyProof.Rows L2

/-! ### who owns what, steps -/
abbrev Co := Addr → Option Nat
structure Step (ms : Ms) (H0 H : Hp) (c : Co) (H0' H' : Hp) (c' : Co) : Prop where
  keep : ∀ a o, H a = some o → (∀ i, c a = some i → ms i = false) → H' a = some o
  col : ∀ a o, H a = some o → (∀ i, c a = some i → ms i = false) → c' a = c a
  grow : Same H0 H0'
  new0 : ∀ a o, H0' a = some o → (∃ u, H0 a = some u) ∨ H a = none ∨ ∃ i, c a = some i ∧ ms i = true
  newc : ∀ a i, c' a = some i → c a = some i ∨ (ms i = true ∧ (H a = none ∨ ∃ j, c a = some j ∧ ms j = true))
section
variable {ms ms' : Ms} {H0 H H0' H' H0'' H'' : Hp} {c c' c'' : Co} {a : Addr} {o : HO}
theorem Step.refl : Step ms H0 H c H0 H c := ⟨fun _ _ h _ => h, fun _ _ _ _ => rfl, Same.refl _, fun _ _ h => .inl ⟨_, h⟩, fun _ _ h => .inl h⟩
theorem Step.mono (s : Step ms H0 H c H0' H' c') (h : ∀ i, ms i = true → ms' i = true) : Step ms' H0 H c H0' H' c' := by
  have n : ∀ i, ms' i = false → ms i = false := fun i e => by
    cases q : ms i with
    | false => rfl
    | true => rw [h i q] at e; cases e
  refine ⟨fun a o e k => s.keep a o e fun i z => n i (k i z), fun a o e k => s.col a o e fun i z => n i (k i z), s.grow, fun a o e => ?_, fun a i e => ?_⟩
  · rcases s.new0 a o e with z | z | ⟨i, z, q⟩
    · exact .inl z
    · exact .inr (.inl z)
    · exact .inr (.inr ⟨i, z, h i q⟩)
  · rcases s.newc a i e with z | ⟨q, z | ⟨j, z, p⟩⟩
    · exact .inl z
    · exact .inr ⟨h i q, .inl z⟩
    · exact .inr ⟨h i q, .inr ⟨j, z, h j p⟩⟩
/-- what is not there behind was not there, or was given up -/
theorem Step.gone (s : Step ms H0 H c H0' H' c') (h : H' a = none) : H a = none ∨ ∃ i, c a = some i ∧ ms i = true := by
  cases e : H a with
  | none => exact .inl rfl
  | some o =>
    refine .inr (Classical.byContradiction fun n => ?_)
    have := s.keep a o e fun i z => by
      cases q : ms i with
      | false => rfl
      | true => exact absurd ⟨i, z, q⟩ n
    rw [h] at this; cases this
theorem Step.owned (s : Step ms H0 H c H0' H' c') {i : Nat} (h : c' a = some i) (q : ms i = true) : H a = none ∨ ∃ j, c a = some j ∧ ms j = true := by
  rcases s.newc a i h with z | ⟨_, z⟩
  · exact .inr ⟨i, z, q⟩
  · exact z
theorem Step.trans (s : Step ms H0 H c H0' H' c') (t : Step ms H0' H' c' H0'' H'' c'') : Step ms H0 H c H0'' H'' c'' := by
  refine ⟨fun a o e k => ?_, fun a o e k => ?_, s.grow.trans t.grow, fun a o e => ?_, fun a i e => ?_⟩
  · have e1 := s.keep a o e k
    exact t.keep a o e1 fun i z => k i (by rw [← s.col a o e k]; exact z)
  · have e1 := s.keep a o e k
    have e2 := s.col a o e k
    rw [t.col a o e1 fun i z => k i (by rw [← e2]; exact z), e2]
  · rcases t.new0 a o e with ⟨u, z⟩ | z | ⟨i, z, q⟩
    · exact s.new0 a u z
    · exact .inr (s.gone z)
    · exact .inr (s.owned z q)
  · rcases t.newc a i e with z | ⟨q, z | ⟨j, z, p⟩⟩
    · exact s.newc a i z
    · exact .inr ⟨q, s.gone z⟩
    · exact .inr ⟨q, s.owned z p⟩
theorem Step.same (s : Step ms0 H0 H c H0' H' c') : Same H H' := fun a o e => s.keep a o e fun _ _ => rfl
end

mutual
theorem Ow.there {K : PySem.W.Frag} {mg : Str → Option Value} {H0 H : Hp} : ∀ (d : D) (m : Md) (v : V) (fp : List Addr), Ow K mg H0 H d m v fp → ∀ a ∈ fp, ∃ u, H a = some u
  | d, .z, v, fp, h, a, ha => by rw [(Ow.zero.mp h).1] at ha; cases ha
  | .non, .o _, _, _, h, a, ha => by rw [h.1] at ha; cases ha
  | .bl _, .o _, _, _, h, a, ha => by rw [h.1] at ha; cases ha
  | .int _, .o _, _, _, h, a, ha => by rw [h.1] at ha; cases ha
  | .str _, .o _, _, _, h, a, ha => by rw [h.1] at ha; cases ha
  | .scr _, .o _, _, _, h, a, ha => h.elim
  | .tup ds, .o k, _, _, ⟨b, vs, g, e, h, ef, r⟩, a, ha => by
    subst ef
    rcases List.mem_cons.mp ha with z | ha
    · rw [z]; exact ⟨_, h⟩
    · exact Ows.there ds k vs g r a ha
  | .lst ds, .o k, _, _, ⟨b, vs, g, e, h, ef, r⟩, a, ha => by
    subst ef
    rcases List.mem_cons.mp ha with z | ha
    · rw [z]; exact ⟨_, h⟩
    · exact Ows.there ds k vs g r a ha
  | .dct ks ds, .o k, _, _, ⟨b, vs, g, e, ef, h, r⟩, a, ha => by
    subst ef
    rcases List.mem_cons.mp ha with z | ha
    · rw [z]
      rcases h with ⟨_, h, _⟩ | ⟨_, h, _⟩
      · exact ⟨_, h⟩
      · exact ⟨_, h⟩
    · exact Ows.there ds k vs g r a ha
  | .ins c ns ds, .o k, _, _, ⟨b, C, dx, vs, g, e, ef, hm, h, l, r⟩, a, ha => by
    subst ef
    rcases List.mem_cons.mp ha with z | ha
    · rw [z]; exact ⟨_, h⟩
    · exact Ows.there ds k vs g r a ha
theorem Ows.there {K : PySem.W.Frag} {mg : Str → Option Value} {H0 H : Hp} : ∀ (ds : List D) (k : Kd) (vs : List V) (fp : List Addr), Ows K mg H0 H ds k vs fp → ∀ a ∈ fp, ∃ u, H a = some u
  | [], _, _, _, h, a, ha => by rw [h.2] at ha; cases ha
  | d :: ds, k, _, _, ⟨v, r, f, g, e, ef, h, t⟩, a, ha => by
    subst ef
    rcases List.mem_append.mp ha with ha | ha
    · exact Ow.there d k.hd v f h a ha
    · exact Ows.there ds k.tl r g t a ha
end
/-- how the data lies: frozen data in H0, the owned trees of the slots -/
structure Lies (K : PySem.W.Frag) (mg : Str → Option Value) (H0 H : Hp) (c : Co) (σ : L2.St) (ρ : En) : Prop where
  sub : Same H0 H
  apart : ∀ a i, c a = some i → H0 a = none
  there : ∀ a i, c a = some i → ∃ o, H a = some o
  len : ρ.length = σ.length
  slot : ∀ i m d, getS ρ i = some (m, d) → ∃ v fp, σ[i]? = some (some v) ∧ Ow K mg H0 H d m v fp ∧ fp.Nodup ∧ ∀ a ∈ fp, c a = some i
/-- a result's nodes: new, or handed over -/
structure Fresh (ms : Ms) (H : Hp) (c : Co) (H0' H' : Hp) (c' : Co) (fp : List Addr) : Prop where
  nd : fp.Nodup
  nc : ∀ a ∈ fp, c' a = none
  n0 : ∀ a ∈ fp, H0' a = none
  there : ∀ a ∈ fp, ∃ o, H' a = some o
  new : ∀ a ∈ fp, H a = none ∨ ∃ i, c a = some i ∧ ms i = true
def ExcAt (K : PySem.W.Frag) (mg : Str → Option Value) (H0 : Hp) (n : Str) (ns : List Str) (vs : List D) (cls : Value) (dx : Option Addr) : Prop :=
  ∃ C, mg n = some (.ref C) ∧ cls = .ref C ∧ ((ns = [] ∧ vs = [] ∧ dx = none) ∨ ∃ p fs, dx = some p ∧ H0 p = some (.xd fs) ∧ fs.map (·.1) = ns ∧ Fzs K mg H0 vs (fs.map (·.2)))

section
variable {K : PySem.W.Frag} {mg : Str → Option Value} {ms ms1 ms2 : Ms} {H0 H H0' H' H0'' H'' : Hp} {c c' c'' : Co} {σ : L2.St} {ρ ρ' : En} {a : Addr} {o : HO}
theorem Fresh.nil : Fresh ms H c H0' H' c' [] := ⟨List.nodup_nil, by simp, by simp, by simp, by simp⟩
theorem Fresh.mono {fp : List Addr} (f : Fresh ms1 H c H0' H' c' fp) (h : ∀ i, ms1 i = true → ms2 i = true) : Fresh ms2 H c H0' H' c' fp :=
  ⟨f.nd, f.nc, f.n0, f.there, fun a ha => (f.new a ha).imp id fun ⟨i, e, q⟩ => ⟨i, e, h i q⟩⟩
/-- seen from further ahead -/
theorem Fresh.back {fp : List Addr} (s : Step ms H0 H c H0' H' c') (f : Fresh ms H' c' H0'' H'' c'' fp) : Fresh ms H c H0'' H'' c'' fp :=
  ⟨f.nd, f.nc, f.n0, f.there, fun a ha => by
    rcases f.new a ha with z | ⟨i, z, q⟩
    · exact s.gone z
    · exact s.owned z q⟩
/-- it stays through a further step -/
theorem Fresh.on {fp : List Addr} (f : Fresh ms H c H0' H' c' fp) (s : Step ms2 H0' H' c' H0'' H'' c'') : Fresh ms H c H0'' H'' c'' fp ∧ ∀ a ∈ fp, H'' a = H' a := by
  have cc : ∀ a ∈ fp, ∀ i, c' a = some i → ms2 i = false := fun a ha i e => by rw [f.nc a ha] at e; cases e
  have hk : ∀ a ∈ fp, H'' a = H' a := fun a ha => by
    obtain ⟨o, e⟩ := f.there a ha
    rw [e]; exact s.keep a o e (cc a ha)
  refine ⟨⟨f.nd, fun a ha => ?_, fun a ha => ?_, fun a ha => ?_, f.new⟩, hk⟩
  · obtain ⟨o, e⟩ := f.there a ha
    rw [s.col a o e (cc a ha)]; exact f.nc a ha
  · cases e : H0'' a with
    | none => rfl
    | some u =>
      obtain ⟨o, e1⟩ := f.there a ha
      rcases s.new0 a u e with ⟨w, z⟩ | z | ⟨i, z, _⟩
      · rw [f.n0 a ha] at z; cases z
      · rw [e1] at z; cases z
      · rw [f.nc a ha] at z; cases z
  · rw [hk a ha]; exact f.there a ha
theorem ExcAt.mono {n : Str} {ns : List Str} {vs : List D} {cls : Value} {dx : Option Addr} (h : ExcAt K mg H0 n ns vs cls dx) (s : Same H0 H0') : ExcAt K mg H0' n ns vs cls dx := by
  obtain ⟨C, h1, h2, h3⟩ := h
  refine ⟨C, h1, h2, ?_⟩
  rcases h3 with h3 | ⟨p, fs, e, h4, h5, h6⟩
  · exact .inl h3
  · exact .inr ⟨p, fs, e, s _ _ h4, h5, Fzs.mono s _ _ h6⟩
end

/-! ### outcomes -/
/-- how an end of data lies, seen from the heap and the owners at the beginning -/
abbrev Fam (α β : Type) := Hp → Co → α → Hp → Hp → Co → β → Prop
def Back {α β : Type} (ms : Ms) (F : Fam α β) : Prop := ∀ H0 H c H0' H' c' d H0'' H'' c'' v, Step ms H0 H c H0' H' c' → F H' c' d H0'' H'' c'' v → F H c d H0'' H'' c'' v
/-- an owned tree at mode m, its nodes new or handed over -/
def FO (K : PySem.W.Frag) (mg : Str → Option Value) (m : Md) (ms : Ms) : Fam D V := fun H c d H0' H' c' v => ∃ fp, Ow K mg H0' H' d m v fp ∧ Fresh ms H c H0' H' c' fp
/-- frozen, or lent by a slot of bs -/
def Bw (K : PySem.W.Frag) (mg : Str → Option Value) (bs : Ms) (H0 H : Hp) (c : Co) (d : D) (v : V) : Prop :=
  Fz K mg H0 d v ∨ ∃ fp i, bs i = true ∧ lend d = true ∧ Ow K mg H0 H d m1 v fp ∧ ∀ a ∈ fp, c a = some i
def FB (K : PySem.W.Frag) (mg : Str → Option Value) (bs : Ms) : Fam D V := fun _ _ d H0' H' c' v => Bw K mg bs H0' H' c' d v
def Bws (K : PySem.W.Frag) (mg : Str → Option Value) (bs : Ms) (H0 H : Hp) (c : Co) : List D → List V → Prop
  | [], vs => vs = []
  | d :: ds, vs => ∃ v r, vs = v :: r ∧ Bw K mg bs H0 H c d v ∧ Bws K mg bs H0 H c ds r
def FBs (K : PySem.W.Frag) (mg : Str → Option Value) (bs : Ms) : Fam (List D) (List V) := fun _ _ d H0' H' c' v => Bws K mg bs H0' H' c' d v
/-- owned trees side by side -/
def FOs (K : PySem.W.Frag) (mg : Str → Option Value) (k : Kd) (ms : Ms) : Fam (List D) (List V) := fun H c d H0' H' c' v => ∃ fp, Ows K mg H0' H' d k v fp ∧ Fresh ms H c H0' H' c' fp
/-- a truth -/
def FT : Fam D Bool := fun _ _ d _ _ _ b => d = .bl b

/-- what must hold so that the end x brings Q -/
def Out {α β : Type} (K : PySem.W.Frag) (mg : Str → Option Value) (W : WX) (F : Fam α β) (ms : Ms) (H0 H : Hp) (c : Co) (σ : L2.St) (x : Res α) (Q : β → Hp → Prop) : Prop := match x with
  | .ok d ρ' => ∀ v H0' H' c', Step ms H0 H c H0' H' c' → Lies K mg H0' H' c' σ ρ' → F H c d H0' H' c' v → Q v H'
  | .exc n ns vs ρ' => ∀ cls dx H0' H' c', Step ms H0 H c H0' H' c' → Lies K mg H0' H' c' σ ρ' → ExcAt K mg H0' n ns vs cls dx → W cls dx σ H'
  | .bad => False
/-- a reading by data -/
def tR {α β : Type} (K : PySem.W.Frag) (mg : Str → Option Value) (W : WX) (F : Fam α β) (ms : Ms) (f : M α) : L2.St → Hp → (β → Hp → Prop) → Prop := fun σ H Q => ∃ ρ H0 c, Lies K mg H0 H c σ ρ ∧ Out K mg W F ms H0 H c σ (f ρ) Q
section
variable {K : PySem.W.Frag} {mg : Str → Option Value} {ms ms1 ms2 bs bs1 bs2 : Ms} {H0 H H0' H' H0'' H'' : Hp} {c c' c'' : Co} {σ : L2.St} {ρ ρ' : En} {a : Addr} {o : HO}
variable {α β γ δ : Type} {W : WX} {m m' : Md} {F : Fam α β} {G : Fam γ δ} {Q Q' : β → Hp → Prop} {d : D} {x : Res α} {v : V} {fp : List Addr}
theorem back_FO : Back ms (FO K mg m ms) := fun _ _ _ _ _ _ _ _ _ _ _ s ⟨fp, o, f⟩ => ⟨fp, o, f.back s⟩
theorem back_FOs {k : Kd} : Back ms (FOs K mg k ms) := fun _ _ _ _ _ _ _ _ _ _ _ s ⟨fp, o, f⟩ => ⟨fp, o, f.back s⟩
theorem back_FB : Back ms (FB K mg bs) := fun _ _ _ _ _ _ _ _ _ _ _ _ h => h
theorem back_FBs : Back ms (FBs K mg bs) := fun _ _ _ _ _ _ _ _ _ _ _ _ h => h
theorem back_FT : Back ms FT := fun _ _ _ _ _ _ _ _ _ _ _ _ h => h
theorem Out.imp (h : Out K mg W F ms H0 H c σ x Q) (q : ∀ v H', Q v H' → Q' v H') : Out K mg W F ms H0 H c σ x Q' := by
  cases x with
  | ok d r => exact fun v H0' H' c' s l o => q _ _ (h v H0' H' c' s l o)
  | exc n ns vs r => exact h
  | bad => exact h
/-- another family, fewer slots changed -/
theorem Out.mono {F' : Fam α β} (h : Out K mg W F ms2 H0 H c σ x Q) (q : ∀ i, ms1 i = true → ms2 i = true) (r : ∀ d H0' H' c' v, F' H c d H0' H' c' v → F H c d H0' H' c' v) : Out K mg W F' ms1 H0 H c σ x Q := by
  cases x with
  | ok d ρ => exact fun v H0' H' c' s l o => h v H0' H' c' (s.mono q) l (r _ _ _ _ _ o)
  | exc n ns vs r => exact fun cls dx H0' H' c' s l e => h cls dx H0' H' c' (s.mono q) l e
  | bad => exact h
theorem fo_mono (q : ∀ i, ms1 i = true → ms2 i = true) {d : D} {v : V} : FO K mg m ms1 H c d H0' H' c' v → FO K mg m ms2 H c d H0' H' c' v := fun ⟨fp, o, f⟩ => ⟨fp, o, f.mono q⟩
/-- from a state further on -/
theorem Out.on (b : Back ms F) (h : Out K mg W F ms H0 H c σ x Q) (s : Step ms H0 H c H0' H' c') : Out K mg W F ms H0' H' c' σ x Q := by
  cases x with
  | ok d r => exact fun v H0'' H'' c'' t l o => h v H0'' H'' c'' (s.trans t) l (b _ _ _ _ _ _ _ _ _ _ _ s o)
  | exc n ns vs r => exact fun cls dx H0'' H'' c'' t l e => h cls dx H0'' H'' c'' (s.trans t) l e
  | bad => exact h
/-- one thing, then what follows -/
theorem Out.bind {f : Res γ} {g : γ → M α} (b : Back ms F) (h : Out K mg W F ms H0 H c σ (f.bind g) Q) (h1 : ∀ i, ms1 i = true → ms i = true) :
    Out K mg W G ms1 H0 H c σ f fun v H1 => ∃ d H01 c1 ρ1, f = .ok d ρ1 ∧ Step ms1 H0 H c H01 H1 c1 ∧ Lies K mg H01 H1 c1 σ ρ1 ∧ G H c d H01 H1 c1 v ∧ Out K mg W F ms H01 H1 c1 σ (g d ρ1) Q := by
  cases f with
  | ok d r => exact fun v H0' H' c' s l f => ⟨d, H0', c', r, rfl, s, l, f, h.on b (s.mono h1)⟩
  | exc n ns vs r => exact fun cls dx H0' H' c' s l e => h cls dx H0' H' c' (s.mono h1) l e
  | bad => exact h
theorem tR.imp {f : M α} (h : tR K mg W F ms f σ H Q) (q : ∀ v H', Q v H' → Q' v H') : tR K mg W F ms f σ H Q' := by
  obtain ⟨ρ, H0, c, l, h⟩ := h
  exact ⟨ρ, H0, c, l, h.imp q⟩
theorem ow_zero_fo {v : V} (f : Fz K mg H0' d v) : FO K mg .z ms H c d H0' H' c' v := ⟨[], Ow.zero.mpr ⟨rfl, f⟩, .nil⟩
/-- a frozen end, the heap as it is -/
theorem Out.here {Q : V → Hp → Prop} (h : Out K mg W (FO K mg .z ms) ms H0 H c σ (.ok d ρ) Q) (l : Lies K mg H0 H c σ ρ) (f : Fz K mg H0 d v) : Q v H := h v H0 H c .refl l (ow_zero_fo f)
theorem Lies.upd_new {p : Addr} (l : Lies K mg H0 H c σ ρ) (hp : H p = none) : Lies K mg H0 (upd H p o) c σ ρ := by
  have hne : ∀ a i, c a = some i → a ≠ p := fun a i e => by
    obtain ⟨u, q⟩ := l.there a i e
    exact ne_of_none q hp
  refine ⟨fun a u e => by rw [upd_ne (ne_of_none (l.sub a u e) hp)]; exact l.sub a u e, l.apart, fun a i e => ?_, l.len, fun i m d e => ?_⟩
  · obtain ⟨u, q⟩ := l.there a i e
    exact ⟨u, by rw [upd_ne (hne a i e)]; exact q⟩
  · obtain ⟨v, fp, e1, ow, nd, hc⟩ := l.slot i m d e
    exact ⟨v, fp, e1, Ow.mono (Same.refl _) d m v fp (fun a ha => upd_ne (hne a i (hc a ha))) ow, nd, hc⟩
theorem Lies.nc {p : Addr} (l : Lies K mg H0 H c σ ρ) (hp : H p = none) : c p = none := by
  cases e : c p with
  | none => rfl
  | some i =>
    obtain ⟨u, q⟩ := l.there p i e
    rw [hp] at q; cases q
theorem Lies.n0 {p : Addr} (l : Lies K mg H0 H c σ ρ) (hp : H p = none) : H0 p = none := l.sub.free hp
theorem Step.new {p : Addr} (hp : H p = none) : Step ms H0 H c H0 (upd H p o) c :=
  ⟨fun a u e _ => by rw [upd_ne (ne_of_none e hp)]; exact e, fun _ _ _ _ => rfl, Same.refl _, fun _ _ h => .inl ⟨_, h⟩, fun _ _ h => .inl h⟩
/-- a new node over nodes that are held -/
theorem Out.node {p : Addr} {g : List Addr} {Q : V → Hp → Prop} {Hs : Hp} {cs : Co} (h : Out K mg W (FO K mg m ms) ms H0 H c σ (.ok d ρ) Q) (s : Step ms H0 H c H0' H' c') (l : Lies K mg H0' H' c' σ ρ) (hp : H' p = none)
    (fg : Fresh ms H c H0' H' c' g) (ow : Ow K mg H0' (upd H' p o) d m (.ref p) (p :: g)) : Q (.ref p) (upd H' p o) := by
  have hne : ∀ a ∈ g, a ≠ p := fun a ha => by
    obtain ⟨u, q⟩ := fg.there a ha
    exact ne_of_none q hp
  refine h (.ref p) H0' (upd H' p o) c' (s.trans (.new hp)) (l.upd_new hp) ⟨p :: g, ow, List.nodup_cons.mpr ⟨fun z => hne p z rfl, fg.nd⟩, fun a ha => ?_, fun a ha => ?_, fun a ha => ?_, fun a ha => ?_⟩
  · rcases List.mem_cons.mp ha with e | ha
    · rw [e]; exact l.nc hp
    · exact fg.nc a ha
  · rcases List.mem_cons.mp ha with e | ha
    · rw [e]; exact l.n0 hp
    · exact fg.n0 a ha
  · rcases List.mem_cons.mp ha with e | ha
    · rw [e]; exact ⟨o, upd_same⟩
    · rw [upd_ne (hne a ha)]; exact fg.there a ha
  · rcases List.mem_cons.mp ha with e | ha
    · rw [e]; exact s.gone hp
    · exact fg.new a ha
/-- a new object -/
theorem Out.new {p : Addr} {Q : V → Hp → Prop} (h : Out K mg W (FO K mg m ms) ms H0 H c σ (.ok d ρ) Q) (l : Lies K mg H0 H c σ ρ) (hp : H p = none) (ow : Ow K mg H0 (upd H p o) d m (.ref p) [p]) : Q (.ref p) (upd H p o) :=
  Out.node (Hs := H) (cs := c) h .refl l hp .nil ow
/-- the frozen heap takes a result over -/
theorem Lies.take (l : Lies K mg H0 H c σ ρ) (nc : ∀ a ∈ fp, c a = none) : Lies K mg (ext H0 H fp) H c σ ρ := by
  refine ⟨ext_same l.sub, fun a i e => ?_, l.there, l.len, fun i m d e => ?_⟩
  · rw [ext_out fun z => by rw [nc a z] at e; cases e]
    exact l.apart a i e
  · obtain ⟨v, g, e1, ow, nd, hc⟩ := l.slot i m d e
    exact ⟨v, g, e1, Ow.mono (same_ext l.sub) d m v g (fun _ _ => rfl) ow, nd, hc⟩
theorem Step.take (s : Step ms H0 H c H0' H' c') (l : Same H0' H') (f : Fresh ms H c H0' H' c' fp) : Step ms H0 H c (ext H0' H' fp) H' c' := by
  refine ⟨s.keep, s.col, s.grow.trans (same_ext l), fun a o e => ?_, s.newc⟩
  by_cases z : a ∈ fp
  · exact .inr (f.new a z)
  · rw [ext_out z] at e
    exact s.new0 a o e
/-- an owned end is a frozen one -/
theorem Out.frz {x : Res D} {Q : V → Hp → Prop} (h : Out K mg W (FO K mg .z ms) ms H0 H c σ x Q) : Out K mg W (FO K mg m ms) ms H0 H c σ x Q := by
  cases x with
  | ok d r => exact fun v H0' H' c' s l ⟨fp, o, f⟩ => h v (ext H0' H' fp) H' c' (s.take l.sub f) (l.take f.nc) (ow_zero_fo (Ow.frz l.sub d m v fp o))
  | exc n ns vs r => exact h
  | bad => exact h
/-- a lent value stays through steps that leave its slot alone -/
theorem Bw.on (h : Bw K mg bs H0 H c d v) (s : Step ms H0 H c H0' H' c') (dj : ∀ i, bs i = true → ms i = false) : Bw K mg bs H0' H' c' d v := by
  rcases h with h | ⟨fp, i, hi, hl, o, hc⟩
  · exact .inl (Fz.mono s.grow d v h)
  · have hk : ∀ a ∈ fp, ∀ u, H a = some u → H' a = some u := fun a ha u e => s.keep a u e fun j e2 => by rw [hc a ha] at e2; cases e2; exact dj i hi
    have all : ∀ (d : D) (m : Md) (v : V) (fp : List Addr), Ow K mg H0 H d m v fp → ∀ a ∈ fp, ∃ u, H a = some u := Ow.there
    refine .inr ⟨fp, i, hi, hl, Ow.mono s.grow d m1 v fp (fun a ha => ?_) o, fun a ha => ?_⟩
    · obtain ⟨u, e⟩ := all _ _ _ _ o a ha
      rw [e]; exact hk a ha u e
    · obtain ⟨u, e⟩ := all _ _ _ _ o a ha
      rw [s.col a u e fun j e2 => by rw [hc a ha] at e2; cases e2; exact dj i hi]
      exact hc a ha
theorem Bw.sh (s : Same H0 H) (h : Bw K mg bs H0 H c d v) : Sh K mg H0 H d v := by
  rcases h with h | ⟨fp, i, hi, hl, o, hc⟩
  · exact h.sh s
  · exact o.sh hl
end
theorem _root_.L2.PE.imp {X : Cx} {e : Expr} {t t' : TE} (h : PE X e t) (q : ∀ σ H Q, t' σ H Q → t σ H Q) : PE X e t' := ⟨fun pins s σ H Q I w => h.run pins s σ H Q I (q σ H Q w)⟩
theorem _root_.L2.PT.imp {X : Cx} {e : Expr} {t t' : TT} (h : PT X e t) (q : ∀ σ H Q, t' σ H Q → t σ H Q) : PT X e t' := ⟨fun pins s σ H Q I w => h.run pins s σ H Q I (q σ H Q w)⟩
theorem _root_.L2.PA.imp {X : Cx} {e : List Expr} {t t' : TA} (h : PA X e t) (q : ∀ σ H Q, t' σ H Q → t σ H Q) : PA X e t' := ⟨fun p pins s σ H Q I w => h.run p pins s σ H Q I (q σ H Q w)⟩
theorem _root_.L2.PS.imp {X : Cx} {e : Stmt} {t t' : TS} (h : PS X e t) (q : ∀ D σ H, t' D σ H → t D σ H) : PS X e t' := ⟨fun pins s σ H D I w => h.run pins s σ H D I (q D σ H w)⟩
theorem _root_.L2.PSs.imp {X : Cx} {e : List Stmt} {t t' : TS} (h : PSs X e t) (q : ∀ D σ H, t' D σ H → t D σ H) : PSs X e t' := ⟨fun pins s σ H D I w => h.run pins s σ H D I (q D σ H w)⟩
end Vm
set_option Elab.async false
set_option linter.all false
set_option maxRecDepth 100000
set_option maxHeartbeats 4000000
namespace Vm
open PySem PySem.Spec PyProof.Rows L2

/-! ### contexts -/
structure GC where
  P : Program
  w : World
  K : PySem.W.Frag
  mg : Str → Option Value
  base : Heap
structure Rs where
  A : Around
  s_0 : Shared
  H_0 : Hp
  env : Env
  outer : List Env
  stack : List Env
  ex : List Addr
  fn : Str → Bool
  calm : Bool
  pn : List (Addr × Obj)
  xe : Value → Shared → Prop
abbrev mkX (G : GC) (N : List Str) (R : Rs) : Cx :=
  { prog := G.P, w := G.w, K := G.K, mg := G.mg, base := G.base, A := R.A, N := N, s_0 := R.s_0, H_0 := R.H_0, env := R.env, outer := R.outer, stack := R.stack, ex := R.ex, fn := R.fn, calm := R.calm, pn := R.pn, xe := R.xe }
/-- what is known of where one stands: the scope, which names are cells of one's own, the room for calls, whether nothing is being handled -/
structure SC where
  sc : Scope
  fn : Str → Bool
  k : Nat
  cm : Bool
structure At (S : SC) (N : List Str) (X : Cx) : Prop where
  sc : X.env.scope = S.sc
  fn : X.fn = S.fn
  nd : N.Nodup
  calm : X.calm = S.cm
  room : S.cm = true → Room S.k X.A
  po : PassesOwn (model X.prog X.w) X.A X.env X.xe

def VE {α β : Type} (G : GC) (N : List Str) (S : SC) (J : Cx → (L2.St → Hp → (β → Hp → Prop) → Prop) → Prop) (F : Fam α β) (ms : Ms) (f : M α) : Prop :=
  ∀ R, At S N (mkX G N R) → ∀ W, Takes (mkX G N R) W → J (mkX G N R) (tR G.K G.mg W F ms f)
/-- an expression: its end owned at mode m -/
abbrev VO (G : GC) (N : List Str) (S : SC) (m : Md) (ms : Ms) (e : Expr) (f : M D) : Prop := VE G N S (fun X t => PE X e t) (FO G.K G.mg m ms) ms f
/-- .. its end frozen or lent -/
abbrev VB (G : GC) (N : List Str) (S : SC) (bs ms : Ms) (e : Expr) (f : M D) : Prop := VE G N S (fun X t => PE X e t) (FB G.K G.mg bs) ms f
/-- arguments: frozen or lent -/
abbrev VA (G : GC) (N : List Str) (S : SC) (bs ms : Ms) (es : List Expr) (f : M (List D)) : Prop := VE G N S (fun X t => PA X es t) (FBs G.K G.mg bs) ms f
/-- the children of a display -/
abbrev VL (G : GC) (N : List Str) (S : SC) (k : Kd) (ms : Ms) (es : List Expr) (f : M (List D)) : Prop := VE G N S (fun X t => PA X es t) (FOs G.K G.mg k ms) ms f
/-- a test -/
abbrev VT (G : GC) (N : List Str) (S : SC) (ms : Ms) (e : Expr) (f : M D) : Prop := VE G N S (fun X t => PT X e t) FT ms f
abbrev VW (G : GC) (N : List Str) (S : SC) (ms : Ms) (e : Expr) (f : M D) : Prop := VE G N S (fun X t => PW X e t) FT ms f

def rM {α : Type} (x : Option α) : M α := fun r => match x with
  | some a => .ok a r
  | none => .bad
@[simp] theorem rM_some {α : Type} (a : α) (r : En) : rM (some a) r = .ok a r := rfl
@[simp] theorem rM_none {α : Type} (r : En) : rM (none : Option α) r = .bad := rfl

section
variable {G : GC} {N : List Str} {S : SC} {bs bs1 bs2 ms ms1 ms2 ms3 : Ms} {m : Md} {e a b : Expr} {es : List Expr} {f fa fb : M D} {pos : Pos}

theorem VO.frz (h : VO G N S m ms e f) : VO G N S .z ms e f := fun R a W t => (h R a W t).imp fun σ H Q ⟨ρ, H0, c, l, o⟩ => ⟨ρ, H0, c, l, o.frz⟩
theorem VO.vb (h : VO G N S .z ms e f) : VB G N S ms0 ms e f := fun R a W t => (h R a W t).imp fun σ H Q ⟨ρ, H0, c, l, o⟩ => ⟨ρ, H0, c, l, o.mono (fun _ h => h) fun d H0' H' c' v ⟨fp, o, _⟩ => .inl (Ow.zero.mp o).2⟩

/-! ### constants, names -/
def eC (d : D) : M D := fun r => .ok d r
theorem VO.cst {v : V} {d : D} (h : ∀ X, PE X e (tC v)) (hd : ∀ H, Fz G.K G.mg H d v) : VO G N S .z ms0 e (eC d) := fun R a W t => (h _).imp fun σ H Q ⟨ρ, H0, c, l, o⟩ => o.here l (hd H0)
theorem VO.int {i j pos} : VO G N S .z ms0 (.Constant (.int i) j pos) (eC (.int i)) := .cst (fun X => pe_int) fun _ => rfl
theorem VO.bl {b j pos} : VO G N S .z ms0 (.Constant (.bool b) j pos) (eC (.bl b)) := .cst (fun X => pe_bl) fun _ => rfl
theorem VO.non {j pos} : VO G N S .z ms0 (.Constant .none j pos) (eC .non) := .cst (fun X => pe_non) fun _ => rfl
theorem VO.str {x : Str} {s : List Nat} {j pos} (h : x = ⟨s.toArray⟩ := by rfl) (hs : sOk s = true := by rfl) : VO G N S .z ms0 (.Constant (.str x) j pos) (eC (.str s)) := .cst (v := .str x) (fun X => pe_str) fun _ => ⟨by rw [h], hs⟩
def Hp0 : Hp := fun _ => none
/-- a constant of the module -/
def GlobC (G : GC) (x : Str) (d : D) : Prop := ∃ v u, G.mg x = some u ∧ RelV v u ∧ Fz G.K G.mg Hp0 d v
abbrev Glb (S : SC) (x : Str) : Prop := S.sc.names.lookup x = some .globalImplicit
theorem At.gl {X : Cx} {x : Str} (a : At S N X) (h : Glb S x) : Gl X x := by
  show X.env.scope.names.lookup x = _
  rw [a.sc]; exact h
theorem At.vis {X : Cx} {x : Str} (a : At S N X) (h : Vis S.sc x) : Vis X.env.scope x := by rw [a.sc]; exact h
theorem VO.glob {x : Str} {d : D} (h : GlobC G x d) (hg : Glb S x := by rfl) (hd : (x == ("__debug__" : Str)) = false := by decide) : VO G N S .z ms0 (.Name x pos) (eC d) := by
  obtain ⟨v, u, h1, h2, h3⟩ := h
  exact fun R a W t => (pe_glob (a.gl hg) h1 h2 hd).imp fun σ H Q ⟨ρ, H0, c, l, o⟩ => o.here l (Fz.mono (fun b o e => by cases e) d v h3)
def atom : D → Bool
  | .non => true
  | .bl _ => true
  | .int _ => true
  | .str _ => true
  | _ => false
/-- a slot's value: frozen, or an atom -/
def eVar (i : Nat) : M D := fun r => match getS r i with
  | some (.z, d) => .ok d r
  | some (.o _, d) => if atom d = true then .ok d r else .bad
  | none => .bad
theorem ow_atom {K : PySem.W.Frag} {mg : Str → Option Value} {H0 H : Hp} {d : D} {m : Md} {v : V} {fp : List Addr} (h : Ow K mg H0 H d m v fp) (a : atom d = true) : Fz K mg H0 d v := by
  cases m with
  | z => exact (Ow.zero.mp h).2
  | o k => cases d <;> first | exact h.2 | cases a
theorem VO.var {i : Nat} {x : Str} (hN : N[i]? = some x := by rfl) (hv : Vis S.sc x := by first | exact Or.inl rfl | exact Or.inr (Or.inl rfl) | exact Or.inr (Or.inr rfl))
    (hd : (x == ("__debug__" : Str)) = false := by decide) (hcd : (x == ("__classdict__" : Str)) = false := by decide) : VO G N S .z ms0 (.Name x pos) (eVar i) := by
  refine fun R a W t => (pe_var (i := i) hN (a.vis hv) hd hcd).imp fun σ H Q ⟨ρ, H0, c, l, o⟩ => ?_
  cases es : getS ρ i with
  | none => unfold eVar at o; rw [es] at o; exact o.elim
  | some md =>
    obtain ⟨m, d⟩ := md
    obtain ⟨v, fp, e1, ow, nd, hc⟩ := l.slot i m d es
    refine ⟨v, e1, ?_⟩
    cases m with
    | z => unfold eVar at o; rw [es] at o; exact o.here l (Ow.zero.mp ow).2
    | o k =>
      unfold eVar at o; rw [es] at o
      simp only at o
      split at o
      · exact o.here l (ow_atom ow (by assumption))
      · exact o.elim
/-- a slot's value, lent for reading -/
def eBor (i : Nat) : M D := fun r => match getS r i with
  | some (.z, d) => .ok d r
  | some (.o (.all .z), d) => if lend d = true then .ok d r else .bad
  | _ => .bad
theorem VB.var {i : Nat} {x : Str} (hN : N[i]? = some x := by rfl) (hv : Vis S.sc x := by first | exact Or.inl rfl | exact Or.inr (Or.inl rfl) | exact Or.inr (Or.inr rfl))
    (hd : (x == ("__debug__" : Str)) = false := by decide) (hcd : (x == ("__classdict__" : Str)) = false := by decide) : VB G N S (msO i) ms0 (.Name x pos) (eBor i) := by
  refine fun R a W t => (pe_var (i := i) hN (a.vis hv) hd hcd).imp fun σ H Q ⟨ρ, H0, c, l, o⟩ => ?_
  cases es : getS ρ i with
  | none => unfold eBor at o; rw [es] at o; exact o.elim
  | some md =>
    obtain ⟨m, d⟩ := md
    obtain ⟨v, fp, e1, ow, nd, hc⟩ := l.slot i m d es
    refine ⟨v, e1, ?_⟩
    unfold eBor at o; rw [es] at o
    split at o
    · rename_i e; cases e; exact o v H0 H c .refl l (.inl (Ow.zero.mp ow).2)
    · rename_i e; cases e
      split at o
      · exact o v H0 H c .refl l (.inr ⟨fp, i, by simp, by assumption, ow, hc⟩)
      · exact o.elim
    · exact o.elim
/-- a slot's value handed over: the slot is left frozen -/
def eFrz (i : Nat) : M D := fun r => match getS r i with
  | some (_, d) => .ok d (r.set i (some (.z, d)))
  | none => .bad

/-! ### operators -/
/-- how a rule may end: both heaps grown, the end owned by new nodes -/
def Fin (K : PySem.W.Frag) (mg : Str → Option Value) (m : Md) (H0 H : Hp) (d : D) (Q : VK) : Prop :=
  ∀ v H0' H' fp, Same H H' → Same H0 H0' → Same H0' H' → (∀ a o, H0' a = some o → (∃ u, H0 a = some u) ∨ H a = none) → Ow K mg H0' H' d m v fp → fp.Nodup → (∀ a ∈ fp, H a = none ∧ H0' a = none ∧ ∃ o, H' a = some o) → Q v H'
section
variable {K : PySem.W.Frag} {mg : Str → Option Value} {W : WX} {H0 H H0' H' : Hp} {c : Co} {σ : L2.St} {ρ : En} {d : D} {Q : VK} {v : V} {p : Addr} {ds : List D} {vs : List V}
theorem Lies.grow (l : Lies K mg H0 H c σ ρ) (s1 : Same H H') (s2 : Same H0 H0') (s3 : Same H0' H') (s4 : ∀ a o, H0' a = some o → (∃ u, H0 a = some u) ∨ H a = none) : Lies K mg H0' H' c σ ρ := by
  refine ⟨s3, fun a i e => ?_, fun a i e => ?_, l.len, fun i m d e => ?_⟩
  · cases q : H0' a with
    | none => rfl
    | some o =>
      rcases s4 a o q with ⟨u, z⟩ | z
      · rw [l.apart a i e] at z; cases z
      · obtain ⟨u, w⟩ := l.there a i e
        rw [z] at w; cases w
  · obtain ⟨u, w⟩ := l.there a i e
    exact ⟨u, s1 _ _ w⟩
  · obtain ⟨v, fp, e1, ow, nd, hc⟩ := l.slot i m d e
    exact ⟨v, fp, e1, Ow.mono s2 d m v fp (fun a ha => by
      obtain ⟨u, w⟩ := l.there a i (hc a ha)
      rw [w, s1 _ _ w]) ow, nd, hc⟩
theorem Step.growth (s1 : Same H H') (s2 : Same H0 H0') (s4 : ∀ a o, H0' a = some o → (∃ u, H0 a = some u) ∨ H a = none) : Step ms H0 H c H0' H' c :=
  ⟨fun a o e _ => s1 a o e, fun _ _ _ _ => rfl, s2, fun a o e => (s4 a o e).imp id .inl, fun _ _ h => .inl h⟩
theorem Out.fin {ms : Ms} {m : Md} (h : Out K mg W (FO K mg m ms) ms H0 H c σ (.ok d ρ) Q) (l : Lies K mg H0 H c σ ρ) : Fin K mg m H0 H d Q :=
  fun v H0' H' fp s1 s2 s3 s4 ow nd new => h v H0' H' c (Step.growth s1 s2 s4) (l.grow s1 s2 s3 s4) ⟨fp, ow, nd, fun a ha => l.nc (new a ha).1, fun a ha => (new a ha).2.1, fun a ha => (new a ha).2.2, fun a ha => .inl (new a ha).1⟩
/-- the heap as it is -/
theorem Fin.at {m : Md} (h : Fin K mg m H0 H d Q) (s : Same H0 H) (o : Ow K mg H0 H d m v []) : Q v H := h v H0 H [] (Same.refl _) (Same.refl _) s (fun _ _ e => .inl ⟨_, e⟩) o List.nodup_nil (by simp)
theorem Fin.frz (h : Fin K mg .z H0 H d Q) (s : Same H0 H) (f : Fz K mg H0 d v) : Q v H := h.at s (Ow.zero.mpr ⟨rfl, f⟩)
theorem ow_of_atom {m : Md} (f : Fz K mg H0 d v) (a : atom d = true) : Ow K mg H0 H d m v [] := by
  cases m with
  | z => exact Ow.zero.mpr ⟨rfl, f⟩
  | o k => cases d <;> first | exact ⟨rfl, f⟩ | cases a
theorem Fin.atom {m : Md} (h : Fin K mg m H0 H d Q) (s : Same H0 H) (f : Fz K mg H0 d v) (a : atom d = true) : Q v H := h.at s (ow_of_atom f a)
theorem same_upd0 {H : Hp} {p : Addr} {o : HO} (hp : H p = none) : Same H (upd H p o) := fun b u e => by
  rw [upd_ne (ne_of_none e hp)]; exact e
theorem same_upd2 {p : Addr} {o : HO} (s : Same H0 H) : Same (upd H0 p o) (upd H p o) := fun b u e => by
  by_cases h : b = p
  · rw [h, upd_same] at e ⊢; exact e
  · rw [upd_ne h] at e ⊢; exact s b u e
/-- one new frozen object -/
theorem Fin.newz {o : HO} (h : Fin K mg .z H0 H d Q) (s : Same H0 H) (hp : H p = none) (f : Fz K mg (upd H0 p o) d (.ref p)) : Q (.ref p) (upd H p o) :=
  h (.ref p) (upd H0 p o) (upd H p o) [] (same_upd0 hp) (same_upd0 (s.free hp)) (same_upd2 s) (fun a u e => by
    by_cases z : a = p
    · exact .inr (by rw [z]; exact hp)
    · rw [upd_ne z] at e; exact .inl ⟨u, e⟩) (Ow.zero.mpr ⟨rfl, f⟩) List.nodup_nil (by simp)
/-- one new owned object -/
theorem Fin.newo {m : Md} {o : HO} (h : Fin K mg m H0 H d Q) (s : Same H0 H) (hp : H p = none) (f : Ow K mg H0 (upd H p o) d m (.ref p) [p]) : Q (.ref p) (upd H p o) :=
  h (.ref p) H0 (upd H p o) [p] (same_upd0 hp) (Same.refl _) (s.trans (same_upd0 hp)) (fun a u e => .inl ⟨u, e⟩) f (by simp) (fun a ha => by
    rw [List.mem_singleton.mp ha]
    exact ⟨hp, s.free hp, o, upd_same⟩)
/-- frozen, or a node of one's own over frozen ones -/
def ZO (m : Md) : Prop := m = .z ∨ m = m1
theorem Fin.lst {m : Md} (hm : ZO m) (h : Fin K mg m H0 H (.lst ds) Q) (s : Same H0 H) (f : Fzs K mg H0 ds vs) (hp : H p = none) : Q (.ref p) (upd H p (.lst vs)) := by
  rcases hm with rfl | rfl
  · exact h.newz s hp ⟨p, vs, rfl, upd_same, Fzs.mono (same_upd0 (s.free hp)) ds vs f⟩
  · exact h.newo s hp ⟨p, vs, [], rfl, upd_same, rfl, Ows.all_z.mpr ⟨rfl, f⟩⟩
theorem Fin.tup {m : Md} (hm : ZO m) (h : Fin K mg m H0 H (.tup ds) Q) (s : Same H0 H) (f : Fzs K mg H0 ds vs) (hp : H p = none) : Q (.ref p) (upd H p (.tup vs)) := by
  rcases hm with rfl | rfl
  · exact h.newz s hp ⟨p, vs, rfl, .inl (.inl upd_same), Fzs.mono (same_upd0 (s.free hp)) ds vs f⟩
  · exact h.newo s hp ⟨p, vs, [], rfl, upd_same, rfl, Ows.all_z.mpr ⟨rfl, f⟩⟩
end
/-- a rule of two values serves o -/
def Ru2 (G : GC) (r : R2) (m : Md) (o : D → D → Option D) : Prop :=
  ∀ H0 H d1 d2 x y d Q, Same H0 H → Sh G.K G.mg H0 H d1 x → Sh G.K G.mg H0 H d2 y → o d1 d2 = some d → Fin G.K G.mg m H0 H d Q → r x y H Q
def fOp2 (o : D → D → Option D) (fa fb : M D) : M D := fun r => (fa r).bind fun x r => (fb r).bind fun y => rM (o x y)
theorem or_l {a b : Bool} (h : a = true) : (a || b) = true := by rw [h]; rfl
theorem or_r {a b : Bool} (h : b = true) : (a || b) = true := by rw [h, Bool.or_true]
abbrev Dj (bs ms : Ms) : Prop := ∀ i, bs i = true → ms i = false
theorem VE.bin {K : PySem.W.Frag} {mg : Str → Option Value} {W : WX} {σ : L2.St} {H : Hp} {Q : VK} {r : R2} {o : D → D → Option D} (hK : K = G.K) (hm : mg = G.mg) (ru : Ru2 G r m o) (dj : Dj bs1 ms2)
    (h : tR K mg W (FO K mg m (msU ms1 ms2)) (msU ms1 ms2) (fOp2 o fa fb) σ H Q) : tR K mg W (FB K mg bs1) ms1 fa σ H fun x H1 => tR K mg W (FB K mg bs2) ms2 fb σ H1 fun y H2 => r x y H2 Q := by
  subst hK hm
  obtain ⟨ρ, H0, c, l, h⟩ := h
  refine ⟨ρ, H0, c, l, (Out.bind (G := FB G.K G.mg bs1) (ms1 := ms1) back_FO h fun i e => or_l e).imp fun x H1 ⟨d1, H01, c1, ρ1, e1, s1, l1, b1, h1⟩ => ?_⟩
  refine ⟨ρ1, H01, c1, l1, (Out.bind (G := FB G.K G.mg bs2) (ms1 := ms2) back_FO h1 fun i e => or_r e).imp fun y H2 ⟨d2, H02, c2, ρ2, e2, s2, l2, b2, h2⟩ => ?_⟩
  cases eo : o d1 d2 with
  | none => rw [eo] at h2; exact h2.elim
  | some d =>
    rw [eo] at h2
    exact ru H02 H2 d1 d2 x y d Q l2.sub ((b1.on s2 dj).sh l2.sub) (b2.sh l2.sub) eo (Out.fin h2 l2)
theorem VO.op {op : Operator} {r : R2} {o : D → D → Option D} (ho : ∀ R, At S N (mkX G N R) → OpR (mkX G N R) (binaryOp op) r) (ru : Ru2 G r m o) (ha : VB G N S bs1 ms1 a fa) (hb : VB G N S bs2 ms2 b fb) (dj : Dj bs1 ms2 := by intro i h; first | rfl | (cases h)) :
    VO G N S m (msU ms1 ms2) (.BinOp a op b pos) (fOp2 o fa fb) := fun R a W t => (pe_op (ho R a) (ha R a W t) (hb R a W t)).imp fun σ H Q h => VE.bin rfl rfl ru dj h
theorem VO.cmp {op : CmpOp} {r : R2} {o : D → D → Option D} (ho : ∀ R, At S N (mkX G N R) → OpR (mkX G N R) (compareOp op) r) (ru : Ru2 G r m o) (ha : VB G N S bs1 ms1 a fa) (hb : VB G N S bs2 ms2 b fb) (dj : Dj bs1 ms2 := by intro i h; first | rfl | (cases h))
    (hm : behindInMarks op b = false := by first | exact nomark _ | rfl) : VO G N S m (msU ms1 ms2) (.Compare a [op] [b] pos) (fOp2 o fa fb) := fun R a W t => (pe_cmpR (ho R a) (ha R a W t) (hb R a W t) hm).imp fun σ H Q h => VE.bin rfl rfl ru dj h
end
end Vm
set_option Elab.async false
set_option linter.all false
set_option maxRecDepth 100000
set_option maxHeartbeats 4000000
namespace Vm
open PySem PySem.Spec PyProof.Rows L2

/-! ### data as the library's data; equality, order -/
mutual
def toPy : D → PyData
  | .non => .none
  | .bl b => .bool b
  | .int i => .int i
  | .str s => .str ⟨s.toArray⟩
  | .tup ds => .tuple (toPys ds)
  | .lst ds => .list (toPys ds)
  | .dct _ _ => .dict []
  | .ins _ _ _ => .dict []
  | .scr _ => .dict []
def toPys : List D → List PyData
  | [] => []
  | d :: ds => toPy d :: toPys ds
end
mutual
/-- no dict, no object in it -/
def plain : D → Bool
  | .non => true
  | .bl _ => true
  | .int _ => true
  | .str _ => true
  | .tup ds => plains ds
  | .lst ds => plains ds
  | .dct _ _ => false
  | .ins _ _ _ => false
  | .scr _ => false
def plains : List D → Bool
  | [] => true
  | d :: ds => plain d && plains ds
end
mutual
def dep : D → Nat
  | .non => 0
  | .bl _ => 0
  | .int _ => 0
  | .str _ => 0
  | .tup ds => deps ds + 1
  | .lst ds => deps ds + 1
  | .dct _ _ => 1
  | .ins _ _ _ => 1
  | .scr _ => 1
def deps : List D → Nat
  | [] => 0
  | d :: ds => max (dep d) (deps ds)
end
def b2I (b : Bool) : Int := if b = true then 1 else 0
mutual
def eqD : D → D → Bool
  | .non, e => match e with | .non => true | _ => false
  | .bl a, e => match e with | .bl b => a == b | .int j => b2I a == j | _ => false
  | .int i, e => match e with | .int j => i == j | .bl b => i == b2I b | _ => false
  | .str s, e => match e with | .str t => s == t | _ => false
  | .tup xs, e => match e with | .tup ys => eqDs xs ys | _ => false
  | .lst xs, e => match e with | .lst ys => eqDs xs ys | _ => false
  | .dct _ _, _ => false
  | .ins _ _ _, _ => false
  | .scr _, _ => false
def eqDs : List D → List D → Bool
  | [], ys => match ys with | [] => true | _ :: _ => false
  | x :: xs, ys => match ys with | y :: ys => eqD x y && eqDs xs ys | [] => false
end
theorem str_beq (s t : List Nat) : ((⟨s.toArray⟩ : Str) == ⟨t.toArray⟩) = (s == t) := by
  by_cases h : s = t
  · subst h; simp
  · have h2 : ¬ (⟨s.toArray⟩ : Str) = ⟨t.toArray⟩ := fun e => h (by
      have := congrArg (fun x : Str => x.cps.toList) e
      simpa using this)
    rw [beq_eq_false_iff_ne.mpr h, beq_eq_false_iff_ne.mpr h2]
mutual
theorem eqv_eqD : ∀ d e : D, PyData.eqv (toPy d) (toPy e) = eqD d e
  | .non, e => by cases e <;> rfl
  | .bl a, e => by cases e <;> rfl
  | .int a, e => by cases e <;> rfl
  | .str a, e => by cases e <;> first | rfl | exact str_beq _ _
  | .tup xs, e => by cases e <;> first | rfl | exact eqv_eqDs _ _
  | .lst xs, e => by cases e <;> first | rfl | exact eqv_eqDs _ _
  | .dct _ _, e => by cases e <;> rfl
  | .ins _ _ _, e => by cases e <;> rfl
  | .scr _, e => by cases e <;> rfl
theorem eqv_eqDs : ∀ ds es : List D, PyData.eqvAll (toPys ds) (toPys es) = eqDs ds es
  | [], es => by cases es <;> rfl
  | d :: ds, es => by
    cases es with
    | nil => rfl
    | cons e es =>
      show (PyData.eqv (toPy d) (toPy e) && PyData.eqvAll (toPys ds) (toPys es)) = (eqD d e && eqDs ds es)
      rw [eqv_eqD, eqv_eqDs]
end
mutual
theorem dep_py : ∀ d : D, (toPy d).depth ≤ dep d
  | .non => Nat.le_refl _
  | .bl _ => Nat.le_refl _
  | .int _ => Nat.le_refl _
  | .str _ => Nat.le_refl _
  | .tup ds => by simp only [toPy, PyData.depth, dep]; exact Nat.succ_le_succ (deps_py ds)
  | .lst ds => by simp only [toPy, PyData.depth, dep]; exact Nat.succ_le_succ (deps_py ds)
  | .dct _ _ => by simp [toPy, PyData.depth, PyData.depthKv, dep]
  | .ins _ _ _ => by simp [toPy, PyData.depth, PyData.depthKv, dep]
  | .scr _ => by simp [toPy, PyData.depth, PyData.depthKv, dep]
theorem deps_py : ∀ ds : List D, PyData.depthAll (toPys ds) ≤ deps ds
  | [] => Nat.le_refl _
  | d :: ds => by
    have h1 := dep_py d
    have h2 := deps_py ds
    simp only [toPys, PyData.depthAll, deps]
    omega
end
section
variable {K : PySem.W.Frag} {mg : Str → Option Value} {H H0 : Hp}
mutual
theorem Fz.dp : ∀ (d : D) (v : V), Fz K mg H d v → plain d = true → Dp K H v (toPy d)
  | .non, _, h, _ => by cases h; exact .non
  | .bl _, _, h, _ => by cases h; exact .bl _
  | .int _, _, h, _ => by cases h; exact .int _
  | .str _, _, h, _ => by rw [h.1]; exact .str _
  | .tup ds, _, ⟨a, vs, e, h, r⟩, p => by subst e; exact .tup h (Fzs.dp ds vs r p)
  | .lst ds, _, ⟨a, vs, e, h, r⟩, p => by subst e; exact .lst (.of h) (Fzs.dp ds vs r p)
  | .dct _ _, _, _, p => by cases p
  | .ins _ _ _, _, _, p => by cases p
  | .scr _, _, _, p => by cases p
theorem Fzs.dp : ∀ (ds : List D) (vs : List V), Fzs K mg H ds vs → plains ds = true → DpAll K H vs (toPys ds)
  | [], _, h, _ => by cases h; exact .nil
  | d :: ds, _, ⟨v, r, e, h, t⟩, p => by
    subst e
    have p := Bool.and_eq_true_iff.mp p
    exact .cons (Fz.dp d v h p.1) (Fzs.dp ds r t p.2)
end
theorem sOk_str {s : List Nat} (h : sOk s = true) : PyData.strOk ⟨s.toArray⟩ = true := by
  have h := (Bool.and_eq_true_iff.mp h).2
  unfold PyData.strOk
  simpa using h
mutual
theorem Fz.lay : ∀ (d : D) (v : V), Fz K mg H d v → plain d = true → (toPy d).canLay0 = true
  | .non, _, h, _ => rfl
  | .bl _, _, h, _ => rfl
  | .int _, _, h, _ => rfl
  | .str _, _, h, _ => sOk_str h.2
  | .tup ds, _, ⟨a, vs, e, h, r⟩, p => Fzs.lay ds vs r p
  | .lst ds, _, ⟨a, vs, e, h, r⟩, p => Fzs.lay ds vs r p
  | .dct _ _, _, _, p => by cases p
  | .ins _ _ _, _, _, p => by cases p
  | .scr _, _, _, p => by cases p
theorem Fzs.lay : ∀ (ds : List D) (vs : List V), Fzs K mg H ds vs → plains ds = true → PyData.canLayAll0 (toPys ds) = true
  | [], _, h, _ => rfl
  | d :: ds, _, ⟨v, r, e, h, t⟩, p => by
    have p := Bool.and_eq_true_iff.mp p
    show (PyData.canLay0 (toPy d) && PyData.canLayAll0 (toPys ds)) = true
    rw [Fz.lay d v h p.1, Fzs.lay ds r t p.2]; rfl
end
end
theorem Room.u65 {k : Nat} {A : Around} (h : Room k A) : A.units + 100 < cLine := by have := h.un; omega

section
variable {G : GC} {N : List Str} {S : SC} {X : Cx}
/-! ### == and != -/
def eqOk (d e : D) : Bool := plain d && plain e && decide (min (dep d) (dep e) ≤ 64)
def oEq (d e : D) : Option D := if eqOk d e = true then some (.bl (eqD d e)) else none
def oNe (d e : D) : Option D := if eqOk d e = true then some (.bl (!eqD d e)) else none
def rEqV (K : PySem.W.Frag) : R2 := fun x y H Q => ∃ d e, Dp K H x d ∧ Dp K H y e ∧ d.canLay0 = true ∧ e.canLay0 = true ∧ min d.depth e.depth ≤ 64 ∧ Q (.bl (PyData.eqv d e)) H
def rNeV (K : PySem.W.Frag) : R2 := fun x y H Q => ∃ d e, Dp K H x d ∧ Dp K H y e ∧ d.canLay0 = true ∧ e.canLay0 = true ∧ min d.depth e.depth ≤ 64 ∧ Q (.bl (!PyData.eqv d e)) H
theorem op_eqV (hu : X.A.units + 100 < cLine) : OpR X (compareOp .Eq) (rEqV X.K) := by
  intro pins s σ H x y v u Q I rx ry h
  obtain ⟨d, e, hd, he, sd, se, hm, q⟩ := h
  obtain ⟨as, r1⟩ := Dp.reads I d x v hd rx
  obtain ⟨bs, r2⟩ := Dp.reads I e y u he ry
  exact SeqAt.compareEq_reads r1 r2 sd se (by omega) ⟨.bl _, H, I, rfl, q⟩
theorem op_neV (hu : X.A.units + 100 < cLine) : OpR X (compareOp .NotEq) (rNeV X.K) := by
  intro pins s σ H x y v u Q I rx ry h
  obtain ⟨d, e, hd, he, sd, se, hm, q⟩ := h
  obtain ⟨as, r1⟩ := Dp.reads I d x v hd rx
  obtain ⟨bs, r2⟩ := Dp.reads I e y u he ry
  exact SeqAt.compareNe_reads r1 r2 sd se (by omega) ⟨.bl _, H, I, rfl, q⟩
theorem eqOk_of {d e : D} (h : eqOk d e = true) : plain d = true ∧ plain e = true ∧ min (toPy d).depth (toPy e).depth ≤ 64 := by
  unfold eqOk at h
  simp only [Bool.and_eq_true, decide_eq_true_eq] at h
  have h1 := dep_py d
  have h2 := dep_py e
  exact ⟨h.1.1, h.1.2, by omega⟩
theorem ru_eq : Ru2 G (rEqV G.K) .z oEq := by
  intro H0 H d1 d2 x y d Q s h1 h2 ho f
  unfold oEq at ho
  split at ho
  · rename_i hk
    obtain ⟨p1, p2, p3⟩ := eqOk_of hk
    cases ho
    have z1 := h1.fz s
    have z2 := h2.fz s
    refine ⟨toPy d1, toPy d2, Fz.dp d1 x z1 p1, Fz.dp d2 y z2 p2, Fz.lay d1 x z1 p1, Fz.lay d2 y z2 p2, p3, ?_⟩
    rw [eqv_eqD]
    exact f.frz s rfl
  · cases ho
theorem ru_ne : Ru2 G (rNeV G.K) .z oNe := by
  intro H0 H d1 d2 x y d Q s h1 h2 ho f
  unfold oNe at ho
  split at ho
  · rename_i hk
    obtain ⟨p1, p2, p3⟩ := eqOk_of hk
    cases ho
    have z1 := h1.fz s
    have z2 := h2.fz s
    refine ⟨toPy d1, toPy d2, Fz.dp d1 x z1 p1, Fz.dp d2 y z2 p2, Fz.lay d1 x z1 p1, Fz.lay d2 y z2 p2, p3, ?_⟩
    rw [eqv_eqD]
    exact f.frz s rfl
  · cases ho

/-! ### numbers -/
def oI2 (C : Int → Int → Bool) (g : Int → Int → D) (d e : D) : Option D := match d, e with
  | .int i, .int j => if C i j = true then some (g i j) else none
  | _, _ => none
theorem sh_int {K : PySem.W.Frag} {mg : Str → Option Value} {H0 H : Hp} {i : Int} {x : V} (h : Sh K mg H0 H (.int i) x) : x = .int i := h
theorem sh_str {K : PySem.W.Frag} {mg : Str → Option Value} {H0 H : Hp} {i : List Nat} {x : V} (h : Sh K mg H0 H (.str i) x) : x = sV i ∧ sOk i = true := h
theorem ru_I2 {m : Md} {C : Int → Int → Bool} {P : Int → Int → Prop} {g : Int → Int → D} {gv : Int → Int → V} (hC : ∀ i j, C i j = true → P i j) (hg : ∀ i j, atom (g i j) = true ∧ ∀ H, Fz G.K G.mg H (g i j) (gv i j)) :
    Ru2 G (rI P gv) m (oI2 C g) := by
  intro H0 H d1 d2 x y d Q s h1 h2 ho f
  unfold oI2 at ho
  split at ho
  · rename_i i j
    split at ho
    · rename_i hc
      cases ho
      exact ⟨i, j, h1, h2, hC i j hc, f.atom s ((hg i j).2 _) (hg i j).1⟩
    · cases ho
  · cases ho
def mulOk (i j : Int) : Bool := decide (i.natAbs < 18446744073709551616) || (decide (j.natAbs < 18446744073709551616) || decide (i.natAbs.log2 + j.natAbs.log2 < 1000000))
def divOk (_ j : Int) : Bool := decide (0 < j) && decide (j.natAbs.log2 < 9000)
def modOk (_ j : Int) : Bool := decide (0 < j)
def powOk (i j : Int) : Bool := decide (0 ≤ j) && decide (j ≤ 1000000) && decide (i.natAbs < 18446744073709551616)
abbrev yes2 (_ _ : Int) : Bool := true
def oSub : D → D → Option D := oI2 yes2 fun i j => .int (i - j)
def oFdiv : D → D → Option D := oI2 divOk fun i j => .int (i / j)
def oMod : D → D → Option D := oI2 modOk fun i j => .int (i % j)
def oPow : D → D → Option D := oI2 powOk fun i j => .int (i ^ j.toNat)
def rI0' (g : Int → Int → V) : R2 := rI (fun _ _ => True) g
theorem op_rI0 {f : Value → Value → Sem Value} {g : Int → Int → V} (h : OpR X f (rI0 g)) : OpR X f (rI0' g) := fun pins s σ H x y v u Q I rx ry ⟨i, j, e1, e2, _, q⟩ => h pins s σ H x y v u Q I rx ry ⟨i, j, e1, e2, q⟩
theorem ru_sub {m : Md} : Ru2 G (rI0' fun i j => .int (i - j)) m oSub := ru_I2 (fun _ _ _ => trivial) fun _ _ => ⟨rfl, fun _ => rfl⟩
theorem ru_fdiv {m : Md} : Ru2 G (rI CDivW fun i j => .int (i / j)) m oFdiv := ru_I2 (fun i j h => by
  unfold divOk at h
  simp only [Bool.and_eq_true, decide_eq_true_eq] at h
  exact h) fun _ _ => ⟨rfl, fun _ => rfl⟩
theorem ru_mod {m : Md} : Ru2 G (rI (fun _ j => 0 < j) fun i j => .int (i % j)) m oMod := ru_I2 (fun i j h => of_decide_eq_true h) fun _ _ => ⟨rfl, fun _ => rfl⟩
theorem ru_pow {m : Md} : Ru2 G (rI CPow fun i j => .int (i ^ j.toNat)) m oPow := ru_I2 (fun i j h => by
  unfold powOk at h
  simp only [Bool.and_eq_true, decide_eq_true_eq] at h
  exact ⟨h.1.1, h.1.2, h.2⟩) fun _ _ => ⟨rfl, fun _ => rfl⟩
/-- comparisons of ints -/
def oLtI : D → D → Option D := oI2 yes2 fun i j => .bl (decide (i < j))
def oLeI : D → D → Option D := oI2 yes2 fun i j => .bl (decide (i ≤ j))
def oGtI : D → D → Option D := oI2 yes2 fun i j => .bl (decide (j < i))
def oGeI : D → D → Option D := oI2 yes2 fun i j => .bl (decide (j ≤ i))
theorem ru_ltI {m : Md} : Ru2 G (rI0' fun i j => .bl (decide (i < j))) m oLtI := ru_I2 (fun _ _ _ => trivial) fun _ _ => ⟨rfl, fun _ => rfl⟩
theorem ru_leI {m : Md} : Ru2 G (rI0' fun i j => .bl (decide (i ≤ j))) m oLeI := ru_I2 (fun _ _ _ => trivial) fun _ _ => ⟨rfl, fun _ => rfl⟩
theorem ru_gtI {m : Md} : Ru2 G (rI0' fun i j => .bl (decide (j < i))) m oGtI := ru_I2 (fun _ _ _ => trivial) fun _ _ => ⟨rfl, fun _ => rfl⟩
theorem ru_geI {m : Md} : Ru2 G (rI0' fun i j => .bl (decide (j ≤ i))) m oGeI := ru_I2 (fun _ _ _ => trivial) fun _ _ => ⟨rfl, fun _ => rfl⟩

/-! ### + -/
theorem Fzs.append {K : PySem.W.Frag} {mg : Str → Option Value} {H : Hp} : ∀ {ds es : List D} {vs ws : List V}, Fzs K mg H ds vs → Fzs K mg H es ws → Fzs K mg H (ds ++ es) (vs ++ ws)
  | [], es, vs, ws, h, g => by rw [show vs = [] from h]; exact g
  | d :: ds, es, vs, ws, ⟨v, r, e, h, t⟩, g => by subst e; exact ⟨v, r ++ ws, rfl, h, Fzs.append t g⟩
theorem Fzs.length {K : PySem.W.Frag} {mg : Str → Option Value} {H : Hp} : ∀ {ds : List D} {vs : List V}, Fzs K mg H ds vs → vs.length = ds.length
  | [], vs, h => by rw [show vs = [] from h]; rfl
  | d :: ds, vs, ⟨v, r, e, h, t⟩ => by subst e; simp [Fzs.length t]
abbrev lnOk (n : Nat) : Bool := decide (n ≤ 16777216)
def oAdd (d e : D) : Option D := match d, e with
  | .int i, .int j => some (.int (i + j))
  | .str s, .str t => if lnOk (s.length + t.length) = true then some (.str (s ++ t)) else none
  | .lst s, .lst t => if lnOk (s.length + t.length) = true then some (.lst (s ++ t)) else none
  | .tup s, .tup t => if lnOk (s.length + t.length) = true then some (.tup (s ++ t)) else none
  | _, _ => none
def oAddL (d e : D) : Option D := match d, e with
  | .lst s, .lst t => if lnOk (s.length + t.length) = true then some (.lst (s ++ t)) else none
  | _, _ => none
abbrev rOr (r r' : R2) : R2 := fun x y H Q => r x y H Q ∨ r' x y H Q
abbrev rAddS : R2 := fun x y H Q => ∃ i j, x = .str i ∧ y = .str j ∧ i.length + j.length ≤ sizeLine ∧ Q (.str (i ++ j)) H
abbrev rAddV (K : PySem.W.Frag) : R2 := rOr (rI0' fun i j => .int (i + j)) (rOr rAddS (rOr rCat (rCatA K)))
theorem op_addV : OpR X (binaryOp .Add) (rAddV X.K) := (op_rI0 op_add).or (op_add_str.or (op_cat.or op_catA))
theorem str_app (s t : List Nat) : ((⟨s.toArray⟩ : Str) ++ ⟨t.toArray⟩) = ⟨(s ++ t).toArray⟩ := by
  show (Str.mk (s.toArray ++ t.toArray)) = _
  congr 1
  simp
theorem str_len (s : List Nat) : (⟨s.toArray⟩ : Str).length = s.length := by simp [Str.length]
theorem sOk_app {s t : List Nat} (h1 : sOk s = true) (h2 : sOk t = true) (h : s.length + t.length ≤ 16777216) : sOk (s ++ t) = true := by
  unfold sOk at *
  simp only [Bool.and_eq_true, decide_eq_true_eq, List.all_append, List.length_append] at *
  exact ⟨h, h1.2, h2.2⟩
theorem ru_add : Ru2 G (rAddV G.K) .z oAdd := by
  intro H0 H d1 d2 x y d Q s h1 h2 ho f
  unfold oAdd at ho
  split at ho
  · rename_i i j
    cases ho
    exact .inl ⟨i, j, h1, h2, trivial, f.atom s rfl rfl⟩
  · rename_i a b
    split at ho
    · rename_i hl
      cases ho
      have hl := of_decide_eq_true hl
      obtain ⟨e1, k1⟩ := sh_str h1
      obtain ⟨e2, k2⟩ := sh_str h2
      refine .inr (.inl ⟨_, _, e1, e2, ?_, ?_⟩)
      · rw [str_len, str_len, sizeLine_eq]; exact hl
      · rw [str_app]
        exact f.atom s ⟨rfl, sOk_app k1 k2 hl⟩ rfl
    · cases ho
  · rename_i a b
    split at ho
    · rename_i hl
      cases ho
      have hl := of_decide_eq_true hl
      obtain ⟨a1, vs, e1, k1, f1⟩ := h1
      obtain ⟨a2, ws, e2, k2, f2⟩ := h2
      refine .inr (.inr (.inl ⟨a1, a2, vs, ws, e1, e2, k1, k2, ?_, fun p hp => f.lst (.inl rfl) s (f1.append f2) hp⟩))
      rw [f1.length, f2.length, sizeLine_eq]; exact hl
    · cases ho
  · rename_i a b
    split at ho
    · rename_i hl
      cases ho
      have hl := of_decide_eq_true hl
      obtain ⟨a1, vs, e1, k1, f1⟩ := id h1
      obtain ⟨a2, ws, e2, k2, f2⟩ := id h2
      have l1 := f1.length
      have l2 := f2.length
      refine .inr (.inr (.inr ⟨a1, a2, vs, ws, e1, e2, same_t s k1, same_t s k2, ?_, fun hx => ?_, fun hx hy => ?_, fun hx hy p hp => f.tup (.inl rfl) s (f1.append f2) hp⟩))
      · rw [l1, l2, sizeLine_eq]; exact hl
      · have z : a = [] := by
          rw [hx] at l1
          exact List.eq_nil_of_length_eq_zero l1.symm
        rw [z] at f
        exact f.frz s (by rw [← e2]; exact h2)
      · have z : b = [] := by
          rw [hy] at l2
          exact List.eq_nil_of_length_eq_zero l2.symm
        rw [z, List.append_nil] at f
        exact f.frz s (by rw [← e1]; exact h1)
    · cases ho
  · cases ho
end
end Vm
set_option Elab.async false
set_option linter.all false
set_option maxRecDepth 100000
set_option maxHeartbeats 4000000
namespace Vm
open PySem PySem.Spec PyProof.Rows L2
section
variable {G : GC} {N : List Str} {S : SC} {X : Cx}
theorem ru_addL : Ru2 G rCat m1 oAddL := by
  intro H0 H d1 d2 x y d Q s h1 h2 ho f
  unfold oAddL at ho
  split at ho
  · rename_i a b
    split at ho
    · rename_i hl
      cases ho
      have hl := of_decide_eq_true hl
      obtain ⟨a1, vs, e1, k1, f1⟩ := h1
      obtain ⟨a2, ws, e2, k2, f2⟩ := h2
      refine ⟨a1, a2, vs, ws, e1, e2, k1, k2, ?_, fun p hp => f.lst (.inr rfl) s (f1.append f2) hp⟩
      rw [f1.length, f2.length, sizeLine_eq]; exact hl
    · cases ho
  · cases ho

/-! ### * -/
def repS (s : List Nat) : Nat → List Nat
  | 0 => []
  | n + 1 => s ++ repS s n
def oMul (d e : D) : Option D := match d, e with
  | .int i, .int j => if mulOk i j = true then some (.int (i * j)) else none
  | .str s, .int n => if decide (0 ≤ n) && decide (n ≤ 1000) && decide (s.length ≤ 1000) = true then some (.str (repS s n.toNat)) else none
  | _, _ => none
abbrev rMulS : R2 := fun x y H Q => ∃ s n, x = .str ⟨s.toArray⟩ ∧ y = .int n ∧ 0 ≤ n ∧ n ≤ 1000 ∧ s.length ≤ 1000 ∧ Q (.str ⟨(repS s n.toNat).toArray⟩) H
theorem foldl_repS (s : List Nat) : ∀ (n : Nat) (acc : List Nat), List.foldl (fun x y : Array Nat => x ++ y) acc.toArray (List.replicate n s.toArray) = (acc ++ repS s n).toArray
  | 0, acc => by simp [repS]
  | n + 1, acc => by
    rw [List.replicate_succ, List.foldl_cons]
    have : acc.toArray ++ s.toArray = (acc ++ s).toArray := by simp
    rw [this, foldl_repS s n (acc ++ s), repS, List.append_assoc]
theorem repS_len (s : List Nat) : ∀ n, (repS s n).length = n * s.length
  | 0 => by simp [repS]
  | n + 1 => by rw [repS, List.length_append, repS_len s n, Nat.succ_mul]; omega
theorem repS_one (s : List Nat) : repS s 1 = s := by simp [repS]
theorem repS_nil : ∀ n, repS [] n = []
  | 0 => rfl
  | n + 1 => by rw [repS, repS_nil n]; rfl
theorem op_mulS : OpR X (binaryOp .Mult) rMulS := by
  intro pins s σ H x y v u Q I rx ry h
  obtain ⟨z, n, rfl, rfl, h0, h1, h2, q⟩ := h
  obtain ⟨t, rfl⟩ := rx
  obtain ⟨t', rfl⟩ := ry
  have hb : z.length * n.toNat ≤ 1000 * 1000 := Nat.mul_le_mul h2 (by omega)
  refine PySem.P.mul_str ?_ ?_ ?_ ?_
  · have a1 : ¬ n < -(2 ^ 63 : Int) := by omega
    have a2 : ¬ n ≥ 2 ^ 63 := by omega
    rw [decide_eq_false a1, decide_eq_false a2]; rfl
  · intro hn _
    rw [str_len]
    have : (1000 : Int) ≤ (2 ^ 63 - 1) / n := by
      rw [Int.le_ediv_iff_mul_le (by omega)]
      omega
    omega
  · intro _ _
    rw [str_len]
    unfold Builtin.Str.tooLong
    exact decide_eq_false (by rw [sizeLine_eq]; omega)
  · by_cases hn : n < 1
    · rw [if_pos hn]
      have e : n = 0 := by omega
      subst e
      refine ⟨by decide, .str ⟨#[]⟩, H, I.tok _, ⟨_, rfl⟩, q⟩
    · rw [if_neg hn]
      by_cases hc : (n == 1 || (⟨z.toArray⟩ : Str).length == 0) = true
      · rw [if_pos hc]
        refine ⟨.str ⟨z.toArray⟩, H, I, ⟨t, rfl⟩, ?_⟩
        rcases Bool.or_eq_true_iff.mp hc with e | e
        · have e : n = 1 := by simpa using e
          subst e
          rw [show (1 : Int).toNat = 1 from rfl, repS_one] at q
          exact q
        · rw [str_len] at e
          have e : z = [] := List.eq_nil_of_length_eq_zero (by simpa using e)
          subst e
          rw [repS_nil] at q
          exact q
      · rw [if_neg hc]
        have e := foldl_repS z n.toNat []
        refine ⟨?_, ?_⟩
        · rw [sizeLine_eq]
          show (List.foldl (· ++ ·) #[] (List.replicate n.toNat z.toArray)).size ≤ _
          have e2 : List.foldl (· ++ ·) #[] (List.replicate n.toNat z.toArray) = (repS z n.toNat).toArray := e
          rw [e2]
          have := repS_len z n.toNat
          have hc := Nat.mul_comm z.length n.toNat
          simp only [List.size_toArray]
          omega
        · have e2 : List.foldl (· ++ ·) #[] (List.replicate n.toNat z.toArray) = (repS z n.toNat).toArray := e
          have fin : ∀ (w : Str) (tk : Tok), w = ⟨(repS z n.toNat).toArray⟩ → EP X pins σ Q (.str w tk) { s with toks := s.toks + 1 } := fun w tk ew => ⟨.str w, H, I.tok _, ⟨tk, rfl⟩, by rw [ew]; exact q⟩
          exact fin _ _ (by rw [← e2])
abbrev rMulV : R2 := rOr (rI (fun i j => CMul i j ∨ CMulW i j) fun i j => .int (i * j)) rMulS
theorem op_mulB : OpR X (binaryOp .Mult) (rI (fun i j => CMul i j ∨ CMulW i j) fun i j => .int (i * j)) := opI fun _ _ _ _ _ _ _ hc q => mul_int q (hc.elim CMul.ok CMulW.ok)
theorem op_mulV : OpR X (binaryOp .Mult) rMulV := op_mulB.or op_mulS
theorem mulOk_of {i j : Int} (h : mulOk i j = true) : CMul i j ∨ CMulW i j := by
  unfold mulOk at h
  simp only [Bool.or_eq_true, decide_eq_true_eq] at h
  rcases h with h | h | h
  · exact .inl (.inl ⟨by omega, by omega⟩)
  · exact .inl (.inr ⟨by omega, by omega⟩)
  · exact .inr h
theorem sOk_rep {s : List Nat} (h : sOk s = true) (h1 : s.length ≤ 1000) : ∀ {n : Nat}, n ≤ 1000 → sOk (repS s n) = true := by
  intro n hn
  have hall : ∀ n, (repS s n).all (fun c => decide (c < 1114112)) = true := by
    intro n
    induction n with
    | zero => rfl
    | succ n ih =>
      unfold sOk at h
      simp only [Bool.and_eq_true] at h
      rw [repS, List.all_append, h.2, ih]; rfl
  unfold sOk
  rw [hall n, Bool.and_true]
  refine decide_eq_true ?_
  rw [repS_len]
  have : n * s.length ≤ 1000 * 1000 := Nat.mul_le_mul hn h1
  omega
theorem ru_mul {m : Md} : Ru2 G rMulV m oMul := by
  intro H0 H d1 d2 x y d Q s h1 h2 ho f
  unfold oMul at ho
  split at ho
  · split at ho
    · rename_i hk
      cases ho
      exact .inl ⟨_, _, h1, h2, mulOk_of hk, f.atom s rfl rfl⟩
    · cases ho
  · rename_i z n
    split at ho
    · rename_i hk
      cases ho
      simp only [Bool.and_eq_true, decide_eq_true_eq] at hk
      obtain ⟨e1, k1⟩ := sh_str h1
      exact .inr ⟨z, n, e1, h2, hk.1.1, hk.1.2, hk.2, f.atom s ⟨rfl, sOk_rep k1 hk.2 (by omega)⟩ rfl⟩
    · cases ho
  · cases ho

/-! ### in, not in -/
def inOk (d : D) (cs : List D) : Bool := plain d && plains cs && decide (min (deps cs) (dep d) ≤ 64)
def oIn (d c : D) : Option D := match c with
  | .lst cs => if inOk d cs = true then some (.bl (cs.any fun y => eqD y d)) else none
  | .tup cs => if inOk d cs = true then some (.bl (cs.any fun y => eqD y d)) else none
  | .str t => match d with
    | .str [c] => some (.bl (decide (c ∈ t)))
    | _ => none
  | _ => none
def oNotIn (d c : D) : Option D := match oIn d c with
  | some (.bl b) => some (.bl (!b))
  | _ => none
def rInV (K : PySem.W.Frag) (neg : Bool) : R2 := fun x y H Q =>
  (∃ d ds, Dp K H x d ∧ (Dp K H y (.list ds) ∨ Dp K H y (.tuple ds)) ∧ d.canLay0 = true ∧ PyData.canLayAll0 ds = true ∧ min (PyData.depthAll ds) d.depth ≤ 64 ∧ Q (.bl (if neg then !ds.any (fun z => PyData.eqv z d) else ds.any fun z => PyData.eqv z d)) H) ∨
  ∃ (c : Nat) (z : List Nat), x = .str ⟨#[c]⟩ ∧ y = .str ⟨z.toArray⟩ ∧ Q (.bl (if neg then !decide (c ∈ z) else decide (c ∈ z))) H
theorem op_inV (hu : X.A.units + 100 < cLine) : OpR X (compareOp .In) (rInV X.K false) := by
  intro pins s σ H x y v u Q I rx ry h
  rcases h with ⟨d, ds, hd, he, sd, se, hm, q⟩ | ⟨c, z, e1, e2, q⟩
  · obtain ⟨as, r1⟩ := Dp.reads I d x v hd rx
    rcases he with he | he
    · obtain ⟨bs, r2⟩ := Dp.reads I _ y u he ry
      exact SeqAt.in_list_reads r2 r1 se sd (by omega) ⟨.bl _, H, I, rfl, q⟩
    · obtain ⟨bs, r2⟩ := Dp.reads I _ y u he ry
      exact SeqAt.in_tuple_reads r2 r1 se sd (by omega) ⟨.bl _, H, I, rfl, q⟩
  · exact op_in_sign pins s σ H x y v u Q I rx ry ⟨c, _, e1, e2, by simpa using q⟩
theorem op_notInV (hu : X.A.units + 100 < cLine) : OpR X (compareOp .NotIn) (rInV X.K true) := by
  intro pins s σ H x y v u Q I rx ry h
  rcases h with ⟨d, ds, hd, he, sd, se, hm, q⟩ | ⟨c, z, e1, e2, q⟩
  · obtain ⟨as, r1⟩ := Dp.reads I d x v hd rx
    rcases he with he | he
    · obtain ⟨bs, r2⟩ := Dp.reads I _ y u he ry
      exact SeqAt.notIn_list_reads r2 r1 se sd (by omega) ⟨.bl _, H, I, rfl, q⟩
    · obtain ⟨bs, r2⟩ := Dp.reads I _ y u he ry
      exact SeqAt.notIn_tuple_reads r2 r1 se sd (by omega) ⟨.bl _, H, I, rfl, q⟩
  · exact op_notIn_sign pins s σ H x y v u Q I rx ry ⟨c, _, e1, e2, by simpa using q⟩
theorem inOk_of {d : D} {cs : List D} (h : inOk d cs = true) : plain d = true ∧ plains cs = true ∧ min (PyData.depthAll (toPys cs)) (toPy d).depth ≤ 64 := by
  unfold inOk at h
  simp only [Bool.and_eq_true, decide_eq_true_eq] at h
  have h1 := dep_py d
  have h2 := deps_py cs
  exact ⟨h.1.1, h.1.2, by omega⟩
theorem any_toPys (d : D) : ∀ cs : List D, (toPys cs).any (fun z => PyData.eqv z (toPy d)) = cs.any fun y => eqD y d
  | [] => rfl
  | c :: cs => by
    show (PyData.eqv (toPy c) (toPy d) || _) = _
    rw [eqv_eqD, any_toPys d cs]; rfl
theorem in_core {neg : Bool} {H0 H : Hp} {d c : D} {x y : V} {b : Bool} {Q : VK} (s : Same H0 H) (h1 : Sh G.K G.mg H0 H d x) (h2 : Sh G.K G.mg H0 H c y) (ho : oIn d c = some (.bl b)) (q : Q (.bl (if neg then !b else b)) H) : rInV G.K neg x y H Q := by
  have z1 := h1.fz s
  have z2 := h2.fz s
  unfold oIn at ho
  split at ho
  · split at ho
    · rename_i hk
      obtain ⟨p1, p2, p3⟩ := inOk_of hk
      cases ho
      obtain ⟨a, vs, e, k, f⟩ := id z2
      refine .inl ⟨toPy d, _, Fz.dp d x z1 p1, .inl (Fz.dp (.lst _) y z2 p2), Fz.lay d x z1 p1, Fzs.lay _ vs f p2, p3, ?_⟩
      rw [any_toPys]; exact q
    · cases ho
  · split at ho
    · rename_i hk
      obtain ⟨p1, p2, p3⟩ := inOk_of hk
      cases ho
      obtain ⟨a, vs, e, k, f⟩ := id z2
      refine .inl ⟨toPy d, _, Fz.dp d x z1 p1, .inr (Fz.dp (.tup _) y z2 p2), Fz.lay d x z1 p1, Fzs.lay _ vs f p2, p3, ?_⟩
      rw [any_toPys]; exact q
    · cases ho
  · split at ho
    · cases ho
      exact .inr ⟨_, _, (sh_str h1).1, (sh_str h2).1, q⟩
    · cases ho
  · cases ho
theorem oIn_bl {d c e : D} (h : oIn d c = some e) : ∃ b, e = .bl b := by
  unfold oIn at h
  split at h
  · split at h
    · cases h; exact ⟨_, rfl⟩
    · cases h
  · split at h
    · cases h; exact ⟨_, rfl⟩
    · cases h
  · split at h
    · cases h; exact ⟨_, rfl⟩
    · cases h
  · cases h
theorem ru_in : Ru2 G (rInV G.K false) .z oIn := by
  intro H0 H d1 d2 x y d Q s h1 h2 ho f
  obtain ⟨b, e⟩ := oIn_bl ho
  subst e
  exact in_core s h1 h2 ho (f.frz s rfl)
theorem ru_notIn : Ru2 G (rInV G.K true) .z oNotIn := by
  intro H0 H d1 d2 x y d Q s h1 h2 ho f
  unfold oNotIn at ho
  split at ho
  · rename_i hi
    cases ho
    exact in_core s h1 h2 hi (f.frz s rfl)
  · cases ho

/-! ### is, is not -/
def isNon : D → Bool
  | .non => true
  | _ => false
def oIs (d e : D) : Option D := match e with
  | .non => some (.bl (isNon d))
  | .bl b => match d with
    | .bl a => some (.bl (decide (a = b)))
    | _ => none
  | _ => none
def oIsNot (d e : D) : Option D := match e with
  | .non => some (.bl (!isNon d))
  | .bl b => match d with
    | .bl a => some (.bl (!decide (a = b)))
    | _ => none
  | _ => none
abbrev rIsV : R2 := rOr (fun x y H Q => y = .non ∧ Q (.bl (decide (x = .non))) H) rIsB
abbrev rIsNotV : R2 := rOr (fun x y H Q => y = .non ∧ Q (.bl (!decide (x = .non))) H) rNotB
theorem op_isV : OpR X (compareOp .Is) rIsV := op_isN.or op_isBl
theorem op_isNotV : OpR X (compareOp .IsNot) rIsNotV := op_notN.or op_notBl
theorem sh_non {H0 H : Hp} {d : D} {x : V} (h : Sh G.K G.mg H0 H d x) : decide (x = V.non) = isNon d := by
  cases d with
  | non => rw [show x = V.non from h]; rfl
  | bl b => rw [show x = V.bl b from h]; rfl
  | int b => rw [show x = V.int b from h]; rfl
  | str b => rw [(sh_str h).1]; rfl
  | tup b => obtain ⟨a, vs, e, _⟩ := id h; rw [e]; rfl
  | lst b => obtain ⟨a, vs, e, _⟩ := id h; rw [e]; rfl
  | dct b _ => obtain ⟨a, vs, e, _⟩ := id h; rw [e]; rfl
  | ins b _ _ => obtain ⟨a, _, _, vs, e, _⟩ := id h; rw [e]; rfl
  | scr _ => obtain ⟨a, e, _⟩ := id h; rw [e]; rfl
theorem ru_is {m : Md} : Ru2 G rIsV m oIs := by
  intro H0 H d1 d2 x y d Q s h1 h2 ho f
  unfold oIs at ho
  split at ho
  · cases ho
    refine .inl ⟨h2, ?_⟩
    rw [sh_non h1]
    exact f.atom s rfl rfl
  · split at ho
    · cases ho
      exact .inr ⟨_, _, h1, h2, f.atom s rfl rfl⟩
    · cases ho
  · cases ho
theorem ru_isNot {m : Md} : Ru2 G rIsNotV m oIsNot := by
  intro H0 H d1 d2 x y d Q s h1 h2 ho f
  unfold oIsNot at ho
  split at ho
  · cases ho
    refine .inl ⟨h2, ?_⟩
    rw [sh_non h1]
    exact f.atom s rfl rfl
  · split at ho
    · cases ho
      exact .inr ⟨_, _, h1, h2, f.atom s rfl rfl⟩
    · cases ho
  · cases ho

/-! ### an item -/
def oIx (d e : D) : Option D := match d, e with
  | .lst ds, .int i => atI ds i
  | .tup ds, .int i => atI ds i
  | .str s, .int i => (atI s i).map fun c => .str [c]
  | .scr ns, .int i => (atI ns i).map .int
  | _, _ => none
theorem Fzs.get {K : PySem.W.Frag} {mg : Str → Option Value} {H : Hp} : ∀ {ds : List D} {vs : List V} {j : Nat} {d : D}, Fzs K mg H ds vs → ds[j]? = some d → ∃ v, vs[j]? = some v ∧ Fz K mg H d v
  | [], _, _, _, _, h => by simp at h
  | d :: ds, vs, 0, d', ⟨v, r, e, h, t⟩, q => by
    subst e
    simp at q
    subst q
    exact ⟨v, rfl, h⟩
  | d :: ds, vs, j + 1, d', ⟨v, r, e, h, t⟩, q => by
    subst e
    obtain ⟨w, h1, h2⟩ := Fzs.get (j := j) t (by simpa using q)
    exact ⟨w, by simpa using h1, h2⟩
theorem Fzs.atI {K : PySem.W.Frag} {mg : Str → Option Value} {H : Hp} {ds : List D} {vs : List V} {i : Int} {d : D} (f : Fzs K mg H ds vs) (h : L2.atI ds i = some d) : ∃ v, L2.atI vs i = some v ∧ Fz K mg H d v := by
  unfold L2.atI at h ⊢
  rw [f.length]
  cases e : ixN ds.length i with
  | none => rw [e] at h; cases h
  | some j =>
    rw [e] at h
    exact f.get h
theorem atI_mem {α : Type} {xs : List α} {i : Int} {c : α} (h : L2.atI xs i = some c) : c ∈ xs := by
  unfold L2.atI at h
  cases hq : ixN xs.length i with
  | none => rw [hq] at h; cases h
  | some j => rw [hq] at h; exact List.mem_of_getElem? (show xs[j]? = some c from h)
theorem atI_map {α β : Type} {g : α → β} {xs : List α} {i : Int} : L2.atI (xs.map g) i = (L2.atI xs i).map g := by
  unfold L2.atI
  rw [List.length_map]
  cases hq : ixN xs.length i with
  | none => rfl
  | some j =>
    show (xs.map g)[j]? = (xs[j]?).map g
    rw [List.getElem?_map]
theorem ru_ix : Ru2 G (rIx G.K) .z oIx := by
  intro H0 H d1 d2 x y d Q s h1 h2 ho f
  unfold oIx at ho
  split at ho
  · obtain ⟨a, vs, e, k, g⟩ := h1
    obtain ⟨v, e1, e2⟩ := g.atI ho
    exact .inl ⟨a, vs, _, v, e, h2, .of k, e1, f.frz s e2⟩
  · obtain ⟨a, vs, e, k, g⟩ := h1
    obtain ⟨v, e1, e2⟩ := g.atI ho
    exact .inr (.inl ⟨a, vs, _, v, e, h2, same_t s k, e1, f.frz s e2⟩)
  · obtain ⟨c, e1, e2⟩ := Option.map_eq_some_iff.mp ho
    obtain ⟨e3, k⟩ := sh_str h1
    subst e2
    refine .inr (.inr ⟨_, _, c, e3, h2, ?_, by simpa using e1, f.frz s ⟨rfl, ?_⟩⟩)
    · rw [str_len, sizeLine_eq]
      unfold sOk at k
      simp only [Bool.and_eq_true, decide_eq_true_eq] at k
      exact k.1
    · unfold sOk at k ⊢
      simp only [Bool.and_eq_true, decide_eq_true_eq, List.all_eq_true] at k ⊢
      refine ⟨by simp, fun y hy => ?_⟩
      rw [List.mem_singleton.mp hy]
      exact k.2 c (atI_mem e1)
  · obtain ⟨n, e1, e2⟩ := Option.map_eq_some_iff.mp ho
    obtain ⟨a, e3, k⟩ := h1
    subst e2
    exact .inl ⟨a, _, _, .int n, e3, h2, k, by rw [atI_map, e1]; rfl, f.frz s rfl⟩
  · cases ho
end
section
variable {G : GC} {N : List Str} {S : SC} {bs bs1 bs2 ms ms1 ms2 ms3 : Ms} {m : Md} {e a b : Expr} {es : List Expr} {f fa fb : M D} {pos : Pos}
theorem VO.ix {r : R2} {o : D → D → Option D} (ho : ∀ R, At S N (mkX G N R) → IxR (mkX G N R) r) (ru : Ru2 G r m o) (ha : VB G N S bs1 ms1 a fa) (hb : VB G N S bs2 ms2 b fb) (dj : Dj bs1 ms2 := by intro i h; first | rfl | (cases h)) (hp : PlainIx b := by exact fun _ _ => rfl) :
    VO G N S m (msU ms1 ms2) (.Subscript a b pos) (fOp2 o fa fb) := fun R a W t => (pe_ix (ho R a) (ha R a W t) (hb R a W t) hp).imp fun σ H Q h => VE.bin rfl rfl ru dj h
end
end Vm
set_option Elab.async false
set_option linter.all false
set_option maxRecDepth 100000
set_option maxHeartbeats 4000000
namespace Vm
open PySem PySem.Spec PyProof.Rows L2

def Shs (K : PySem.W.Frag) (mg : Str → Option Value) (H0 H : Hp) : List D → List V → Prop
  | [], vs => vs = []
  | d :: ds, vs => ∃ v r, vs = v :: r ∧ Sh K mg H0 H d v ∧ Shs K mg H0 H ds r
/-! ### children, arguments -/
def fNil : M (List D) := fun r => .ok [] r
def fCons (fe : M D) (fr : M (List D)) : M (List D) := fun r => (fe r).bind fun d r => (fr r).bind fun ds r => .ok (d :: ds) r
theorem Bw.more {K : PySem.W.Frag} {mg : Str → Option Value} {bs1 bs2 : Ms} {H0 H : Hp} {c : Co} {d : D} {v : V} (h : Bw K mg bs1 H0 H c d v) (q : ∀ i, bs1 i = true → bs2 i = true) : Bw K mg bs2 H0 H c d v := by
  rcases h with h | ⟨fp, i, hi, r⟩
  · exact .inl h
  · exact .inr ⟨fp, i, q i hi, r⟩
theorem Bws.more {K : PySem.W.Frag} {mg : Str → Option Value} {bs1 bs2 : Ms} {H0 H : Hp} {c : Co} (q : ∀ i, bs1 i = true → bs2 i = true) : ∀ {ds : List D} {vs : List V}, Bws K mg bs1 H0 H c ds vs → Bws K mg bs2 H0 H c ds vs
  | [], vs, h => h
  | d :: ds, vs, ⟨v, r, e, h, t⟩ => ⟨v, r, e, h.more q, Bws.more q t⟩
theorem Ows.length {K : PySem.W.Frag} {mg : Str → Option Value} {H0 H : Hp} : ∀ {ds : List D} {k : Kd} {vs : List V} {fp : List Addr}, Ows K mg H0 H ds k vs fp → vs.length = ds.length
  | [], _, _, _, h => by rw [h.1]; rfl
  | d :: ds, k, _, _, ⟨v, r, f, g, e, ef, h, t⟩ => by rw [e]; simp [Ows.length t]
/-- new nodes, then more of them -/
theorem Fresh.app {ms1 ms2 ms : Ms} {H0 H H1 H02 H2 : Hp} {H01 : Hp} {c c1 c2 : Co} {fp1 fp2 : List Addr} (f1 : Fresh ms1 H c H02 H2 c2 fp1) (t1 : ∀ a ∈ fp1, ∃ o, H1 a = some o) (n1 : ∀ a ∈ fp1, c1 a = none) (f2 : Fresh ms2 H1 c1 H02 H2 c2 fp2)
    (q1 : ∀ i, ms1 i = true → ms i = true) (q2 : ∀ i, ms2 i = true → ms i = true) (s : Step ms H0 H c H01 H1 c1) : Fresh ms H c H02 H2 c2 (fp1 ++ fp2) := by
  have f1 := f1.mono q1
  have f2' := Fresh.back s (f2.mono q2)
  have ap : ∀ {P : Addr → Prop}, (∀ a ∈ fp1, P a) → (∀ a ∈ fp2, P a) → ∀ a ∈ fp1 ++ fp2, P a := fun h1 h2 a ha => (List.mem_append.mp ha).elim (h1 a) (h2 a)
  refine ⟨List.nodup_append.mpr ⟨f1.nd, f2.nd, fun a ha b hb e => ?_⟩, ap f1.nc f2'.nc, ap f1.n0 f2'.n0, ap f1.there f2'.there, ap f1.new f2'.new⟩
  subst e
  obtain ⟨o, e1⟩ := t1 a ha
  rcases f2.new a hb with z | ⟨i, z, _⟩
  · rw [e1] at z; cases z
  · rw [n1 a ha] at z; cases z
section
variable {G : GC} {N : List Str} {S : SC} {bs bs1 bs2 ms ms1 ms2 ms3 : Ms} {m : Md} {k : Kd} {e a b : Expr} {es : List Expr} {f fa fb : M D} {fs : M (List D)} {pos : Pos}
def VLs (G : GC) (N : List Str) (S : SC) (k : Kd) (ms : Ms) (es : List Expr) (f : M (List D)) : Prop := VL G N S k ms es f ∧ ∀ r ds r', f r = .ok ds r' → ds.length = es.length
theorem VLs.nil : VLs G N S k ms0 [] fNil := by
  refine ⟨fun R a W t => pa_nil.imp fun σ H Q ⟨ρ, H0, c, l, o⟩ => o [] H0 H c .refl l ⟨[], ⟨rfl, rfl⟩, .nil⟩, fun r ds r' h => ?_⟩
  cases h; rfl
theorem VLs.cons (he : VO G N S k.hd ms1 e f) (hr : VLs G N S k.tl ms2 es fs) (hs : ∀ env, starEach (e :: es) env = (false, eval e env) :: starEach es env := by intro _; rfl) : VLs G N S k (msU ms1 ms2) (e :: es) (fCons f fs) := by
  refine ⟨fun R a W t => (pa_cons (he R a W t) (hr.1 R a W t) (hs _)).imp fun σ H Q ⟨ρ, H0, c, l, h⟩ => ?_, fun r ds r' h => ?_⟩
  · refine ⟨ρ, H0, c, l, (Out.bind (G := FO G.K G.mg k.hd ms1) (ms1 := ms1) back_FOs h fun i e => or_l e).imp fun x H1 ⟨d1, H01, c1, ρ1, e1, s1, l1, ⟨fp1, o1, f1⟩, h1⟩ => ?_⟩
    refine ⟨ρ1, H01, c1, l1, (Out.bind (G := FOs G.K G.mg k.tl ms2) (ms1 := ms2) back_FOs h1 fun i e => or_r e).imp fun y H2 ⟨d2, H02, c2, ρ2, e2, s2, l2, ⟨fp2, o2, f2⟩, h2⟩ => ?_⟩
    obtain ⟨f1', hk⟩ := f1.on s2
    have hh : Out G.K G.mg W (FOs G.K G.mg k (msU ms1 ms2)) (msU ms1 ms2) H0 H c σ (.ok (d1 :: d2) ρ2) Q := by
      have z : fCons f fs ρ = .ok (d1 :: d2) ρ2 := by unfold fCons; rw [e1, bind_ok, e2, bind_ok]
      rw [← z]; exact h
    have s1' := s1.mono (ms' := msU ms1 ms2) fun i e => or_l e
    have s2' := s2.mono (ms' := msU ms1 ms2) fun i e => or_r e
    refine hh (x :: y) H02 H2 c2 (s1'.trans s2') l2 ⟨fp1 ++ fp2, ⟨x, y, fp1, fp2, rfl, rfl, Ow.mono s2.grow d1 k.hd x fp1 hk o1, o2⟩, ?_⟩
    exact Fresh.app f1' (f1.there) (f1.nc) f2 (fun i e => or_l e) (fun i e => or_r e) s1'
  · unfold fCons at h
    cases e1 : f r with
    | ok d r1 =>
      rw [e1, bind_ok] at h
      cases e2 : fs r1 with
      | ok ds2 r2 =>
        rw [e2, bind_ok] at h
        cases h
        rw [List.length_cons, List.length_cons, hr.2 _ _ _ e2]
      | exc => rw [e2] at h; cases h
      | bad => rw [e2] at h; cases h
    | exc => rw [e1] at h; cases h
    | bad => rw [e1] at h; cases h
theorem VA.nil : VA G N S ms0 ms0 [] fNil := fun R a W t => pa_nil.imp fun σ H Q ⟨ρ, H0, c, l, o⟩ => o [] H0 H c .refl l rfl
theorem VA.cons (he : VB G N S bs1 ms1 e f) (hr : VA G N S bs2 ms2 es fs) (dj : Dj bs1 ms2 := by intro i h; first | rfl | (cases h)) (hs : ∀ env, starEach (e :: es) env = (false, eval e env) :: starEach es env := by intro _; rfl) : VA G N S (msU bs1 bs2) (msU ms1 ms2) (e :: es) (fCons f fs) := by
  refine fun R a W t => (pa_cons (he R a W t) (hr R a W t) (hs _)).imp fun σ H Q ⟨ρ, H0, c, l, h⟩ => ?_
  refine ⟨ρ, H0, c, l, (Out.bind (G := FB G.K G.mg bs1) (ms1 := ms1) back_FBs h fun i e => or_l e).imp fun x H1 ⟨d1, H01, c1, ρ1, e1, s1, l1, b1, h1⟩ => ?_⟩
  refine ⟨ρ1, H01, c1, l1, (Out.bind (G := FBs G.K G.mg bs2) (ms1 := ms2) back_FBs h1 fun i e => or_r e).imp fun y H2 ⟨d2, H02, c2, ρ2, e2, s2, l2, b2, h2⟩ => ?_⟩
  exact h2 (x :: y) H02 H2 c2 .refl l2 ⟨x, y, rfl, (b1.on s2 dj).more fun i e => or_l e, Bws.more (fun i e => or_r e) b2⟩
/-! ### displays -/
def fLst (f : M (List D)) : M D := fun r => (f r).bind fun ds r => .ok (.lst ds) r
def fTup (f : M (List D)) : M D := fun r => (f r).bind fun ds r => .ok (.tup ds) r
theorem VO.lst (h : VLs G N S k ms es fs) (hl : decide (es.length ≤ 1000) = true := by rfl) : VO G N S (.o k) ms (.List es pos) (fLst fs) := by
  refine fun R a W t => (pe_lst (h.1 R a W t)).imp fun σ H Q ⟨ρ, H0, c, l, o⟩ => ?_
  refine ⟨ρ, H0, c, l, (Out.bind (G := FOs G.K G.mg k ms) (ms1 := ms) back_FO o fun i e => e).imp fun xs H1 ⟨ds, H01, c1, ρ1, e1, s1, l1, ⟨g, o1, f1⟩, h1⟩ => ⟨?_, fun p hp => ?_⟩⟩
  · rw [o1.length, h.2 _ _ _ e1, sizeLine_eq]
    have := of_decide_eq_true hl
    omega
  · have hh : Out G.K G.mg W (FO G.K G.mg (.o k) ms) ms H0 H c σ (.ok (.lst ds) ρ1) Q := by
      have z : fLst fs ρ = .ok (.lst ds) ρ1 := by unfold fLst; rw [e1, bind_ok]
      rw [← z]; exact o
    refine Out.node (Hs := H) (cs := c) hh s1 l1 hp f1 ⟨p, xs, g, rfl, upd_same, rfl, Ows.mono (Same.refl _) ds k xs g (fun b hb => ?_) o1⟩
    obtain ⟨u, e⟩ := f1.there b hb
    exact upd_ne (ne_of_none e hp)
theorem VO.tup {x1} (h : VLs G N S k ms es fs) (hl : decide (es.length ≤ 1000) = true := by rfl) : VO G N S (.o k) ms (.Tuple es x1 pos) (fTup fs) := by
  refine fun R a W t => (pe_tup (h.1 R a W t)).imp fun σ H Q ⟨ρ, H0, c, l, o⟩ => ?_
  refine ⟨ρ, H0, c, l, (Out.bind (G := FOs G.K G.mg k ms) (ms1 := ms) back_FO o fun i e => e).imp fun xs H1 ⟨ds, H01, c1, ρ1, e1, s1, l1, ⟨g, o1, f1⟩, h1⟩ => ⟨?_, fun p hp => ?_⟩⟩
  · rw [o1.length, h.2 _ _ _ e1, sizeLine_eq]
    have := of_decide_eq_true hl
    omega
  · have hh : Out G.K G.mg W (FO G.K G.mg (.o k) ms) ms H0 H c σ (.ok (.tup ds) ρ1) Q := by
      have z : fTup fs ρ = .ok (.tup ds) ρ1 := by unfold fTup; rw [e1, bind_ok]
      rw [← z]; exact o
    refine Out.node (Hs := H) (cs := c) hh s1 l1 hp f1 ⟨p, xs, g, rfl, upd_same, rfl, Ows.mono (Same.refl _) ds k xs g (fun b hb => ?_) o1⟩
    obtain ⟨u, e⟩ := f1.there b hb
    exact upd_ne (ne_of_none e hp)

/-! ### tests -/
def fB (f : M D) : M D := fun r => (f r).bind fun d r => match d with
  | .bl b => .ok (.bl b) r
  | _ => .bad
theorem VT.of (h : VO G N S .z ms e f) (he : ∀ env whole, isTrue e env whole = (do let v ← whole; standAt e.pos; holding [v] (truthy v)) := by intro _ _; rfl) : VT G N S ms e (fB f) := by
  refine fun R a W t => (pt_val (h R a W t) (he _)).imp fun σ H Q ⟨ρ, H0, c, l, o⟩ => ?_
  refine ⟨ρ, H0, c, l, (Out.bind (G := FO G.K G.mg .z ms) (ms1 := ms) back_FT o fun i e => e).imp fun x H1 ⟨d, H01, c1, ρ1, e1, s1, l1, ⟨g, o1, f1⟩, h1⟩ => ?_⟩
  have z := (Ow.zero.mp o1).2
  cases d with
  | bl b => exact ⟨b, z, h1 b H01 H1 c1 .refl l1 rfl⟩
  | _ => exact h1.elim
theorem VT.cmp {op : CmpOp} {r : R2} {o : D → D → Option D} {bs1 bs2 ms1 ms2 : Ms} (ho : ∀ R, At S N (mkX G N R) → OpR (mkX G N R) (compareOp op) r) (ru : Ru2 G r .z o) (ha : VB G N S bs1 ms1 a fa) (hb : VB G N S bs2 ms2 b fb) (dj : Dj bs1 ms2 := by intro i h; first | rfl | (cases h))
    (hm : behindInMarks op b = false := by first | exact nomark _ | rfl) : VT G N S (msU ms1 ms2) (.Compare a [op] [b] pos) (fB (fOp2 o fa fb)) := by
  refine fun R a W t => (pt_cmpR (ho R a) (ha R a W t) (hb R a W t) hm).imp fun σ H Q ⟨ρ, H0, c, l, h⟩ => ?_
  refine VE.bin (m := .z) rfl rfl ru dj ⟨ρ, H0, c, l, (Out.bind (G := FO G.K G.mg .z (msU ms1 ms2)) (ms1 := msU ms1 ms2) back_FT h fun i e => e).imp fun x H1 ⟨d, H01, c1, ρ1, e1, s1, l1, ⟨g, o1, f1⟩, h1⟩ => ?_⟩
  have z := (Ow.zero.mp o1).2
  cases d with
  | bl b => exact ⟨b, z, h1 b H01 H1 c1 .refl l1 rfl⟩
  | _ => exact h1.elim
/-- a and b, a or b; not a -/
def fAnd (fa fb : M D) : M D := fun r => (fa r).bind fun d r => match d with
  | .bl true => fb r
  | .bl false => .ok (.bl false) r
  | _ => .bad
def fOr (fa fb : M D) : M D := fun r => (fa r).bind fun d r => match d with
  | .bl true => .ok (.bl true) r
  | .bl false => fb r
  | _ => .bad
def fNot (fa : M D) : M D := fun r => (fa r).bind fun d r => match d with
  | .bl b => .ok (.bl (!b)) r
  | _ => .bad
theorem VW.pt (h : VW G N S ms e f) : VT G N S ms e f := fun R a W t => PW.pt (h R a W t)
theorem VW.and1 (h : VT G N S ms a f) : VW G N S ms (.BoolOp .And [a] pos) f := fun R s W t => pw_and1 (h R s W t)
theorem VW.or1 (h : VT G N S ms a f) : VW G N S ms (.BoolOp .Or [a] pos) f := fun R s W t => pw_or1 (h R s W t)
theorem PW.imp {X : Cx} {e : Expr} {t t' : TT} (h : PW X e t) (q : ∀ σ H Q, t' σ H Q → t σ H Q) : PW X e t' := ⟨fun w pins s σ H Q I z => h.run w pins s σ H Q I (q σ H Q z)⟩
theorem VW.and {rest : List Expr} (ha : VT G N S ms1 a fa) (hb : VW G N S ms2 (.BoolOp .And (b :: rest) pos) fb) : VW G N S (msU ms1 ms2) (.BoolOp .And (a :: b :: rest) pos) (fAnd fa fb) := by
  refine fun R s W t => PW.imp (pw_and (ha R s W t) (hb R s W t)) fun σ H Q ⟨ρ, H0, c, l, o⟩ => ?_
  refine ⟨ρ, H0, c, l, (Out.bind (G := FT) (ms1 := ms1) back_FT o fun i e => or_l e).imp fun x H1 ⟨d, H01, c1, ρ1, e1, s1, l1, z, h1⟩ => ?_⟩
  have z : d = .bl x := z
  subst z
  cases x with
  | true => rw [if_pos rfl]; exact ⟨ρ1, H01, c1, l1, h1.mono (fun i e => or_r e) fun _ _ _ _ _ h => h⟩
  | false => rw [if_neg Bool.false_ne_true]; exact h1 false H01 H1 c1 .refl l1 rfl
theorem VW.or {rest : List Expr} (ha : VT G N S ms1 a fa) (hb : VW G N S ms2 (.BoolOp .Or (b :: rest) pos) fb) : VW G N S (msU ms1 ms2) (.BoolOp .Or (a :: b :: rest) pos) (fOr fa fb) := by
  refine fun R s W t => PW.imp (pw_or (ha R s W t) (hb R s W t)) fun σ H Q ⟨ρ, H0, c, l, o⟩ => ?_
  refine ⟨ρ, H0, c, l, (Out.bind (G := FT) (ms1 := ms1) back_FT o fun i e => or_l e).imp fun x H1 ⟨d, H01, c1, ρ1, e1, s1, l1, z, h1⟩ => ?_⟩
  have z : d = .bl x := z
  subst z
  cases x with
  | false => rw [if_neg Bool.false_ne_true]; exact ⟨ρ1, H01, c1, l1, h1.mono (fun i e => or_r e) fun _ _ _ _ _ h => h⟩
  | true => rw [if_pos rfl]; exact h1 true H01 H1 c1 .refl l1 rfl
theorem VT.not (ha : VT G N S ms a fa) : VT G N S ms (.UnaryOp .Not a pos) (fNot fa) := by
  refine fun R s W t => (pt_not (ha R s W t)).imp fun σ H Q ⟨ρ, H0, c, l, o⟩ => ?_
  refine ⟨ρ, H0, c, l, (Out.bind (G := FT) (ms1 := ms) back_FT o fun i e => e).imp fun x H1 ⟨d, H01, c1, ρ1, e1, s1, l1, z, h1⟩ => ?_⟩
  have z : d = .bl x := z
  subst z
  exact h1 (!x) H01 H1 c1 .refl l1 rfl
/-- .. as values -/
theorem VO.one {op} (h : VO G N S m ms a f) : VO G N S m ms (.BoolOp op [a] pos) f := fun R s W t => pe_one (h R s W t)
theorem VO.and {rest : List Expr} (ha : VO G N S .z ms1 a fa) (hb : VO G N S .z ms2 (.BoolOp .And (b :: rest) pos) fb) : VO G N S .z (msU ms1 ms2) (.BoolOp .And (a :: b :: rest) pos) (fAnd fa fb) := by
  refine fun R s W t => (pe_and (ha R s W t) (hb R s W t)).imp fun σ H Q ⟨ρ, H0, c, l, o⟩ => ?_
  refine ⟨ρ, H0, c, l, (Out.bind (G := FO G.K G.mg .z ms1) (ms1 := ms1) back_FO o fun i e => or_l e).imp fun x H1 ⟨d, H01, c1, ρ1, e1, s1, l1, ⟨g, o1, f1⟩, h1⟩ => ?_⟩
  have z := (Ow.zero.mp o1).2
  cases d with
  | bl b =>
    refine ⟨b, z, ?_⟩
    cases b with
    | true => rw [if_pos rfl]; exact ⟨ρ1, H01, c1, l1, h1.mono (fun i e => or_r e) fun _ _ _ _ _ h => fo_mono (fun i e => or_r e) h⟩
    | false => rw [if_neg Bool.false_ne_true]; exact h1.here l1 rfl
  | _ => exact h1.elim
theorem VO.or {rest : List Expr} (ha : VO G N S .z ms1 a fa) (hb : VO G N S .z ms2 (.BoolOp .Or (b :: rest) pos) fb) : VO G N S .z (msU ms1 ms2) (.BoolOp .Or (a :: b :: rest) pos) (fOr fa fb) := by
  refine fun R s W t => (pe_or (ha R s W t) (hb R s W t)).imp fun σ H Q ⟨ρ, H0, c, l, o⟩ => ?_
  refine ⟨ρ, H0, c, l, (Out.bind (G := FO G.K G.mg .z ms1) (ms1 := ms1) back_FO o fun i e => or_l e).imp fun x H1 ⟨d, H01, c1, ρ1, e1, s1, l1, ⟨g, o1, f1⟩, h1⟩ => ?_⟩
  have z := (Ow.zero.mp o1).2
  cases d with
  | bl b =>
    refine ⟨b, z, ?_⟩
    cases b with
    | false => rw [if_neg Bool.false_ne_true]; exact ⟨ρ1, H01, c1, l1, h1.mono (fun i e => or_r e) fun _ _ _ _ _ h => fo_mono (fun i e => or_r e) h⟩
    | true => rw [if_pos rfl]; exact h1.here l1 rfl
  | _ => exact h1.elim
theorem VO.not (ha : VO G N S .z ms a fa) : VO G N S .z ms (.UnaryOp .Not a pos) (fNot fa) := by
  refine fun R s W t => (pe_not (ha R s W t)).imp fun σ H Q ⟨ρ, H0, c, l, o⟩ => ?_
  refine ⟨ρ, H0, c, l, (Out.bind (G := FO G.K G.mg .z ms) (ms1 := ms) back_FO o fun i e => e).imp fun x H1 ⟨d, H01, c1, ρ1, e1, s1, l1, ⟨g, o1, f1⟩, h1⟩ => ?_⟩
  have z := (Ow.zero.mp o1).2
  cases d with
  | bl b => exact ⟨b, z, h1.here l1 rfl⟩
  | _ => exact h1.elim
/-- a if t else b -/
def fIf {α : Type} (ft : M D) (fa fb : M α) : M α := fun r => (ft r).bind fun d r => match d with
  | .bl true => fa r
  | .bl false => fb r
  | _ => .bad
theorem VO.ite {t : Expr} {ft : M D} {ms0' : Ms} (ht : VT G N S ms0' t ft) (ha : VO G N S m ms1 a fa) (hb : VO G N S m ms2 b fb) : VO G N S m (msU ms0' (msU ms1 ms2)) (.IfExp t a b pos) (fIf ft fa fb) := by
  refine fun R s W tk => (pe_ifExp (ht R s W tk) (ha R s W tk) (hb R s W tk)).imp fun σ H Q ⟨ρ, H0, c, l, o⟩ => ?_
  refine ⟨ρ, H0, c, l, (Out.bind (G := FT) (ms1 := ms0') back_FO o fun i e => or_l e).imp fun x H1 ⟨d, H01, c1, ρ1, e1, s1, l1, z, h1⟩ => ?_⟩
  have z : d = .bl x := z
  subst z
  cases x with
  | true => rw [if_pos rfl]; exact ⟨ρ1, H01, c1, l1, h1.mono (fun i e => or_r (or_l e)) fun _ _ _ _ _ h => fo_mono (fun i e => or_r (or_l e)) h⟩
  | false => rw [if_neg Bool.false_ne_true]; exact ⟨ρ1, H01, c1, l1, h1.mono (fun i e => or_r (or_r e)) fun _ _ _ _ _ h => fo_mono (fun i e => or_r (or_r e)) h⟩
/-- -a -/
def fNeg (fa : M D) : M D := fun r => (fa r).bind fun d r => match d with
  | .int i => .ok (.int (-i)) r
  | _ => .bad
theorem VO.neg (ha : VO G N S .z ms a fa) : VO G N S .z ms (.UnaryOp .USub a pos) (fNeg fa) := by
  refine fun R s W t => (pe_un un_neg (ha R s W t)).imp fun σ H Q ⟨ρ, H0, c, l, o⟩ => ?_
  refine ⟨ρ, H0, c, l, (Out.bind (G := FO G.K G.mg .z ms) (ms1 := ms) back_FO o fun i e => e).imp fun x H1 ⟨d, H01, c1, ρ1, e1, s1, l1, ⟨g, o1, f1⟩, h1⟩ => ?_⟩
  have z := (Ow.zero.mp o1).2
  cases d with
  | int i => exact ⟨i, z, h1.here l1 rfl⟩
  | _ => exact h1.elim

/-! ### calls of built-ins -/
def RuA (G : GC) (r : List V → Hp → VK → Prop) (m : Md) (o : List D → Option D) : Prop :=
  ∀ H0 H ds xs d Q, Same H0 H → Shs G.K G.mg H0 H ds xs → o ds = some d → Fin G.K G.mg m H0 H d Q → r xs H Q
def fA (o : List D → Option D) (f : M (List D)) : M D := fun r => (f r).bind fun ds => rM (o ds)
theorem Bws.shs {K : PySem.W.Frag} {mg : Str → Option Value} {bs : Ms} {H0 H : Hp} {c : Co} (s : Same H0 H) : ∀ {ds : List D} {vs : List V}, Bws K mg bs H0 H c ds vs → Shs K mg H0 H ds vs
  | [], vs, h => h
  | d :: ds, vs, ⟨v, r, e, h, t⟩ => ⟨v, r, e, h.sh s, Bws.shs s t⟩
theorem VE.args {K : PySem.W.Frag} {mg : Str → Option Value} {W : WX} {σ : L2.St} {H : Hp} {Q : VK} {r : List V → Hp → VK → Prop} {o : List D → Option D} (hK : K = G.K) (hm : mg = G.mg) (ru : RuA G r m o)
    (h : tR K mg W (FO K mg m ms) ms (fA o fs) σ H Q) : tR K mg W (FBs K mg bs) ms fs σ H fun xs H1 => r xs H1 Q := by
  subst hK hm
  obtain ⟨ρ, H0, c, l, h⟩ := h
  refine ⟨ρ, H0, c, l, (Out.bind (G := FBs G.K G.mg bs) (ms1 := ms) back_FO h fun i e => e).imp fun xs H1 ⟨ds, H01, c1, ρ1, e1, s1, l1, b1, h1⟩ => ?_⟩
  cases eo : o ds with
  | none => rw [eo] at h1; exact h1.elim
  | some d => rw [eo] at h1; exact ru H01 H1 ds xs d Q l1.sub (b1.shs l1.sub) eo (Out.fin h1 l1)
variable {x : Str} {p : Pos} {id : String} {r : List V → Hp → VK → Prop} {o : List D → Option D}
theorem VO.callB (hc : ∀ R, At S N (mkX G N R) → CallR (mkX G N R) (.builtin id) r) (ru : RuA G r m o) (hm : G.mg x = none) (hv : bootBuiltins x = some (.builtin id)) (ha : VA G N S bs ms (e :: es) fs) (hg : Glb S x := by rfl)
    (hn : x ≠ "__name__" := by decide) (hdb : (x == ("__debug__" : Str)) = false := by decide) (he : ∀ env, starEach (e :: es) env = (false, eval e env) :: starEach es env := by intro _; rfl) (hpl : ∀ env, (backTo pos (starEach es env)).any (·.1) = false := by intro _; rfl) :
    VO G N S m ms (.Call (.Name x p) (e :: es) [] pos) (fA o fs) := fun R a W t => (pe_callB (hc R a) (a.gl hg) hm hv (ha R a W t) hn hdb (he _) (hpl _)).imp fun σ H Q h => VE.args rfl rfl ru h
theorem VO.callTy {T : String} (hc : ∀ R, At S N (mkX G N R) → CallR (mkX G N R) (.type T) r) (ru : RuA G r m o) (hm : G.mg x = none) (hv : bootBuiltins x = some (.type T)) (ha : VA G N S bs ms (e :: es) fs) (hg : Glb S x := by rfl)
    (hn : x ≠ "__name__" := by decide) (hdb : (x == ("__debug__" : Str)) = false := by decide) (he : ∀ env, starEach (e :: es) env = (false, eval e env) :: starEach es env := by intro _; rfl) (hpl : ∀ env, (backTo pos (starEach es env)).any (·.1) = false := by intro _; rfl) :
    VO G N S m ms (.Call (.Name x p) (e :: es) [] pos) (fA o fs) := fun R a W t => (pe_callTy (hc R a) (a.gl hg) hm hv (ha R a W t) hn hdb (he _) (hpl _)).imp fun σ H Q h => VE.args rfl rfl ru h
end
end Vm
set_option Elab.async false
set_option linter.all false
set_option maxRecDepth 100000
set_option maxHeartbeats 4000000
namespace Vm
open PySem PySem.Spec PyProof.Rows L2

/-! ### isinstance against a built-in type -/
inductive PyT where
  | int | bool | str | list | tuple | dict
def PyT.nm : PyT → String
  | .int => "int"
  | .bool => "bool"
  | .str => "str"
  | .list => "list"
  | .tuple => "tuple"
  | .dict => "dict"
def isT : PyT → D → Option Bool
  | .int, .int _ => some true
  | .int, .bl _ => some true
  | .bool, .bl _ => some true
  | .str, .str _ => some true
  | .list, .lst _ => some true
  | .list, .scr _ => some true
  | .tuple, .tup _ => some true
  | .dict, .dct _ _ => some true
  | _, .ins _ _ _ => none
  | _, _ => some false
def tyD : D → String
  | .non => "NoneType"
  | .bl _ => "bool"
  | .int _ => "int"
  | .str _ => "str"
  | .lst _ => "list"
  | .scr _ => "list"
  | .tup _ => "tuple"
  | .dct _ _ => "dict"
  | .ins _ _ _ => ""
theorem isT_kit {K : PySem.W.Frag} (T : PyT) (d : D) {b : Bool} (h : isT T d = some b) : PySem.W.kitOne K (.type (tyD d)) (.type T.nm) = some b := by
  cases T <;> cases d <;> first
    | (cases h; simp only [tyD, PyT.nm]; exact kit_ty (by decide +kernel))
    | cases h
section
variable {G : GC} {N : List Str} {S : SC} {bs bs1 bs2 ms ms1 ms2 ms3 : Ms} {m : Md} {k : Kd} {e a b : Expr} {es : List Expr} {f fa fb : M D} {fs : M (List D)} {pos : Pos} {X : Cx}
theorem tyX_of {K : PySem.W.Frag} {mg : Str → Option Value} {H : Hp} : ∀ {d : D} {v : V}, Fz K mg H d v → (∀ c ns vs, d ≠ .ins c ns vs) → TyX K H v (.type (tyD d))
  | .non, _, h, _ => by cases h; exact .base .non
  | .bl _, _, h, _ => by cases h; exact .base (.bl _)
  | .int _, _, h, _ => by cases h; exact .base (.int _)
  | .str _, _, h, _ => by rw [h.1]; exact .base (.str _)
  | .lst _, _, ⟨a, vs, e, h, _⟩, _ => by subst e; exact .base (.lst h)
  | .scr _, _, ⟨a, e, h⟩, _ => by
    subst e
    rcases h with (h | ⟨o, h⟩) | ⟨o, its, n, h, hc, _⟩
    · exact .base (.lst h)
    · exact .base (.frz h)
    · exact .kList h hc
  | .tup _, _, ⟨a, vs, e, h, _⟩, _ => by
    subst e
    rcases h with (h | ⟨o, h⟩) | ⟨o, its, n, h, hc, _⟩
    · exact .base (.tup h)
    · exact .fTuple h
    · exact .kTuple h hc
  | .dct _ _, _, ⟨a, vs, e, h, _⟩, _ => by
    subst e
    rcases h with ⟨kvs, h, _⟩ | ⟨kvs, h, _⟩
    · exact .base (.dK h)
    · exact .base (.dT h)
  | .ins _ _ _, _, _, h => absurd rfl (h _ _ _)
def fIsi (T : PyT) (f : M D) : M D := fun r => (f r).bind fun d => rM ((isT T d).map .bl)
theorem VO.isi (T : PyT) {x : Str} {p p2 : Pos} (hm : G.mg "isinstance" = none) (hx : G.mg x = none) (ha : VB G N S bs ms e f) (hg : Glb S "isinstance" := by rfl) (hgx : Glb S x := by rfl) (hv : bootBuiltins x = some (.type T.nm) := by decide +kernel)
    (hs : ∀ env, starEach (e :: [.Name x p2]) env = (false, eval e env) :: starEach [.Name x p2] env := by intro _; rfl) (hn : x ≠ "__name__" := by decide) (hd : (x == ("__debug__" : Str)) = false := by decide) :
    VO G N S .z ms (.Call (.Name "isinstance" p) [e, .Name x p2] [] pos) (fIsi T f) := by
  refine fun R a W t => (pe_callB call_isi (a.gl hg) hm (by decide +kernel) (pa_cons (ha R a W t) (pa_cons (pe_bltn (v := .ty T.nm) (a.gl hgx) hx hv rfl hn hd) pa_nil) (hs _)) (he := hs _)).imp fun σ H Q ⟨ρ, H0, c, l, o⟩ => ?_
  refine ⟨ρ, H0, c, l, (Out.bind (G := FB G.K G.mg bs) (ms1 := ms) back_FO o fun i e => e).imp fun x H1 ⟨d, H01, c1, ρ1, e1, s1, l1, b1, h1⟩ => ?_⟩
  have z := (b1.sh l1.sub).fz l1.sub
  cases ht : isT T d with
  | none => rw [ht] at h1; exact h1.elim
  | some b =>
    rw [ht] at h1
    refine ⟨x, .ty T.nm, _, _, b, rfl, .ty _, tyX_of z (fun c ns vs e => by rw [e] at ht; cases T <;> cases ht), isT_kit T d ht, h1.here l1 rfl⟩

/-! ### len -/
def oLen : List D → Option D
  | [.str s] => some (.int s.length)
  | [.lst ds] => some (.int ds.length)
  | [.tup ds] => some (.int ds.length)
  | [.scr ns] => some (.int ns.length)
  | _ => none
abbrev rLen (K : PySem.W.Frag) : List V → Hp → VK → Prop := fun xs H Q => ∃ x n, xs = [x] ∧ LenV K x H n ∧ Q (.int n) H
theorem shs_one {K : PySem.W.Frag} {mg : Str → Option Value} {H0 H : Hp} {d : D} {xs : List V} (h : Shs K mg H0 H [d] xs) : ∃ x, xs = [x] ∧ Sh K mg H0 H d x := by
  obtain ⟨v, r, e, h1, h2⟩ := h
  rw [show r = [] from h2] at e
  exact ⟨v, e, h1⟩
theorem shs_two {K : PySem.W.Frag} {mg : Str → Option Value} {H0 H : Hp} {d d2 : D} {xs : List V} (h : Shs K mg H0 H [d, d2] xs) : ∃ x y, xs = [x, y] ∧ Sh K mg H0 H d x ∧ Sh K mg H0 H d2 y := by
  obtain ⟨v, r, e, h1, h2⟩ := h
  obtain ⟨y, e2, h3⟩ := shs_one h2
  rw [e2] at e
  exact ⟨v, y, e, h1, h3⟩
theorem sOk_len {s : List Nat} (h : sOk s = true) : s.length ≤ 16777216 := by
  unfold sOk at h
  simp only [Bool.and_eq_true, decide_eq_true_eq] at h
  exact h.1
theorem ru_len {m : Md} : RuA G (rLen G.K) m oLen := by
  intro H0 H ds xs d Q s h ho f
  unfold oLen at ho
  split at ho
  · obtain ⟨x, e, h1⟩ := shs_one h
    cases ho
    obtain ⟨e1, k⟩ := sh_str h1
    refine ⟨x, _, e, ?_, f.atom s rfl rfl⟩
    rw [e1]
    refine ⟨?_, (str_len _).symm⟩
    rw [str_len, sizeLine_eq]; exact sOk_len k
  · obtain ⟨x, e, a, vs, e1, k, g⟩ := shs_one h
    cases ho
    refine ⟨x, _, e, ?_, f.atom s rfl rfl⟩
    rw [e1]
    exact .inl ⟨vs, .of k, g.length.symm⟩
  · obtain ⟨x, e, a, vs, e1, k, g⟩ := shs_one h
    cases ho
    refine ⟨x, _, e, ?_, f.atom s rfl rfl⟩
    rw [e1]
    exact .inr ⟨vs, same_t s k, g.length.symm⟩
  · obtain ⟨x, e, a, e1, k⟩ := shs_one h
    cases ho
    refine ⟨x, _, e, ?_, f.atom s rfl rfl⟩
    rw [e1]
    exact .inl ⟨_, k, by simp⟩
  · cases ho

/-! ### any, all -/
def bls : List D → Option (List Bool)
  | [] => some []
  | .bl b :: ds => (bls ds).map (b :: ·)
  | _ => none
def oAll : List D → Option D
  | [.lst ds] => (bls ds).map fun bs => .bl (bs.all id)
  | _ => none
def oAny : List D → Option D
  | [.lst ds] => (bls ds).map fun bs => .bl (bs.any id)
  | _ => none
theorem bls_fz {K : PySem.W.Frag} {mg : Str → Option Value} {H : Hp} : ∀ {ds : List D} {vs : List V} {bs : List Bool}, Fzs K mg H ds vs → bls ds = some bs → vs = bs.map V.bl
  | [], vs, bs, h, e => by cases e; exact h
  | .bl b :: ds, vs, bs, ⟨v, r, e, h, t⟩, q => by
    obtain ⟨cs, e1, e2⟩ := Option.map_eq_some_iff.mp q
    subst e2
    rw [e, show v = V.bl b from h, bls_fz t e1]; rfl
  | .non :: _, _, _, _, q => by cases q
  | .int _ :: _, _, _, _, q => by cases q
  | .str _ :: _, _, _, _, q => by cases q
  | .tup _ :: _, _, _, _, q => by cases q
  | .lst _ :: _, _, _, _, q => by cases q
  | .dct _ _ :: _, _, _, _, q => by cases q
  | .ins _ _ _ :: _, _, _, _, q => by cases q
  | .scr _ :: _, _, _, _, q => by cases q
theorem ru_all {m : Md} : RuA G (rAll G.K) m oAll := by
  intro H0 H ds xs d Q s h ho f
  unfold oAll at ho
  split at ho
  · obtain ⟨x, e, a, vs, e1, k, g⟩ := shs_one h
    obtain ⟨bs, e2, e3⟩ := Option.map_eq_some_iff.mp ho
    subst e3
    exact ⟨a, bs, by rw [e, e1], by rw [← bls_fz g e2]; exact .of k, f.atom s rfl rfl⟩
  · cases ho
theorem ru_any {m : Md} : RuA G (rAny G.K) m oAny := by
  intro H0 H ds xs d Q s h ho f
  unfold oAny at ho
  split at ho
  · obtain ⟨x, e, a, vs, e1, k, g⟩ := shs_one h
    obtain ⟨bs, e2, e3⟩ := Option.map_eq_some_iff.mp ho
    subst e3
    exact ⟨a, bs, by rw [e, e1], by rw [← bls_fz g e2]; exact .of k, f.atom s rfl rfl⟩
  · cases ho

/-! ### list, tuple -/
def oList : List D → Option D
  | [.lst ds] => some (.lst ds)
  | [.tup ds] => some (.lst ds)
  | [.scr ns] => some (.lst (ns.map .int))
  | _ => none
def oTuple : List D → Option D
  | [.lst ds] => some (.tup ds)
  | [.tup ds] => some (.tup ds)
  | _ => none
abbrev rListOf (K : PySem.W.Frag) : List V → Hp → VK → Prop := fun xs H Q => ∃ p ys, xs = [.ref p] ∧ (SqL K H p ys ∨ SqT K H p ys) ∧ ∀ l, H l = none → Q (.ref l) (upd H l (.lst ys))
abbrev rTupleOf (K : PySem.W.Frag) : List V → Hp → VK → Prop := fun xs H Q => ∃ p ys, xs = [.ref p] ∧ ((SqL K H p ys ∧ ∀ l, H l = none → Q (.ref l) (upd H l (.tup ys))) ∨ (SqT K H p ys ∧ Q (.ref p) H))
theorem fzs_ints {K : PySem.W.Frag} {mg : Str → Option Value} {H : Hp} : ∀ ns : List Int, Fzs K mg H (ns.map D.int) (ns.map V.int)
  | [] => rfl
  | n :: ns => ⟨_, _, rfl, rfl, fzs_ints ns⟩
theorem ru_list {m : Md} (hm : ZO m) : RuA G (rListOf G.K) m oList := by
  intro H0 H ds xs d Q s h ho f
  unfold oList at ho
  split at ho
  · obtain ⟨x, e, a, vs, e1, k, g⟩ := shs_one h
    cases ho
    exact ⟨a, vs, by rw [e, e1], .inl (.of k), fun p hp => f.lst hm s g hp⟩
  · obtain ⟨x, e, a, vs, e1, k, g⟩ := shs_one h
    cases ho
    exact ⟨a, vs, by rw [e, e1], .inr (same_t s k), fun p hp => f.lst hm s g hp⟩
  · obtain ⟨x, e, a, e1, k⟩ := shs_one h
    cases ho
    exact ⟨a, _, by rw [e, e1], .inl k, fun p hp => f.lst hm s (fzs_ints _) hp⟩
  · cases ho
theorem ru_tuple : RuA G (rTupleOf G.K) .z oTuple := by
  intro H0 H ds xs d Q s h ho f
  unfold oTuple at ho
  split at ho
  · obtain ⟨x, e, a, vs, e1, k, g⟩ := shs_one h
    cases ho
    exact ⟨a, vs, by rw [e, e1], .inl ⟨.of k, fun p hp => f.tup (.inl rfl) s g hp⟩⟩
  · obtain ⟨x, e, h1⟩ := shs_one h
    obtain ⟨a, vs, e1, k, g⟩ := id h1
    cases ho
    exact ⟨a, vs, by rw [e, e1], .inr ⟨same_t s k, f.frz s (by rw [← e1]; exact h1)⟩⟩
  · cases ho

/-! ### slices -/
def cutL {α : Type} (xs : List α) (lo hi : Option Int) : List α := (xs.drop (HT.sIx xs.length 0 lo)).take (HT.sIx xs.length xs.length hi - HT.sIx xs.length 0 lo)
def oCut (d : D) (lo hi : Option Int) : Option D := match d with
  | .str s => some (.str (cutL s lo hi))
  | .lst ds => some (.lst (cutL ds lo hi))
  | .tup ds => some (.tup (cutL ds lo hi))
  | .scr ns => some (.lst (cutL (ns.map .int) lo hi))
  | _ => none
def oCutL (d : D) (lo hi : Option Int) : Option D := match d with
  | .lst ds => some (.lst (cutL ds lo hi))
  | .scr ns => some (.lst (cutL (ns.map .int) lo hi))
  | _ => none
/-- a part of a slice -/
abbrev VP (G : GC) (N : List Str) (S : SC) (ms : Ms) (e : Option Expr) (f : M (Option Int)) : Prop := VE G N S (fun X t => PO X e t) (fun _ _ d _ _ _ v => v = d) ms f
def fNoP : M (Option Int) := fun r => .ok none r
def fPart (f : M D) : M (Option Int) := fun r => (f r).bind fun d r => match d with
  | .int i => .ok (some i) r
  | _ => .bad
theorem PO.imp {X : Cx} {e : Option Expr} {t t' : TO} (h : PO X e t) (q : ∀ σ H Q, t' σ H Q → t σ H Q) : PO X e t' := ⟨fun pins s σ H Q I z => h.run pins s σ H Q I (q σ H Q z)⟩
theorem back_eq {α : Type} {ms : Ms} : Back ms (fun _ _ (d : α) _ _ _ v => v = d) := fun _ _ _ _ _ _ _ _ _ _ _ _ h => h
theorem VP.none : VP G N S ms0 none fNoP := fun R a W t => PO.imp po_none fun σ H Q ⟨ρ, H0, c, l, o⟩ => o _ H0 H c .refl l rfl
theorem VP.some (h : VO G N S .z ms e f) : VP G N S ms (some e) (fPart f) := by
  refine fun R a W t => PO.imp (po_some (h R a W t)) fun σ H Q ⟨ρ, H0, c, l, o⟩ => ?_
  refine ⟨ρ, H0, c, l, (Out.bind (G := FO G.K G.mg .z ms) (ms1 := ms) back_eq o fun i e => e).imp fun x H1 ⟨d, H01, c1, ρ1, e1, s1, l1, ⟨g, o1, f1⟩, h1⟩ => ?_⟩
  have z := (Ow.zero.mp o1).2
  cases d with
  | int i => exact ⟨i, z, h1 _ H01 H1 c1 .refl l1 rfl⟩
  | _ => exact h1.elim
def RuS (G : GC) (r : V → Option Int → Option Int → Hp → VK → Prop) (m : Md) (o : D → Option Int → Option Int → Option D) : Prop :=
  ∀ H0 H d1 x lo hi d Q, Same H0 H → Sh G.K G.mg H0 H d1 x → o d1 lo hi = some d → Fin G.K G.mg m H0 H d Q → r x lo hi H Q
def fSl (o : D → Option Int → Option Int → Option D) (f : M D) (fl fh : M (Option Int)) : M D := fun r => (f r).bind fun d r => (fl r).bind fun lo r => (fh r).bind fun hi => rM (o d lo hi)
theorem VO.sl {lo hi : Option Expr} {fl fh : M (Option Int)} {p2 : Pos} {r : V → Option Int → Option Int → Hp → VK → Prop} {o : D → Option Int → Option Int → Option D} (hr : ∀ R, At S N (mkX G N R) → SlR (mkX G N R) r) (ru : RuS G r m o)
    (ha : VB G N S bs1 ms1 e f) (hl : VP G N S ms2 lo fl) (hh : VP G N S ms3 hi fh) (dj : Dj bs1 ms2 := by intro i h; first | rfl | (cases h)) (dj2 : Dj bs1 ms3 := by intro i h; first | rfl | (cases h)) :
    VO G N S m (msU ms1 (msU ms2 ms3)) (.Subscript e (.Slice lo hi none p2) pos) (fSl o f fl fh) := by
  refine fun R a W t => (pe_slice (hr R a) (ha R a W t) (hl R a W t) (hh R a W t)).imp fun σ H Q ⟨ρ, H0, c, l, h⟩ => ?_
  refine ⟨ρ, H0, c, l, (Out.bind (G := FB G.K G.mg bs1) (ms1 := ms1) back_FO h fun i e => or_l e).imp fun x H1 ⟨d1, H01, c1, ρ1, e1, s1, l1, b1, h1⟩ => ?_⟩
  refine ⟨ρ1, H01, c1, l1, (Out.bind (G := fun _ _ d _ _ _ v => v = d) (ms1 := ms2) back_FO h1 fun i e => or_r (or_l e)).imp fun y H2 ⟨d2, H02, c2, ρ2, e2, s2, l2, b2, h2⟩ => ?_⟩
  refine ⟨ρ2, H02, c2, l2, (Out.bind (G := fun _ _ d _ _ _ v => v = d) (ms1 := ms3) back_FO h2 fun i e => or_r (or_r e)).imp fun z H3 ⟨d3, H03, c3, ρ3, e3, s3, l3, b3, h3⟩ => ?_⟩
  subst b2 b3
  cases eo : o d1 y z with
  | none => rw [eo] at h3; exact h3.elim
  | some d =>
    rw [eo] at h3
    exact ru H03 H3 d1 x y z d Q l3.sub (((b1.on s2 dj).on s3 dj2).sh l3.sub) eo (Out.fin h3 l3)
theorem Fzs.take {K : PySem.W.Frag} {mg : Str → Option Value} {H : Hp} : ∀ {ds : List D} {vs : List V} (n : Nat), Fzs K mg H ds vs → Fzs K mg H (ds.take n) (vs.take n)
  | ds, vs, 0, h => rfl
  | [], vs, n + 1, h => by rw [show vs = [] from h]; rfl
  | d :: ds, vs, n + 1, ⟨v, r, e, h, t⟩ => by subst e; exact ⟨v, r.take n, rfl, h, Fzs.take n t⟩
theorem Fzs.drop {K : PySem.W.Frag} {mg : Str → Option Value} {H : Hp} : ∀ {ds : List D} {vs : List V} (n : Nat), Fzs K mg H ds vs → Fzs K mg H (ds.drop n) (vs.drop n)
  | ds, vs, 0, h => h
  | [], vs, n + 1, h => by rw [show vs = [] from h]; rfl
  | d :: ds, vs, n + 1, ⟨v, r, e, h, t⟩ => by subst e; exact Fzs.drop n t
theorem Fzs.cut {K : PySem.W.Frag} {mg : Str → Option Value} {H : Hp} {ds : List D} {vs : List V} (lo hi : Option Int) (h : Fzs K mg H ds vs) : Fzs K mg H (cutL ds lo hi) (cutV vs lo hi) := by
  unfold cutL cutV
  rw [h.length]
  exact Fzs.take _ (Fzs.drop _ h)
abbrev rSlV (K : PySem.W.Frag) : V → Option Int → Option Int → Hp → VK → Prop := fun x lo hi H Q => rSlS x lo hi H Q ∨ rSlL K x lo hi H Q ∨ rSlA K x lo hi H Q
theorem sl_V : SlR X (rSlV X.K) := sl_str.or (sl_list.or sl_tupA)
theorem sOk_cut {s : List Nat} {lo hi : Option Int} (h : sOk s = true) : sOk (cutL s lo hi) = true := by
  unfold sOk at h ⊢
  simp only [Bool.and_eq_true, decide_eq_true_eq, List.all_eq_true] at h ⊢
  unfold cutL
  refine ⟨?_, fun x hx => h.2 x (List.mem_of_mem_drop (List.mem_of_mem_take hx))⟩
  rw [List.length_take, List.length_drop]
  omega
theorem ru_cut : RuS G (rSlV G.K) .z oCut := by
  intro H0 H d1 x lo hi d Q s h ho f
  unfold oCut at ho
  split at ho
  · cases ho
    obtain ⟨e1, k⟩ := sh_str h
    refine .inl ⟨_, e1, ?_, f.frz s ⟨?_, sOk_cut k⟩⟩
    · rw [str_len, sizeLine_eq]; exact sOk_len k
    · unfold cutS cutL
      rw [str_len]
  · cases ho
    obtain ⟨a, vs, e1, k, g⟩ := h
    exact .inr (.inl ⟨a, vs, e1, .of k, fun p hp => f.lst (.inl rfl) s (g.cut lo hi) hp⟩)
  · cases ho
    obtain ⟨a, vs, e1, k, g⟩ := id h
    have hl := g.length
    refine .inr (.inr ⟨a, vs, e1, same_t s k, fun hw => ?_, fun hw p hp => f.tup (.inl rfl) s (g.cut lo hi) hp⟩)
    rw [hl] at hw
    refine f.frz s ?_
    rw [show cutL _ lo hi = _ from by unfold cutL; rw [hw.1, hw.2, List.drop_zero, Nat.sub_zero, List.take_length], ← e1]
    exact h
  · cases ho
    obtain ⟨a, e1, k⟩ := h
    exact .inr (.inl ⟨a, _, e1, k, fun p hp => f.lst (.inl rfl) s ((fzs_ints _).cut lo hi) hp⟩)
  · cases ho
theorem ru_cutL {m : Md} (hm : ZO m) : RuS G (rSlL G.K) m oCutL := by
  intro H0 H d1 x lo hi d Q s h ho f
  unfold oCutL at ho
  split at ho
  · cases ho
    obtain ⟨a, vs, e1, k, g⟩ := h
    exact ⟨a, vs, e1, .of k, fun p hp => f.lst hm s (g.cut lo hi) hp⟩
  · cases ho
    obtain ⟨a, e1, k⟩ := h
    exact ⟨a, _, e1, k, fun p hp => f.lst hm s ((fzs_ints _).cut lo hi) hp⟩
  · cases ho
end
end Vm
set_option Elab.async false
set_option linter.all false
set_option maxRecDepth 100000
set_option maxHeartbeats 4000000
namespace Vm
open PySem PySem.Spec PyProof.Rows L2

/-! ### statements -/
inductive Fl where
  | nx | bk | ct
  | rt (d : D)
/-- the slots' values stay but those of as -/
def Agr (as : Ms) (σ σ' : L2.St) : Prop := σ'.length = σ.length ∧ ∀ i, as i = false → σ'[i]? = σ[i]?
theorem Agr.refl {as : Ms} {σ : L2.St} : Agr as σ σ := ⟨rfl, fun _ _ => rfl⟩
theorem Agr.trans {as : Ms} {σ σ1 σ2 : L2.St} (a : Agr as σ σ1) (b : Agr as σ1 σ2) : Agr as σ σ2 := ⟨b.1.trans a.1, fun i h => (b.2 i h).trans (a.2 i h)⟩
theorem Agr.mono {as as' : Ms} {σ σ' : L2.St} (a : Agr as σ σ') (h : ∀ i, as i = true → as' i = true) : Agr as' σ σ' := ⟨a.1, fun i e => a.2 i (by
  cases q : as i with
  | false => rfl
  | true => rw [h i q] at e; cases e)⟩
/-- what must hold so that the end x of a statement brings D -/
def OutS (K : PySem.W.Frag) (mg : Str → Option Value) (W : WX) (rm : Md) (ms as : Ms) (H0 H : Hp) (c : Co) (σ : L2.St) (x : Res Fl) (D : Ends) : Prop := match x with
  | .ok .nx ρ' => ∀ σ' H0' H' c', Step ms H0 H c H0' H' c' → Lies K mg H0' H' c' σ' ρ' → Agr as σ σ' → D.nx σ' H'
  | .ok .bk ρ' => ∀ σ' H0' H' c', Step ms H0 H c H0' H' c' → Lies K mg H0' H' c' σ' ρ' → Agr as σ σ' → D.bk σ' H'
  | .ok .ct ρ' => ∀ σ' H0' H' c', Step ms H0 H c H0' H' c' → Lies K mg H0' H' c' σ' ρ' → Agr as σ σ' → D.ct σ' H'
  | .ok (.rt d) ρ' => ∀ v σ' H0' H' c', Step ms H0 H c H0' H' c' → Lies K mg H0' H' c' σ' ρ' → Agr as σ σ' → FO K mg rm msA H c d H0' H' c' v → D.rt v H'
  | .exc n ns vs ρ' => ∀ cls dx σ' H0' H' c', Step ms H0 H c H0' H' c' → Lies K mg H0' H' c' σ' ρ' → Agr as σ σ' → ExcAt K mg H0' n ns vs cls dx → W cls dx σ' H'
  | .bad => False
def tS (K : PySem.W.Frag) (mg : Str → Option Value) (W : WX) (rm : Md) (as : Ms) (g : M Fl) : TS := fun D σ H => ∃ ρ H0 c, Lies K mg H0 H c σ ρ ∧ OutS K mg W rm msA as H0 H c σ (g ρ) D
section
variable {K : PySem.W.Frag} {mg : Str → Option Value} {W : WX} {rm m : Md} {as as1 as2 ms ms1 ms2 : Ms} {H0 H H0' H' : Hp} {c c' : Co} {σ σ' : L2.St} {ρ ρ' : En} {x : Res Fl} {D D' : Ends} {d : Vm.D} {v : V}
theorem OutS.imp (h : OutS K mg W rm ms as H0 H c σ x D) (h1 : ∀ σ H, D.nx σ H → D'.nx σ H) (h2 : ∀ σ H, D.bk σ H → D'.bk σ H) (h3 : ∀ σ H, D.ct σ H → D'.ct σ H) (h4 : ∀ v H, D.rt v H → D'.rt v H) : OutS K mg W rm ms as H0 H c σ x D' := by
  cases x with
  | ok f r => cases f with
    | nx => exact fun σ' H0' H' c' s l a => h1 _ _ (h σ' H0' H' c' s l a)
    | bk => exact fun σ' H0' H' c' s l a => h2 _ _ (h σ' H0' H' c' s l a)
    | ct => exact fun σ' H0' H' c' s l a => h3 _ _ (h σ' H0' H' c' s l a)
    | rt d => exact fun v σ' H0' H' c' s l a f => h4 _ _ (h v σ' H0' H' c' s l a f)
  | exc n ns vs r => exact h
  | bad => exact h
theorem OutS.on (h : OutS K mg W rm ms as H0 H c σ x D) (s : Step ms H0 H c H0' H' c') (a : Agr as σ σ') : OutS K mg W rm ms as H0' H' c' σ' x D := by
  cases x with
  | ok f r => cases f with
    | nx => exact fun σ' H0' H' c' t l b => h σ' H0' H' c' (s.trans t) l (a.trans b)
    | bk => exact fun σ' H0' H' c' t l b => h σ' H0' H' c' (s.trans t) l (a.trans b)
    | ct => exact fun σ' H0' H' c' t l b => h σ' H0' H' c' (s.trans t) l (a.trans b)
    | rt d => exact fun v σ' H0' H' c' t l b f => h v σ' H0' H' c' (s.trans t) l (a.trans b) (back_FO _ _ _ _ _ _ _ _ _ _ _ (s.mono fun _ _ => rfl) f)
  | exc n ns vs r => exact fun cls dx σ' H0' H' c' t l b e => h cls dx σ' H0' H' c' (s.trans t) l (a.trans b) e
  | bad => exact h
theorem OutS.mono (h : OutS K mg W rm ms2 as2 H0 H c σ x D) (q : ∀ i, as1 i = true → as2 i = true) (p : ∀ i, ms1 i = true → ms2 i = true) : OutS K mg W rm ms1 as1 H0 H c σ x D := by
  cases x with
  | ok f r => cases f with
    | nx => exact fun σ' H0' H' c' t l b => h σ' H0' H' c' (t.mono p) l (b.mono q)
    | bk => exact fun σ' H0' H' c' t l b => h σ' H0' H' c' (t.mono p) l (b.mono q)
    | ct => exact fun σ' H0' H' c' t l b => h σ' H0' H' c' (t.mono p) l (b.mono q)
    | rt d => exact fun v σ' H0' H' c' t l b f => h v σ' H0' H' c' (t.mono p) l (b.mono q) f
  | exc n ns vs r => exact fun cls dx σ' H0' H' c' t l b e => h cls dx σ' H0' H' c' (t.mono p) l (b.mono q) e
  | bad => exact h
/-- an expression, then a flow -/
theorem OutS.expr {α β : Type} {F : Fam α β} {f : Res α} {g : α → M Fl} (h : OutS K mg W rm msA as H0 H c σ (f.bind g) D) :
    Out K mg W F ms H0 H c σ f fun v H1 => ∃ d H01 c1 ρ1, f = .ok d ρ1 ∧ Step ms H0 H c H01 H1 c1 ∧ Lies K mg H01 H1 c1 σ ρ1 ∧ F H c d H01 H1 c1 v ∧ OutS K mg W rm msA as H01 H1 c1 σ (g d ρ1) D := by
  cases f with
  | ok d r => exact fun v H0' H' c' s l f => ⟨d, H0', c', r, rfl, s, l, f, h.on (s.mono fun _ _ => rfl) .refl⟩
  | exc n ns vs r => exact fun cls dx H0' H' c' s l e => h cls dx σ H0' H' c' (s.mono fun _ _ => rfl) l .refl e
  | bad => exact h
/-- one statement, then what follows -/
def gSeq (g1 g2 : M Fl) : M Fl := fun r => (g1 r).bind fun f r => match f with
  | .nx => g2 r
  | .bk => .ok .bk r
  | .ct => .ok .ct r
  | .rt d => .ok (.rt d) r
theorem OutS.seq {g : Res Fl} {g2 : M Fl} (h : OutS K mg W rm ms as H0 H c σ (g.bind fun f r => match f with
  | .nx => g2 r
  | .bk => .ok .bk r
  | .ct => .ok .ct r
  | .rt d => .ok (.rt d) r) D) :
    OutS K mg W rm ms as H0 H c σ g { D with nx := fun σ' H' => ∃ ρ1 H01 c1, Lies K mg H01 H' c1 σ' ρ1 ∧ Step ms H0 H c H01 H' c1 ∧ Agr as σ σ' ∧ OutS K mg W rm ms as H01 H' c1 σ' (g2 ρ1) D } := by
  cases g with
  | ok f r => cases f with
    | nx => exact fun σ' H0' H' c' s l a => ⟨r, H0', c', l, s, a, h.on s a⟩
    | bk => exact h
    | ct => exact h
    | rt d => exact h
  | exc n ns vs r => exact h
  | bad => exact h
end
/-- statements -/
abbrev VS (G : GC) (N : List Str) (S : SC) (rm : Md) (as : Ms) (st : Stmt) (g : M Fl) : Prop := ∀ R, At S N (mkX G N R) → ∀ W, Takes (mkX G N R) W → PS (mkX G N R) st (tS G.K G.mg W rm as g)
abbrev VSs (G : GC) (N : List Str) (S : SC) (rm : Md) (as : Ms) (st : List Stmt) (g : M Fl) : Prop := ∀ R, At S N (mkX G N R) → ∀ W, Takes (mkX G N R) W → PSs (mkX G N R) st (tS G.K G.mg W rm as g)
def gNx : M Fl := fun r => .ok .nx r
def gBk : M Fl := fun r => .ok .bk r
def gCt : M Fl := fun r => .ok .ct r
section
variable {G : GC} {N : List Str} {S : SC} {bs bs1 bs2 ms ms1 ms2 ms3 as as1 as2 : Ms} {m rm : Md} {k : Kd} {e a b : Expr} {es : List Expr} {f fa fb : M D} {fs : M (List D)} {pos : Pos} {g g1 g2 : M Fl} {st : Stmt} {rest st1 st2 : List Stmt}
theorem VS.mono (h : VS G N S rm as1 st g) (q : ∀ i, as1 i = true → as2 i = true) : VS G N S rm as2 st g := fun R a W t => (h R a W t).imp fun D σ H ⟨ρ, H0, c, l, o⟩ => ⟨ρ, H0, c, l, o.mono q fun _ h => h⟩
theorem VSs.mono (h : VSs G N S rm as1 rest g) (q : ∀ i, as1 i = true → as2 i = true) : VSs G N S rm as2 rest g := fun R a W t => (h R a W t).imp fun D σ H ⟨ρ, H0, c, l, o⟩ => ⟨ρ, H0, c, l, o.mono q fun _ h => h⟩
theorem VSs.nil : VSs G N S rm ms0 [] gNx := fun R a W t => pss_nil.imp fun D σ H ⟨ρ, H0, c, l, o⟩ => o σ H0 H c .refl l .refl
theorem VSs.one (h : VS G N S rm as st g) : VSs G N S rm as [st] g := fun R a W t => pss_one (h R a W t)
theorem VSs.cons (h1 : VS G N S rm as1 st g1) (h2 : VSs G N S rm as2 rest g2) : VSs G N S rm (msU as1 as2) (st :: rest) (gSeq g1 g2) := by
  refine fun R a W t => (pss_cons (h1 R a W t) (h2 R a W t)).imp fun D σ H ⟨ρ, H0, c, l, o⟩ => ?_
  exact ⟨ρ, H0, c, l, ((OutS.seq o).mono (fun i e => or_l e) fun _ h => h).imp (fun σ' H' ⟨ρ1, H01, c1, l1, s1, a1, o1⟩ => ⟨ρ1, H01, c1, l1, o1.mono (fun i e => or_r e) fun _ h => h⟩) (fun _ _ h => h) (fun _ _ h => h) (fun _ _ h => h)⟩
theorem VS.pass : VS G N S rm ms0 (.Pass pos) gNx := fun R a W t => ps_pass.imp fun D σ H ⟨ρ, H0, c, l, o⟩ => o σ H0 H c .refl l .refl
theorem VS.brk : VS G N S rm ms0 (.Break pos) gBk := fun R a W t => ps_break.imp fun D σ H ⟨ρ, H0, c, l, o⟩ => o σ H0 H c .refl l .refl
theorem VS.cont : VS G N S rm ms0 (.Continue pos) gCt := fun R a W t => ps_continue.imp fun D σ H ⟨ρ, H0, c, l, o⟩ => o σ H0 H c .refl l .refl
theorem VS.doc {x j pos'} : VS G N S rm ms0 (.Expr (.Constant (.str x) j pos) pos') gNx := fun R a W t => ps_doc.imp fun D σ H ⟨ρ, H0, c, l, o⟩ => o σ H0 H c .refl l .refl
/-- an expression for what it does -/
def gDo (f : M D) : M Fl := fun r => (f r).bind fun _ r => .ok .nx r
theorem VS.expr (h : VO G N S m ms e f) (hs : ∀ env, swapsWith e none pos.line env = pure false := by intro _; rfl) : VS G N S rm ms0 (.Expr e pos) (gDo f) := by
  refine fun R a W t => (ps_expr (h R a W t) (hs _)).imp fun D σ H ⟨ρ, H0, c, l, o⟩ => ?_
  exact ⟨ρ, H0, c, l, (OutS.expr o).imp fun x H1 ⟨d, H01, c1, ρ1, e1, s1, l1, f1, h1⟩ => h1 σ H01 H1 c1 .refl l1 .refl⟩
def gRet (f : M D) : M Fl := fun r => (f r).bind fun d r => .ok (.rt d) r
theorem VS.ret (h : VO G N S rm ms e f) : VS G N S rm ms0 (.Return (some e) pos) (gRet f) := by
  refine fun R a W t => (ps_ret (h R a W t)).imp fun D σ H ⟨ρ, H0, c, l, o⟩ => ⟨ρ, H0, c, l, ?_⟩
  show Out _ _ _ _ _ _ _ _ _ _ D.rt
  unfold gRet at o
  cases e1 : f ρ with
  | ok d r =>
    rw [e1, bind_ok] at o
    exact fun v H0' H' c' s l' f => o v σ H0' H' c' (s.mono fun _ _ => rfl) l' .refl (fo_mono (fun _ _ => rfl) f)
  | exc n ns vs r =>
    rw [e1] at o
    exact fun cls dx H0' H' c' s l' e => o cls dx σ H0' H' c' (s.mono fun _ _ => rfl) l' .refl e
  | bad => rw [e1] at o; exact o
def gRetN : M Fl := fun r => .ok (.rt .non) r
theorem VS.retN : VS G N S rm ms0 (.Return none pos) gRetN := fun R a W t => ps_retN.imp fun D σ H ⟨ρ, H0, c, l, o⟩ => o .non σ H0 H c .refl l .refl ⟨[], ow_of_atom rfl rfl, .nil⟩
theorem VS.ite {t : Expr} {ft : M D} (ht : VT G N S ms t ft) (h1 : VSs G N S rm as1 st1 g1) (h2 : VSs G N S rm as2 st2 g2) : VS G N S rm (msU as1 as2) (.If t st1 st2 pos) (fIf ft g1 g2) := by
  refine fun R a W tk => (ps_if (ht R a W tk) (h1 R a W tk) (h2 R a W tk)).imp fun D σ H ⟨ρ, H0, c, l, o⟩ => ?_
  refine ⟨ρ, H0, c, l, (OutS.expr (F := FT) o).imp fun x H1 ⟨d, H01, c1, ρ1, e1, s1, l1, z, o1⟩ => ?_⟩
  have z : d = .bl x := z
  subst z
  cases x with
  | true => rw [if_pos rfl]; exact ⟨ρ1, H01, c1, l1, o1.mono (fun i e => or_l e) fun _ h => h⟩
  | false => rw [if_neg Bool.false_ne_true]; exact ⟨ρ1, H01, c1, l1, o1.mono (fun i e => or_r e) fun _ h => h⟩

/-! ### a slot is stored -/
theorem getS_set_eq {r : En} {i : Nat} {s : Sl} (h : i < r.length) : getS (r.set i s) i = s := by
  simp [getS, List.getD_eq_getElem?_getD, List.getElem?_set_self h]
theorem getS_set_ne {r : En} {i j : Nat} {s : Sl} (h : i ≠ j) : getS (r.set i s) j = getS r j := by
  simp [getS, List.getD_eq_getElem?_getD, List.getElem?_set_ne h]
def coSet (c : Co) (i : Nat) (fp : List Addr) : Co := fun a => if a ∈ fp then some i else if c a = some i then none else c a
section
variable {K : PySem.W.Frag} {mg : Str → Option Value} {H0 H H0' H' : Hp} {c c' : Co} {σ : L2.St} {ρ : En} {d : D} {v : V} {i : Nat} {fp : List Addr}
theorem coSet_in {a : Addr} (h : a ∈ fp) : coSet c i fp a = some i := by unfold coSet; rw [if_pos h]
theorem coSet_out {a : Addr} {j : Nat} (h : a ∉ fp) (e : coSet c i fp a = some j) : c a = some j ∧ j ≠ i := by
  unfold coSet at e
  rw [if_neg h] at e
  split at e
  · cases e
  · rename_i n
    exact ⟨e, fun z => n (by rw [e, z])⟩
theorem Lies.set (l : Lies K mg H0 H c σ ρ) (o : Ow K mg H0 H d m v fp) (nd : fp.Nodup) (nc : ∀ a ∈ fp, c a = none ∨ c a = some i) (n0 : ∀ a ∈ fp, H0 a = none) (th : ∀ a ∈ fp, ∃ o, H a = some o) :
    Lies K mg H0 H (coSet c i fp) (σ.set i (some v)) (ρ.set i (some (m, d))) := by
  refine ⟨l.sub, fun a j e => ?_, fun a j e => ?_, by rw [List.length_set, List.length_set]; exact l.len, fun j m' d' e => ?_⟩
  · by_cases h : a ∈ fp
    · exact n0 a h
    · exact l.apart a j (coSet_out h e).1
  · by_cases h : a ∈ fp
    · exact th a h
    · exact l.there a j (coSet_out h e).1
  · by_cases h : i = j
    · subst h
      by_cases hi : i < ρ.length
      · rw [getS_set_eq hi] at e
        cases e
        exact ⟨v, fp, List.getElem?_set_self (by rw [← l.len]; exact hi), o, nd, fun a ha => coSet_in ha⟩
      · have : getS (ρ.set i (some (m, d))) i = none := by
          simp [getS, List.getD_eq_getElem?_getD, hi]
        rw [this] at e; cases e
    · rw [getS_set_ne h] at e
      obtain ⟨w, g, e1, o', nd', hc⟩ := l.slot j m' d' e
      refine ⟨w, g, by rw [List.getElem?_set_ne h]; exact e1, o', nd', fun a ha => ?_⟩
      have e2 := hc a ha
      unfold coSet
      by_cases z : a ∈ fp
      · rcases nc a z with q | q
        · rw [e2] at q; cases q
        · rw [e2] at q; exact absurd (Option.some.inj q).symm h
      · rw [if_neg z, if_neg (by rw [e2]; exact fun q => h (Option.some.inj q).symm)]
        exact e2
end
theorem Agr.set {σ : L2.St} {i : Nat} {v : V} : Agr (msO i) σ (σ.set i (some v)) := ⟨by rw [List.length_set], fun j h => by
  have : i ≠ j := fun e => by rw [e] at h; simp at h
  exact List.getElem?_set_ne this⟩
/-- the owners behind a store -/
theorem Step.store {K : PySem.W.Frag} {mg : Str → Option Value} {H0 H H0' H' : Hp} {c c' : Co} {fp : List Addr} {i : Nat} (s : Step ms H0 H c H0' H' c') (f : Fresh ms H c H0' H' c' fp) (hi : ms i = true := by first | rfl | simp) : Step ms H0 H c H0' H' (coSet c' i fp) := by
  refine ⟨s.keep, fun a o e k => ?_, s.grow, s.new0, fun a j e => ?_⟩
  · have e2 := s.col a o e k
    have hn : a ∉ fp := fun z => by
      rcases f.new a z with w | ⟨j, w, q⟩
      · rw [e] at w; cases w
      · rw [k j w] at q; cases q
    unfold coSet
    rw [if_neg hn, e2]
    by_cases z : c a = some i
    · rw [k i z] at hi; cases hi
    · rw [if_neg z]
  · by_cases h : a ∈ fp
    · have ej : j = i := by rw [coSet_in h] at e; exact (Option.some.inj e).symm
      refine .inr ⟨by rw [ej]; exact hi, ?_⟩
      rcases f.new a h with w | ⟨j, w, q⟩
      · exact .inl w
      · exact .inr ⟨j, w, q⟩
    · exact s.newc a j (coSet_out h e).1
def Loc' (S : SC) (x : Str) : Prop := (S.sc.names.lookup x = some .local) ∨ (S.sc.names.lookup x = some .cell ∧ S.fn x = true)
theorem At.loc {X : Cx} {x : Str} (a : At S N X) (h : Loc' S x) : Loc X.env.scope x ∧ (X.fn x = true ∨ X.env.scope.names.lookup x = some .local) := by
  rw [a.sc, a.fn]
  rcases h with h | ⟨h, q⟩
  · exact ⟨.inl h, .inr h⟩
  · exact ⟨.inr h, .inl q⟩
/-- x = e, the slot's tree owned at mode m -/
def gSet (i : Nat) (m : Md) (f : M D) : M Fl := fun r => (f r).bind fun d r => .ok .nx (r.set i (some (m, d)))
theorem VS.set {i : Nat} {x : Str} {p : Pos} (h : VO G N S m ms e f) (hi : N[i]? = some x := by rfl) (hx : Loc' S x := by first | exact Or.inl rfl | exact Or.inr ⟨rfl, rfl⟩) (hs : ∀ env, swapsWith e (some (.Name x p)) pos.line env = pure false := by intro _; rfl) :
    VS G N S rm (msO i) (.Assign [.Name x p] e pos) (gSet i m f) := by
  refine fun R a W t => (ps_set (i := i) a.nd hi (a.loc hx).1 (h R a W t) (hs _) (a.loc hx).2).imp fun D σ H ⟨ρ, H0, c, l, o⟩ => ⟨ρ, H0, c, l, ?_⟩
  show Out _ _ _ _ _ _ _ _ _ _ fun x H1 => D.nx (σ.set i (some x)) H1
  unfold gSet at o
  cases e1 : f ρ with
  | ok d r =>
    rw [e1, bind_ok] at o
    refine fun v H0' H' c' s l' ⟨fp, ow, fr⟩ => ?_
    have s' := s.mono (ms' := msA) fun _ _ => rfl
    have fr' := fr.mono (ms2 := msA) fun _ _ => rfl
    exact o (σ.set i (some v)) H0' H' (coSet c' i fp) (Step.store (K := G.K) (mg := G.mg) s' fr') (l'.set ow fr.nd (fun a ha => .inl (fr.nc a ha)) fr.n0 fr.there) Agr.set
  | exc n ns vs r =>
    rw [e1] at o
    exact fun cls dx H0' H' c' s l' e => o cls dx σ H0' H' c' (s.mono fun _ _ => rfl) l' .refl e
  | bad => rw [e1] at o; exact o

/-! ### targets -/
/-- a target's reading: the value is frozen data -/
def tG (K : PySem.W.Frag) (mg : Str → Option Value) (as : Ms) (gt : D → M Fl) : TG := fun v σ H Q => ∃ (W : WX) (E : Ends), ∃ rm ρ H0 c d, Lies K mg H0 H c σ ρ ∧ Fz K mg H0 d v ∧ OutS K mg W rm as as H0 H c σ (gt d ρ) E ∧ ∀ σ' H', E.nx σ' H' → Q σ' H'
abbrev VG (G : GC) (N : List Str) (S : SC) (as : Ms) (tg : Expr) (gt : D → M Fl) : Prop := ∀ R, At S N (mkX G N R) → PG (mkX G N R) tg (tG G.K G.mg as gt)
def tGs (K : PySem.W.Frag) (mg : Str → Option Value) (as : Ms) (gt : List D → M Fl) : TGs := fun vs σ H Q => ∃ (W : WX) (E : Ends), ∃ rm ρ H0 c ds, Lies K mg H0 H c σ ρ ∧ Fzs K mg H0 ds vs ∧ OutS K mg W rm as as H0 H c σ (gt ds ρ) E ∧ ∀ σ' H', E.nx σ' H' → Q σ' H'
abbrev VGs (G : GC) (N : List Str) (S : SC) (as : Ms) (tg : List Expr) (gt : List D → M Fl) : Prop := ∀ R, At S N (mkX G N R) → PGs (mkX G N R) tg (tGs G.K G.mg as gt)
theorem PG.imp {X : Cx} {e : Expr} {t t' : TG} (h : PG X e t) (q : ∀ v σ H Q, t' v σ H Q → t v σ H Q) : PG X e t' := ⟨fun pins s σ H v u Q I r z => h.run pins s σ H v u Q I r (q v σ H Q z)⟩
theorem PGs.imp {X : Cx} {e : List Expr} {t t' : TGs} (h : PGs X e t) (q : ∀ v σ H Q, t' v σ H Q → t v σ H Q) : PGs X e t' := ⟨fun pins s σ H v u Q I r z => h.run pins s σ H v u Q I r (q v σ H Q z)⟩
def tName (i : Nat) : D → M Fl := fun d r => .ok .nx (r.set i (some (.z, d)))
theorem VG.name {i : Nat} {x : Str} (hi : N[i]? = some x := by rfl) (hx : Loc' S x := by first | exact Or.inl rfl | exact Or.inr ⟨rfl, rfl⟩) : VG G N S (msO i) (.Name x pos) (tName i) := by
  refine fun R a => PG.imp (pg_name (i := i) a.nd hi (a.loc hx).1 (a.loc hx).2) fun v σ H Q ⟨W, E, rm, ρ, H0, c, d, l, fz, o, q⟩ => ?_
  refine q _ _ ?_
  exact o (σ.set i (some v)) H0 H (coSet c i []) (Step.store (K := G.K) (mg := G.mg) .refl .nil) (l.set (Ow.zero.mpr ⟨rfl, fz⟩) List.nodup_nil (by simp) (by simp) (by simp)) Agr.set
def tNil : List D → M Fl := fun ds r => match ds with
  | [] => .ok .nx r
  | _ :: _ => .bad
def tCon (gt : D → M Fl) (gs : List D → M Fl) : List D → M Fl := fun ds => match ds with
  | d :: ds => gSeq (gt d) (gs ds)
  | [] => fun _ => .bad
theorem VGs.nil : VGs G N S ms0 [] tNil := by
  refine fun R a => PGs.imp pgs_nil fun v σ H Q ⟨W, E, rm, ρ, H0, c, ds, l, fz, o, q⟩ => ?_
  cases ds with
  | nil => exact ⟨fz, q _ _ (o σ H0 H c .refl l .refl)⟩
  | cons => exact o.elim
theorem VGs.cons {gt : D → M Fl} {gs : List D → M Fl} (h1 : VG G N S as1 e gt) (h2 : VGs G N S as2 es gs) (hs : ∀ env, (assignEach (e :: es) env).map (·.2) = assign e env :: (assignEach es env).map (·.2) := by intro _; rfl) :
    VGs G N S (msU as1 as2) (e :: es) (tCon gt gs) := by
  refine fun R a => PGs.imp (pgs_cons (h1 R a) (h2 R a) (hs _)) fun vs σ H Q ⟨W, E, rm, ρ, H0, c, ds, l, fz, o, q⟩ => ?_
  cases ds with
  | nil => exact o.elim
  | cons d ds =>
    obtain ⟨v, r, ev, fv, fr⟩ := fz
    refine ⟨v, r, ev, W, _, rm, ρ, H0, c, d, l, fv, OutS.mono (OutS.seq o) (fun i e => or_l e) fun i e => or_l e, fun σ' H' ⟨ρ1, H01, c1, l1, s1, a1, o1⟩ => ?_⟩
    exact ⟨W, E, rm, ρ1, H01, c1, ds, l1, Fzs.mono s1.grow ds r fr, o1.mono (fun i e => or_r e) fun i e => or_r e, q⟩
def tTupl (n : Nat) (gs : List D → M Fl) : D → M Fl := fun d => match d with
  | .tup ds => if ds.length = n then gs ds else fun _ => .bad
  | _ => fun _ => .bad
theorem VG.tup {n : Nat} {kk : Nat} {gs : List D → M Fl} (h : VGs G N S as es gs) (hc : S.cm = true := by rfl) (hn : ∀ env, (assignEach es env).length = n := by intro _; rfl) (hst : ∀ env, (assignEach es env).findIdx? (·.1) = none := by intro _; rfl) :
    VG G N S as (.Tuple es kk pos) (tTupl n gs) := by
  refine fun R a => PG.imp (pg_tup (n := n) (a.calm.trans hc) (h R a) (hn _) (hst _)) fun v σ H Q ⟨W, E, rm, ρ, H0, c, d, l, fz, o, q⟩ => ?_
  cases d with
  | tup ds =>
    obtain ⟨b, vs, e, k, g⟩ := fz
    by_cases hl : ds.length = n
    · have o' : OutS G.K G.mg W rm as as H0 H c σ ((if ds.length = n then gs ds else fun _ => .bad) ρ) E := o
      rw [if_pos hl] at o'
      exact ⟨b, vs, e, same_t l.sub k, g.length.trans hl, W, E, rm, ρ, H0, c, ds, l, g, o', q⟩
    · have o' : OutS G.K G.mg W rm as as H0 H c σ ((if ds.length = n then gs ds else fun _ => .bad) ρ) E := o
      rw [if_neg hl] at o'
      exact o'.elim
  | _ => exact o.elim
/-- targets = e, e frozen data -/
def gAsg (gt : D → M Fl) (f : M D) : M Fl := fun r => (f r).bind gt
theorem VS.asg {tg : Expr} {gt : D → M Fl} (h : VO G N S .z ms e f) (hg : VG G N S as tg gt) (hs : ∀ env, swapsWithSole [tg] e pos.line env = pure false := by intro _; rfl) (hw : ∀ env, swappedStores [tg] e env = pure none := by intro _; rfl)
    (h1 : ∀ env, (assignEach [tg] env).map (·.2) = [assign tg env] := by intro _; rfl) : VS G N S rm as (.Assign [tg] e pos) (gAsg gt f) := by
  refine fun R a W t => (ps_asg (h R a W t) (hg R a) (hs _) (hw _) (h1 _)).imp fun D σ H ⟨ρ, H0, c, l, o⟩ => ?_
  refine ⟨ρ, H0, c, l, (OutS.expr (F := FO G.K G.mg .z ms) o).imp fun x H1 ⟨d, H01, c1, ρ1, e1, s1, l1, ⟨fp, o1, f1⟩, h1⟩ => ?_⟩
  exact ⟨W, D, rm, ρ1, H01, c1, d, l1, (Ow.zero.mp o1).2, h1.mono (fun _ h => h) fun _ _ => rfl, fun _ _ h => h⟩

/-! ### what is walked -/
/-- how large a list may be -/
abbrev LIM : Nat := 16777216
/-- it yields the data ds, one after another, while the frozen heap only grows and P stays -/
def ItOk (K : PySem.W.Frag) (mg : Str → Option Value) (J : It) (H0 : Hp) (ds : List D) (P : Hp → Co → Prop) : Prop := ∀ H0' H c, Same H0 H0' → Same H0' H → P H c →
  (∀ i d, ds[i]? = some d → J.go i H ∧ ∀ x H', J.yld i H x H' → ∃ H0'', Same H H' ∧ Same H0' H0'' ∧ Same H0'' H' ∧ (∀ a o, H0'' a = some o → (∃ u, H0' a = some u) ∨ H a = none) ∧ Fz K mg H0'' d x) ∧ J.stop ds.length H
/-- it stays through steps that leave the slots bs alone, and where an object of no slot is changed -/
structure Stays (bs : Ms) (P : Hp → Co → Prop) : Prop where
  run : ∀ (ms : Ms) (H0 H : Hp) (c : Co) (H0' H' : Hp) (c' : Co), (∀ i, bs i = true → ms i = false) → P H c → Step ms H0 H c H0' H' c' → P H' c'
  oth : ∀ (H : Hp) (c : Co) (a : Addr) (o : HO), c a = none → P H c → P (upd H a o) c
def FI (K : PySem.W.Frag) (mg : Str → Option Value) (bs : Ms) : Fam (List D) It := fun _ _ ds H0' H' c' J => ds.length ≤ LIM ∧ ∃ P, P H' c' ∧ Stays bs P ∧ ItOk K mg J H0' ds P
theorem back_FI {K : PySem.W.Frag} {mg : Str → Option Value} : Back ms (FI K mg bs) := fun _ _ _ _ _ _ _ _ _ _ _ _ h => h
abbrev VI (G : GC) (N : List Str) (S : SC) (bs ms : Ms) (tg e : Expr) (f : M (List D)) : Prop := VE G N S (fun X t => PI X tg e t) (FI G.K G.mg bs) ms f
theorem PI.imp {X : Cx} {tg e : Expr} {t t' : TI} (h : PI X tg e t) (q : ∀ σ H Q, t' σ H Q → t σ H Q) : PI X tg e t' := ⟨fun pins s σ H Q I z => h.run pins s σ H Q I (q σ H Q z)⟩
/-- what stands in the heap is not too large -/
theorem pe_small {X : Cx} {e : Expr} {t : TE} (h : PE X e t) : PE X e fun σ H Q => t σ H fun v H' => (∀ a xs, v = .ref a → (SqL X.K H' a xs ∨ SqT X.K H' a xs) → xs.length ≤ LIM) → Q v H' := by
  refine ⟨fun pins s σ H Q I w => ?_⟩
  refine thn (h.run pins s σ H _ I w) fun u s1 ⟨v, H1, I1, r1, q⟩ => ⟨v, H1, I1, r1, q fun a xs e k => ?_⟩
  rcases k with k | k
  · obtain ⟨_, _, _, z⟩ := I1.list k
    rw [sizeLine_eq] at z; exact z
  · obtain ⟨_, _, _, z⟩ := I1.tuple k
    rw [sizeLine_eq] at z; exact z
theorem ItOk.list {K : PySem.W.Frag} {mg : Str → Option Value} {H0 : Hp} {a : Addr} {ds : List D} {vs : List V} {P : Hp → Co → Prop} (h : ∀ H0' H c, Same H0 H0' → Same H0' H → P H c → SqL K H a vs) (f : Fzs K mg H0 ds vs) : ItOk K mg (Itl K a) H0 ds P := fun H0' H c s1 s2 p => by
  have hq : SqL K H a vs := h H0' H c s1 s2 p
  refine ⟨fun i d e => ?_, ⟨vs, hq, by rw [f.length]; exact Nat.le_refl _⟩⟩
  obtain ⟨v, e1, e2⟩ := f.get e
  refine ⟨⟨vs, v, hq, e1⟩, fun x H' ⟨e3, e4⟩ => ?_⟩
  subst e3
  have e5 := e4 vs hq
  rw [e1] at e5
  cases e5
  exact ⟨H0', Same.refl _, Same.refl _, s2, fun a o q => .inl ⟨o, q⟩, Fz.mono s1 d v e2⟩
theorem ItOk.tup {K : PySem.W.Frag} {mg : Str → Option Value} {H0 : Hp} {a : Addr} {ds : List D} {vs : List V} {P : Hp → Co → Prop} (h : ∀ H0' H c, Same H0 H0' → Same H0' H → P H c → SqT K H a vs) (f : Fzs K mg H0 ds vs) : ItOk K mg (Itt K a) H0 ds P := fun H0' H c s1 s2 p => by
  have hq : SqT K H a vs := h H0' H c s1 s2 p
  refine ⟨fun i d e => ?_, ⟨vs, hq, by rw [f.length]; exact Nat.le_refl _⟩⟩
  obtain ⟨v, e1, e2⟩ := f.get e
  refine ⟨⟨vs, v, hq, e1⟩, fun x H' ⟨e3, e4⟩ => ?_⟩
  subst e3
  have e5 := e4 vs hq
  rw [e1] at e5
  cases e5
  exact ⟨H0', Same.refl _, Same.refl _, s2, fun a o q => .inl ⟨o, q⟩, Fz.mono s1 d v e2⟩
theorem Stays.tt : Stays bs (fun _ _ => True) := ⟨fun _ _ _ _ _ _ _ _ _ _ => trivial, fun _ _ _ _ _ _ => trivial⟩
theorem Stays.own {a : Addr} {o : HO} {i : Nat} (hi : bs i = true) : Stays bs (fun H c => H a = some o ∧ c a = some i) := ⟨fun ms H0 H c H0' H' c' dj ⟨h1, h2⟩ s =>
  ⟨s.keep a o h1 fun j e => by rw [h2] at e; cases e; exact dj i hi, (s.col a o h1 fun j e => by rw [h2] at e; cases e; exact dj i hi).trans h2⟩,
  fun H c b u h ⟨h1, h2⟩ => ⟨by rw [upd_ne fun e => by rw [e, h] at h2; cases h2]; exact h1, h2⟩⟩
/-- over a list, the script -/
def iLst (f : M D) : M (List D) := fun r => (f r).bind fun d r => match d with
  | .lst ds => .ok ds r
  | .scr ns => .ok (ns.map .int) r
  | _ => .bad
theorem FI.lst {K : PySem.W.Frag} {mg : Str → Option Value} {H0 H Hh : Hp} {c cc : Co} {d : D} {ds : List D} {v : V} (s : Same H0 H) (b : Bw K mg bs H0 H c d v) (hd : (∃ ds', d = .lst ds' ∧ ds = ds') ∨ ∃ ns, d = .scr ns ∧ ds = ns.map .int) (hs : ∀ a xs, v = .ref a → (SqL K H a xs ∨ SqT K H a xs) → xs.length ≤ LIM) :
    ∃ a, v = .ref a ∧ (∃ vs, SqL K H a vs) ∧ FI K mg bs Hh cc ds H0 H c (Itl K a) := by
  rcases hd with ⟨ds', rfl, rfl⟩ | ⟨ns, rfl, rfl⟩
  · rcases b with ⟨a, vs, e, k, g⟩ | ⟨fp, i, hi, hl, ⟨a, vs, g, e, k, ef, r⟩, hc⟩
    · have q : SqL K H a vs := .of (s _ _ k)
      refine ⟨a, e, ⟨vs, q⟩, by rw [← g.length]; exact hs a vs e (.inl q), fun _ _ => True, trivial, .tt, ItOk.list (fun H0' H c s1 s2 _ => .of (s2 _ _ (s1 _ _ k))) g⟩
    · have q : SqL K H a vs := .of k
      have gz := (Ows.all_z.mp r).2
      refine ⟨a, e, ⟨vs, q⟩, by rw [← gz.length]; exact hs a vs e (.inl q), fun H c => H a = some (.lst vs) ∧ c a = some i, ⟨k, hc a (by rw [ef]; exact List.mem_cons_self)⟩, .own hi, ItOk.list (fun H0' H c s1 s2 p => .of p.1) gz⟩
  · have z : Fz K mg H0 (.scr ns) v := by
      rcases b with z | ⟨fp, i, hi, hl, _⟩
      · exact z
      · cases hl
    obtain ⟨a, e, k⟩ := z
    exact ⟨a, e, ⟨_, s.seq k⟩, by rw [List.length_map, ← List.length_map (f := V.int)]; exact hs a _ e (.inl (s.seq k)), fun _ _ => True, trivial, .tt, ItOk.list (fun H0' H c s1 s2 _ => s2.seq (s1.seq k)) (fzs_ints _)⟩
theorem VI.lst {tg : Expr} (h : VB G N S bs ms e f) : VI G N S bs ms tg e (iLst f) := by
  refine fun R a W t => PI.imp (pi_list (pe_small (h R a W t))) fun σ H Q ⟨ρ, H0, c, l, o⟩ => ?_
  refine ⟨ρ, H0, c, l, (Out.bind (G := FB G.K G.mg bs) (ms1 := ms) back_FI o fun i e => e).imp fun x H1 ⟨d, H01, c1, ρ1, e1, s1, l1, b1, h1⟩ hs => ?_⟩
  cases d with
  | lst ds =>
    obtain ⟨b, e, q, fi⟩ := FI.lst (Hh := H1) (cc := c1) l1.sub b1 (.inl ⟨ds, rfl, rfl⟩) hs
    exact ⟨b, e, q, h1 _ H01 H1 c1 .refl l1 fi⟩
  | scr ns =>
    obtain ⟨b, e, q, fi⟩ := FI.lst (Hh := H1) (cc := c1) l1.sub b1 (.inr ⟨ns, rfl, rfl⟩) hs
    exact ⟨b, e, q, h1 _ H01 H1 c1 .refl l1 fi⟩
  | _ => exact h1.elim
/-- over a tuple -/
def iTup (f : M D) : M (List D) := fun r => (f r).bind fun d r => match d with
  | .tup ds => .ok ds r
  | _ => .bad
theorem VI.tup {tg : Expr} (h : VO G N S .z ms e f) : VI G N S ms0 ms tg e (iTup f) := by
  refine fun R a W t => PI.imp (pi_tup (pe_small (h R a W t))) fun σ H Q ⟨ρ, H0, c, l, o⟩ => ?_
  refine ⟨ρ, H0, c, l, (Out.bind (G := FO G.K G.mg .z ms) (ms1 := ms) back_FI o fun i e => e).imp fun x H1 ⟨d, H01, c1, ρ1, e1, s1, l1, ⟨fp, o1, f1⟩, h1⟩ hs => ?_⟩
  have z := (Ow.zero.mp o1).2
  cases d with
  | tup ds =>
    obtain ⟨b, vs, e, k, g⟩ := z
    exact ⟨b, e, ⟨vs, same_t l1.sub k⟩, h1 _ H01 H1 c1 .refl l1 ⟨by rw [← g.length]; exact hs b vs e (.inr (same_t l1.sub k)), fun _ _ => True, trivial, .tt, ItOk.tup (fun H0' H c s1 s2 _ => same_t s2 (same_t s1 k)) g⟩⟩
  | _ => exact h1.elim
/-- for -/
def lpK (k : M Fl) : Fl → M Fl := fun fl r => match fl with
  | .nx => k r
  | .ct => k r
  | .bk => .ok .nx r
  | .rt d => .ok (.rt d) r
def gLoop (gt : D → M Fl) (gb : M Fl) : List D → M Fl
  | [] => gNx
  | d :: ds => fun r => (gt d r).bind fun _ r => (gb r).bind (lpK (gLoop gt gb ds))
def gFor (fi : M (List D)) (gt : D → M Fl) (gb : M Fl) : M Fl := fun r => (fi r).bind (gLoop gt gb)
theorem VS.for_ {tg it : Expr} {body : List Stmt} {fi : M (List D)} {gt : D → M Fl} {gb : M Fl} (hi : VI G N S ms0 ms tg it fi) (hg : VG G N S as1 tg gt) (hb : VSs G N S rm as2 body gb) (hc : S.cm = true := by rfl) (hs : ∀ env x, foldedSetIterable it env x = pure x := by intro _ _; rfl) :
    VS G N S rm (msU as1 as2) (.For tg it body [] pos) (gFor fi gt gb) := by
  refine fun R a W t => (ps_for a.po (a.calm.trans hc) (hi R a W t) (hg R a) (hb R a W t) (hs _)).imp fun D σ H ⟨ρ, H0, c, l, o⟩ => ?_
  refine ⟨ρ, H0, c, l, (OutS.expr (F := FI G.K G.mg ms0) o).imp fun J H1 ⟨ds, H01, c1, ρ1, e1, s1, l1, ⟨_, P, p1, sP, hJ⟩, o1⟩ => ?_⟩
  refine ⟨fun i m σ H => m = ds.length - i ∧ i ≤ ds.length ∧ ∃ ρ H0 c, Lies G.K G.mg H0 H c σ ρ ∧ (Same H01 H0 ∧ P H c) ∧ OutS G.K G.mg W rm msA (msU as1 as2) H0 H c σ (gLoop gt gb (ds.drop i) ρ) D,
    ⟨ds.length, rfl, Nat.zero_le _, ρ1, H01, c1, l1, ⟨Same.refl _, p1⟩, o1⟩, fun i m σ H ⟨em, hi, ρ, H0, c, l, ⟨s, pH⟩, o⟩ => ?_⟩
  obtain ⟨hgo, hst⟩ := hJ H0 H c s l.sub pH
  by_cases hlt : i < ds.length
  · have ed : ds.drop i = ds[i] :: ds.drop (i + 1) := List.drop_eq_getElem_cons hlt
    rw [ed] at o
    obtain ⟨go, step⟩ := hgo i ds[i] (List.getElem?_eq_getElem hlt)
    refine .inr ⟨go, fun σ' H' => ∃ ρ H0 c, Lies G.K G.mg H0 H' c σ' ρ ∧ (Same H01 H0 ∧ P H' c) ∧ OutS G.K G.mg W rm msA (msU as1 as2) H0 H' c σ' (gLoop gt gb (ds.drop (i + 1)) ρ) D, fun σ' H' ⟨ρ, H0, c, l, s, o⟩ => ⟨ds.length - (i + 1), by omega, rfl, hlt, ρ, H0, c, l, s, o⟩, fun x H' hy => ?_⟩
    obtain ⟨H0', k1, k2, k3, k4, fz⟩ := step x H' hy
    have l' := l.grow k1 k2 k3 k4
    have gr : Step msA H0 H c H0' H' c := Step.growth k1 k2 k4
    have pH' : P H' c := sP.run msA _ _ _ _ _ _ (fun _ z => by cases z) pH gr
    have o' := o.on gr Agr.refl
    -- the target, then the body
    have e2 : OutS G.K G.mg W rm as1 as1 H0' H' c σ (gt ds[i] ρ) { D with nx := fun σ2 H2 => ∃ ρ2 H02 c2, Lies G.K G.mg H02 H2 c2 σ2 ρ2 ∧ (Same H01 H02 ∧ P H2 c2) ∧ OutS G.K G.mg W rm msA (msU as1 as2) H02 H2 c2 σ2 ((gb ρ2).bind (lpK (gLoop gt gb (ds.drop (i + 1))))) D, bk := fun _ _ => True, ct := fun _ _ => True, rt := fun _ _ => True } := by
      have o2 : OutS G.K G.mg W rm msA (msU as1 as2) H0' H' c σ ((gt ds[i] ρ).bind fun _ r => (gb r).bind (lpK (gLoop gt gb (ds.drop (i + 1))))) D := o'
      cases hh : gt ds[i] ρ with
      | ok fl r =>
        rw [hh, bind_ok] at o2
        cases fl with
        | nx => exact fun σ2 H02 H2 c2 t l2 a2 => ⟨r, H02, c2, l2, ⟨s.trans (k2.trans t.grow), sP.run msA _ _ _ _ _ _ (fun _ z => by cases z) pH' (t.mono fun _ _ => rfl)⟩, o2.on (t.mono fun _ _ => rfl) (a2.mono fun i e => or_l e)⟩
        | bk => exact fun _ _ _ _ _ _ _ => trivial
        | ct => exact fun _ _ _ _ _ _ _ => trivial
        | rt d => exact fun _ _ _ _ _ _ _ _ _ => trivial
      | exc n ns vs r =>
        rw [hh, bind_exc] at o2
        exact fun cls dx σ2 H02 H2 c2 t l2 a2 e => o2 cls dx σ2 H02 H2 c2 (t.mono fun _ _ => rfl) l2 (a2.mono fun i e => or_l e) e
      | bad => rw [hh, bind_bad] at o2; exact o2.elim
    refine ⟨W, _, rm, ρ, H0', c, ds[i], l', fz, e2, fun σ2 H2 ⟨ρ2, H02, c2, l2, ⟨s2, pH2⟩, o2⟩ => ?_⟩
    refine ⟨ρ2, H02, c2, l2, ?_⟩
    cases hh : gb ρ2 with
    | ok fl r =>
      rw [hh, bind_ok] at o2
      cases fl with
      | nx => exact fun σ3 H03 H3 c3 t l3 a3 => ⟨r, H03, c3, l3, ⟨s2.trans t.grow, sP.run msA _ _ _ _ _ _ (fun _ z => by cases z) pH2 t⟩, o2.on t (a3.mono fun i e => or_r e)⟩
      | ct => exact fun σ3 H03 H3 c3 t l3 a3 => ⟨r, H03, c3, l3, ⟨s2.trans t.grow, sP.run msA _ _ _ _ _ _ (fun _ z => by cases z) pH2 t⟩, o2.on t (a3.mono fun i e => or_r e)⟩
      | bk => exact fun σ3 H03 H3 c3 t l3 a3 => o2 σ3 H03 H3 c3 t l3 (a3.mono fun i e => or_r e)
      | rt d => exact fun v σ3 H03 H3 c3 t l3 a3 f => o2 v σ3 H03 H3 c3 t l3 (a3.mono fun i e => or_r e) f
    | exc n ns vs r =>
      rw [hh, bind_exc] at o2
      exact fun cls dx σ3 H03 H3 c3 t l3 a3 e => o2 cls dx σ3 H03 H3 c3 t l3 (a3.mono fun i e => or_r e) e
    | bad => rw [hh, bind_bad] at o2; exact o2.elim
  · have e : i = ds.length := by omega
    subst e
    rw [List.drop_length] at o
    exact .inl ⟨hst, o σ H0 H c .refl l .refl⟩
/-- while, with so many turns at most -/
def gWhile (ft : M D) (gb : M Fl) : Nat → M Fl
  | 0 => fun _ => .bad
  | n + 1 => fun r => (ft r).bind fun d r => match d with
    | .bl true => (gb r).bind (lpK (gWhile ft gb n))
    | .bl false => .ok .nx r
    | _ => .bad
theorem VS.while_ {t : Expr} {body : List Stmt} {ft : M D} {gb : M Fl} (n : Nat) (ht : VT G N S ms t ft) (hb : VSs G N S rm as body gb) : VS G N S rm as (.While t body [] pos) (gWhile ft gb n) := by
  refine fun R a W tk => (ps_while a.po (ht R a W tk) (hb R a W tk)).imp fun D σ H ⟨ρ, H0, c, l, o⟩ => ?_
  refine ⟨fun m σ H => ∃ ρ H0 c, Lies G.K G.mg H0 H c σ ρ ∧ OutS G.K G.mg W rm msA as H0 H c σ (gWhile ft gb m ρ) D, ⟨n, ρ, H0, c, l, o⟩, fun m σ H ⟨ρ, H0, c, l, o⟩ => ?_⟩
  cases m with
  | zero => exact o.elim
  | succ m =>
    refine ⟨ρ, H0, c, l, (OutS.expr (F := FT) o).imp fun x H1 ⟨d, H01, c1, ρ1, e1, s1, l1, z, o1⟩ => ?_⟩
    have z : d = .bl x := z
    subst z
    cases x with
    | false => rw [if_neg Bool.false_ne_true]; exact o1 σ H01 H1 c1 .refl l1 .refl
    | true =>
      rw [if_pos rfl]
      refine ⟨fun σ' H' => ∃ ρ H0 c, Lies G.K G.mg H0 H' c σ' ρ ∧ OutS G.K G.mg W rm msA as H0 H' c σ' (gWhile ft gb m ρ) D, fun σ' H' h => ⟨m, Nat.lt_succ_self _, h⟩, ρ1, H01, c1, l1, ?_⟩
      have o2 : OutS G.K G.mg W rm msA as H01 H1 c1 σ ((gb ρ1).bind (lpK (gWhile ft gb m))) D := o1
      cases hh : gb ρ1 with
      | ok fl r =>
        rw [hh, bind_ok] at o2
        cases fl with
        | nx => exact fun σ3 H03 H3 c3 t l3 a3 => ⟨r, H03, c3, l3, o2.on t a3⟩
        | ct => exact fun σ3 H03 H3 c3 t l3 a3 => ⟨r, H03, c3, l3, o2.on t a3⟩
        | bk => exact fun σ3 H03 H3 c3 t l3 a3 => o2 σ3 H03 H3 c3 t l3 a3
        | rt d => exact fun v σ3 H03 H3 c3 t l3 a3 f => o2 v σ3 H03 H3 c3 t l3 a3 f
      | exc n ns vs r =>
        rw [hh, bind_exc] at o2
        exact fun cls dx σ3 H03 H3 c3 t l3 a3 e => o2 cls dx σ3 H03 H3 c3 t l3 a3 e
      | bad => rw [hh, bind_bad] at o2; exact o2.elim
end
end Vm
set_option Elab.async false
set_option linter.all false
set_option maxRecDepth 100000
set_option maxHeartbeats 4000000
namespace Vm
open PySem PySem.Spec PyProof.Rows L2

/-! ### a def by its data -/
/-- what a def leaves in the slots that were lent to it -/
def ioEnd : List Bool → Nat → En → En
  | [], _, _ => []
  | b :: bs, i, r => (if b = true then getS r i else none) :: ioEnd bs (i + 1) r
theorem ioEnd_len : ∀ (io : List Bool) (i : Nat) (r : En), (ioEnd io i r).length = io.length
  | [], _, _ => rfl
  | b :: bs, i, r => by simp [ioEnd, ioEnd_len bs (i + 1) r]
theorem ioEnd_get : ∀ (io : List Bool) (i : Nat) (r : En) (j : Nat) (s : Md × D), getS (ioEnd io i r) j = some s → io.getD j false = true ∧ getS r (i + j) = some s
  | [], _, _, j, s, h => by simp [ioEnd, getS] at h
  | b :: bs, i, r, 0, s, h => by
    cases b with
    | true => exact ⟨rfl, by simpa [ioEnd, getS] using h⟩
    | false => simp [ioEnd, getS] at h
  | b :: bs, i, r, j + 1, s, h => by
    have h' : getS (ioEnd bs (i + 1) r) j = some s := by simpa [ioEnd, getS] using h
    obtain ⟨h1, h2⟩ := ioEnd_get bs (i + 1) r j s h'
    exact ⟨by simpa using h1, by rw [show i + (j + 1) = i + 1 + j by omega]; exact h2⟩
def fnRun (io : List Bool) (n : Nat) (g : M Fl) : M D := fun r => match g (r ++ List.replicate n none) with
  | .ok (.rt d) r => .ok d (ioEnd io 0 r)
  | .ok .nx r => .ok .non (ioEnd io 0 r)
  | .ok _ _ => .bad
  | .exc c ns vs r => .exc c ns vs (ioEnd io 0 r)
  | .bad => .bad
def spV (G : GC) (F : M D) (p : Nat) (rm : Md) : Sp := fun vs H Q E => vs.length = p ∧ tR G.K G.mg (fun cls dx _ H => E cls dx H) (FO G.K G.mg rm msA) msA F (vs.map some) H Q
/-- a def of the text that does F -/
abbrev FnV (G : GC) (k : Nat) (f : Addr) (fd : FuncData) (ps : List Str) (rm : Md) (F : M D) : Prop := FnOk G.P G.w G.K G.mg G.base (L2.CX G.P G.w) k f fd ps (spV G F ps.length rm)
theorem FnV.mk {G : GC} {k : Nat} {f : Addr} {fd : FuncData} {N ps : List Str} {rm : Md} {g : M Fl} {x qual : Str} {params : Arguments} {body : List Stmt} {scope : Scope} {dvs : List V} {kws : List (Str × V)} {as : Ms} (F : FunD G.K x qual params body scope dvs kws f fd) (Sc : FnScope N ps scope) (io : List Bool) (n : Nat)
    (hb : VSs G N ⟨scope, fun _ => true, k, true⟩ rm as body g) (hio : io.length = ps.length := by rfl) (hn : N.length = ps.length + n := by rfl) (has : ∀ i, io.getD i false = true → as i = false := by intro i h; rcases i with _ | _ | _ | _ | _ | _ | i <;> first | rfl | (cases h)) :
    FnV G (k + 1) f fd ps rm (fnRun io n g) := by
  refine F.ok Sc (fun vs H Q E h => h.1) (fun cdv A outer s H vs Q E hr ⟨hl, ρ, H0, c, l, o⟩ => ?_)
  have hlen : ρ.length = vs.length := by rw [l.len, List.length_map]
  refine ⟨tS G.K G.mg (fun cls d _ H => E cls d H) rm as g, hb ⟨A.deeper (envOfC qual scope s.heap.objs.size f cdv), s, H, envOfC qual scope s.heap.objs.size f cdv, outer, envOfC qual scope s.heap.objs.size f cdv :: outer, [], fun _ => true, true, [],
    fun e s' => wpAny (model G.P G.w) (A.deeper (envOfC qual scope s.heap.objs.size f cdv)) (leaving (envOfC qual scope s.heap.objs.size f cdv) e) (fun _ s'' => L2.CX G.P G.w outer H s E e s'') (fun e' s'' => L2.CX G.P G.w outer H s E e' s'') s'⟩
    ⟨rfl, rfl, Sc.nd, rfl, fun _ => hr, PassesOwn.leaving⟩ _ (takes_of rfl rfl rfl rfl), ρ ++ List.replicate n none, H0, c, ?_, ?_⟩
  · refine ⟨l.sub, l.apart, l.there, ?_, fun i m d e => ?_⟩
    · unfold L2.start
      simp only [List.length_append, List.length_map, List.length_replicate]
      omega
    · have hi : i < ρ.length := by
        rcases Nat.lt_or_ge i ρ.length with h | h
        · exact h
        · exfalso
          have z : getS (ρ ++ List.replicate n none) i = none := by
            simp only [getS, List.getD_eq_getElem?_getD]
            rw [List.getElem?_append_right h, List.getElem?_replicate]
            split <;> rfl
          rw [z] at e; cases e
      have e' : getS ρ i = some (m, d) := by
        simp only [getS, List.getD_eq_getElem?_getD] at e ⊢
        rw [List.getElem?_append_left hi] at e
        exact e
      obtain ⟨v, fp, e1, ow, nd, hc⟩ := l.slot i m d e'
      refine ⟨v, fp, ?_, ow, nd, hc⟩
      unfold L2.start
      rw [List.getElem?_append_left (by rw [List.length_map]; omega)]
      exact e1
  · have back : ∀ {r : En} {σ' : L2.St} {H0' H' : Hp} {c' : Co}, Lies G.K G.mg H0' H' c' σ' r → Agr as (L2.start N vs) σ' → Lies G.K G.mg H0' H' c' (vs.map some) (ioEnd io 0 r) := fun {r σ' H0' H' c'} l' a' => by
      refine ⟨l'.sub, l'.apart, l'.there, by rw [ioEnd_len, hio, List.length_map, hl], fun i m d e => ?_⟩
      obtain ⟨q1, q2⟩ := ioEnd_get io 0 r i (m, d) e
      rw [Nat.zero_add] at q2
      obtain ⟨v, fp, e1, ow, nd, hc⟩ := l'.slot i m d q2
      have hi : i < io.length := by
        rcases Nat.lt_or_ge i io.length with h | h
        · exact h
        · rw [List.getD_eq_getElem?_getD, List.getElem?_eq_none h] at q1; cases q1
      rw [a'.2 i (has i q1)] at e1
      refine ⟨v, fp, ?_, ow, nd, hc⟩
      unfold L2.start at e1
      rw [List.getElem?_append_left (by rw [List.length_map]; omega)] at e1
      exact e1
    unfold fnRun at o
    cases hg : g (ρ ++ List.replicate n none) with
    | ok fl r =>
      rw [hg] at o
      cases fl with
      | nx => exact fun σ' H0' H' c' t l' a' => o .non H0' H' c' t (back l' a') ⟨[], ow_of_atom rfl rfl, .nil⟩
      | bk => exact o.elim
      | ct => exact o.elim
      | rt d => exact fun v σ' H0' H' c' t l' a' f => o v H0' H' c' t (back l' a') f
    | exc nn ns es r =>
      rw [hg] at o
      exact fun cls dx σ' H0' H' c' t l' a' e => o cls dx H0' H' c' t (back l' a') e
    | bad => rw [hg] at o; exact o

/-! ### calls -/
/-- arguments: frozen data, or a slot lent -/
def AMr (K : PySem.W.Frag) (mg : Str → Option Value) (H0 : Hp) (σ : L2.St) : List (Option Nat) → List D → List V → Prop
  | [], ds, vs => ds = [] ∧ vs = []
  | none :: ls, ds, vs => ∃ d r v w, ds = d :: r ∧ vs = v :: w ∧ Fz K mg H0 d v ∧ AMr K mg H0 σ ls r w
  | some i :: ls, ds, vs => ∃ v w, vs = v :: w ∧ σ[i]? = some (some v) ∧ AMr K mg H0 σ ls ds w
def FAM (K : PySem.W.Frag) (mg : Str → Option Value) (σ : L2.St) (ls : List (Option Nat)) : Fam (List D) (List V) := fun _ _ ds H0' _ _ vs => AMr K mg H0' σ ls ds vs
def tAM (K : PySem.W.Frag) (mg : Str → Option Value) (W : WX) (ls : List (Option Nat)) (ms : Ms) (f : M (List D)) : TA := fun σ H Q => ∃ ρ H0 c, Lies K mg H0 H c σ ρ ∧ Out K mg W (FAM K mg σ ls) ms H0 H c σ (f ρ) Q
abbrev VM (G : GC) (N : List Str) (S : SC) (ls : List (Option Nat)) (ms : Ms) (es : List Expr) (f : M (List D)) : Prop := ∀ R, At S N (mkX G N R) → ∀ W, Takes (mkX G N R) W → PA (mkX G N R) es (tAM G.K G.mg W ls ms f)
theorem back_FAM {K : PySem.W.Frag} {mg : Str → Option Value} {σ : L2.St} {ls : List (Option Nat)} {ms : Ms} : Back ms (FAM K mg σ ls) := fun _ _ _ _ _ _ _ _ _ _ _ _ h => h
theorem AMr.mono {K : PySem.W.Frag} {mg : Str → Option Value} {H0 H0' : Hp} {σ : L2.St} (s : Same H0 H0') : ∀ {ls : List (Option Nat)} {ds : List D} {vs : List V}, AMr K mg H0 σ ls ds vs → AMr K mg H0' σ ls ds vs
  | [], _, _, h => h
  | none :: ls, _, _, ⟨d, r, v, w, e1, e2, f, h⟩ => ⟨d, r, v, w, e1, e2, Fz.mono s d v f, AMr.mono s h⟩
  | some i :: ls, _, _, ⟨v, w, e1, e2, h⟩ => ⟨v, w, e1, e2, AMr.mono s h⟩
def lentM (ls : List (Option Nat)) : Ms := fun i => ls.any fun l => l == some i
/-- the callee's slots -/
def mkArgs : List (Option Nat) → List D → En → En
  | [], _, _ => []
  | none :: ls, [], r => none :: mkArgs ls [] r
  | none :: ls, d :: ds, r => some (.z, d) :: mkArgs ls ds r
  | some i :: ls, ds, r => getS r i :: mkArgs ls ds r
def putBack : List (Option Nat) → En → En → En
  | [], _, r => r
  | none :: ls, rp, r => putBack ls rp.tail r
  | some i :: ls, rp, r => putBack ls rp.tail (r.set i (getS rp 0))
def fCall (F : M D) (ls : List (Option Nat)) (f : M (List D)) : M D := fun r => (f r).bind fun ds r => match F (mkArgs ls ds r) with
  | .ok d rp => .ok d (putBack ls rp r)
  | .exc n ns vs rp => .exc n ns vs (putBack ls rp r)
  | .bad => .bad
section
variable {G : GC} {N : List Str} {S : SC} {bs bs1 bs2 ms ms1 ms2 ms3 as as1 as2 : Ms} {m rm : Md} {k : Kd} {e a b : Expr} {es : List Expr} {f fa fb : M D} {fs : M (List D)} {pos : Pos} {ls : List (Option Nat)}
theorem VM.nil : VM G N S [] ms0 [] fNil := fun R a W t => pa_nil.imp fun σ H Q ⟨ρ, H0, c, l, o⟩ => o [] H0 H c .refl l ⟨rfl, rfl⟩
theorem VM.frz (he : VO G N S .z ms1 e f) (hr : VM G N S ls ms2 es fs) (hs : ∀ env, starEach (e :: es) env = (false, eval e env) :: starEach es env := by intro _; rfl) : VM G N S (none :: ls) (msU ms1 ms2) (e :: es) (fCons f fs) := by
  refine fun R a W t => (pa_cons (he R a W t) (hr R a W t) (hs _)).imp fun σ H Q ⟨ρ, H0, c, l, h⟩ => ?_
  refine ⟨ρ, H0, c, l, (Out.bind (G := FO G.K G.mg .z ms1) (ms1 := ms1) back_FAM h fun i e => or_l e).imp fun x H1 ⟨d1, H01, c1, ρ1, e1, s1, l1, ⟨fp, b1, _⟩, h1⟩ => ?_⟩
  refine ⟨ρ1, H01, c1, l1, (Out.bind (G := FAM G.K G.mg σ ls) (ms1 := ms2) back_FAM h1 fun i e => or_r e).imp fun y H2 ⟨d2, H02, c2, ρ2, e2, s2, l2, b2, h2⟩ => ?_⟩
  exact h2 (x :: y) H02 H2 c2 .refl l2 ⟨d1, d2, x, y, rfl, rfl, Fz.mono s2.grow d1 x (Ow.zero.mp b1).2, b2⟩
theorem VM.lent {i : Nat} {x : Str} {p : Pos} (hr : VM G N S ls ms2 es fs) (hN : N[i]? = some x := by rfl) (hv : Vis S.sc x := by first | exact Or.inl rfl | exact Or.inr (Or.inl rfl) | exact Or.inr (Or.inr rfl))
    (hs : ∀ env, starEach (.Name x p :: es) env = (false, eval (.Name x p) env) :: starEach es env := by intro _; rfl) (hd : (x == ("__debug__" : Str)) = false := by decide) (hcd : (x == ("__classdict__" : Str)) = false := by decide) :
    VM G N S (some i :: ls) ms2 (.Name x p :: es) (fun r => match getS r i with | some _ => fs r | none => .bad) := by
  refine fun R a W t => (pa_cons (pe_var (i := i) hN (a.vis hv) hd hcd) (hr R a W t) (hs _)).imp fun σ H Q ⟨ρ, H0, c, l, h⟩ => ?_
  cases es : getS ρ i with
  | none =>
    have h' : Out G.K G.mg W (FAM G.K G.mg σ (some i :: ls)) ms2 H0 H c σ (match getS ρ i with | some _ => fs ρ | none => .bad) Q := h
    rw [es] at h'; exact h'.elim
  | some md =>
    have h' : Out G.K G.mg W (FAM G.K G.mg σ (some i :: ls)) ms2 H0 H c σ (match getS ρ i with | some _ => fs ρ | none => .bad) Q := h
    rw [es] at h'
    obtain ⟨m, d⟩ := md
    obtain ⟨v, fp, e1, _⟩ := l.slot i m d es
    refine ⟨v, e1, ρ, H0, c, l, ?_⟩
    have h2 : Out G.K G.mg W (FAM G.K G.mg σ (some i :: ls)) ms2 H0 H c σ (fs ρ) Q := h'
    cases hf : fs ρ with
    | ok ds r => rw [hf] at h2; exact fun w H0' H' c' s l' q => h2 (v :: w) H0' H' c' s l' ⟨v, w, rfl, e1, q⟩
    | exc n ns vs r => rw [hf] at h2; exact h2
    | bad => rw [hf] at h2; exact h2
end
section
variable {K : PySem.W.Frag} {mg : Str → Option Value} {H0 H : Hp} {σ : L2.St} {ls : List (Option Nat)} {ds : List D} {vs : List V} {ρ rp r : En}
theorem mkArgs_len : ∀ {ls : List (Option Nat)} {ds : List D} {vs : List V}, AMr K mg H0 σ ls ds vs → (mkArgs ls ds r).length = ls.length ∧ vs.length = ls.length
  | [], _, _, h => by rw [h.2]; exact ⟨rfl, rfl⟩
  | none :: ls, _, _, ⟨d, _, v, w, e1, e2, f, h⟩ => by
    subst e1 e2
    obtain ⟨h1, h2⟩ := mkArgs_len h
    exact ⟨by simp [mkArgs, h1], by simp [h2]⟩
  | some i :: ls, _, _, ⟨v, w, e1, e2, h⟩ => by
    subst e1
    obtain ⟨h1, h2⟩ := mkArgs_len h
    exact ⟨by simp [mkArgs, h1], by simp [h2]⟩
theorem mkArgs_get : ∀ {ls : List (Option Nat)} {ds : List D} {vs : List V} {j : Nat} {s : Md × D}, AMr K mg H0 σ ls ds vs → getS (mkArgs ls ds r) j = some s →
    (ls[j]? = some none ∧ ∃ v, vs[j]? = some v ∧ s.1 = .z ∧ Fz K mg H0 s.2 v) ∨ ∃ i v, ls[j]? = some (some i) ∧ vs[j]? = some v ∧ σ[i]? = some (some v) ∧ getS r i = some s
  | [], _, _, j, s, h, e => by simp [mkArgs, getS] at e
  | none :: ls, _, _, 0, s, ⟨d, _, v, w, e1, e2, f, h⟩, e => by
    subst e1 e2
    have e : some (Md.z, d) = some s := by simpa [mkArgs, getS] using e
    cases e
    exact .inl ⟨rfl, v, rfl, rfl, f⟩
  | some i :: ls, _, _, 0, s, ⟨v, w, e1, e2, h⟩, e => by
    subst e1
    exact .inr ⟨i, v, rfl, rfl, e2, by simpa [mkArgs, getS] using e⟩
  | none :: ls, _, _, j + 1, s, ⟨d, dr, v, w, e1, e2, f, h⟩, e => by
    subst e1 e2
    have e : getS (mkArgs ls dr r) j = some s := by simpa [mkArgs, getS] using e
    rcases mkArgs_get h e with ⟨q1, v', q2, q3⟩ | ⟨i', v', q1, q2, q3⟩
    · exact .inl ⟨by simpa using q1, v', by simpa using q2, q3⟩
    · exact .inr ⟨i', v', by simpa using q1, by simpa using q2, q3⟩
  | some i :: ls, ds, _, j + 1, s, ⟨v, w, e1, e2, h⟩, e => by
    subst e1
    have e : getS (mkArgs ls ds r) j = some s := by simpa [mkArgs, getS] using e
    rcases mkArgs_get h e with ⟨q1, v', q2, q3⟩ | ⟨i', v', q1, q2, q3⟩
    · exact .inl ⟨by simpa using q1, v', by simpa using q2, q3⟩
    · exact .inr ⟨i', v', by simpa using q1, by simpa using q2, q3⟩
theorem AMr.get : ∀ {ls : List (Option Nat)} {ds : List D} {vs : List V} {j i : Nat}, AMr K mg H0 σ ls ds vs → ls[j]? = some (some i) → ∃ v, vs[j]? = some v ∧ σ[i]? = some (some v)
  | [], _, _, j, i, h, e => by simp at e
  | none :: ls, _, _, 0, i, ⟨d, _, v, w, e1, e2, f, h⟩, e => by simp at e
  | some i' :: ls, _, _, 0, i, ⟨v, w, e1, e2, h⟩, e => by
    subst e1
    simp at e
    subst e
    exact ⟨v, rfl, e2⟩
  | none :: ls, _, _, j + 1, i, ⟨d, _, v, w, e1, e2, f, h⟩, e => by
    subst e2
    simpa using AMr.get h (by simpa using e)
  | some i' :: ls, _, _, j + 1, i, ⟨v, w, e1, e2, h⟩, e => by
    subst e1
    simpa using AMr.get h (by simpa using e)
theorem putBack_len : ∀ (ls : List (Option Nat)) (rp r : En), (putBack ls rp r).length = r.length
  | [], _, _ => rfl
  | none :: ls, rp, r => putBack_len ls rp.tail r
  | some i :: ls, rp, r => by
    show (putBack ls rp.tail (r.set i (getS rp 0))).length = _
    rw [putBack_len ls rp.tail _, List.length_set]
theorem getS_tail (rp : En) (j : Nat) : getS rp.tail j = getS rp (j + 1) := by
  cases rp with
  | nil => simp [getS]
  | cons a r => simp [getS]
/-- a slot behind a call: it was not lent, or it is what the callee left -/
theorem putBack_get : ∀ {ls : List (Option Nat)} {rp r : En} {i : Nat}, (ls.filterMap id).Nodup → i < r.length →
    (lentM ls i = false ∧ getS (putBack ls rp r) i = getS r i) ∨ ∃ j, ls[j]? = some (some i) ∧ getS (putBack ls rp r) i = getS rp j
  | [], rp, r, i, _, _ => .inl ⟨rfl, rfl⟩
  | none :: ls, rp, r, i, nd, hi => by
    rcases putBack_get (ls := ls) (rp := rp.tail) (r := r) (i := i) (by simpa using nd) hi with ⟨h1, h2⟩ | ⟨j, h1, h2⟩
    · exact .inl ⟨by simpa [lentM] using h1, h2⟩
    · exact .inr ⟨j + 1, by simpa using h1, by rw [← getS_tail]; exact h2⟩
  | some i' :: ls, rp, r, i, nd, hi => by
    have nd' : i' ∉ ls.filterMap id ∧ (ls.filterMap id).Nodup := by simpa using nd
    rcases putBack_get (ls := ls) (rp := rp.tail) (r := r.set i' (getS rp 0)) (i := i) nd'.2 (by rw [List.length_set]; exact hi) with ⟨h1, h2⟩ | ⟨j, h1, h2⟩
    · by_cases e : i' = i
      · subst e
        exact .inr ⟨0, rfl, by show getS (putBack ls rp.tail (r.set i' (getS rp 0))) i' = _; rw [h2, getS_set_eq hi]⟩
      · refine .inl ⟨?_, by show getS (putBack ls rp.tail (r.set i' (getS rp 0))) i = _; rw [h2, getS_set_ne e]⟩
        unfold lentM at h1 ⊢
        rw [List.any_cons, h1]
        simp [e]
    · exact .inr ⟨j + 1, by simpa using h1, by rw [← getS_tail]; exact h2⟩
/-- the callee's owners -/
def coIn (ls : List (Option Nat)) (c : Co) : Co := fun a => match c a with
  | some i => ls.findIdx? fun l => l == some i
  | none => none
/-- .. back again -/
def coOut (ls : List (Option Nat)) (c cc : Co) : Co := fun a => match cc a with
  | some j => (ls[j]?).join
  | none => match c a with
    | some i => if lentM ls i = true then none else some i
    | none => none
theorem coIn_some {c : Co} {a : Addr} {j : Nat} (h : coIn ls c a = some j) : ∃ i, c a = some i ∧ ls[j]? = some (some i) ∧ lentM ls i = true := by
  unfold coIn at h
  split at h
  · rename_i i e
    obtain ⟨h1, h2, h3⟩ := List.findIdx?_eq_some_iff_getElem.mp h
    have h2 : ls[j] = some i := by simpa using h2
    refine ⟨i, e, by rw [List.getElem?_eq_getElem h1, h2], ?_⟩
    unfold lentM
    rw [List.any_eq_true]
    exact ⟨ls[j], List.getElem_mem h1, by simp [h2]⟩
  · cases h
theorem lent_at {i : Nat} (h : lentM ls i = true) : ∃ j : Nat, ls[j]? = some (some i) := by
  unfold lentM at h
  obtain ⟨l, h1, h2⟩ := List.any_eq_true.mp h
  have h2 : l = some i := by simpa using h2
  subst h2
  obtain ⟨j, hj, e⟩ := List.getElem_of_mem h1
  exact ⟨j, by rw [List.getElem?_eq_getElem hj, e]⟩
theorem coIn_lent {c : Co} {a : Addr} {i : Nat} (e : c a = some i) (h : lentM ls i = true) : ∃ j, coIn ls c a = some j := by
  unfold coIn
  rw [e]
  cases q : ls.findIdx? fun l => l == some i with
  | some j => exact ⟨j, q⟩
  | none =>
    obtain ⟨j, hj⟩ := lent_at h
    have := List.findIdx?_eq_none_iff.mp q (some i) (List.mem_of_getElem? hj)
    simp at this
theorem coIn_none {c : Co} {a : Addr} (h : ∀ i, c a = some i → lentM ls i = false) : coIn ls c a = none := by
  cases q : coIn ls c a with
  | none => rfl
  | some j =>
    obtain ⟨i, e, _, h2⟩ := coIn_some q
    rw [h i e] at h2; cases h2
theorem lent_of {i j : Nat} (h : ls[j]? = some (some i)) : lentM ls i = true := by
  unfold lentM
  rw [List.any_eq_true]
  exact ⟨some i, List.mem_of_getElem? h, by simp⟩
theorem coOut_some {c cc : Co} {a : Addr} {i : Nat} (h : coOut ls c cc a = some i) : (∃ j, cc a = some j ∧ ls[j]? = some (some i)) ∨ (cc a = none ∧ c a = some i ∧ lentM ls i = false) := by
  unfold coOut at h
  split at h
  · rename_i j e
    refine .inl ⟨j, e, ?_⟩
    cases q : ls[j]? with
    | none => rw [q] at h; cases h
    | some o => rw [q] at h; rw [show o = some i from h]
  · rename_i e
    split at h
    · rename_i i' e'
      split at h
      · cases h
      · rename_i n
        cases h
        refine .inr ⟨e, e', ?_⟩
        cases q : lentM ls i with
        | false => rfl
        | true => exact absurd q n
    · cases h
theorem findIdx_nodup : ∀ {ls : List (Option Nat)} {j i : Nat}, (ls.filterMap id).Nodup → ls[j]? = some (some i) → ls.findIdx? (fun l => l == some i) = some j
  | [], j, i, _, h => by simp at h
  | none :: ls, 0, i, _, h => by simp at h
  | none :: ls, j + 1, i, nd, h => by
    have := findIdx_nodup (ls := ls) (j := j) (i := i) (by simpa using nd) (by simpa using h)
    rw [List.findIdx?_cons, this]
    simp
  | some i' :: ls, 0, i, _, h => by
    have e : i' = i := by simpa using h
    subst e
    rw [List.findIdx?_cons]; simp
  | some i' :: ls, j + 1, i, nd, h => by
    have nd' : i' ∉ ls.filterMap id ∧ (ls.filterMap id).Nodup := by simpa using nd
    have h' : ls[j]? = some (some i) := by simpa using h
    have ne : i' ≠ i := fun e => nd'.1 (by
      subst e
      exact List.mem_filterMap.mpr ⟨some i', List.mem_of_getElem? h', rfl⟩)
    have := findIdx_nodup nd'.2 h'
    rw [List.findIdx?_cons, this]
    simp [ne]
/-- the callee's view -/
theorem Lies.enter {c : Co} (l : Lies K mg H0 H c σ ρ) (nd : (ls.filterMap id).Nodup) (am : AMr K mg H0 σ ls ds vs) : Lies K mg H0 H (coIn ls c) (vs.map some) (mkArgs ls ds ρ) := by
  refine ⟨l.sub, fun a j e => ?_, fun a j e => ?_, ?_, fun j m d e => ?_⟩
  · obtain ⟨i, e1, _⟩ := coIn_some e
    exact l.apart a i e1
  · obtain ⟨i, e1, _⟩ := coIn_some e
    exact l.there a i e1
  · obtain ⟨h1, h2⟩ := mkArgs_len (r := ρ) am
    rw [h1, List.length_map, h2]
  · rcases mkArgs_get am e with ⟨h1, v, h2, h3, h4⟩ | ⟨i, v, h1, h2, h3, h4⟩
    · have h3 : m = .z := h3
      subst h3
      exact ⟨v, [], by rw [List.getElem?_map, h2]; rfl, Ow.zero.mpr ⟨rfl, h4⟩, List.nodup_nil, by simp⟩
    · obtain ⟨v', fp, e1, ow, nd', hc⟩ := l.slot i m d h4
      rw [h3] at e1
      cases e1
      refine ⟨v, fp, by rw [List.getElem?_map, h2]; rfl, ow, nd', fun a ha => ?_⟩
      unfold coIn
      rw [hc a ha]
      exact findIdx_nodup nd h1
theorem Lies.leave {H0' H' : Hp} {c cc : Co} (l : Lies K mg H0 H c σ ρ) (nd : (ls.filterMap id).Nodup) (am : AMr K mg H0 σ ls ds vs) (s : Step msA H0 H (coIn ls c) H0' H' cc) (l' : Lies K mg H0' H' cc (vs.map some) rp) :
    Lies K mg H0' H' (coOut ls c cc) σ (putBack ls rp ρ) := by
  have keep : ∀ a i, c a = some i → lentM ls i = false → ∃ o, H a = some o ∧ H' a = some o ∧ cc a = none := fun a i e h => by
    obtain ⟨o, ho⟩ := l.there a i e
    have cn : coIn ls c a = none := coIn_none fun i' e' => by rw [e] at e'; cases e'; exact h
    refine ⟨o, ho, s.keep a o ho (fun j q => by rw [cn] at q; cases q), ?_⟩
    rw [s.col a o ho fun j q => by rw [cn] at q; cases q]
    exact cn
  refine ⟨l'.sub, fun a i e => ?_, fun a i e => ?_, by rw [putBack_len]; exact l.len, fun i m d e => ?_⟩
  · rcases coOut_some e with ⟨j, e1, e2⟩ | ⟨e1, e2, e3⟩
    · exact l'.apart a j e1
    · obtain ⟨o, h1, h2, h3⟩ := keep a i e2 e3
      cases q : H0' a with
      | none => rfl
      | some u =>
        rcases s.new0 a u q with ⟨w, z⟩ | z | ⟨j, z, _⟩
        · rw [l.apart a i e2] at z; cases z
        · rw [h1] at z; cases z
        · obtain ⟨i', z1, _, z2⟩ := coIn_some z
          rw [e2] at z1; cases z1
          rw [e3] at z2; cases z2
  · rcases coOut_some e with ⟨j, e1, e2⟩ | ⟨e1, e2, e3⟩
    · exact l'.there a j e1
    · obtain ⟨o, h1, h2, h3⟩ := keep a i e2 e3
      exact ⟨o, h2⟩
  · have hi : i < ρ.length := by
      rcases Nat.lt_or_ge i ρ.length with h | h
      · exact h
      · rw [getS, List.getD_eq_getElem?_getD, List.getElem?_eq_none (by rw [putBack_len]; exact h)] at e; cases e
    rcases putBack_get (rp := rp) nd hi with ⟨h1, h2⟩ | ⟨j, h1, h2⟩
    · rw [h2] at e
      obtain ⟨v, fp, e1, ow, nd', hc⟩ := l.slot i m d e
      refine ⟨v, fp, e1, Ow.mono s.grow d m v fp (fun a ha => ?_) ow, nd', fun a ha => ?_⟩
      · obtain ⟨o, q1, q2, q3⟩ := keep a i (hc a ha) h1
        rw [q1, q2]
      · obtain ⟨o, q1, q2, q3⟩ := keep a i (hc a ha) h1
        unfold coOut
        rw [q3, hc a ha]
        simp [h1]
    · rw [h2] at e
      obtain ⟨v, fp, e1, ow, nd', hc⟩ := l'.slot j m d e
      obtain ⟨v', q1, q2⟩ := am.get h1
      rw [List.getElem?_map, q1] at e1
      have e1 : v' = v := by simpa using e1
      subst e1
      refine ⟨v', fp, q2, ow, nd', fun a ha => ?_⟩
      unfold coOut
      rw [hc a ha]
      show (ls[j]?).join = some i
      rw [h1]; rfl
theorem Step.leave {H0' H' : Hp} {c cc : Co} (l : Lies K mg H0 H c σ ρ) (s : Step msA H0 H (coIn ls c) H0' H' cc) : Step (lentM ls) H0 H c H0' H' (coOut ls c cc) := by
  have cn : ∀ a, (∀ i, c a = some i → lentM ls i = false) → coIn ls c a = none := fun a h => coIn_none h
  refine ⟨fun a o e k => s.keep a o e (fun j q => by rw [cn a k] at q; cases q), fun a o e k => ?_, s.grow, fun a o e => ?_, fun a i e => ?_⟩
  · have q := s.col a o e fun j q => by rw [cn a k] at q; cases q
    rw [cn a k] at q
    unfold coOut
    rw [q]
    cases z : c a with
    | none => rfl
    | some i => simp [k i z]
  · rcases s.new0 a o e with z | z | ⟨j, z, _⟩
    · exact .inl z
    · exact .inr (.inl z)
    · obtain ⟨i, z1, _, z2⟩ := coIn_some z
      exact .inr (.inr ⟨i, z1, z2⟩)
  · rcases coOut_some e with ⟨j, e1, e2⟩ | ⟨e1, e2, e3⟩
    · rcases s.newc a j e1 with z | ⟨_, z | ⟨j', z, _⟩⟩
      · obtain ⟨i', z1, z2, z3⟩ := coIn_some z
        rw [e2] at z2
        cases z2
        exact .inl z1
      · exact .inr ⟨lent_of e2, .inl z⟩
      · obtain ⟨i', z1, _, z3⟩ := coIn_some z
        exact .inr ⟨lent_of e2, .inr ⟨i', z1, z3⟩⟩
    · exact .inl e2
theorem Fresh.leave {H0' H' : Hp} {c cc : Co} {fp : List Addr} (l : Lies K mg H0 H c σ ρ) (f : Fresh msA H (coIn ls c) H0' H' cc fp) : Fresh (lentM ls) H c H0' H' (coOut ls c cc) fp := by
  refine ⟨f.nd, fun a ha => ?_, f.n0, f.there, fun a ha => ?_⟩
  · unfold coOut
    rw [f.nc a ha]
    cases z : c a with
    | none => rfl
    | some i =>
      rcases f.new a ha with w | ⟨j, w, _⟩
      · obtain ⟨o, q⟩ := l.there a i z
        rw [w] at q; cases q
      · obtain ⟨i', z1, _, z3⟩ := coIn_some w
        rw [z] at z1; cases z1
        simp [z3]
  · rcases f.new a ha with w | ⟨j, w, _⟩
    · exact .inl w
    · obtain ⟨i', z1, _, z3⟩ := coIn_some w
      exact .inr ⟨i', z1, z3⟩
end
section
variable {G : GC} {N : List Str} {S : SC} {bs bs1 bs2 ms ms1 ms2 ms3 as as1 as2 : Ms} {m rm : Md} {k : Nat} {e a b : Expr} {es : List Expr} {fs : M (List D)} {pos p : Pos} {ls : List (Option Nat)} {F : M D} {f : Addr} {fd : FuncData} {ps : List Str} {x : Str}
/-- arguments, then the callee -/
theorem call_core {W : WX} {σ : L2.St} {H : Hp} {Q : VK} (nd : (ls.filterMap id).Nodup) (hl : ls.length = ps.length) (h : tR G.K G.mg W (FO G.K G.mg rm (msU ms (lentM ls))) (msU ms (lentM ls)) (fCall F ls fs) σ H Q) :
    tAM G.K G.mg W ls ms fs σ H fun vs H1 => spV G F ps.length rm vs H1 Q (WE W σ) := by
  obtain ⟨ρ, H0, c, l, o⟩ := h
  refine ⟨ρ, H0, c, l, (Out.bind (G := FAM G.K G.mg σ ls) (ms1 := ms) back_FO o fun i e => or_l e).imp fun vs H1 ⟨ds, H01, c1, ρ1, e1, s1, l1, am, o1⟩ => ?_⟩
  obtain ⟨_, hv⟩ := mkArgs_len (r := ρ1) am
  refine ⟨hv.trans hl, mkArgs ls ds ρ1, H01, coIn ls c1, l1.enter nd am, ?_⟩
  cases hF : F (mkArgs ls ds ρ1) with
  | ok d rp =>
    rw [hF] at o1
    intro v H0' H' cc s l' ⟨fp, ow, fr⟩
    exact o1 v H0' H' (coOut ls c1 cc) ((Step.leave l1 s).mono fun i e => or_r e) (l1.leave nd am s l') ⟨fp, ow, (Fresh.leave l1 fr).mono fun i e => or_r e⟩
  | exc n ns vs rp =>
    rw [hF] at o1
    intro cls dx H0' H' cc s l' ex
    exact o1 cls dx H0' H' (coOut ls c1 cc) ((Step.leave l1 s).mono fun i e => or_r e) (l1.leave nd am s l') ex
  | bad => rw [hF] at o1; exact o1
theorem VO.call (hF : FnV G k f fd ps rm F) (hm : G.mg x = some (.ref f)) (hk : PySem.W.keepIn G.K (.ref f) = true) (hb : Binds G.K fd ps []) (ha : VM G N S ls ms (e :: es) fs) (hk' : k ≤ S.k := by decide) (hc : S.cm = true := by rfl) (nd : (ls.filterMap id).Nodup := by decide) (hl : ls.length = ps.length := by rfl) (hg : Glb S x := by rfl)
    (hdb : (x == ("__debug__" : Str)) = false := by decide) (he : ∀ env, starEach (e :: es) env = (false, eval e env) :: starEach es env := by intro _; rfl) (hpl : ∀ env, (backTo pos (starEach es env)).any (·.1) = false := by intro _; rfl) :
    VO G N S rm (msU ms (lentM ls)) (.Call (.Name x p) (e :: es) [] pos) (fCall F ls fs) := by
  refine fun R a W t => (pe_callS hF ((a.room hc).mono hk') (a.gl hg) hm hk hb (fun σ => passAt t σ) (ha R a W t) hdb (he _) (hpl _)).imp fun σ H Q h => ?_
  exact call_core nd hl h
end
end Vm
set_option Elab.async false
set_option linter.all false
set_option maxRecDepth 100000
set_option maxHeartbeats 4000000
namespace Vm
open PySem PySem.Spec PyProof.Rows L2

/-! ### list comprehensions -/
def wipeE : List Nat → En → En
  | [], r => r
  | i :: is, r => (wipeE is r).set i none
def restE (r0 : En) : List Nat → En → En
  | [], r => r
  | i :: is, r => (restE r0 is r).set i (match getS r0 i with
    | some (.z, d) => some (.z, d)
    | _ => none)
theorem wipeE_len (r : En) : ∀ vs : List Nat, (wipeE vs r).length = r.length
  | [] => rfl
  | v :: vs => by unfold wipeE; rw [List.length_set, wipeE_len r vs]
theorem restE_len (r0 r : En) : ∀ vs : List Nat, (restE r0 vs r).length = r.length
  | [] => rfl
  | v :: vs => by unfold restE; rw [List.length_set, restE_len r0 r vs]
theorem getS_set_out {r : En} {i : Nat} {s : Sl} (h : ¬ i < r.length) : getS (r.set i s) i = none := by
  simp [getS, List.getD_eq_getElem?_getD, h]
theorem wipeE_some {r : En} {i : Nat} {s : Md × D} : ∀ {vs : List Nat}, getS (wipeE vs r) i = some s → getS r i = some s ∧ i ∉ vs
  | [], h => ⟨h, by simp⟩
  | v :: vs, h => by
    unfold wipeE at h
    by_cases e : v = i
    · subst e
      by_cases hv : v < (wipeE vs r).length
      · rw [getS_set_eq hv] at h; cases h
      · rw [getS_set_out hv] at h; cases h
    · rw [getS_set_ne e] at h
      obtain ⟨h1, h2⟩ := wipeE_some h
      exact ⟨h1, by simp only [List.mem_cons, not_or]; exact ⟨fun z => e z.symm, h2⟩⟩
theorem restE_some {r0 r : En} {i : Nat} {s : Md × D} : ∀ {vs : List Nat}, getS (restE r0 vs r) i = some s → (getS r0 i = some s ∧ s.1 = .z) ∨ (getS r i = some s ∧ i ∉ vs)
  | [], h => .inr ⟨h, by simp⟩
  | v :: vs, h => by
    unfold restE at h
    by_cases e : v = i
    · subst e
      by_cases hv : v < (restE r0 vs r).length
      · rw [getS_set_eq hv] at h
        split at h
        · rename_i d q
          cases h
          exact .inl ⟨q, rfl⟩
        · cases h
      · rw [getS_set_out hv] at h; cases h
    · rw [getS_set_ne e] at h
      rcases restE_some h with h | ⟨h1, h2⟩
      · exact .inl h
      · exact .inr ⟨h1, by simp only [List.mem_cons, not_or]; exact ⟨fun z => e z.symm, h2⟩⟩
section
variable {K : PySem.W.Frag} {mg : Str → Option Value} {H0 H H0' H' : Hp} {c c' : Co} {σ σ' : L2.St} {ρ ρ' : En} {own : List Nat} {ms : Ms}
theorem Lies.wipe (l : Lies K mg H0 H c σ ρ) (own : List Nat) : Lies K mg H0 H c (L2.wipe σ own) (wipeE own ρ) := by
  refine ⟨l.sub, l.apart, l.there, by rw [wipeE_len, wipe_length]; exact l.len, fun i m d e => ?_⟩
  obtain ⟨e1, e2⟩ := wipeE_some e
  obtain ⟨v, fp, q, r⟩ := l.slot i m d e1
  exact ⟨v, fp, by rw [wipe_out e2]; exact q, r⟩
theorem Lies.rest (l : Lies K mg H0 H c σ ρ) (l' : Lies K mg H0' H' c' σ' ρ') (s : Same H0 H0') (hl : σ'.length = σ.length) (hw : ∀ i, i ∉ own → ∀ v, σ'[i]? = some (some v) → σ[i]? = some (some v)) : Lies K mg H0' H' c' σ (restE ρ own ρ') := by
  refine ⟨l'.sub, l'.apart, l'.there, by rw [restE_len, l'.len, hl], fun i m d e => ?_⟩
  rcases restE_some e with ⟨e1, e2⟩ | ⟨e1, e2⟩
  · have e2 : m = .z := e2
    subst e2
    obtain ⟨v, fp, q, o, nd, hc⟩ := l.slot i .z d e1
    exact ⟨v, [], q, Ow.zero.mpr ⟨rfl, Fz.mono s d v (Ow.zero.mp o).2⟩, List.nodup_nil, by simp⟩
  · obtain ⟨v, fp, q, r⟩ := l'.slot i m d e1
    exact ⟨v, fp, hw i e2 v q, r⟩
/-- an object of no one's is changed -/
theorem Lies.other {a : Addr} {o : HO} (l : Lies K mg H0 H c σ ρ) (hc : c a = none) (h0 : H0 a = none) : Lies K mg H0 (upd H a o) c σ ρ := by
  have hne : ∀ b i, c b = some i → b ≠ a := fun b i e z => by rw [z, hc] at e; cases e
  refine ⟨fun b u e => by rw [upd_ne (fun z => by rw [z, h0] at e; cases e)]; exact l.sub b u e, l.apart, fun b i e => ?_, l.len, fun i m d e => ?_⟩
  · obtain ⟨u, q⟩ := l.there b i e
    exact ⟨u, by rw [upd_ne (hne b i e)]; exact q⟩
  · obtain ⟨v, fp, e1, ow, nd, hq⟩ := l.slot i m d e
    exact ⟨v, fp, e1, Ow.mono (Same.refl _) d m v fp (fun b hb => upd_ne (hne b i (hq b hb))) ow, nd, hq⟩
theorem Step.other {a : Addr} {o : HO} (s : Step ms H0 H c H0' H' c') (hn : H a = none) : Step ms H0 H c H0' (upd H' a o) c' :=
  ⟨fun b u e k => by rw [upd_ne (ne_of_none e hn)]; exact s.keep b u e k, s.col, s.grow, s.new0, s.newc⟩
theorem Ows.snoc {H0 H : Hp} {m : Md} {d : D} {v : V} {f : List Addr} : ∀ {ds : List D} {vs : List V} {g : List Addr}, Ows K mg H0 H ds (.all m) vs g → Ow K mg H0 H d m v f → Ows K mg H0 H (ds ++ [d]) (.all m) (vs ++ [v]) (g ++ f)
  | [], vs, g, ⟨e1, e2⟩, h => by
    subst e1 e2
    exact ⟨v, [], f, [], rfl, by simp, h, rfl, rfl⟩
  | x :: ds, _, _, ⟨w, r, f1, g1, e1, e2, h1, h2⟩, h => by
    subst e1 e2
    exact ⟨w, r ++ [v], f1, g1 ++ f, rfl, by rw [List.append_assoc], h1, Ows.snoc h2 h⟩
end
def noX {α : Type} : Res α → Res α
  | .ok a r => .ok a r
  | .exc _ _ _ _ => .bad
  | .bad => .bad
@[simp] theorem noX_ok {α : Type} (a : α) (r : En) : noX (.ok a r) = .ok a r := rfl
@[simp] theorem noX_exc {α : Type} (c : Str) (ns : List Str) (vs : List D) (r : En) : (noX (.exc c ns vs r) : Res α) = .bad := rfl
@[simp] theorem noX_bad {α : Type} : (noX .bad : Res α) = .bad := rfl
/-- no exception comes out -/
abbrev WNo : WX := fun _ _ _ _ => False
theorem Out.noX {α β : Type} {K : PySem.W.Frag} {mg : Str → Option Value} {W : WX} {F : Fam α β} {ms : Ms} {H0 H : Hp} {c : Co} {σ : L2.St} {x : Res α} {Q : β → Hp → Prop} (h : Out K mg W F ms H0 H c σ (noX x) Q) : Out K mg WNo F ms H0 H c σ x Q := by
  cases x with
  | ok d r => exact h
  | exc n ns vs r => exact h.elim
  | bad => exact h.elim
/-- the turns: what is gathered -/
def lcT (own : List Nat) (fe : M D) (k : M (List D)) : D → M (List D) := fun b r => match b with
  | .bl true => (noX (fe r)).bind fun y r => (k (wipeE own r)).bind fun ys r => .ok (y :: ys) r
  | .bl false => k (wipeE own r)
  | _ => .bad
def gLc (own : List Nat) (gt : D → M Fl) (ft fe : M D) : List D → M (List D)
  | [] => fun r => .ok [] r
  | d :: ds => fun r => (noX (gt d r)).bind fun _ r => (noX (ft r)).bind (lcT own fe (gLc own gt ft fe ds))
def fLc (own : List Nat) (fi : M (List D)) (gt : D → M Fl) (ft fe : M D) : M D := fun r => (fi r).bind fun ds r => (gLc own gt ft fe ds (wipeE own r)).bind fun ys r' => .ok (.lst ys) (restE r own r')
/-- tests of a clause -/
abbrev VTs (G : GC) (N : List Str) (S : SC) (ms : Ms) (es : List Expr) (f : M D) : Prop := VE G N S (fun X t => PTs X es t) FT ms f
theorem PTs.imp {X : Cx} {e : List Expr} {t t' : TT} (h : PTs X e t) (q : ∀ σ H Q, t' σ H Q → t σ H Q) : PTs X e t' := ⟨fun pins s σ H Q I w => h.run pins s σ H Q I (q σ H Q w)⟩
def ftY : M D := fun r => .ok (.bl true) r
@[simp] theorem ftY_def (r : En) : ftY r = .ok (.bl true) r := rfl
section
variable {G : GC} {N : List Str} {S : SC} {bs bs1 bs2 ms ms1 ms2 ms3 as as1 as2 : Ms} {m me rm : Md} {k : Kd} {e a b : Expr} {es : List Expr} {f fa fb : M D} {fs : M (List D)} {pos : Pos}
theorem VTs.nil : VTs G N S ms0 [] ftY := fun R a W t => PTs.imp pts_nil fun σ H Q ⟨ρ, H0, c, l, o⟩ => o true H0 H c .refl l rfl
theorem VTs.one (h : VT G N S ms e f) : VTs G N S ms [e] f := fun R a W t => pts_one (h R a W t)
abbrev blkS (S : SC) (scope : Scope) : SC := ⟨relS scope S.sc, fun x => scope.names.lookup x == some .cell, S.k, S.cm⟩
theorem takes_no {X : Cx} : Takes X WNo := fun u s' ⟨a, B, sI, pins, σ, H, cls, d, e, I, nb, up, sky, na, os, ag, w⟩ => w.elim
theorem At.blk {R : Rs} (a : At S N (mkX G N R)) (scope : Scope) (s : Shared) (H : Hp) (C : Addr) (cl : List (Str × Addr)) (fp : List Addr) :
    ∃ R', (mkX G N R).blk s H scope (compEnvC scope cl C (mkX G N R).env) fp = mkX G N R' ∧ At (blkS S scope) N (mkX G N R') := by
  refine ⟨{ R with s_0 := s, H_0 := H, env := compEnvC scope cl C R.env, outer := R.stack, ex := fp, fn := fun x => scope.names.lookup x == some .cell, pn := [], xe := fun _ _ => False }, rfl, ?_, rfl, a.nd, a.calm, a.room, PassesOwn.never⟩
  show relS scope R.env.scope = relS scope S.sc
  rw [show R.env.scope = S.sc from a.sc]
theorem wipe_agr {as : Ms} {σ σ2 : L2.St} {own : List Nat} (h : Agr as (L2.wipe σ own) σ2) (ho : ∀ i, as i = true → i ∈ own) : L2.wipe σ2 own = L2.wipe σ own := by
  apply List.ext_getElem?
  intro i
  have hl : (L2.wipe σ2 own).length = (L2.wipe σ own).length := by rw [wipe_length, h.1]
  by_cases hi : i ∈ own
  · have key : ∀ (σ : L2.St) (i : Nat), i ∈ own → i < σ.length → (L2.wipe σ own)[i]? = some none := by
      intro σ
      clear h ho hl hi
      induction own with
      | nil => exact fun i hi _ => by cases hi
      | cons v vs ih =>
        intro i hi hlt
        unfold L2.wipe
        by_cases e : v = i
        · subst e; rw [List.getElem?_set_self (by rw [wipe_length]; exact hlt)]
        · rw [List.getElem?_set_ne e]
          exact ih i ((List.mem_cons.mp hi).resolve_left fun z => e z.symm) hlt
    have l2 : σ2.length = σ.length := by rw [h.1, wipe_length]
    by_cases hlt : i < σ.length
    · rw [key σ2 i hi (by rw [l2]; exact hlt), key σ i hi hlt]
    · rw [List.getElem?_eq_none (by rw [wipe_length, l2]; omega), List.getElem?_eq_none (by rw [wipe_length]; omega)]
  · rw [wipe_out hi]
    exact h.2 i (by
      cases q : as i with
      | false => rfl
      | true => exact absurd (ho i q) hi)
/-- what holds between the turns -/
structure LcF (K : PySem.W.Frag) (mg : Str → Option Value) (me : Md) (L : Ms) (P : Hp → Co → Prop) (H01 H1 : Hp) (c1 : Co) (B : Addr) (done : List D) (acc : List V) (g : List Addr) (H0 H : Hp) (c : Co) : Prop where
  st : Step L H01 H1 c1 H0 H c
  hD : H B = some (.lst acc)
  cD : c B = none
  D0 : H0 B = none
  ow : Ows K mg H0 H done (.all me) acc g
  fr : Fresh L H1 c1 H0 H c g
  dg : B ∉ g
  pH : P H c
theorem LcF.adv {K : PySem.W.Frag} {mg : Str → Option Value} {L msx : Ms} {P : Hp → Co → Prop} {H01 H1 H0 H H0' H' : Hp} {c1 c c' : Co} {B : Addr} {done : List D} {acc : List V} {g : List Addr} (f : LcF K mg me L P H01 H1 c1 B done acc g H0 H c)
    (s : Step msx H0 H c H0' H' c') (h : ∀ i, msx i = true → L i = true) (dj : Dj bs msx) (sP : Stays bs P) : LcF K mg me L P H01 H1 c1 B done acc g H0' H' c' := by
  have cc : ∀ i, c B = some i → msx i = false := fun i e => by rw [f.cD] at e; cases e
  obtain ⟨f2, hk⟩ := f.fr.on s
  refine ⟨f.st.trans (s.mono h), s.keep B _ f.hD cc, (s.col B _ f.hD cc).trans f.cD, ?_, Ows.mono s.grow done _ acc g hk f.ow, f2, f.dg, sP.run _ _ _ _ _ _ _ dj f.pH s⟩
  cases e : H0' B with
  | none => rfl
  | some u =>
    rcases s.new0 B u e with ⟨w, z⟩ | z | ⟨i, z, _⟩
    · rw [f.D0] at z; cases z
    · rw [f.hD] at z; cases z
    · rw [f.cD] at z; cases z
theorem Fresh.other {ms : Ms} {H H0' H' : Hp} {c c' : Co} {fp : List Addr} {a : Addr} {o : HO} (f : Fresh ms H c H0' H' c' fp) : Fresh ms H c H0' (upd H' a o) c' fp :=
  ⟨f.nd, f.nc, f.n0, fun b hb => by
    by_cases e : b = a
    · rw [e]; exact ⟨o, upd_same⟩
    · rw [upd_ne e]; exact f.there b hb, f.new⟩
theorem VO.lc {tg iter : Expr} {ifs : List Expr} {scope : Scope} {fi : M (List D)} {gt : D → M Fl} {ft fe : M D} (own : List (Str × Nat)) (hi : VI G N S bs ms1 tg iter fi) (hg : VG G N (blkS S scope) as tg gt) (ht : VTs G N (blkS S scope) ms2 ifs ft) (he : VO G N (blkS S scope) me ms3 e fe)
    (dj : Dj bs (msU as (msU ms2 ms3)) := by intro i h; first | rfl | (cases h)) (hc : S.cm = true := by rfl) (hb : blkC N S.sc scope own = true := by decide +kernel) (ho : ∀ i, as i = true → i ∈ own.map (·.2) := by intro i h; simpa using h) (hs : ∀ env x, foldedSetIterable iter env x = pure x := by intro _ _; rfl) :
    VO G N S (.o (.all me)) (msU ms1 (msU as (msU ms2 ms3))) (.ListComp e [⟨tg, iter, ifs, 0⟩] scope pos) (fLc (own.map (·.2)) fi gt ft fe) := by
  refine fun R a W t => ?_
  have ok : BlkOk (mkX G N R).N (mkX G N R).env.scope scope own := by
    rw [show (mkX G N R).env.scope = S.sc from a.sc]
    exact blkOk_by hb
  refine (pe_lc (own := own) (a.calm.trans hc) a.nd (hi R a W t) ok (g := tG G.K G.mg as gt) (tt := tR G.K G.mg WNo FT ms2 ft) (te := tR G.K G.mg WNo (FO G.K G.mg me ms3) ms3 fe)
    (fun s H C cl fp => ?_) (fun s H C cl fp => ?_) (fun s H C cl fp => ?_) (hs _)).imp fun σ H Q ⟨ρ, H0, c, l, o⟩ => ?_
  · obtain ⟨R', e1, a'⟩ := a.blk scope s H C cl fp
    rw [e1]; exact hg R' a'
  · obtain ⟨R', e1, a'⟩ := a.blk scope s H C cl fp
    rw [e1]; exact ht R' a' _ takes_no
  · obtain ⟨R', e1, a'⟩ := a.blk scope s H C cl fp
    rw [e1]; exact he R' a' _ takes_no
  generalize hO : own.map (·.2) = ow at ho o ⊢
  generalize hL : msU ms1 (msU as (msU ms2 ms3)) = L at o
  have iL1 : ∀ i, ms1 i = true → L i = true := fun i e => by rw [← hL]; exact or_l e
  have iLa : ∀ i, as i = true → L i = true := fun i e => by rw [← hL]; exact or_r (or_l e)
  have iL2 : ∀ i, ms2 i = true → L i = true := fun i e => by rw [← hL]; exact or_r (or_r (or_l e))
  have iL3 : ∀ i, ms3 i = true → L i = true := fun i e => by rw [← hL]; exact or_r (or_r (or_r e))
  have dja : Dj bs as := fun i h => (Bool.or_eq_false_iff.mp (dj i h)).1
  have dj2 : Dj bs ms2 := fun i h => (Bool.or_eq_false_iff.mp (Bool.or_eq_false_iff.mp (dj i h)).2).1
  have dj3 : Dj bs ms3 := fun i h => (Bool.or_eq_false_iff.mp (Bool.or_eq_false_iff.mp (dj i h)).2).2
  have dj0 : Dj bs ms0 := fun i h => rfl
  refine ⟨ρ, H0, c, l, (Out.bind (G := FI G.K G.mg bs) (ms1 := ms1) back_FO o iL1).imp fun J H1 ⟨ds, H01, c1, ρ1, e1, s1, l1, ⟨hlen, P, p1, sP, hJ⟩, o1⟩ B hD => ?_⟩
  have f0 : LcF G.K G.mg me L P H01 H1 c1 B [] [] [] H01 (upd H1 B (.lst [])) c1 := ⟨.new hD, upd_same, l1.nc hD, l1.n0 hD, ⟨rfl, rfl⟩, .nil, by simp, sP.run ms0 H01 H1 c1 H01 _ c1 dj0 p1 (.new hD)⟩
  refine ⟨fun i n H => n = ds.length - i ∧ i ≤ ds.length ∧ ∃ ρ H0 c acc g done, Lies G.K G.mg H0 H c (L2.wipe σ ow) ρ ∧ LcF G.K G.mg me L P H01 H1 c1 B done acc g H0 H c ∧ done.length ≤ i ∧
      Out G.K G.mg W (FO G.K G.mg (.o (.all me)) L) L H01 H1 c1 σ ((gLc ow gt ft fe (ds.drop i) ρ).bind fun ys r => .ok (.lst (done ++ ys)) (restE ρ1 ow r)) Q,
    ⟨ds.length, rfl, Nat.zero_le _, wipeE ow ρ1, H01, c1, [], [], [], (l1.upd_new hD).wipe ow, f0, Nat.zero_le _, o1⟩, ?_⟩
  rintro i n H ⟨em, hi, ρ, H0, c, acc, g, done, l, F, dl, o⟩
  obtain ⟨hgo, hst⟩ := hJ H0 H c F.st.grow l.sub F.pH
  by_cases hlt : i < ds.length
  · have ed : ds.drop i = ds[i] :: ds.drop (i + 1) := List.drop_eq_getElem_cons hlt
    rw [ed] at o
    unfold gLc at o
    obtain ⟨go, step⟩ := hgo i ds[i] (List.getElem?_eq_getElem hlt)
    refine .inr ⟨go, fun H => ∃ ρ H0 c acc g done, Lies G.K G.mg H0 H c (L2.wipe σ ow) ρ ∧ LcF G.K G.mg me L P H01 H1 c1 B done acc g H0 H c ∧ done.length ≤ i + 1 ∧
      Out G.K G.mg W (FO G.K G.mg (.o (.all me)) L) L H01 H1 c1 σ ((gLc ow gt ft fe (ds.drop (i + 1)) ρ).bind fun ys r => .ok (.lst (done ++ ys)) (restE ρ1 ow r)) Q, fun H' h => ⟨ds.length - (i + 1), by omega, rfl, hlt, h⟩, fun x H' hy => ?_⟩
    obtain ⟨H0', k1, k2, k3, k4, fz⟩ := step x H' hy
    have l' := l.grow k1 k2 k3 k4
    have gr : Step ms0 H0 H c H0' H' c := Step.growth k1 k2 k4
    have F' := F.adv gr (fun i e => by cases e) dj0 sP
    refine ⟨WNo, { nx := fun σ2 H2 => ∃ ρ2 H02 c2, Lies G.K G.mg H02 H2 c2 σ2 ρ2 ∧ LcF G.K G.mg me L P H01 H1 c1 B done acc g H02 H2 c2 ∧ Agr as (L2.wipe σ ow) σ2 ∧  Out G.K G.mg W (FO G.K G.mg (.o (.all me)) L) L H01 H1 c1 σ (((Vm.noX (ft ρ2)).bind (lcT ow fe (gLc ow gt ft fe (ds.drop (i + 1))))).bind fun ys r => .ok (.lst (done ++ ys)) (restE ρ1 ow r)) Q, bk := fun _ _ => True, ct := fun _ _ => True, rt := fun _ _ => True }, .z, ρ, H0', c, ds[i], l', fz, ?_, ?_⟩
    · cases hh : gt ds[i] ρ with
      | ok fl r =>
        rw [hh, noX_ok, bind_ok] at o
        cases fl with
        | nx => exact fun σ2 H02 H2 c2 t l2 a2 => ⟨r, H02, c2, l2, F'.adv t iLa dja sP, a2, o⟩
        | bk => exact fun _ _ _ _ _ _ _ => trivial
        | ct => exact fun _ _ _ _ _ _ _ => trivial
        | rt d => exact fun _ _ _ _ _ _ _ _ _ => trivial
      | exc n ns vs r => rw [hh, noX_exc, bind_bad, bind_bad] at o; exact o.elim
      | bad => rw [hh, noX_bad, bind_bad, bind_bad] at o; exact o.elim
    · rintro σ2 H2 ⟨ρ2, H02, c2, l2, F2, a2, o2⟩
      have hw := wipe_agr a2 ho
      refine ⟨hw, ρ2, H02, c2, l2, ?_⟩
      cases hh : ft ρ2 with
      | exc n ns vs r => rw [hh, noX_exc, bind_bad, bind_bad] at o2; exact o2.elim
      | bad => rw [hh, noX_bad, bind_bad, bind_bad] at o2; exact o2.elim
      | ok d r =>
        rw [hh, noX_ok, bind_ok] at o2
        intro b H03 H3 c3 s3 l3 z
        have z : d = .bl b := z
        subst z
        have F3 := F2.adv s3 iL2 dj2 sP
        cases b with
        | false =>
          rw [if_neg Bool.false_ne_true]
          exact ⟨wipeE ow r, H03, c3, acc, g, done, by rw [← hw]; exact l3.wipe ow, F3, Nat.le_succ_of_le dl, o2⟩
        | true =>
          rw [if_pos rfl]
          refine ⟨r, H03, c3, l3, ?_⟩
          have o3 : Out G.K G.mg W (FO G.K G.mg (.o (.all me)) L) L H01 H1 c1 σ (((Vm.noX (fe r)).bind fun y r => (gLc ow gt ft fe (ds.drop (i + 1)) (wipeE ow r)).bind fun ys r => .ok (y :: ys) r).bind fun ys r => .ok (.lst (done ++ ys)) (restE ρ1 ow r)) Q := o2
          cases hh : fe r with
          | exc n ns vs r => rw [hh, noX_exc, bind_bad, bind_bad] at o3; exact o3.elim
          | bad => rw [hh, noX_bad, bind_bad, bind_bad] at o3; exact o3.elim
          | ok y r2 =>
            rw [hh, noX_ok, bind_ok] at o3
            intro v H04 H4 c4 s4 l4 ⟨fp, oy, fy⟩
            have F4 := F3.adv s4 iL3 dj3 sP
            have dfp : B ∉ fp := fun z => by
              rcases fy.new B z with w | ⟨j, w, _⟩
              · rw [F3.hD] at w; cases w
              · rw [F3.cD] at w; cases w
            refine ⟨acc, F4.hD, ?_, wipeE ow r2, H04, c4, acc ++ [v], g ++ fp, done ++ [y], ?_, ?_, ?_, ?_⟩
            · rw [F4.ow.length, sizeLine_eq]
              have : ds.length ≤ 16777216 := hlen
              omega
            · rw [← hw]; exact (l4.other F4.cD F4.D0).wipe ow
            · refine ⟨F4.st.other hD, upd_same, F4.cD, F4.D0, Ows.snoc (Ows.mono (Same.refl _) done _ acc g (fun b hb => upd_ne fun e => F4.dg (e ▸ hb)) F4.ow) (Ow.mono (Same.refl _) y me v fp (fun b hb => upd_ne fun e => dfp (e ▸ hb)) oy), ?_, ?_, ?_⟩
              · exact Fresh.other (Fresh.app F4.fr F3.fr.there F3.fr.nc fy (fun _ e => e) iL3 F3.st)
              · exact fun h => (List.mem_append.mp h).elim F4.dg dfp
              · exact sP.oth _ _ _ _ F4.cD F4.pH
            · rw [List.length_append]; exact Nat.succ_le_succ dl
            · cases hq : gLc ow gt ft fe (ds.drop (i + 1)) (wipeE ow r2) with
              | ok ys r3 =>
                rw [hq, bind_ok, bind_ok] at o3
                rw [bind_ok, List.append_assoc]
                exact o3
              | exc n ns vs r3 => rw [hq] at o3; exact o3
              | bad => rw [hq] at o3; exact o3
  · have e : i = ds.length := by omega
    subst e
    rw [List.drop_length] at o
    refine .inl ⟨hst, ?_⟩
    have o' : Out G.K G.mg W (FO G.K G.mg (.o (.all me)) L) L H01 H1 c1 σ (.ok (.lst (done ++ [])) (restE ρ1 ow ρ)) Q := o
    rw [List.append_nil] at o'
    refine o' (.ref B) H0 H c F.st (l1.rest l F.st.grow (wipe_length _ _) fun i hi v e => (wipe_some e).1) ⟨B :: g, ⟨B, acc, g, rfl, F.hD, rfl, F.ow⟩, ?_⟩
    refine ⟨List.nodup_cons.mpr ⟨F.dg, F.fr.nd⟩, ?_, ?_, ?_, ?_⟩ <;> intro b hb <;> rcases List.mem_cons.mp hb with z | hb
    · rw [z]; exact F.cD
    · exact F.fr.nc b hb
    · rw [z]; exact F.D0
    · exact F.fr.n0 b hb
    · rw [z]; exact ⟨_, F.hD⟩
    · exact F.fr.there b hb
    · rw [z]; exact .inl hD
    · exact F.fr.new b hb
end
end Vm
set_option Elab.async false
set_option linter.all false
set_option maxRecDepth 100000
set_option maxHeartbeats 4000000
namespace Vm
open PySem PySem.Spec PyProof.Rows L2

/-! ### more that is walked -/
def rngD (lo : Int) : Nat → List D
  | 0 => []
  | n + 1 => .int lo :: rngD (lo + 1) n
theorem rngD_len : ∀ (n : Nat) (lo : Int), (rngD lo n).length = n
  | 0, _ => rfl
  | n + 1, lo => by simp [rngD, rngD_len n]
theorem rngD_get : ∀ (n : Nat) (lo : Int) (i : Nat) (d : D), (rngD lo n)[i]? = some d → i < n ∧ d = .int (lo + i)
  | 0, _, _, _, h => by simp [rngD] at h
  | n + 1, lo, 0, d, h => by
    simp [rngD] at h
    exact ⟨Nat.succ_pos _, by rw [← h]; simp⟩
  | n + 1, lo, i + 1, d, h => by
    obtain ⟨h1, h2⟩ := rngD_get n (lo + 1) i d (by simpa [rngD] using h)
    refine ⟨Nat.succ_lt_succ h1, ?_⟩
    rw [h2]
    congr 1
    push_cast
    omega
def enumD : Int → List D → List D
  | _, [] => []
  | k, d :: ds => .tup [.int k, d] :: enumD (k + 1) ds
theorem enumD_len : ∀ (ds : List D) (k : Int), (enumD k ds).length = ds.length
  | [], _ => rfl
  | d :: ds, k => by simp [enumD, enumD_len ds]
theorem enumD_get : ∀ (ds : List D) (k : Int) (i : Nat) (e : D), (enumD k ds)[i]? = some e → ∃ d, ds[i]? = some d ∧ e = .tup [.int (k + i), d]
  | [], _, _, _, h => by simp [enumD] at h
  | d :: ds, k, 0, e, h => by
    simp [enumD] at h
    exact ⟨d, rfl, by rw [← h]; simp⟩
  | d :: ds, k, i + 1, e, h => by
    obtain ⟨d', h1, h2⟩ := enumD_get ds (k + 1) i e (by simpa [enumD] using h)
    refine ⟨d', by simpa using h1, ?_⟩
    rw [h2]
    congr 3
    push_cast
    omega
def zipD : List D → List D → List D
  | x :: xs, y :: ys => .tup [x, y] :: zipD xs ys
  | _, _ => []
theorem zipD_len : ∀ (xs ys : List D), (zipD xs ys).length = min xs.length ys.length
  | [], ys => by simp [zipD]
  | x :: xs, [] => by simp [zipD]
  | x :: xs, y :: ys => by simp [zipD, zipD_len xs ys]
theorem zipD_get : ∀ (xs ys : List D) (i : Nat) (e : D), (zipD xs ys)[i]? = some e → ∃ x y, xs[i]? = some x ∧ ys[i]? = some y ∧ e = .tup [x, y]
  | [], _, _, _, h => by simp [zipD] at h
  | x :: xs, [], _, _, h => by simp [zipD] at h
  | x :: xs, y :: ys, 0, e, h => by
    simp [zipD] at h
    exact ⟨x, y, rfl, rfl, h.symm⟩
  | x :: xs, y :: ys, i + 1, e, h => by simpa using zipD_get xs ys i e (by simpa [zipD] using h)
section
variable {G : GC} {N : List Str} {S : SC} {bs bs1 bs2 ms ms1 ms2 ms3 as : Ms} {m : Md} {k : Kd} {e a b : Expr} {es : List Expr} {f fa fb : M D} {fs : M (List D)} {pos : Pos} {tg : Expr}
theorem ItOk.rng {K : PySem.W.Frag} {mg : Str → Option Value} {H0 : Hp} {lo : Int} {n : Nat} {P : Hp → Co → Prop} : ItOk K mg (Itr lo n) H0 (rngD lo n) P := fun H0' H c s1 s2 p => by
  refine ⟨fun i d e => ?_, by rw [rngD_len]; exact Nat.le_refl _⟩
  obtain ⟨h1, h2⟩ := rngD_get n lo i d e
  refine ⟨h1, fun x H' ⟨e3, e4⟩ => ?_⟩
  subst e3 e4 h2
  exact ⟨H0', Same.refl _, Same.refl _, s2, fun a o q => .inl ⟨o, q⟩, rfl⟩
def iRng (f : M D) : M (List D) := fun r => (f r).bind fun d r => match d with
  | .int j => if j ≤ 16777216 ∧ -4611686018427387904 ≤ j then .ok (rngD 0 j.toNat) r else .bad
  | _ => .bad
theorem VI.rng {p : Pos} (h : VO G N S .z ms e f) (hm : G.mg "range" = none) (hg : Glb S "range" := by rfl) (hs : ∀ env, starEach [e] env = [(false, eval e env)] := by intro _; rfl) : VI G N S bs ms tg (.Call (.Name "range" p) [e] [] pos) (iRng f) := by
  refine fun R a W t => PI.imp (pi_range1 (a.gl hg) hm (pa_cons (h R a W t) pa_nil (hs _)) (hs _)) fun σ H Q ⟨ρ, H0, c, l, o⟩ => ?_
  refine ⟨ρ, H0, c, l, (Out.bind (G := FO G.K G.mg .z ms) (ms1 := ms) back_FI o fun i e => e).imp fun x H1 ⟨d, H01, c1, ρ1, e1, s1, l1, ⟨fp, o1, f1⟩, h1⟩ => ?_⟩
  have z := (Ow.zero.mp o1).2
  cases d with
  | int j =>
    have z : x = .int j := z
    subst z
    have h1' : Out G.K G.mg W (FI G.K G.mg bs) ms H01 H1 c1 σ (if j ≤ 16777216 ∧ -4611686018427387904 ≤ j then .ok (rngD 0 j.toNat) ρ1 else .bad) Q := h1
    by_cases hj : j ≤ 16777216 ∧ -4611686018427387904 ≤ j
    · rw [if_pos hj] at h1'
      exact ⟨j, rfl, by omega, by omega, h1' _ H01 H1 c1 .refl l1 ⟨by rw [rngD_len]; show j.toNat ≤ 16777216; omega, fun _ _ => True, trivial, .tt, .rng⟩⟩
    · rw [if_neg hj] at h1'
      exact h1'.elim
  | _ => exact h1.elim
def iRng2 (fa fb : M D) : M (List D) := fun r => (fa r).bind fun x r => (fb r).bind fun y r => match x, y with
  | .int i, .int j => if j - i ≤ 16777216 ∧ -2305843009213693952 ≤ i ∧ i ≤ 2305843009213693952 ∧ -2305843009213693952 ≤ j then .ok (rngD i (j - i).toNat) r else .bad
  | _, _ => .bad
theorem VI.rng2 {p : Pos} (ha : VO G N S .z ms1 a fa) (hb : VO G N S .z ms2 b fb) (hm : G.mg "range" = none) (hg : Glb S "range" := by rfl) (hs : ∀ env, starEach [a, b] env = [(false, eval a env), (false, eval b env)] := by intro _; rfl) (hs2 : ∀ env, starEach [b] env = [(false, eval b env)] := by intro _; rfl) :
    VI G N S bs (msU ms1 ms2) tg (.Call (.Name "range" p) [a, b] [] pos) (iRng2 fa fb) := by
  refine fun R a W t => PI.imp (pi_range2 (a.gl hg) hm (pa_cons (ha R a W t) (pa_cons (hb R a W t) pa_nil (hs2 _)) ((hs _).trans (by rw [hs2]))) (hs _) (hs2 _)) fun σ H Q ⟨ρ, H0, c, l, o⟩ => ?_
  refine ⟨ρ, H0, c, l, (Out.bind (G := FO G.K G.mg .z ms1) (ms1 := ms1) back_FI o fun i e => or_l e).imp fun x H1 ⟨d, H01, c1, ρ1, e1, s1, l1, ⟨fp, o1, f1⟩, h1⟩ => ?_⟩
  refine ⟨ρ1, H01, c1, l1, (Out.bind (G := FO G.K G.mg .z ms2) (ms1 := ms2) back_FI h1 fun i e => or_r e).imp fun y H2 ⟨d2, H02, c2, ρ2, e2, s2, l2, ⟨fp2, o2, f2⟩, h2⟩ => ?_⟩
  have z1 := (Ow.zero.mp o1).2
  have z2 := (Ow.zero.mp o2).2
  cases d with
  | int i =>
    cases d2 with
    | int j =>
      have z1 : x = .int i := z1
      have z2 : y = .int j := z2
      subst z1 z2
      have h' : Out G.K G.mg W (FI G.K G.mg bs) (msU ms1 ms2) H02 H2 c2 σ (if j - i ≤ 16777216 ∧ -2305843009213693952 ≤ i ∧ i ≤ 2305843009213693952 ∧ -2305843009213693952 ≤ j then .ok (rngD i (j - i).toNat) ρ2 else .bad) Q := h2
      by_cases hj : j - i ≤ 16777216 ∧ -2305843009213693952 ≤ i ∧ i ≤ 2305843009213693952 ∧ -2305843009213693952 ≤ j
      · rw [if_pos hj] at h'
        exact ⟨i, j, rfl, ⟨by omega, by omega, by omega, by omega⟩, h' _ H02 H2 c2 .refl l2 ⟨by rw [rngD_len]; show (j - i).toNat ≤ 16777216; omega, fun _ _ => True, trivial, .tt, .rng⟩⟩
      · rw [if_neg hj] at h'
        exact h'.elim
    | _ => exact h2.elim
  | _ => cases d2 <;> exact h2.elim
/-- a list that is walked: frozen or lent -/
def LSrc (K : PySem.W.Frag) (mg : Str → Option Value) (bs : Ms) (H0 H : Hp) (c : Co) (ds : List D) (v : V) : Prop :=
  ∃ a vs P, v = .ref a ∧ SqL K H a vs ∧ Fzs K mg H0 ds vs ∧ ds.length ≤ LIM ∧ P H c ∧ Stays bs P ∧ ∀ H0' H c, Same H0 H0' → Same H0' H → P H c → SqL K H a vs
theorem LSrc.of {K : PySem.W.Frag} {mg : Str → Option Value} {H0 H : Hp} {c : Co} {d : D} {ds : List D} {v : V} (s : Same H0 H) (b : Bw K mg bs H0 H c d v) (hd : (∃ ds', d = .lst ds' ∧ ds = ds') ∨ ∃ ns, d = .scr ns ∧ ds = ns.map .int) (hs : ∀ a xs, v = .ref a → (SqL K H a xs ∨ SqT K H a xs) → xs.length ≤ LIM) :
    LSrc K mg bs H0 H c ds v := by
  rcases hd with ⟨ds', rfl, rfl⟩ | ⟨ns, rfl, rfl⟩
  · rcases b with ⟨a, vs, e, k, g⟩ | ⟨fp, i, hi, hl, ⟨a, vs, g, e, k, ef, r⟩, hc⟩
    · have q : SqL K H a vs := .of (s _ _ k)
      exact ⟨a, vs, fun _ _ => True, e, q, g, by rw [← g.length]; exact hs a vs e (.inl q), trivial, .tt, fun H0' H c s1 s2 _ => .of (s2 _ _ (s1 _ _ k))⟩
    · have q : SqL K H a vs := .of k
      have gz := (Ows.all_z.mp r).2
      exact ⟨a, vs, fun H c => H a = some (.lst vs) ∧ c a = some i, e, q, gz, by rw [← gz.length]; exact hs a vs e (.inl q), ⟨k, hc a (by rw [ef]; exact List.mem_cons_self)⟩, .own hi, fun H0' H c s1 s2 p => .of p.1⟩
  · have z : Fz K mg H0 (.scr ns) v := by
      rcases b with z | ⟨fp, i, hi, hl, _⟩
      · exact z
      · cases hl
    obtain ⟨a, e, k⟩ := z
    exact ⟨a, _, fun _ _ => True, e, s.seq k, fzs_ints _, by rw [List.length_map, ← List.length_map (f := V.int)]; exact hs a _ e (.inl (s.seq k)), trivial, .tt, fun H0' H c s1 s2 _ => s2.seq (s1.seq k)⟩
def asLst : D → Option (List D)
  | .lst ds => some ds
  | .scr ns => some (ns.map .int)
  | _ => none
theorem asLst_or {d : D} {ds : List D} (h : asLst d = some ds) : (∃ ds', d = .lst ds' ∧ ds = ds') ∨ ∃ ns, d = .scr ns ∧ ds = ns.map .int := by
  cases d with
  | lst x => cases h; exact .inl ⟨_, rfl, rfl⟩
  | scr x => cases h; exact .inr ⟨_, rfl, rfl⟩
  | _ => cases h
def iEnm (f : M D) : M (List D) := fun r => (f r).bind fun d => rM ((asLst d).map (enumD 0))
theorem same_pair {K : PySem.W.Frag} {mg : Str → Option Value} {H0 H : Hp} {T : Addr} {d1 d2 : D} {x y : V} (s : Same H0 H) (hT : H T = none) (h1 : Fz K mg H0 d1 x) (h2 : Fz K mg H0 d2 y) :
    ∃ H0'', Same H (upd H T (.tup [x, y])) ∧ Same H0 H0'' ∧ Same H0'' (upd H T (.tup [x, y])) ∧ (∀ a o, H0'' a = some o → (∃ u, H0 a = some u) ∨ H a = none) ∧ Fz K mg H0'' (.tup [d1, d2]) (.ref T) := by
  have s0 : Same H0 (upd H0 T (.tup [x, y])) := same_upd0 (s.free hT)
  refine ⟨upd H0 T (.tup [x, y]), same_upd0 hT, s0, same_upd2 s, fun a o e => ?_, T, [x, y], rfl, .inl (.inl upd_same), x, [y], rfl, Fz.mono s0 _ _ h1, y, [], rfl, Fz.mono s0 _ _ h2, rfl⟩
  by_cases z : a = T
  · exact .inr (by rw [z]; exact hT)
  · rw [upd_ne z] at e; exact .inl ⟨o, e⟩
theorem VI.enm {p tpos : Pos} {elts : List Expr} {kk : Nat} (h : VB G N S bs ms e f) (hm : G.mg "enumerate" = none) (hg : Glb S "enumerate" := by rfl) (hs : ∀ env, starEach [e] env = [(false, eval e env)] := by intro _; rfl) :
    VI G N S bs ms (.Tuple elts kk tpos) (.Call (.Name "enumerate" p) [e] [] pos) (iEnm f) := by
  refine fun R a W t => PI.imp (pi_enum (a.gl hg) hm (pa_cons (pe_small (h R a W t)) pa_nil (hs _)) (hs _)) fun σ H Q ⟨ρ, H0, c, l, o⟩ => ?_
  refine ⟨ρ, H0, c, l, (Out.bind (G := FB G.K G.mg bs) (ms1 := ms) back_FI o fun i e => e).imp fun x H1 ⟨d, H01, c1, ρ1, e1, s1, l1, b1, h1⟩ hs => ?_⟩
  cases hd : asLst d with
  | none => rw [hd] at h1; exact h1.elim
  | some ds =>
    rw [hd] at h1
    obtain ⟨q, vs, P, e2, sq, fz, hl, p1, sP, kp⟩ := LSrc.of l1.sub b1 (asLst_or hd) hs
    refine ⟨q, vs, by rw [e2], sq, h1 _ H01 H1 c1 .refl l1 ⟨by rw [enumD_len]; exact hl, P, p1, sP, fun H0' H c s1 s2 p => ?_⟩⟩
    have hq := kp H0' H c s1 s2 p
    refine ⟨fun i d e => ?_, ⟨vs, hq, by rw [fz.length, enumD_len]; exact Nat.le_refl _⟩⟩
    obtain ⟨d', g1, g2⟩ := enumD_get ds 0 i d e
    obtain ⟨v, v1, v2⟩ := fz.get g1
    refine ⟨⟨vs, v, hq, v1⟩, fun x H' ⟨T, x', k1, k2, k3, k4⟩ => ?_⟩
    have k5 := k4 vs hq
    rw [v1] at k5
    cases k5
    subst k1 k3 g2
    exact same_pair s2 k2 (by show V.int _ = V.int _; rw [Int.zero_add]) (Fz.mono s1 d' v v2)
def iZp (fa fb : M D) : M (List D) := fun r => (fa r).bind fun x r => (fb r).bind fun y => rM ((asLst x).bind fun xs => (asLst y).map fun ys => zipD xs ys)
theorem LSrc.on {K : PySem.W.Frag} {mg : Str → Option Value} {H0 H H0' H' : Hp} {c c' : Co} {ds : List D} {v : V} (h : LSrc K mg bs H0 H c ds v) (s : Step ms H0 H c H0' H' c') (l : Same H0' H') (dj : Dj bs ms) : LSrc K mg bs H0' H' c' ds v := by
  obtain ⟨a, vs, P, e, q, fz, hl, p, sP, kp⟩ := h
  have p' := sP.run _ _ _ _ _ _ _ dj p s
  exact ⟨a, vs, P, e, kp H0' H' c' s.grow l p', Fzs.mono s.grow ds vs fz, hl, p', sP, fun H0'' H'' c'' s1 s2 p => kp H0'' H'' c'' (s.grow.trans s1) s2 p⟩
theorem Stays.and {P1 P2 : Hp → Co → Prop} (h1 : Stays bs1 P1) (h2 : Stays bs2 P2) : Stays (msU bs1 bs2) (fun H c => P1 H c ∧ P2 H c) :=
  ⟨fun ms H0 H c H0' H' c' dj p s => ⟨h1.run ms _ _ _ _ _ _ (fun i e => dj i (or_l e)) p.1 s, h2.run ms _ _ _ _ _ _ (fun i e => dj i (or_r e)) p.2 s⟩, fun H c a o h p => ⟨h1.oth H c a o h p.1, h2.oth H c a o h p.2⟩⟩
theorem VI.zp {p tpos : Pos} {elts : List Expr} {kk : Nat} (ha : VB G N S bs1 ms1 a fa) (hb : VB G N S bs2 ms2 b fb) (hm : G.mg "zip" = none) (dj : Dj bs1 ms2 := by intro i h; first | rfl | (cases h)) (hg : Glb S "zip" := by rfl) (hs : ∀ env, starEach [a, b] env = (false, eval a env) :: starEach [b] env := by intro _; rfl) (hs2 : ∀ env, starEach [b] env = [(false, eval b env)] := by intro _; rfl)
    (hpl : ∀ env, (backTo pos (starEach [b] env)).any (·.1) = false := by intro _; rfl) : VI G N S (msU bs1 bs2) (msU ms1 ms2) (.Tuple elts kk tpos) (.Call (.Name "zip" p) [a, b] [] pos) (iZp fa fb) := by
  refine fun R a W t => PI.imp (pi_zip (a.gl hg) hm (pa_cons (pe_small (ha R a W t)) (pa_cons (pe_small (hb R a W t)) pa_nil (hs2 _)) (hs _)) (hs _) (hpl _)) fun σ H Q ⟨ρ, H0, c, l, o⟩ => ?_
  refine ⟨ρ, H0, c, l, (Out.bind (G := FB G.K G.mg bs1) (ms1 := ms1) back_FI o fun i e => or_l e).imp fun x H1 ⟨d, H01, c1, ρ1, e1, s1, l1, b1, h1⟩ hz1 => ?_⟩
  refine ⟨ρ1, H01, c1, l1, (Out.bind (G := FB G.K G.mg bs2) (ms1 := ms2) back_FI h1 fun i e => or_r e).imp fun y H2 ⟨d2, H02, c2, ρ2, e2, s2, l2, b2, h2⟩ hz2 => ?_⟩
  cases hd : asLst d with
  | none => rw [hd] at h2; exact h2.elim
  | some ds =>
    cases hd2 : asLst d2 with
    | none => rw [hd, hd2] at h2; exact h2.elim
    | some ds2 =>
      rw [hd, hd2] at h2
      obtain ⟨q, vs, P, e3, sq, fz, hl, p1, sP, kp⟩ := (LSrc.of l1.sub b1 (asLst_or hd) hz1).on s2 l2.sub dj
      obtain ⟨q2, vs2, P2, e4, sq2, fz2, hl2, p2, sP2, kp2⟩ := LSrc.of l2.sub b2 (asLst_or hd2) hz2
      refine ⟨q, q2, vs, vs2, by rw [e3, e4], sq, sq2, h2 _ H02 H2 c2 .refl l2 ⟨by rw [zipD_len]; exact Nat.le_trans (Nat.min_le_left _ _) hl, fun H c => P H c ∧ P2 H c, ⟨p1, p2⟩, .and sP sP2, fun H0' H c s1 s2 p => ?_⟩⟩
      have hq := kp H0' H c s1 s2 p.1
      have hq2 := kp2 H0' H c s1 s2 p.2
      refine ⟨fun i d e => ?_, ⟨vs, vs2, hq, hq2, by rw [fz.length, fz2.length, zipD_len]; omega⟩⟩
      obtain ⟨d', d2', g1, g1', g2⟩ := zipD_get ds ds2 i d e
      obtain ⟨v, v1, v2⟩ := fz.get g1
      obtain ⟨v', v1', v2'⟩ := fz2.get g1'
      refine ⟨⟨vs, vs2, v, v', hq, hq2, v1, v1'⟩, fun x H' ⟨T, x', y', k1, k2, k3, k4, k4'⟩ => ?_⟩
      have k5 := k4 vs hq
      rw [v1] at k5
      cases k5
      have k5' := k4' vs2 hq2
      rw [v1'] at k5'
      cases k5'
      subst k1 k3 g2
      exact same_pair s2 k2 (Fz.mono s1 d' v v2) (Fz.mono s1 d2' v' v2')
def iStrs (f : M D) : M (List D) := fun r => (f r).bind fun d r => match d with
  | .str s => .ok (s.map fun c => .str [c]) r
  | _ => .bad
theorem VI.str (h : VO G N S .z ms e f) : VI G N S bs ms tg e (iStrs f) := by
  refine fun R a W t => PI.imp (pi_str (h R a W t)) fun σ H Q ⟨ρ, H0, c, l, o⟩ => ?_
  refine ⟨ρ, H0, c, l, (Out.bind (G := FO G.K G.mg .z ms) (ms1 := ms) back_FI o fun i e => e).imp fun x H1 ⟨d, H01, c1, ρ1, e1, s1, l1, ⟨fp, o1, f1⟩, h1⟩ => ?_⟩
  have z := (Ow.zero.mp o1).2
  cases d with
  | str s =>
    obtain ⟨z1, z2⟩ : x = sV s ∧ sOk s = true := z
    have hk := z2
    unfold sOk at hk
    simp only [Bool.and_eq_true, decide_eq_true_eq, List.all_eq_true] at hk
    refine ⟨_, z1, h1 _ H01 H1 c1 .refl l1 ⟨by rw [List.length_map]; exact hk.1, fun _ _ => True, trivial, .tt, fun H0' H c s1 s2 p => ⟨fun i d e => ?_, ?_⟩⟩⟩
    · rw [List.getElem?_map] at e
      cases hg : s[i]? with
      | none => rw [hg] at e; cases e
      | some ch =>
        rw [hg] at e
        cases e
        obtain ⟨hi, hg2⟩ := List.getElem?_eq_some_iff.mp hg
        refine ⟨by show i < s.toArray.size; simpa using hi, fun x H' ⟨e3, c', e4, e5⟩ => ?_⟩
        have e4 : s.toArray[i]? = some c' := e4
        rw [List.getElem?_toArray, hg] at e4
        cases e4
        subst e3 e5
        refine ⟨H0', Same.refl _, Same.refl _, s2, fun a o q => .inl ⟨o, q⟩, rfl, ?_⟩
        unfold sOk
        simp only [List.length_singleton, List.all_cons, List.all_nil, Bool.and_true, Bool.and_eq_true, decide_eq_true_eq]
        exact ⟨by omega, by have := hk.2 ch (by rw [← hg2]; exact List.getElem_mem hi); simpa using this⟩
    · show s.toArray.size ≤ _
      simp
  | _ => exact h1.elim
def iRevd (f : M D) : M (List D) := fun r => (f r).bind fun d => rM ((asLst d).map List.reverse)
theorem VI.revd {p : Pos} (h : VB G N S bs ms e f) (hm : G.mg "reversed" = none) (hg : Glb S "reversed" := by rfl) (hs : ∀ env, starEach [e] env = [(false, eval e env)] := by intro _; rfl) : VI G N S bs ms tg (.Call (.Name "reversed" p) [e] [] pos) (iRevd f) := by
  refine fun R a W t => PI.imp (pi_reversed (a.gl hg) hm (pa_cons (pe_small (h R a W t)) pa_nil (hs _)) (hs _)) fun σ H Q ⟨ρ, H0, c, l, o⟩ => ?_
  refine ⟨ρ, H0, c, l, (Out.bind (G := FB G.K G.mg bs) (ms1 := ms) back_FI o fun i e => e).imp fun x H1 ⟨d, H01, c1, ρ1, e1, s1, l1, b1, h1⟩ hs => ?_⟩
  cases hd : asLst d with
  | none => rw [hd] at h1; exact h1.elim
  | some ds =>
    rw [hd] at h1
    obtain ⟨q, vs, P, e2, sq, fz, hl, p1, sP, kp⟩ := LSrc.of l1.sub b1 (asLst_or hd) hs
    refine ⟨q, vs, by rw [e2], sq, h1 _ H01 H1 c1 .refl l1 ⟨by rw [List.length_reverse]; exact hl, P, p1, sP, fun H0' H c s1 s2 p => ?_⟩⟩
    have hq := kp H0' H c s1 s2 p
    have hlen := fz.length
    refine ⟨fun i d e => ?_, by show vs.length ≤ _; rw [List.length_reverse, hlen]; exact Nat.le_refl _⟩
    obtain ⟨hi, _⟩ := List.getElem?_eq_some_iff.mp e
    rw [List.length_reverse] at hi
    rw [List.getElem?_reverse hi] at e
    obtain ⟨v, v1, v2⟩ := fz.get e
    rw [← hlen] at v1
    refine ⟨⟨by rw [hlen]; exact hi, vs, v, hq, v1⟩, fun x H' ⟨k1, k2⟩ => ?_⟩
    have k5 := k2 vs hq
    rw [v1] at k5
    cases k5
    subst k1
    exact ⟨H0', Same.refl _, Same.refl _, s2, fun a o q => .inl ⟨o, q⟩, Fz.mono s1 d v v2⟩
end
end Vm
set_option Elab.async false
set_option linter.all false
set_option maxRecDepth 100000
set_option maxHeartbeats 4000000
namespace Vm
open PySem PySem.Spec PyProof.Rows L2
section
variable {G : GC} {N : List Str} {S : SC} {bs bs1 bs2 ms ms1 ms2 ms3 as : Ms} {m : Md} {k : Kd} {e a b : Expr} {es : List Expr} {f fa fb : M D} {fs : M (List D)} {pos : Pos} {tg : Expr}
/-- a new dict: of int, str keys -/
theorem VO.dct0 : VO G N S (.o k) ms0 (.Dict [] [] pos) (eC (.dct [] [])) := by
  refine fun R a W t => pe_dnewK.imp fun σ H Q ⟨ρ, H0, c, l, o⟩ => ?_
  intro p hp
  refine Out.new o l hp ⟨p, [], [], rfl, rfl, .inl ⟨[], upd_same, rfl, rfl, rfl⟩, rfl, rfl⟩
end
end Vm
set_option Elab.async false
set_option linter.all false
set_option maxRecDepth 100000
set_option maxHeartbeats 4000000
namespace Vm
open PySem PySem.Spec PyProof.Rows L2

/-! ### what stands in the module -/
mutual
def relD (K : PySem.W.Frag) : D → Value → Bool
  | .non, .none => true
  | .bl b, .bool c => b == c
  | .int i, .int j _ => decide (i = j)
  | .str s, .str x _ => decide (x = ⟨s.toArray⟩) && sOk s
  | .tup ds, .ref a => match K.lookup a with
    | some ⟨.type c, _, .seq its _, _⟩ => decide (c = "tuple") && (decide (its.size ≤ sizeLine) && relDs K ds its.toList)
    | _ => false
  | _, _ => false
def relDs (K : PySem.W.Frag) : List D → List Value → Bool
  | [], [] => true
  | d :: ds, u :: us => relD K d u && relDs K ds us
  | _, _ => false
end
mutual
theorem relD_ok {K : PySem.W.Frag} {mg : Str → Option Value} {H : Hp} : ∀ (d : D) (u : Value), relD K d u = true → ∃ v, RelV v u ∧ Fz K mg H d v
  | .non, u, h => by cases u <;> first | exact ⟨.non, rfl, rfl⟩ | cases h
  | .bl b, u, h => by
    cases u <;> first | cases h | skip
    rename_i c
    have e : b = c := eq_of_beq (show (b == c) = true from h)
    exact ⟨.bl b, by rw [e]; rfl, rfl⟩
  | .int i, u, h => by
    cases u <;> first | cases h | skip
    rename_i j t
    have e : i = j := of_decide_eq_true h
    exact ⟨.int i, ⟨t, by rw [e]⟩, rfl⟩
  | .str s, u, h => by
    cases u <;> first | cases h | skip
    rename_i x t
    obtain ⟨h1, h2⟩ := He.ba (show (decide (x = ⟨s.toArray⟩) && sOk s) = true from h)
    exact ⟨sV s, ⟨t, by rw [of_decide_eq_true h1]⟩, rfl, h2⟩
  | .tup ds, u, h => by
    cases u <;> first | cases h | skip
    rename_i a
    unfold relD at h
    cases q : K.lookup a with
    | none => rw [q] at h; cases h
    | some o =>
      obtain ⟨oc, od, dt, osl⟩ := o
      rw [q] at h
      cases oc <;> first | cases h | skip
      rename_i c
      cases dt <;> first | cases h | skip
      rename_i its n
      obtain ⟨h1, h2⟩ := He.ba (show (decide (c = "tuple") && (decide (its.size ≤ sizeLine) && relDs K ds its.toList)) = true from h)
      obtain ⟨h3, h4⟩ := He.ba h2
      obtain ⟨vs, r, f⟩ := relDs_ok (mg := mg) (H := H) ds its.toList h4
      exact ⟨.ref a, rfl, a, vs, rfl, .inr ⟨_, its, n, q, congrArg Value.type (of_decide_eq_true h1), rfl, of_decide_eq_true h3, r⟩, f⟩
  | .lst _, u, h => by cases u <;> cases h
  | .dct _ _, u, h => by cases u <;> cases h
  | .ins _ _ _, u, h => by cases u <;> cases h
  | .scr _, u, h => by cases u <;> cases h
theorem relDs_ok {K : PySem.W.Frag} {mg : Str → Option Value} {H : Hp} : ∀ (ds : List D) (us : List Value), relDs K ds us = true → ∃ vs, Vals vs us ∧ Fzs K mg H ds vs
  | [], [], _ => ⟨[], .nil, rfl⟩
  | d :: ds, u :: us, h => by
    obtain ⟨h1, h2⟩ := He.ba (show (relD K d u && relDs K ds us) = true from h)
    obtain ⟨v, r, f⟩ := relD_ok (mg := mg) (H := H) d u h1
    obtain ⟨vs, rs, fs⟩ := relDs_ok (mg := mg) (H := H) ds us h2
    exact ⟨v :: vs, .cons r rs, v, vs, rfl, f, fs⟩
  | [], _ :: _, h => by cases h
  | _ :: _, [], h => by cases h
end
def glbB (K : PySem.W.Frag) (p : Str × D) : Bool := match PySem.W.nsIn K mainGlobals p.1 with
  | some (some u) => relD K p.2 u
  | _ => false
/-- what the top has written -/
structure Says (fa : List He.Fa) (fn : List He.DefD) (cs : List (Str × D)) (K : PySem.W.Frag) : Prop where
  d : He.SaysD fa fn K
  c : (cs.all fun p => glbB K p) = true
abbrev AlV : Type := He.AlD × Bool
def obsV (n : Nat) (fa : List He.Fa) (fn : List He.DefD) (cs : List (Str × D)) (g : Addr → Option Obj) : AlV := (He.obsD fa fn (He.frG g (He.asD g n)), cs.all fun p => glbB (He.frG g (He.asD g n)) p)
def hookV (n : Nat) (fa : List He.Fa) (fn : List He.DefD) (cs : List (Str × D)) : PySem.W.Hook where
  α := AlV
  obs := fun s => obsV n fa fn cs s.heap.get?
  val := fun _ => (He.valD fn, true)
  says := fun _ h => ∃ K : PySem.W.Frag, K.In h ∧ Says fa fn cs K
  of := fun _ _ e => ⟨_, He.frG_in, congrArg (fun z : AlV => z.1) e, congrArg (fun z : AlV => z.2) e⟩
  keeps := fun _ _ _ ⟨K, hK, c⟩ k => ⟨K, PySem.W.Frag.In.keeps hK k, c⟩
theorem obsV_eq {n : Nat} {fa : List He.Fa} {fn : List He.DefD} {cs : List (Str × D)} {g : Addr → Option Obj} {s : Shared} (h : ∀ a, g a = s.heap.get? a) : obsV n fa fn cs g = (hookV n fa fn cs).obs s := by
  have e : g = s.heap.get? := funext h
  rw [e] <;> rfl
/-- where one stands: a world in which the top has written this -/
structure Ye (fa : List He.Fa) (fn : List He.DefD) (cs : List (Str × D)) (G : GC) : Prop where
  h : ∃ h : Heap, G.K.In h ∧ h.Ns mainGlobals G.mg
  s : Says fa fn cs G.K
/-- a def of the module -/
structure Fx (G : GC) (k : Nat) (x : Str) (ps : List Str) (rm : Md) (F : M D) : Prop where
  ex : ∃ f fd, G.mg x = some (.ref f) ∧ PySem.W.keepIn G.K (.ref f) = true ∧ Binds G.K fd ps [] ∧ FnV G k f fd ps rm F ∧ (∃ o od sl, G.K.lookup f = some ⟨o, od, .func fd, sl⟩) ∧ ∀ (s : Shared) (us : List Value), us.length = ps.length → BindsTo s fd ⟨us, []⟩ (ps.zip us)
section
variable {fa : List He.Fa} {fn : List He.DefD} {cs : List (Str × D)} {G : GC}
theorem Ye.fact (Y : Ye fa fn cs G) (i : Nat) {f : He.Fa} (h : fa[i]? = some f := by rfl) : f.ok G.K = true := Y.s.d.fact i h
theorem Ye.free (Y : Ye fa fn cs G) (i : Nat) {x : Str} (h : fa[i]? = some (.free x) := by rfl) : G.mg x = none := by
  obtain ⟨h0, X, N⟩ := Y.h
  exact He.free_ok X N (Y.fact i h)
theorem Ye.glob (Y : Ye fa fn cs G) (i : Nat) {x : Str} {d : D} (h : cs[i]? = some (x, d) := by rfl) : GlobC G x d := by
  obtain ⟨h0, X, N⟩ := Y.h
  have c := List.all_eq_true.mp Y.s.c _ (List.mem_of_getElem? h)
  unfold glbB at c
  cases e : PySem.W.nsIn G.K mainGlobals x with
  | none => simp only [e] at c; cases c
  | some r =>
    simp only [e] at c
    cases r with
    | none => cases c
    | some u =>
      obtain ⟨v, r, f⟩ := relD_ok (mg := G.mg) (H := Hp0) d u c
      exact ⟨v, u, PySem.W.mg_of X N e, r, f⟩
theorem Fx.mk' (Y : Ye fa fn cs G) (i j : Nat) {d : He.DefD} {x : Str} {k : Nat} {N ps : List Str} {rm : Md} {g : M Fl} {as : Ms} (io : List Bool) (n : Nat) (hb : VSs G N ⟨d.scope, fun _ => true, k, true⟩ rm as d.body g)
    (hbi : ∀ (kV doc pm : Value) (an : Option Addr) (cdv ct : Value) (us : List Value), us.length = ps.length → bindArgs (PySem.W.fnOf d.name d.qual d.params d.body d.scope .none kV doc pm an cdv ct) ⟨us, []⟩ = pure (ps.zip us))
    (Sc : FnScope N ps d.scope) (hd : fn[i]? = some d := by rfl) (hj : fa[j]? = some (.glo x) := by rfl) (hx : d.at_ = (x, none) := by rfl) (h0 : d.dfl = [] := by rfl) (hio : io.length = ps.length := by rfl) (hn : N.length = ps.length + n := by rfl)
    (has : ∀ i, io.getD i false = true → as i = false := by intro i h; rcases i with _ | _ | _ | _ | _ | _ | i <;> first | rfl | (cases h)) : Fx G (k + 1) x ps rm (fnRun io n g) := by
  obtain ⟨h, X, Nn⟩ := Y.h
  obtain ⟨fd, F⟩ := Y.s.d.def_ i hd
  have e : G.mg x = some (.ref (He.fAd G.K d.at_)) := by
    rw [hx]
    exact He.glo_ok X Nn (Y.fact j hj)
  have e0 : d.dvs G.K = [] := by unfold He.DefD.dvs; rw [h0]; rfl
  rw [e0] at F
  refine ⟨_, fd, e, F.kp, F.bindsN hbi, FnV.mk F Sc io n hb hio hn has, ?_, F.bindsA hbi⟩
  obtain ⟨oc, od, dV, kV, doc, pm, an, cdv, ct, osl, _, lk, _⟩ := F.ex
  exact ⟨oc, od, osl, lk⟩
variable {N : List Str} {S : SC} {bs ms ms1 ms2 : Ms} {rm : Md} {k : Nat} {e : Expr} {es : List Expr} {fs : M (List D)} {pos p : Pos} {ls : List (Option Nat)} {F : M D} {ps : List Str} {x : Str}
theorem VO.callX (hF : Fx G k x ps rm F) (ha : VM G N S ls ms (e :: es) fs) (hk' : k ≤ S.k := by decide) (hc : S.cm = true := by rfl) (nd : (ls.filterMap id).Nodup := by decide) (hl : ls.length = ps.length := by rfl) (hg : Glb S x := by rfl)
    (hdb : (x == ("__debug__" : Str)) = false := by decide) (he : ∀ env, starEach (e :: es) env = (false, eval e env) :: starEach es env := by intro _; rfl) (hpl : ∀ env, (backTo pos (starEach es env)).any (·.1) = false := by intro _; rfl) :
    VO G N S rm (msU ms (lentM ls)) (.Call (.Name x p) (e :: es) [] pos) (fCall F ls fs) := by
  obtain ⟨f, fd, h1, h2, h3, h4, _⟩ := hF.ex
  exact VO.call h4 h1 h2 h3 ha hk' hc nd hl hg hdb he hpl
end
/-! ### a law's end -/
theorem lawEnd {l : PySem.W.OpenLaw} {n k : Nat} {q : Program} {loose : List Str} {XP : (Str → Option Value) → Heap → Prop} {d : DefRec} {x : Str} {fa : List He.Fa} {fn : List He.DefD} {cs : List (Str × D)} {N : Nat}
    (hn : l.most = some n) (hn2 : n ≤ sizeLine) (hd : d.params.defaults = []) (hr : Room k callerA) (F : M D) (hx : d.name = ("law" : Str))
    (hF : ∀ (G : GC), G.P = l.prog → Ye fa fn cs G → Fx G k ("law" : Str) [x] .z F)
    (hp : ∀ ns : List Int, ns.length ≤ n → (∀ z ∈ ns, Builtin.Int.intBits z ≤ 1048576) → ∃ r, F [some (.z, .scr ns)] = .ok (.bl true) r) :
    PySem.W.WalkO q loose XP (hookV N fa fn cs).says l.row.toRowW d [] (fun f vs => PySem.call f vs) := by
  refine Att.attach_callB hn hd fun w t0 t1 mg mb f obj pm cd doc adr xs ns gr says ho ho2 hcd hf hadr hints hlen hbits hgen => ?_
  obtain ⟨K, KX, c⟩ := says
  rw [hx] at hf
  have gy : ∀ base : Heap, K.In base → base.Ns mainGlobals mg → Ye fa fn cs (⟨l.prog, w, K, mg, base⟩ : GC) := fun base b1 b2 => ⟨⟨base, b1, b2⟩, c⟩
  have gn := gr.T.g
  obtain ⟨f', fd, e1, _, _, _, ⟨o1, od1, sl1, lk1⟩, bt⟩ := (hF ⟨l.prog, w, K, mg, t1.heap⟩ rfl (gy _ KX gn)).ex
  have e1 : mg ("law" : Str) = some (.ref f') := e1
  rw [hf] at e1
  cases e1
  refine law_call KX gn gr.T.b gr.T.builtins gr.T.nolimit hgen hadr hints (Nat.le_trans hlen hn2) hr (CX := L2.CX l.prog w) (fd := fd) (sp := spV ⟨l.prog, w, K, mg, t1.heap⟩ F 1 .z) (fun base b1 b2 => ?_) (fun s u => bt s [u] rfl) (fun H _ hS => ?_) fun H e s' z => ?_
  · obtain ⟨f2, fd2, e2, _, _, h4, ⟨o2, od2, sl2, lk2⟩, _⟩ := (hF ⟨l.prog, w, K, mg, base⟩ rfl (gy base b1 b2)).ex
    have e2 : mg ("law" : Str) = some (.ref f2) := e2
    rw [hf] at e2
    cases e2
    have lk2 : K.lookup f = some ⟨o2, od2, .func fd2, sl2⟩ := lk2
    have lk1 : K.lookup f = some ⟨o1, od1, .func fd, sl1⟩ := lk1
    rw [lk1] at lk2
    cases lk2
    exact h4
  · obtain ⟨r, hr⟩ := hp ns hlen hbits
    refine ⟨rfl, [some (.z, .scr ns)], H, fun _ => none, ⟨Same.refl _, fun _ _ z => (by cases z), fun _ _ z => (by cases z), rfl, fun i m d e => ?_⟩, ?_⟩
    · rcases i with _ | i
      · cases e
        exact ⟨.ref adr, [], rfl, ⟨rfl, adr, rfl, hS⟩, List.nodup_nil, by simp⟩
      · simp [getS] at e
    · rw [hr]
      intro v H0' H' c' _ _ ⟨fp, o, _⟩
      exact (Ow.zero.mp o).2
  · obtain ⟨a, B, H', cls, dd, _, _, _, _, _, _, _, z⟩ := z
    exact z
end Vm
set_option Elab.async false
set_option linter.all false
set_option maxRecDepth 100000
set_option maxHeartbeats 4000000
namespace Vm
open PySem PySem.Spec PyProof.Rows L2
section
variable {G : GC} {N : List Str} {S : SC} {bs bs1 bs2 ms ms1 ms2 ms3 as : Ms} {m : Md} {k : Kd} {e a b : Expr} {es : List Expr} {f fa fb : M D} {fs : M (List D)} {pos : Pos} {tg : Expr}
theorem At.u100 {X : Cx} (a : At S N X) (hc : S.cm = true) : X.A.units + 100 < cLine := by
  have := (a.room hc).un
  omega
/-! ### operators by name -/
theorem VO.add (ha : VB G N S bs1 ms1 a fa) (hb : VB G N S bs2 ms2 b fb) (dj : Dj bs1 ms2 := by intro i h; first | rfl | (cases h)) : VO G N S .z (msU ms1 ms2) (.BinOp a .Add b pos) (fOp2 oAdd fa fb) := .op (fun _ _ => op_addV) ru_add ha hb dj
theorem VO.addL (ha : VB G N S bs1 ms1 a fa) (hb : VB G N S bs2 ms2 b fb) (dj : Dj bs1 ms2 := by intro i h; first | rfl | (cases h)) : VO G N S m1 (msU ms1 ms2) (.BinOp a .Add b pos) (fOp2 oAddL fa fb) := .op (fun _ _ => op_cat) ru_addL ha hb dj
theorem VO.sub (ha : VB G N S bs1 ms1 a fa) (hb : VB G N S bs2 ms2 b fb) (dj : Dj bs1 ms2 := by intro i h; first | rfl | (cases h)) : VO G N S .z (msU ms1 ms2) (.BinOp a .Sub b pos) (fOp2 oSub fa fb) := .op (fun _ _ => op_rI0 op_sub) ru_sub ha hb dj
theorem VO.mul (ha : VB G N S bs1 ms1 a fa) (hb : VB G N S bs2 ms2 b fb) (dj : Dj bs1 ms2 := by intro i h; first | rfl | (cases h)) : VO G N S .z (msU ms1 ms2) (.BinOp a .Mult b pos) (fOp2 oMul fa fb) := .op (fun _ _ => op_mulV) ru_mul ha hb dj
theorem VO.fdiv (ha : VB G N S bs1 ms1 a fa) (hb : VB G N S bs2 ms2 b fb) (dj : Dj bs1 ms2 := by intro i h; first | rfl | (cases h)) : VO G N S .z (msU ms1 ms2) (.BinOp a .FloorDiv b pos) (fOp2 oFdiv fa fb) := .op (fun _ _ => op_fdivW) ru_fdiv ha hb dj
theorem VO.mod (ha : VB G N S bs1 ms1 a fa) (hb : VB G N S bs2 ms2 b fb) (dj : Dj bs1 ms2 := by intro i h; first | rfl | (cases h)) : VO G N S .z (msU ms1 ms2) (.BinOp a .Mod b pos) (fOp2 oMod fa fb) := .op (fun _ _ => op_mod) ru_mod ha hb dj
theorem VO.pow (ha : VB G N S bs1 ms1 a fa) (hb : VB G N S bs2 ms2 b fb) (dj : Dj bs1 ms2 := by intro i h; first | rfl | (cases h)) : VO G N S .z (msU ms1 ms2) (.BinOp a .Pow b pos) (fOp2 oPow fa fb) := .op (fun _ _ => op_pow) ru_pow ha hb dj
/-- a comparison by name, as a value and as a test -/
structure Cm (G : GC) (N : List Str) (S : SC) (op : CmpOp) (o : D → D → Option D) : Prop where
  ex : ∃ r, (∀ R, At S N (mkX G N R) → OpR (mkX G N R) (compareOp op) r) ∧ Ru2 G r .z o
theorem Cm.eq (hc : S.cm = true := by rfl) : Cm G N S .Eq oEq := ⟨_, fun _ a => op_eqV (a.u100 hc), ru_eq⟩
theorem Cm.ne (hc : S.cm = true := by rfl) : Cm G N S .NotEq oNe := ⟨_, fun _ a => op_neV (a.u100 hc), ru_ne⟩
theorem Cm.lt : Cm G N S .Lt oLtI := ⟨_, fun _ _ => op_rI0 op_lt, ru_ltI⟩
theorem Cm.le : Cm G N S .LtE oLeI := ⟨_, fun _ _ => op_rI0 op_le, ru_leI⟩
theorem Cm.gt : Cm G N S .Gt oGtI := ⟨_, fun _ _ => op_rI0 op_gt, ru_gtI⟩
theorem Cm.ge : Cm G N S .GtE oGeI := ⟨_, fun _ _ => op_rI0 op_ge, ru_geI⟩
theorem Cm.in_ (hc : S.cm = true := by rfl) : Cm G N S .In oIn := ⟨_, fun _ a => op_inV (a.u100 hc), ru_in⟩
theorem Cm.nin (hc : S.cm = true := by rfl) : Cm G N S .NotIn oNotIn := ⟨_, fun _ a => op_notInV (a.u100 hc), ru_notIn⟩
theorem Cm.is : Cm G N S .Is oIs := ⟨_, fun _ _ => op_isV, ru_is⟩
theorem Cm.isn : Cm G N S .IsNot oIsNot := ⟨_, fun _ _ => op_isNotV, ru_isNot⟩
theorem VO.cp {op : CmpOp} {o : D → D → Option D} (c : Cm G N S op o) (ha : VB G N S bs1 ms1 a fa) (hb : VB G N S bs2 ms2 b fb) (dj : Dj bs1 ms2 := by intro i h; first | rfl | (cases h)) (hm : behindInMarks op b = false := by first | exact nomark _ | rfl) : VO G N S .z (msU ms1 ms2) (.Compare a [op] [b] pos) (fOp2 o fa fb) := by
  obtain ⟨r, h1, h2⟩ := c.ex
  exact .cmp h1 h2 ha hb dj hm
theorem VT.cp {op : CmpOp} {o : D → D → Option D} (c : Cm G N S op o) (ha : VB G N S bs1 ms1 a fa) (hb : VB G N S bs2 ms2 b fb) (dj : Dj bs1 ms2 := by intro i h; first | rfl | (cases h)) (hm : behindInMarks op b = false := by first | exact nomark _ | rfl) : VT G N S (msU ms1 ms2) (.Compare a [op] [b] pos) (fB (fOp2 o fa fb)) := by
  obtain ⟨r, h1, h2⟩ := c.ex
  exact .cmp h1 h2 ha hb dj hm
theorem VO.item (ha : VB G N S bs1 ms1 a fa) (hb : VB G N S bs2 ms2 b fb) (dj : Dj bs1 ms2 := by intro i h; first | rfl | (cases h)) (hp : PlainIx b := by exact fun _ _ => rfl) : VO G N S .z (msU ms1 ms2) (.Subscript a b pos) (fOp2 oIx fa fb) := .ix (fun _ _ => ix_seq) ru_ix ha hb dj hp
theorem VO.cut {lo hi : Option Expr} {fl fh : M (Option Int)} {p2 : Pos} (ha : VB G N S bs1 ms1 e f) (hl : VP G N S ms2 lo fl) (hh : VP G N S ms3 hi fh) (dj : Dj bs1 ms2 := by intro i h; first | rfl | (cases h)) (dj2 : Dj bs1 ms3 := by intro i h; first | rfl | (cases h)) :
    VO G N S .z (msU ms1 (msU ms2 ms3)) (.Subscript e (.Slice lo hi none p2) pos) (fSl oCut f fl fh) := .sl (fun _ _ => sl_V) ru_cut ha hl hh dj dj2
theorem VO.cutL {lo hi : Option Expr} {fl fh : M (Option Int)} {p2 : Pos} (ha : VB G N S bs1 ms1 e f) (hl : VP G N S ms2 lo fl) (hh : VP G N S ms3 hi fh) (dj : Dj bs1 ms2 := by intro i h; first | rfl | (cases h)) (dj2 : Dj bs1 ms3 := by intro i h; first | rfl | (cases h)) :
    VO G N S m1 (msU ms1 (msU ms2 ms3)) (.Subscript e (.Slice lo hi none p2) pos) (fSl oCutL f fl fh) := .sl (fun _ _ => sl_list) (ru_cutL (.inr rfl)) ha hl hh dj dj2
/-! ### built-ins by name -/
variable {p : Pos}
theorem VO.len (hm : G.mg "len" = none) (ha : VA G N S bs ms (e :: es) fs) (hg : Glb S "len" := by rfl) (he : ∀ env, starEach (e :: es) env = (false, eval e env) :: starEach es env := by intro _; rfl) (hpl : ∀ env, (backTo pos (starEach es env)).any (·.1) = false := by intro _; rfl) :
    VO G N S .z ms (.Call (.Name "len" p) (e :: es) [] pos) (fA oLen fs) := .callB (fun _ _ => call_len) ru_len hm boot_len ha hg (by decide) (by decide) he hpl
theorem VO.all (hm : G.mg "all" = none) (ha : VA G N S bs ms (e :: es) fs) (hc : S.cm = true := by rfl) (hg : Glb S "all" := by rfl) (he : ∀ env, starEach (e :: es) env = (false, eval e env) :: starEach es env := by intro _; rfl) (hpl : ∀ env, (backTo pos (starEach es env)).any (·.1) = false := by intro _; rfl) :
    VO G N S .z ms (.Call (.Name "all" p) (e :: es) [] pos) (fA oAll fs) := .callB (fun _ a => cr_all (a.calm.trans hc)) ru_all hm (by decide +kernel) ha hg (by decide) (by decide) he hpl
theorem VO.any (hm : G.mg "any" = none) (ha : VA G N S bs ms (e :: es) fs) (hc : S.cm = true := by rfl) (hg : Glb S "any" := by rfl) (he : ∀ env, starEach (e :: es) env = (false, eval e env) :: starEach es env := by intro _; rfl) (hpl : ∀ env, (backTo pos (starEach es env)).any (·.1) = false := by intro _; rfl) :
    VO G N S .z ms (.Call (.Name "any" p) (e :: es) [] pos) (fA oAny fs) := .callB (fun _ a => cr_any (a.calm.trans hc)) ru_any hm (by decide +kernel) ha hg (by decide) (by decide) he hpl
theorem VO.list (hm : G.mg "list" = none) (ha : VA G N S bs ms (e :: es) fs) (hg : Glb S "list" := by rfl) (he : ∀ env, starEach (e :: es) env = (false, eval e env) :: starEach es env := by intro _; rfl) (hpl : ∀ env, (backTo pos (starEach es env)).any (·.1) = false := by intro _; rfl) :
    VO G N S m1 ms (.Call (.Name "list" p) (e :: es) [] pos) (fA oList fs) := .callTy (fun _ _ => call_list_of) (ru_list (.inr rfl)) hm (by decide +kernel) ha hg (by decide) (by decide) he hpl
theorem VO.tuple (hm : G.mg "tuple" = none) (ha : VA G N S bs ms (e :: es) fs) (hg : Glb S "tuple" := by rfl) (he : ∀ env, starEach (e :: es) env = (false, eval e env) :: starEach es env := by intro _; rfl) (hpl : ∀ env, (backTo pos (starEach es env)).any (·.1) = false := by intro _; rfl) :
    VO G N S .z ms (.Call (.Name "tuple" p) (e :: es) [] pos) (fA oTuple fs) := .callTy (fun _ _ => call_tuple_of) ru_tuple hm (by decide +kernel) ha hg (by decide) (by decide) he hpl
/-! ### walked: a list, a tuple, a text -/
def anyL : D → Option (List D)
  | .lst ds => some ds
  | .scr ns => some (ns.map .int)
  | .tup ds => some ds
  | .str s => some (s.map fun c => .str [c])
  | _ => none
def iAny (f : M D) : M (List D) := fun r => (f r).bind fun d => rM (anyL d)
theorem PI.or {X : Cx} {tg e : Expr} {t t' : TI} (h : PI X tg e t) (h' : PI X tg e t') : PI X tg e fun σ H R => t σ H R ∨ t' σ H R :=
  ⟨fun pins s σ H Q I w => w.elim (h.run pins s σ H Q I) (h'.run pins s σ H Q I)⟩
theorem VI.any (h : VO G N S .z ms e f) : VI G N S ms0 ms tg e (iAny f) := by
  refine fun R a W t => PI.imp (PI.or ((VI.lst (tg := tg) h.vb) R a W t) (PI.or ((VI.tup (tg := tg) h) R a W t) ((VI.str (bs := ms0) (tg := tg) h) R a W t))) fun σ H Q ⟨ρ, H0, c, l, o⟩ => ?_
  cases hf : f ρ with
  | ok d r =>
    have e1 : iAny f ρ = rM (anyL d) r := by unfold iAny; rw [hf]; rfl
    rw [e1] at o
    cases d with
    | lst ds => exact .inl ⟨ρ, H0, c, l, by unfold iLst; rw [hf]; exact o⟩
    | scr ds => exact .inl ⟨ρ, H0, c, l, by unfold iLst; rw [hf]; exact o⟩
    | tup ds => exact .inr (.inl ⟨ρ, H0, c, l, by unfold iTup; rw [hf]; exact o⟩)
    | str ds => exact .inr (.inr ⟨ρ, H0, c, l, by unfold iStrs; rw [hf]; exact o⟩)
    | _ => exact o.elim
  | exc n ns vs r => exact .inl ⟨ρ, H0, c, l, by unfold iLst; unfold iAny at o; rw [hf] at o ⊢; exact o⟩
  | bad => exact .inl ⟨ρ, H0, c, l, by unfold iLst; unfold iAny at o; rw [hf] at o ⊢; exact o⟩
end
end Vm
set_option Elab.async false
set_option linter.all false
set_option maxRecDepth 100000
set_option maxHeartbeats 4000000
namespace Vm
open L2
/-! ### the readings, applied -/
section
variable {α : Type} (s0 : Sl) (r : En) (f fa fb : M D) (fs : M (List D)) (fi : M (List D)) (g g1 g2 gb : M Fl) (gt : D → M Fl) (o : D → D → Option D) (oa : List D → Option D) (os : D → Option Int → Option Int → Option D) (i : Nat) (m : Md) (d : D) (ds : List D)
/-- a number goes on -/
def onI (k : Int → M α) (d : D) : M α := fun r => match d with
  | .int i => k i r
  | _ => .bad
@[simp] theorem onI_int (k : Int → M α) (j : Int) : onI k (.int j) r = k j r := rfl
@[simp] theorem eC_ap : eC d (s0 :: r) = .ok d (s0 :: r) := rfl
def evS : Sl → M D
  | some (.z, d) => fun r => .ok d r
  | some (.o _, d) => fun r => if atom d = true then .ok d r else .bad
  | none => fun _ => .bad
def ebS : Sl → M D
  | some (.z, d) => fun r => .ok d r
  | some (.o (.all .z), d) => fun r => if lend d = true then .ok d r else .bad
  | _ => fun _ => .bad
theorem eVar_def : eVar i r = evS (getS r i) r := by
  unfold eVar evS
  cases getS r i with
  | none => rfl
  | some p =>
    obtain ⟨m, d⟩ := p
    cases m <;> rfl
theorem eBor_def : eBor i r = ebS (getS r i) r := by
  unfold eBor ebS
  cases getS r i with
  | none => rfl
  | some p =>
    obtain ⟨m, d⟩ := p
    cases m with
    | z => rfl
    | o k => cases k with
      | all m => cases m <;> rfl
      | one => rfl
@[simp] theorem eVar_ap : eVar i (s0 :: r) = evS (getS (s0 :: r) i) (s0 :: r) := eVar_def _ _
@[simp] theorem eBor_ap : eBor i (s0 :: r) = ebS (getS (s0 :: r) i) (s0 :: r) := eBor_def _ _
@[simp] theorem evS_z : evS (some (.z, d)) r = .ok d r := rfl
@[simp] theorem evS_o (k : Kd) : evS (some (.o k, d)) r = if atom d = true then .ok d r else .bad := rfl
@[simp] theorem ebS_z : ebS (some (.z, d)) r = .ok d r := rfl
@[simp] theorem ebS_o : ebS (some (.o (.all .z), d)) r = if lend d = true then .ok d r else .bad := rfl
@[simp] theorem lend_lst : lend (.lst ds) = true := rfl
@[simp] theorem fOp2_ap : fOp2 o fa fb (s0 :: r) = (fa (s0 :: r)).bind fun x r => (fb r).bind fun y r => rM (o x y) r := rfl
@[simp] theorem fNil_ap : fNil (s0 :: r) = .ok [] (s0 :: r) := rfl
@[simp] theorem fCons_ap : fCons f fs (s0 :: r) = (f (s0 :: r)).bind fun d r => (fs r).bind fun ds r => .ok (d :: ds) r := rfl
@[simp] theorem fLst_ap : fLst fs (s0 :: r) = (fs (s0 :: r)).bind fun ds r => .ok (.lst ds) r := rfl
@[simp] theorem fTup_ap : fTup fs (s0 :: r) = (fs (s0 :: r)).bind fun ds r => .ok (.tup ds) r := rfl
/-- a truth goes on -/
def onB (k : Bool → M α) (d : D) : M α := fun r => match d with
  | .bl b => k b r
  | _ => .bad
@[simp] theorem onB_bl (k : Bool → M α) (b : Bool) : onB k (.bl b) r = k b r := rfl
@[simp] theorem fB_ap : fB f (s0 :: r) = (f (s0 :: r)).bind fun d r => onB (fun b r => .ok (.bl b) r) d r := by
  unfold fB
  congr 1
@[simp] theorem fAnd_ap : fAnd fa fb (s0 :: r) = (fa (s0 :: r)).bind fun d r => onB (fun b r => if b = true then fb r else .ok (.bl false) r) d r := by
  unfold fAnd
  congr 1
  funext d r
  cases d with
  | bl b => cases b <;> rfl
  | _ => rfl
@[simp] theorem fOr_ap : fOr fa fb (s0 :: r) = (fa (s0 :: r)).bind fun d r => onB (fun b r => if b = true then .ok (.bl true) r else fb r) d r := by
  unfold fOr
  congr 1
  funext d r
  cases d with
  | bl b => cases b <;> rfl
  | _ => rfl
@[simp] theorem fNot_ap : fNot fa (s0 :: r) = (fa (s0 :: r)).bind fun d r => onB (fun b r => .ok (.bl !b) r) d r := by
  unfold fNot
  congr 1
@[simp] theorem fIf_ap (ft : M D) (ga gb : M α) : fIf ft ga gb (s0 :: r) = (ft (s0 :: r)).bind fun d r => onB (fun b r => if b = true then ga r else gb r) d r := by
  unfold fIf
  congr 1
  funext d r
  cases d with
  | bl b => cases b <;> rfl
  | _ => rfl
@[simp] theorem fNeg_ap : fNeg fa (s0 :: r) = (fa (s0 :: r)).bind fun d r => onI (fun i r => .ok (.int (-i)) r) d r := rfl
@[simp] theorem fA_ap : fA oa fs (s0 :: r) = (fs (s0 :: r)).bind fun ds r => rM (oa ds) r := rfl
@[simp] theorem fIsi_ap (T : PyT) : fIsi T f (s0 :: r) = (f (s0 :: r)).bind fun d r => rM ((isT T d).map .bl) r := rfl
@[simp] theorem fNoP_ap : fNoP (s0 :: r) = .ok none (s0 :: r) := rfl
@[simp] theorem fPart_ap : fPart f (s0 :: r) = (f (s0 :: r)).bind fun d r => onI (fun i r => .ok (some i) r) d r := rfl
@[simp] theorem fSl_ap (fl fh : M (Option Int)) : fSl os f fl fh (s0 :: r) = (f (s0 :: r)).bind fun d r => (fl r).bind fun lo r => (fh r).bind fun hi r => rM (os d lo hi) r := rfl
/-- a statement's end goes on -/
def onF (k : M Fl) (fl : Fl) : M Fl := fun r => match fl with
  | .nx => k r
  | .bk => .ok .bk r
  | .ct => .ok .ct r
  | .rt d => .ok (.rt d) r
@[simp] theorem onF_nx (k : M Fl) : onF k .nx r = k r := rfl
@[simp] theorem onF_bk (k : M Fl) : onF k .bk r = .ok .bk r := rfl
@[simp] theorem onF_ct (k : M Fl) : onF k .ct r = .ok .ct r := rfl
@[simp] theorem onF_rt (k : M Fl) : onF k (.rt d) r = .ok (.rt d) r := rfl
@[simp] theorem gSeq_ap : gSeq g1 g2 (s0 :: r) = (g1 (s0 :: r)).bind (onF g2) := rfl
@[simp] theorem gNx_ap : gNx (s0 :: r) = .ok .nx (s0 :: r) := rfl
@[simp] theorem gBk_ap : gBk (s0 :: r) = .ok .bk (s0 :: r) := rfl
@[simp] theorem gCt_ap : gCt (s0 :: r) = .ok .ct (s0 :: r) := rfl
@[simp] theorem gDo_ap : gDo f (s0 :: r) = (f (s0 :: r)).bind fun _ r => .ok .nx r := rfl
@[simp] theorem gRet_ap : gRet f (s0 :: r) = (f (s0 :: r)).bind fun d r => .ok (.rt d) r := rfl
@[simp] theorem gRetN_ap : gRetN (s0 :: r) = .ok (.rt .non) (s0 :: r) := rfl
@[simp] theorem gSet_ap : gSet i m f (s0 :: r) = (f (s0 :: r)).bind fun d r => .ok .nx (r.set i (some (m, d))) := rfl
@[simp] theorem gAsg_ap : gAsg gt f (s0 :: r) = (f (s0 :: r)).bind gt := rfl
@[simp] theorem tName_ap : tName i d (s0 :: r) = .ok .nx ((s0 :: r).set i (some (.z, d))) := rfl
@[simp] theorem tNil_ap : tNil [] (s0 :: r) = .ok .nx (s0 :: r) := rfl
@[simp] theorem tCon_ap (gs : List D → M Fl) : tCon gt gs (d :: ds) (s0 :: r) = (gt d (s0 :: r)).bind (onF (gs ds)) := rfl
@[simp] theorem tTupl_ap (n : Nat) (gs : List D → M Fl) : tTupl n gs (.tup ds) (s0 :: r) = if ds.length = n then gs ds (s0 :: r) else .bad := by
  show (if ds.length = n then gs ds else fun _ => Res.bad) (s0 :: r) = _
  split <;> rfl
@[simp] theorem gFor_ap : gFor fi gt gb (s0 :: r) = (fi (s0 :: r)).bind fun ds r => gLoop gt gb ds r := rfl
@[simp] theorem lpK_nx (k : M Fl) : lpK k .nx r = k r := rfl
@[simp] theorem lpK_ct (k : M Fl) : lpK k .ct r = k r := rfl
@[simp] theorem lpK_bk (k : M Fl) : lpK k .bk r = .ok .nx r := rfl
@[simp] theorem lpK_rt (k : M Fl) : lpK k (.rt d) r = .ok (.rt d) r := rfl
@[simp] theorem iAny_ap : iAny f (s0 :: r) = (f (s0 :: r)).bind fun d r => rM (anyL d) r := rfl
@[simp] theorem iLst_ap : iLst f (s0 :: r) = (f (s0 :: r)).bind fun d r => rM (asLst d) r := by
  unfold iLst
  congr 1
  funext d r
  cases d <;> rfl
@[simp] theorem iEnm_ap : iEnm f (s0 :: r) = (f (s0 :: r)).bind fun d r => rM ((asLst d).map (enumD 0)) r := rfl
@[simp] theorem iZp_ap : iZp fa fb (s0 :: r) = (fa (s0 :: r)).bind fun x r => (fb r).bind fun y r => rM ((asLst x).bind fun xs => (asLst y).map fun ys => zipD xs ys) r := rfl
@[simp] theorem iRevd_ap : iRevd f (s0 :: r) = (f (s0 :: r)).bind fun d r => rM ((asLst d).map List.reverse) r := rfl
@[simp] theorem iRng_ap : iRng f (s0 :: r) = (f (s0 :: r)).bind fun d r => onI (fun j r => if j ≤ 16777216 ∧ -4611686018427387904 ≤ j then .ok (rngD 0 j.toNat) r else .bad) d r := by
  unfold iRng
  congr 1
@[simp] theorem iRng2_ap : iRng2 fa fb (s0 :: r) = (fa (s0 :: r)).bind fun x r => (fb r).bind fun y r => onI (fun i r => onI (fun j r => if j - i ≤ 16777216 ∧ -2305843009213693952 ≤ i ∧ i ≤ 2305843009213693952 ∧ -2305843009213693952 ≤ j then .ok (rngD i (j - i).toNat) r else .bad) y r) x r := by
  unfold iRng2
  congr 1
  funext x r
  congr 1
  funext y r
  cases x <;> cases y <;> rfl
@[simp] theorem anyL_lst : anyL (.lst ds) = some ds := rfl
@[simp] theorem anyL_tup : anyL (.tup ds) = some ds := rfl
@[simp] theorem anyL_str (s : List Nat) : anyL (.str s) = some (s.map fun c => .str [c]) := rfl
@[simp] theorem anyL_scr (s : List Int) : anyL (.scr s) = some (s.map .int) := rfl
@[simp] theorem asLst_lst : asLst (.lst ds) = some ds := rfl
@[simp] theorem asLst_scr (s : List Int) : asLst (.scr s) = some (s.map .int) := rfl
@[simp] theorem fCall_ap (F : M D) (ls : List (Option Nat)) : fCall F ls fs (s0 :: r) = (fs (s0 :: r)).bind fun ds r => match F (mkArgs ls ds r) with
  | .ok d rp => .ok d (putBack ls rp r)
  | .exc n ns vs rp => .exc n ns vs (putBack ls rp r)
  | .bad => .bad := rfl
@[simp] theorem mkArgs_nil : mkArgs [] ds r = [] := rfl
@[simp] theorem mkArgs_z (ls : List (Option Nat)) : mkArgs (none :: ls) (d :: ds) r = some (.z, d) :: mkArgs ls ds r := rfl
@[simp] theorem mkArgs_l (ls : List (Option Nat)) : mkArgs (some i :: ls) ds r = getS r i :: mkArgs ls ds r := rfl
@[simp] theorem putBack_nil (rp : En) : putBack [] rp r = r := rfl
@[simp] theorem putBack_z (ls : List (Option Nat)) (rp : En) : putBack (none :: ls) rp r = putBack ls rp.tail r := rfl
@[simp] theorem putBack_l (ls : List (Option Nat)) (rp : En) : putBack (some i :: ls) rp r = putBack ls rp.tail (r.set i (getS rp 0)) := rfl
@[simp] theorem fLc_ap (own : List Nat) (ft fe : M D) : fLc own fi gt ft fe (s0 :: r) = (fi (s0 :: r)).bind fun ds r => (gLc own gt ft fe ds (wipeE own r)).bind fun ys r' => .ok (.lst ys) (restE r own r') := rfl
@[simp] theorem lcT_ap (own : List Nat) (fe : M D) (k : M (List D)) (b : Bool) : lcT own fe k (.bl b) r = if b = true then (noX (fe r)).bind fun y r => (k (wipeE own r)).bind fun ys r => .ok (y :: ys) r else k (wipeE own r) := by
  cases b <;> rfl
@[simp] theorem wipeE_nil : wipeE [] r = r := rfl
@[simp] theorem wipeE_cons (is : List Nat) : wipeE (i :: is) r = (wipeE is r).set i none := rfl
/-- what is given back -/
def bkS : Sl → Sl
  | some (.z, d) => some (.z, d)
  | _ => none
@[simp] theorem bkS_none : bkS none = none := rfl
@[simp] theorem bkS_z : bkS (some (.z, d)) = some (.z, d) := rfl
@[simp] theorem restE_nil (r0 : En) : restE r0 [] r = r := rfl
@[simp] theorem restE_cons (r0 : En) (is : List Nat) : restE r0 (i :: is) r = (restE r0 is r).set i (bkS (getS r0 i)) := by
  show (restE r0 is r).set i _ = _
  congr 1
/-- a def's end -/
def onR (io : List Bool) : Res Fl → Res D
  | .ok (.rt d) r => .ok d (ioEnd io 0 r)
  | .ok .nx r => .ok .non (ioEnd io 0 r)
  | .ok _ _ => .bad
  | .exc c ns vs r => .exc c ns vs (ioEnd io 0 r)
  | .bad => .bad
@[simp] theorem onR_rt (io : List Bool) : onR io (.ok (.rt d) r) = .ok d (ioEnd io 0 r) := rfl
@[simp] theorem onR_nx (io : List Bool) : onR io (.ok .nx r) = .ok .non (ioEnd io 0 r) := rfl
@[simp] theorem onR_bad (io : List Bool) : onR io .bad = .bad := rfl
@[simp] theorem onR_exc (io : List Bool) (c : PySem.Str) (ns : List PySem.Str) (vs : List D) : onR io (.exc c ns vs r) = .exc c ns vs (ioEnd io 0 r) := rfl
theorem fnRun_ap (io : List Bool) (n : Nat) : fnRun io n g r = onR io (g (r ++ List.replicate n none)) := by
  unfold fnRun
  cases g (r ++ List.replicate n none) with
  | ok fl r => cases fl <;> rfl
  | _ => rfl
end
/-! ### cases -/
section
variable {α β : Type} {x y : Res α} {d d' : D} {r r' : En} {fl fl' : Fl}
@[simp] theorem bind_ite {c : Prop} [Decidable c] {f : α → M β} : (if c then x else y).bind f = if c then x.bind f else y.bind f := by split <;> rfl
@[simp] theorem rM_ite {c : Prop} [Decidable c] {a b : Option α} : rM (if c then a else b) r = if c then rM a r else rM b r := by split <;> rfl
@[simp] theorem noX_ite {c : Prop} [Decidable c] : noX (if c then x else y) = if c then noX x else noX y := by split <;> rfl
end
/-! ### equality, by kinds -/
@[simp] theorem plain_non : plain .non = true := rfl
@[simp] theorem plain_bl (b : Bool) : plain (.bl b) = true := rfl
@[simp] theorem plain_int (b : Int) : plain (.int b) = true := rfl
@[simp] theorem plain_str (b : List Nat) : plain (.str b) = true := rfl
@[simp] theorem plain_tup (b : List D) : plain (.tup b) = plains b := rfl
@[simp] theorem plain_lst (b : List D) : plain (.lst b) = plains b := rfl
@[simp] theorem plain_dct (b c : List D) : plain (.dct b c) = false := rfl
@[simp] theorem plains_nil : plains [] = true := rfl
@[simp] theorem plains_cons (d : D) (ds : List D) : plains (d :: ds) = (plain d && plains ds) := rfl
@[simp] theorem dep_non : dep .non = 0 := rfl
@[simp] theorem dep_bl (b : Bool) : dep (.bl b) = 0 := rfl
@[simp] theorem dep_int (b : Int) : dep (.int b) = 0 := rfl
@[simp] theorem dep_str (b : List Nat) : dep (.str b) = 0 := rfl
@[simp] theorem dep_tup (b : List D) : dep (.tup b) = deps b + 1 := rfl
@[simp] theorem dep_lst (b : List D) : dep (.lst b) = deps b + 1 := rfl
@[simp] theorem deps_nil : deps [] = 0 := rfl
@[simp] theorem deps_cons (d : D) (ds : List D) : deps (d :: ds) = max (dep d) (deps ds) := rfl
@[simp] theorem eqD_int (i j : Int) : eqD (.int i) (.int j) = (i == j) := rfl
@[simp] theorem eqD_bl (i j : Bool) : eqD (.bl i) (.bl j) = (i == j) := rfl
@[simp] theorem eqD_str (i j : List Nat) : eqD (.str i) (.str j) = (i == j) := rfl
@[simp] theorem eqD_lst (i j : List D) : eqD (.lst i) (.lst j) = eqDs i j := rfl
@[simp] theorem eqD_tup (i j : List D) : eqD (.tup i) (.tup j) = eqDs i j := rfl
@[simp] theorem eqD_is (i : Int) (j : List Nat) : eqD (.int i) (.str j) = false := rfl
@[simp] theorem eqD_si (i : Int) (j : List Nat) : eqD (.str j) (.int i) = false := rfl
@[simp] theorem eqD_ls (i : List D) (j : List Nat) : eqD (.lst i) (.str j) = false := rfl
@[simp] theorem eqD_ts (i : List D) (j : List Nat) : eqD (.tup i) (.str j) = false := rfl
@[simp] theorem eqD_sl (i : List D) (j : List Nat) : eqD (.str j) (.lst i) = false := rfl
@[simp] theorem eqD_st (i : List D) (j : List Nat) : eqD (.str j) (.tup i) = false := rfl
@[simp] theorem eqDs_nil : eqDs [] [] = true := rfl
@[simp] theorem eqDs_nc (d : D) (ds : List D) : eqDs [] (d :: ds) = false := rfl
@[simp] theorem eqDs_cn (d : D) (ds : List D) : eqDs (d :: ds) [] = false := rfl
@[simp] theorem eqDs_cons (d e : D) (ds es : List D) : eqDs (d :: ds) (e :: es) = (eqD d e && eqDs ds es) := rfl
@[simp] theorem oEq_str (s t : List Nat) : oEq (.str s) (.str t) = some (.bl (s == t)) := rfl
@[simp] theorem oEq_int (s t : Int) : oEq (.int s) (.int t) = some (.bl (s == t)) := rfl
@[simp] theorem oEq_bl (s t : Bool) : oEq (.bl s) (.bl t) = some (.bl (s == t)) := rfl
@[simp] theorem oNe_str (s t : List Nat) : oNe (.str s) (.str t) = some (.bl (!(s == t))) := rfl
@[simp] theorem oNe_int (s t : Int) : oNe (.int s) (.int t) = some (.bl (!(s == t))) := rfl
@[simp] theorem oNe_bl (s t : Bool) : oNe (.bl s) (.bl t) = some (.bl (!(s == t))) := rfl
@[simp] theorem oLtI_int (i j : Int) : oLtI (.int i) (.int j) = some (.bl (decide (i < j))) := rfl
@[simp] theorem oLeI_int (i j : Int) : oLeI (.int i) (.int j) = some (.bl (decide (i ≤ j))) := rfl
@[simp] theorem oGtI_int (i j : Int) : oGtI (.int i) (.int j) = some (.bl (decide (j < i))) := rfl
@[simp] theorem oGeI_int (i j : Int) : oGeI (.int i) (.int j) = some (.bl (decide (j ≤ i))) := rfl
@[simp] theorem oSub_int (i j : Int) : oSub (.int i) (.int j) = some (.int (i - j)) := rfl
@[simp] theorem oAdd_int (i j : Int) : oAdd (.int i) (.int j) = some (.int (i + j)) := rfl
@[simp] theorem oAdd_str (i j : List Nat) : oAdd (.str i) (.str j) = if i.length + j.length ≤ 16777216 then some (.str (i ++ j)) else none := by simp [oAdd]
@[simp] theorem oAdd_lst (i j : List D) : oAdd (.lst i) (.lst j) = if i.length + j.length ≤ 16777216 then some (.lst (i ++ j)) else none := by simp [oAdd]
@[simp] theorem oAdd_tup (i j : List D) : oAdd (.tup i) (.tup j) = if i.length + j.length ≤ 16777216 then some (.tup (i ++ j)) else none := by simp [oAdd]
@[simp] theorem oFdiv_int (i j : Int) : oFdiv (.int i) (.int j) = if divOk i j = true then some (.int (i / j)) else none := rfl
@[simp] theorem oMod_int (i j : Int) : oMod (.int i) (.int j) = if 0 < j then some (.int (i % j)) else none := by simp [oMod, oI2, modOk]
@[simp] theorem oMul_int (i j : Int) : oMul (.int i) (.int j) = if mulOk i j = true then some (.int (i * j)) else none := rfl
@[simp] theorem oLen_str (s : List Nat) : oLen [.str s] = some (.int s.length) := rfl
@[simp] theorem oLen_lst (s : List D) : oLen [.lst s] = some (.int s.length) := rfl
@[simp] theorem oLen_tup (s : List D) : oLen [.tup s] = some (.int s.length) := rfl
@[simp] theorem oLen_scr (s : List Int) : oLen [.scr s] = some (.int s.length) := rfl
@[simp] theorem oIx_lst (s : List D) (i : Int) : oIx (.lst s) (.int i) = atI s i := rfl
@[simp] theorem oIx_tup (s : List D) (i : Int) : oIx (.tup s) (.int i) = atI s i := rfl
@[simp] theorem oIx_str (s : List Nat) (i : Int) : oIx (.str s) (.int i) = (atI s i).map fun c => .str [c] := rfl
@[simp] theorem oIx_scr (s : List Int) (i : Int) : oIx (.scr s) (.int i) = (atI s i).map .int := rfl
@[simp] theorem oCut_str (s : List Nat) (lo hi : Option Int) : oCut (.str s) lo hi = some (.str (cutL s lo hi)) := rfl
@[simp] theorem oCut_lst (s : List D) (lo hi : Option Int) : oCut (.lst s) lo hi = some (.lst (cutL s lo hi)) := rfl
@[simp] theorem oCut_tup (s : List D) (lo hi : Option Int) : oCut (.tup s) lo hi = some (.tup (cutL s lo hi)) := rfl
@[simp] theorem oCut_scr (s : List Int) (lo hi : Option Int) : oCut (.scr s) lo hi = some (.lst (cutL (s.map .int) lo hi)) := rfl
@[simp] theorem oIn_tup (d : D) (cs : List D) : oIn d (.tup cs) = if inOk d cs = true then some (.bl (cs.any fun y => eqD y d)) else none := rfl
@[simp] theorem oIn_lst (d : D) (cs : List D) : oIn d (.lst cs) = if inOk d cs = true then some (.bl (cs.any fun y => eqD y d)) else none := rfl
@[simp] theorem oIn_str (c : Nat) (s : List Nat) : oIn (.str [c]) (.str s) = some (.bl (decide (c ∈ s))) := rfl
@[simp] theorem oNotIn_tup (d : D) (cs : List D) : oNotIn d (.tup cs) = if inOk d cs = true then some (.bl (!(cs.any fun y => eqD y d))) else none := by
  unfold oNotIn
  rw [oIn_tup]
  by_cases h : inOk d cs = true
  · rw [if_pos h, if_pos h]
  · rw [if_neg h, if_neg h]
@[simp] theorem oNotIn_lst (d : D) (cs : List D) : oNotIn d (.lst cs) = if inOk d cs = true then some (.bl (!(cs.any fun y => eqD y d))) else none := by
  unfold oNotIn
  rw [oIn_lst]
  by_cases h : inOk d cs = true
  · rw [if_pos h, if_pos h]
  · rw [if_neg h, if_neg h]
@[simp] theorem oNotIn_str (c : Nat) (s : List Nat) : oNotIn (.str [c]) (.str s) = some (.bl (!decide (c ∈ s))) := rfl
/-- texts of one sign, atoms: they may be compared -/
theorem plains_of {ds : List D} (h : ∀ d ∈ ds, plain d = true) : plains ds = true := by
  induction ds with
  | nil => rfl
  | cons d ds ih => rw [plains_cons, h d List.mem_cons_self, ih fun e he => h e (List.mem_cons_of_mem _ he)]; rfl
theorem deps_of {ds : List D} {n : Nat} (h : ∀ d ∈ ds, dep d ≤ n) : deps ds ≤ n := by
  induction ds with
  | nil => exact Nat.zero_le _
  | cons d ds ih => rw [deps_cons]; exact Nat.max_le.mpr ⟨h d List.mem_cons_self, ih fun e he => h e (List.mem_cons_of_mem _ he)⟩
theorem eqDs_empty (ds : List D) : eqDs ds [] = ds.isEmpty := by cases ds <;> rfl
theorem oEq_nil {ds : List D} (h : plains ds = true) : oEq (.lst ds) (.lst []) = some (.bl ds.isEmpty) := by
  unfold oEq eqOk
  simp [h, eqDs_empty]
@[simp] theorem bls_map (f : D → Bool) : ∀ ds : List D, bls (ds.map fun d => .bl (f d)) = some (ds.map f)
  | [] => rfl
  | d :: ds => by rw [List.map_cons, List.map_cons, bls, bls_map f ds]; rfl
theorem cutL_len {α : Type} (xs : List α) (lo hi : Option Int) : (cutL xs lo hi).length ≤ xs.length := by
  unfold cutL
  rw [List.length_take, List.length_drop]
  omega
theorem repS_length (s : List Nat) (n : Nat) : (repS s n).length = n * s.length := repS_len s n
@[simp] theorem oMul_str (s : List Nat) (n : Int) : oMul (.str s) (.int n) = if 0 ≤ n ∧ n ≤ 1000 ∧ s.length ≤ 1000 then some (.str (repS s n.toNat)) else none := by
  simp [oMul, and_assoc]
@[simp] theorem divOk_s (i j : Int) (h : 0 < j) (h2 : j < 4611686018427387904) : divOk i j = true := by
  unfold divOk
  rw [decide_eq_true h, Bool.true_and]
  refine decide_eq_true ?_
  have h3 : j.natAbs ≠ 0 := by omega
  have : j.natAbs.log2 < 62 := (Nat.log2_lt h3).mpr (by omega)
  omega
@[simp] theorem mulOk_r (i j : Int) (h : j.natAbs < 18446744073709551616) : mulOk i j = true := by
  unfold mulOk
  rw [decide_eq_true h]; simp
@[simp] theorem mulOk_l (i j : Int) (h : i.natAbs < 18446744073709551616) : mulOk i j = true := by
  unfold mulOk
  rw [decide_eq_true h]; simp
theorem atI_of {α : Type} {xs : List α} {i : Int} (h0 : 0 ≤ i) (h1 : i < xs.length) : ∃ x, L2.atI xs i = some x ∧ x ∈ xs := by
  obtain ⟨n, rfl⟩ := Int.eq_ofNat_of_zero_le h0
  have hn : n < xs.length := by omega
  exact ⟨xs[n], L2.atI_nat (j := n) (List.getElem?_eq_getElem hn), List.getElem_mem hn⟩
@[simp] theorem gLoop_nil (gt : D → M Fl) (gb : M Fl) (r : En) : gLoop gt gb [] r = .ok .nx r := rfl
@[simp] theorem gLoop_cons (gt : D → M Fl) (gb : M Fl) (d : D) (ds : List D) (r : En) : gLoop gt gb (d :: ds) r = (gt d r).bind fun _ r => (gb r).bind (lpK (gLoop gt gb ds)) := rfl
@[simp] theorem gLc_nil (own : List Nat) (gt : D → M Fl) (ft fe : M D) (r : En) : gLc own gt ft fe [] r = .ok [] r := rfl
@[simp] theorem gLc_cons (own : List Nat) (gt : D → M Fl) (ft fe : M D) (d : D) (ds : List D) (r : En) : gLc own gt ft fe (d :: ds) r = (noX (gt d r)).bind fun _ r => (noX (ft r)).bind (lcT own fe (gLc own gt ft fe ds)) := rfl
@[simp] theorem isT_bb (b : Bool) : isT .bool (.bl b) = some true := rfl
@[simp] theorem oIs_bb (a b : Bool) : oIs (.bl a) (.bl b) = some (.bl (decide (a = b))) := rfl
/-! ### loops by an invariant -/
theorem gLoop_inv {gt : D → M Fl} {gb : M Fl} (I : Nat → En → Prop) : ∀ (ds : List D) (k : Nat), (∀ i d r, ds[i]? = some d → I (k + i) r → ∃ r', (gt d r).bind (fun _ r => gb r) = .ok .nx r' ∧ I (k + i + 1) r') → ∀ r, I k r → ∃ r', gLoop gt gb ds r = .ok .nx r' ∧ I (k + ds.length) r'
  | [], k, _, r, h => ⟨r, rfl, h⟩
  | d :: ds, k, st, r, h => by
    obtain ⟨r1, e1, h1⟩ := st 0 d r rfl h
    obtain ⟨r2, e2, h2⟩ := gLoop_inv I ds (k + 1) (fun i d' r' hd hi => by
      have := st (i + 1) d' r' (by simpa using hd) (by rw [show k + (i + 1) = k + 1 + i by omega]; exact hi)
      rw [show k + (i + 1) = k + 1 + i by omega] at this
      exact this) r1 h1
    refine ⟨r2, ?_, by rw [List.length_cons, show k + (ds.length + 1) = k + 1 + ds.length by omega]; exact h2⟩
    have e0 : gLoop gt gb (d :: ds) r = ((gt d r).bind fun _ r => gb r).bind (lpK (gLoop gt gb ds)) := by
      show (gt d r).bind (fun _ r => (gb r).bind (lpK (gLoop gt gb ds))) = _
      cases gt d r <;> rfl
    rw [e0, e1]
    exact e2
/-- gathered: each one tested and told by plain functions -/
theorem gLc_map {own : List Nat} {gt : D → M Fl} {ft fe : M D} {p : D → Bool} {h : D → D} (W : En → Prop) : ∀ (ds : List D), (∀ d ∈ ds, ∀ r, W r → ∃ r1 r2, (noX (gt d r)) = .ok .nx r1 ∧ noX (ft r1) = .ok (.bl (p d)) r2 ∧ (p d = false → W (wipeE own r2)) ∧ (p d = true → ∃ r3, noX (fe r2) = .ok (h d) r3 ∧ W (wipeE own r3))) →
    ∀ r, W r → ∃ r', gLc own gt ft fe ds r = .ok ((ds.filter p).map h) r' ∧ W r'
  | [], _, r, w => ⟨r, rfl, w⟩
  | d :: ds, st, r, w => by
    obtain ⟨r1, r2, e1, e2, hf, ht⟩ := st d List.mem_cons_self r w
    have ih := gLc_map W ds (fun d' hd => st d' (List.mem_cons_of_mem _ hd))
    have e0 : gLc own gt ft fe (d :: ds) r = lcT own fe (gLc own gt ft fe ds) (.bl (p d)) r2 := by
      show (noX (gt d r)).bind (fun _ r => (noX (ft r)).bind (lcT own fe (gLc own gt ft fe ds))) = _
      rw [e1, bind_ok, e2, bind_ok]
    rw [e0, lcT_ap]
    cases hp : p d with
    | false =>
      rw [if_neg Bool.false_ne_true]
      obtain ⟨r', e3, w'⟩ := ih _ (hf hp)
      exact ⟨r', by rw [e3, List.filter_cons, hp]; rfl, w'⟩
    | true =>
      rw [if_pos rfl]
      obtain ⟨r3, e3, w3⟩ := ht hp
      obtain ⟨r', e4, w'⟩ := ih _ w3
      exact ⟨r', by rw [e3, bind_ok, e4, bind_ok, List.filter_cons, hp]; rfl, w'⟩
end Vm
set_option Elab.async false
set_option linter.all false
set_option maxRecDepth 100000
set_option maxHeartbeats 4000000
namespace Vm
open PySem PySem.Spec PyProof.Rows L2
def t_abcdefghijklmnopqrstuvwxyz : List Nat := [97, 98, 99, 100, 101, 102, 103, 104, 105, 106, 107, 108, 109, 110, 111, 112, 113, 114, 115, 116, 117, 118, 119, 120, 121, 122]
def t_any : List Nat := [97, 110, 121]
def t_none : List Nat := [110, 111, 110, 101]
def t_blank : List Nat := [98, 108, 97, 110, 107]
def t_new : List Nat := [110, 101, 119]
def t_5 : List Nat := [65, 48, 32, 45, 95, 91, 90, 57, 46, 123, 98, 124, 10]
def t_blanks : List Nat := [98, 108, 97, 110, 107, 115]
def t_bla : List Nat := [98, 108, 97]
def t_Any : List Nat := [65, 110, 121]
def t_news : List Nat := [110, 101, 119, 115]
def t_one : List Nat := [111, 110, 101]
def top (i : Nat) : Stmt := PySem.Challenge.pw_fitmost_k11_names.main.body.getD i (.Pass ⟨0, 0, 0, 0⟩)
def q_is_name : He.DefD := ⟨("is_name", none), "is_name", "is_name", defArgs (top 4), defBody (top 4), defScope (top 4), [], []⟩
def q__law_pick : He.DefD := ⟨("_law_pick", none), "_law_pick", "_law_pick", defArgs (top 6), defBody (top 6), defScope (top 6), [], []⟩
def q__law_word : He.DefD := ⟨("_law_word", none), "_law_word", "_law_word", defArgs (top 7), defBody (top 7), defScope (top 7), [], []⟩
def q__law_thing : He.DefD := ⟨("_law_thing", none), "_law_thing", "_law_thing", defArgs (top 8), defBody (top 8), defScope (top 8), [], []⟩
def q__law_due : He.DefD := ⟨("_law_due", none), "_law_due", "_law_due", defArgs (top 9), defBody (top 9), defScope (top 9), [], []⟩
def q_law : He.DefD := ⟨("law", none), "law", "law", defArgs (top 10), defBody (top 10), defScope (top 10), [], []⟩
def fnL : List He.DefD := [q_is_name, q__law_pick, q__law_word, q__law_thing, q__law_due, q_law]
def faL : List He.Fa := [.free "isinstance", .free "str", .free "len", .free "all", .glo "is_name", .glo "_law_pick", .free "range", .glo "_law_word", .glo "_law_thing", .glo "_law_due", .free "enumerate", .free "bool", .glo "law"]
def csL : List (Str × D) := [("LETTERS", (.str t_abcdefghijklmnopqrstuvwxyz)), ("MOST_LETTERS", (.int 8)), ("OTHER_WORDS", (.tup [(.str t_any), (.str t_none), (.str t_blank), (.str t_new), (.str [111, 110])]))]
abbrev YeL (G : GC) : Prop := Ye faL fnL csL G
def F_is_name : M D := fnRun [false] 1 (gSeq (fIf (fOr (fNot (fB (fIsi .str (eVar 0)))) (fOr (fB (fOp2 oEq (eVar 0) (eC (.str [])))) (fB (fOp2 oGtI (fA oLen (fCons (eVar 0) fNil)) (eC (.int 8)))))) (gRet (eC (.bl false))) gNx) (gRet (fAnd (fOp2 oNotIn (eVar 0) (eC (.tup [(.str t_any), (.str t_none), (.str t_blank), (.str t_new), (.str [111, 110])]))) (fA oAll (fCons (fLc [1] (iAny (eVar 0)) (tName 1) ftY (fOp2 oIn (eVar 1) (eC (.str t_abcdefghijklmnopqrstuvwxyz)))) fNil)))))
theorem sc_is_name : FnScope ["thing", "sign"] ["thing"] (defScope (top 4)) := ⟨rfl, rfl, rfl, by decide +kernel, rfl, by decide +kernel, by decide +kernel⟩
theorem ok_is_name {G : GC} (Y : YeL G) : Fx G 1 "is_name" ["thing"] .z F_is_name :=
  Fx.mk' Y 0 4 (d := q_is_name) (k := 0) (N := ["thing", "sign"]) [false] 1
    (VSs.cons (VS.ite (VW.pt (VW.or (VT.not (VT.of (VO.isi .str (Y.free 0) (Y.free 1) (VO.vb (VO.var (i := 0)))))) (VW.or (VT.cp Cm.eq (VO.vb (VO.var (i := 0))) (VO.vb (VO.str (s := [])))) (VW.or1 (VT.cp Cm.gt (VO.vb (VO.len (Y.free 2) (VA.cons (VO.vb (VO.var (i := 0))) VA.nil))) (VO.vb (VO.glob (Y.glob 1)))))))) (VSs.one (VS.ret VO.bl)) VSs.nil) (VSs.one (VS.ret (VO.and (VO.cp Cm.nin (VO.vb (VO.var (i := 0))) (VO.vb (VO.glob (Y.glob 2)))) (VO.one (VO.all (Y.free 3) (VA.cons (VO.vb (VO.frz (VO.lc (me := .z) [("sign", 1)] (VI.any (VO.var (i := 0))) (VG.name (i := 1)) VTs.nil (VO.cp Cm.in_ (VO.vb (VO.var (i := 1))) (VO.vb (VO.glob (Y.glob 0))))))) VA.nil)))))))
    (fun _ _ _ _ _ _ us hl => match us, hl with | [_], _ => rfl) sc_is_name
def F__law_pick : M D := fnRun [false, false] 0 (gRet (fOp2 oIx (fOp2 oAdd (fSl oCut (eVar 0) (fPart (eVar 1)) (fPart (fOp2 oAdd (eVar 1) (eC (.int 1))))) (fLst (fCons (eC (.int 0)) fNil))) (eC (.int 0))))
theorem sc__law_pick : FnScope ["_law_script", "_law_k"] ["_law_script", "_law_k"] (defScope (top 6)) := ⟨rfl, rfl, rfl, by decide +kernel, rfl, by decide +kernel, by decide +kernel⟩
theorem ok__law_pick {G : GC} (Y : YeL G) : Fx G 1 "_law_pick" ["_law_script", "_law_k"] .z F__law_pick :=
  Fx.mk' Y 1 5 (d := q__law_pick) (k := 0) (N := ["_law_script", "_law_k"]) [false, false] 0
    (VSs.one (VS.ret (VO.item (VO.vb (VO.add (VO.vb (VO.cut (VO.vb (VO.var (i := 0))) (VP.some (VO.var (i := 1))) (VP.some (VO.add (VO.vb (VO.var (i := 1))) (VO.vb VO.int))))) (VO.vb (VO.frz (VO.lst (VLs.cons (k := .all .z) VO.int (VLs.nil (k := .all .z)))))))) (VO.vb VO.int))))
    (fun _ _ _ _ _ _ us hl => match us, hl with | [_, _], _ => rfl) sc__law_pick
def F__law_word : M D := fnRun [false] 4 (gSeq (gSet 1 .z (eC (.str t_abcdefghijklmnopqrstuvwxyz))) (gSeq (gSet 2 .z (fOp2 oFdiv (eVar 0) (eC (.int 8)))) (gSeq (gSet 3 .z (eC (.str []))) (gSeq (gFor (iRng (fOp2 oAdd (eC (.int 1)) (fOp2 oMod (eVar 0) (eC (.int 8))))) (tName 4) (gSeq (gSet 3 .z (fOp2 oAdd (eVar 3) (fOp2 oIx (eVar 1) (fOp2 oMod (eVar 2) (eC (.int 26)))))) (gSet 2 .z (fOp2 oFdiv (eVar 2) (eC (.int 26)))))) (gSeq (fIf (fB (fOp2 oIn (eVar 3) (fLst (fCons (eC (.str t_any)) (fCons (eC (.str t_none)) (fCons (eC (.str t_blank)) (fCons (eC (.str t_new)) (fCons (eC (.str [111, 110])) fNil)))))))) (gRet (fOp2 oAdd (eVar 3) (eC (.str [115])))) gNx) (gRet (eVar 3)))))))
theorem sc__law_word : FnScope ["_law_number", "_law_letters", "_law_rest", "_law_found", "_law_k"] ["_law_number"] (defScope (top 7)) := ⟨rfl, rfl, rfl, by decide +kernel, rfl, by decide +kernel, by decide +kernel⟩
theorem ok__law_word {G : GC} (Y : YeL G) : Fx G 1 "_law_word" ["_law_number"] .z F__law_word :=
  Fx.mk' Y 2 7 (d := q__law_word) (k := 0) (N := ["_law_number", "_law_letters", "_law_rest", "_law_found", "_law_k"]) [false] 4
    (VSs.cons (VS.set (i := 1) (m := .z) (VO.str (s := t_abcdefghijklmnopqrstuvwxyz))) (VSs.cons (VS.set (i := 2) (m := .z) (VO.fdiv (VO.vb (VO.var (i := 0))) (VO.vb VO.int))) (VSs.cons (VS.set (i := 3) (m := .z) (VO.str (s := []))) (VSs.cons (VS.for_ (VI.rng (VO.add (VO.vb VO.int) (VO.vb (VO.mod (VO.vb (VO.var (i := 0))) (VO.vb VO.int)))) (Y.free 6)) (VG.name (i := 4)) (VSs.cons (VS.set (i := 3) (m := .z) (VO.add (VO.vb (VO.var (i := 3))) (VO.vb (VO.item (VO.vb (VO.var (i := 1))) (VO.vb (VO.mod (VO.vb (VO.var (i := 2))) (VO.vb VO.int))))))) (VSs.one (VS.set (i := 2) (m := .z) (VO.fdiv (VO.vb (VO.var (i := 2))) (VO.vb VO.int)))))) (VSs.cons (VS.ite (VT.cp Cm.in_ (VO.vb (VO.var (i := 3))) (VO.vb (VO.frz (VO.lst (VLs.cons (k := .all .z) (VO.str (s := t_any)) (VLs.cons (k := .all .z) (VO.str (s := t_none)) (VLs.cons (k := .all .z) (VO.str (s := t_blank)) (VLs.cons (k := .all .z) (VO.str (s := t_new)) (VLs.cons (k := .all .z) (VO.str (s := [111, 110])) (VLs.nil (k := .all .z))))))))))) (VSs.one (VS.ret (VO.add (VO.vb (VO.var (i := 3))) (VO.vb (VO.str (s := [115])))))) VSs.nil) (VSs.one (VS.ret (VO.var (i := 3)))))))))
    (fun _ _ _ _ _ _ us hl => match us, hl with | [_], _ => rfl) sc__law_word
def F__law_thing : M D := fnRun [false] 5 (gSeq (gSet 1 .z (fCall F__law_word [none] (fCons (fOp2 oFdiv (eVar 0) (eC (.int 8))) fNil))) (gSeq (gSet 2 .z (fOp2 oMod (fOp2 oFdiv (eVar 0) (eC (.int 64))) (fA oLen (fCons (eVar 1) fNil)))) (gSeq (gSet 3 .z (fOp2 oIx (eC (.str t_5)) (fOp2 oMod (fOp2 oFdiv (eVar 0) (eC (.int 512))) (eC (.int 13))))) (gSeq (gSet 4 .z (fOp2 oMod (eVar 0) (eC (.int 8)))) (gSeq (fIf (fB (fOp2 oEq (eVar 4) (eC (.int 1)))) (gRet (fOp2 oAdd (fOp2 oAdd (fSl oCut (eVar 1) fNoP (fPart (eVar 2))) (eVar 3)) (fSl oCut (eVar 1) (fPart (eVar 2)) fNoP))) gNx) (gSeq (fIf (fB (fOp2 oEq (eVar 4) (eC (.int 2)))) (gRet (fOp2 oAdd (fOp2 oAdd (fSl oCut (eVar 1) fNoP (fPart (eVar 2))) (eVar 3)) (fSl oCut (eVar 1) (fPart (fOp2 oAdd (eVar 2) (eC (.int 1)))) fNoP))) gNx) (gSeq (fIf (fB (fOp2 oEq (eVar 4) (eC (.int 3)))) (gRet (fOp2 oAdd (eVar 1) (eVar 3))) gNx) (gSeq (fIf (fB (fOp2 oEq (eVar 4) (eC (.int 4)))) (gRet (fSl oCut (fOp2 oMul (eVar 1) (eC (.int 9))) fNoP (fPart (eC (.int 9))))) gNx) (gSeq (fIf (fB (fOp2 oEq (eVar 4) (eC (.int 5)))) (gSeq (gSet 5 .z (fLst (fCons (eC (.str t_any)) (fCons (eC (.str t_none)) (fCons (eC (.str t_blank)) (fCons (eC (.str t_new)) (fCons (eC (.str [111, 110])) (fCons (eC (.str [])) (fCons (eC (.str [111])) (fCons (eC (.str t_one)) (fCons (eC (.str t_news)) (fCons (eC (.str t_Any)) (fCons (eC (.str [97, 110])) (fCons (eC (.str [110, 111])) (fCons (eC (.str t_bla)) (fCons (eC (.str t_blanks)) fNil)))))))))))))))) (gRet (fOp2 oIx (eVar 5) (fOp2 oMod (fOp2 oFdiv (eVar 0) (eC (.int 8))) (eC (.int 14)))))) gNx) (gSeq (fIf (fB (fOp2 oEq (eVar 4) (eC (.int 6)))) (gRet (fOp2 oIx (fLst (fCons (eVar 0) (fCons (eC (.bl true)) (fCons (eC .non) (fCons (fLst (fCons (eVar 1) fNil)) (fCons (fTup (fCons (eVar 1) fNil)) (fCons (eC (.int 0)) (fCons (eC (.dct [] [])) fNil)))))))) (fOp2 oMod (fOp2 oFdiv (eVar 0) (eC (.int 8))) (eC (.int 7))))) gNx) (gRet (eVar 1))))))))))))
theorem sc__law_thing : FnScope ["_law_number", "_law_word_here", "_law_at", "_law_mark", "_law_way", "_law_some"] ["_law_number"] (defScope (top 8)) := ⟨rfl, rfl, rfl, by decide +kernel, rfl, by decide +kernel, by decide +kernel⟩
theorem ok__law_thing {G : GC} (Y : YeL G) : Fx G 2 "_law_thing" ["_law_number"] .z F__law_thing :=
  Fx.mk' Y 3 8 (d := q__law_thing) (k := 1) (N := ["_law_number", "_law_word_here", "_law_at", "_law_mark", "_law_way", "_law_some"]) [false] 5
    (VSs.cons (VS.set (i := 1) (m := .z) (VO.callX (ok__law_word Y) (VM.frz (VO.fdiv (VO.vb (VO.var (i := 0))) (VO.vb VO.int)) VM.nil))) (VSs.cons (VS.set (i := 2) (m := .z) (VO.mod (VO.vb (VO.fdiv (VO.vb (VO.var (i := 0))) (VO.vb VO.int))) (VO.vb (VO.len (Y.free 2) (VA.cons (VO.vb (VO.var (i := 1))) VA.nil))))) (VSs.cons (VS.set (i := 3) (m := .z) (VO.item (VO.vb (VO.str (s := t_5))) (VO.vb (VO.mod (VO.vb (VO.fdiv (VO.vb (VO.var (i := 0))) (VO.vb VO.int))) (VO.vb VO.int))))) (VSs.cons (VS.set (i := 4) (m := .z) (VO.mod (VO.vb (VO.var (i := 0))) (VO.vb VO.int))) (VSs.cons (VS.ite (VT.cp Cm.eq (VO.vb (VO.var (i := 4))) (VO.vb VO.int)) (VSs.one (VS.ret (VO.add (VO.vb (VO.add (VO.vb (VO.cut (VO.vb (VO.var (i := 1))) VP.none (VP.some (VO.var (i := 2))))) (VO.vb (VO.var (i := 3))))) (VO.vb (VO.cut (VO.vb (VO.var (i := 1))) (VP.some (VO.var (i := 2))) VP.none))))) VSs.nil) (VSs.cons (VS.ite (VT.cp Cm.eq (VO.vb (VO.var (i := 4))) (VO.vb VO.int)) (VSs.one (VS.ret (VO.add (VO.vb (VO.add (VO.vb (VO.cut (VO.vb (VO.var (i := 1))) VP.none (VP.some (VO.var (i := 2))))) (VO.vb (VO.var (i := 3))))) (VO.vb (VO.cut (VO.vb (VO.var (i := 1))) (VP.some (VO.add (VO.vb (VO.var (i := 2))) (VO.vb VO.int))) VP.none))))) VSs.nil) (VSs.cons (VS.ite (VT.cp Cm.eq (VO.vb (VO.var (i := 4))) (VO.vb VO.int)) (VSs.one (VS.ret (VO.add (VO.vb (VO.var (i := 1))) (VO.vb (VO.var (i := 3)))))) VSs.nil) (VSs.cons (VS.ite (VT.cp Cm.eq (VO.vb (VO.var (i := 4))) (VO.vb VO.int)) (VSs.one (VS.ret (VO.cut (VO.vb (VO.mul (VO.vb (VO.var (i := 1))) (VO.vb VO.int))) VP.none (VP.some VO.int)))) VSs.nil) (VSs.cons (VS.ite (VT.cp Cm.eq (VO.vb (VO.var (i := 4))) (VO.vb VO.int)) (VSs.cons (VS.set (i := 5) (m := .z) (VO.frz (VO.lst (VLs.cons (k := .all .z) (VO.str (s := t_any)) (VLs.cons (k := .all .z) (VO.str (s := t_none)) (VLs.cons (k := .all .z) (VO.str (s := t_blank)) (VLs.cons (k := .all .z) (VO.str (s := t_new)) (VLs.cons (k := .all .z) (VO.str (s := [111, 110])) (VLs.cons (k := .all .z) (VO.str (s := [])) (VLs.cons (k := .all .z) (VO.str (s := [111])) (VLs.cons (k := .all .z) (VO.str (s := t_one)) (VLs.cons (k := .all .z) (VO.str (s := t_news)) (VLs.cons (k := .all .z) (VO.str (s := t_Any)) (VLs.cons (k := .all .z) (VO.str (s := [97, 110])) (VLs.cons (k := .all .z) (VO.str (s := [110, 111])) (VLs.cons (k := .all .z) (VO.str (s := t_bla)) (VLs.cons (k := .all .z) (VO.str (s := t_blanks)) (VLs.nil (k := .all .z))))))))))))))))))) (VSs.one (VS.ret (VO.item (VO.vb (VO.var (i := 5))) (VO.vb (VO.mod (VO.vb (VO.fdiv (VO.vb (VO.var (i := 0))) (VO.vb VO.int))) (VO.vb VO.int))))))) VSs.nil) (VSs.cons (VS.ite (VT.cp Cm.eq (VO.vb (VO.var (i := 4))) (VO.vb VO.int)) (VSs.one (VS.ret (VO.item (VO.vb (VO.frz (VO.lst (VLs.cons (k := .all .z) (VO.var (i := 0)) (VLs.cons (k := .all .z) VO.bl (VLs.cons (k := .all .z) VO.non (VLs.cons (k := .all .z) (VO.frz (VO.lst (VLs.cons (k := .all .z) (VO.var (i := 1)) (VLs.nil (k := .all .z))))) (VLs.cons (k := .all .z) (VO.frz (VO.tup (VLs.cons (k := .all .z) (VO.var (i := 1)) (VLs.nil (k := .all .z))))) (VLs.cons (k := .all .z) VO.int (VLs.cons (k := .all .z) (VO.frz (VO.dct0 (k := .all .z))) (VLs.nil (k := .all .z)))))))))))) (VO.vb (VO.mod (VO.vb (VO.fdiv (VO.vb (VO.var (i := 0))) (VO.vb VO.int))) (VO.vb VO.int)))))) VSs.nil) (VSs.one (VS.ret (VO.var (i := 1))))))))))))))
    (fun _ _ _ _ _ _ us hl => match us, hl with | [_], _ => rfl) sc__law_thing
def F__law_due : M D := fnRun [false] 1 (gSeq (fIf (fOr (fNot (fB (fIsi .str (eVar 0)))) (fB (fOp2 oIn (eVar 0) (fLst (fCons (eC (.str t_any)) (fCons (eC (.str t_none)) (fCons (eC (.str t_blank)) (fCons (eC (.str t_new)) (fCons (eC (.str [111, 110])) fNil))))))))) (gRet (eC (.bl false))) gNx) (gSeq (fIf (fOr (fB (fOp2 oLtI (fA oLen (fCons (eVar 0) fNil)) (eC (.int 1)))) (fB (fOp2 oGtI (fA oLen (fCons (eVar 0) fNil)) (eC (.int 8))))) (gRet (eC (.bl false))) gNx) (gRet (fOp2 oEq (fLc [1] (iAny (eVar 0)) (tName 1) (fB (fOp2 oNotIn (eVar 1) (eC (.str t_abcdefghijklmnopqrstuvwxyz)))) (eVar 1)) (fLst fNil)))))
theorem sc__law_due : FnScope ["_law_thing_here", "_law_one"] ["_law_thing_here"] (defScope (top 9)) := ⟨rfl, rfl, rfl, by decide +kernel, rfl, by decide +kernel, by decide +kernel⟩
theorem ok__law_due {G : GC} (Y : YeL G) : Fx G 1 "_law_due" ["_law_thing_here"] .z F__law_due :=
  Fx.mk' Y 4 9 (d := q__law_due) (k := 0) (N := ["_law_thing_here", "_law_one"]) [false] 1
    (VSs.cons (VS.ite (VW.pt (VW.or (VT.not (VT.of (VO.isi .str (Y.free 0) (Y.free 1) (VO.vb (VO.var (i := 0)))))) (VW.or1 (VT.cp Cm.in_ (VO.vb (VO.var (i := 0))) (VO.vb (VO.frz (VO.lst (VLs.cons (k := .all .z) (VO.str (s := t_any)) (VLs.cons (k := .all .z) (VO.str (s := t_none)) (VLs.cons (k := .all .z) (VO.str (s := t_blank)) (VLs.cons (k := .all .z) (VO.str (s := t_new)) (VLs.cons (k := .all .z) (VO.str (s := [111, 110])) (VLs.nil (k := .all .z)))))))))))))) (VSs.one (VS.ret VO.bl)) VSs.nil) (VSs.cons (VS.ite (VW.pt (VW.or (VT.cp Cm.lt (VO.vb (VO.len (Y.free 2) (VA.cons (VO.vb (VO.var (i := 0))) VA.nil))) (VO.vb VO.int)) (VW.or1 (VT.cp Cm.gt (VO.vb (VO.len (Y.free 2) (VA.cons (VO.vb (VO.var (i := 0))) VA.nil))) (VO.vb VO.int))))) (VSs.one (VS.ret VO.bl)) VSs.nil) (VSs.one (VS.ret (VO.cp Cm.eq (VO.vb (VO.frz (VO.lc (me := .z) [("_law_one", 1)] (VI.any (VO.var (i := 0))) (VG.name (i := 1)) (VTs.one (VT.cp Cm.nin (VO.vb (VO.var (i := 1))) (VO.vb (VO.str (s := t_abcdefghijklmnopqrstuvwxyz))))) (VO.var (i := 1))))) (VO.vb (VO.frz (VO.lst (VLs.nil (k := .all .z))))))))))
    (fun _ _ _ _ _ _ us hl => match us, hl with | [_], _ => rfl) sc__law_due
def F_law : M D := fnRun [false] 4 (gSeq (gFor (iEnm (fSl oCut (eVar 0) fNoP (fPart (eC (.int 63))))) (tTupl 2 (tCon (tName 1) (tCon (tName 2) tNil))) (gFor (iAny (fLst (fCons (fCall F__law_thing [none] (fCons (eVar 2) fNil)) (fCons (fCall F__law_thing [none] (fCons (fOp2 oMod (fOp2 oAdd (fOp2 oMul (eVar 2) (eC (.int 48271))) (fOp2 oMul (fOp2 oMul (eVar 1) (eVar 1)) (eC (.int 40013)))) (eC (.int 2147483629))) fNil)) fNil)))) (tName 3) (gSeq (gSet 4 .z (fCall F_is_name [none] (fCons (eVar 3) fNil))) (fIf (fOr (fNot (fB (fIsi .bool (eVar 4)))) (fB (fOp2 oNe (eVar 4) (fCall F__law_due [none] (fCons (eVar 3) fNil))))) (gRet (eC (.bl false))) gNx)))) (gRet (fAnd (fOp2 oIs (fCall F_is_name [none] (fCons (eC (.str [111, 110])) fNil)) (eC (.bl false))) (fOp2 oIs (fCall F_is_name [none] (fCons (eC (.str [97])) fNil)) (eC (.bl true))))))
theorem sc_law : FnScope ["_law_script", "_law_k", "_law_cell", "_law_thing_here", "_law_found"] ["_law_script"] (defScope (top 10)) := ⟨rfl, rfl, rfl, by decide +kernel, rfl, by decide +kernel, by decide +kernel⟩
theorem ok_law {G : GC} (Y : YeL G) : Fx G 3 "law" ["_law_script"] .z F_law :=
  Fx.mk' Y 5 12 (d := q_law) (k := 2) (N := ["_law_script", "_law_k", "_law_cell", "_law_thing_here", "_law_found"]) [false] 4
    (VSs.cons (VS.for_ (VI.enm (VO.vb (VO.cut (VO.vb (VO.var (i := 0))) VP.none (VP.some VO.int))) (Y.free 10)) (VG.tup (VGs.cons (VG.name (i := 1)) (VGs.cons (VG.name (i := 2)) VGs.nil))) (VSs.one (VS.for_ (VI.any (VO.frz (VO.lst (VLs.cons (k := .all .z) (VO.callX (ok__law_thing Y) (VM.frz (VO.var (i := 2)) VM.nil)) (VLs.cons (k := .all .z) (VO.callX (ok__law_thing Y) (VM.frz (VO.mod (VO.vb (VO.add (VO.vb (VO.mul (VO.vb (VO.var (i := 2))) (VO.vb VO.int))) (VO.vb (VO.mul (VO.vb (VO.mul (VO.vb (VO.var (i := 1))) (VO.vb (VO.var (i := 1))))) (VO.vb VO.int))))) (VO.vb VO.int)) VM.nil)) (VLs.nil (k := .all .z))))))) (VG.name (i := 3)) (VSs.cons (VS.set (i := 4) (m := .z) (VO.callX (ok_is_name Y) (VM.frz (VO.var (i := 3)) VM.nil))) (VSs.one (VS.ite (VW.pt (VW.or (VT.not (VT.of (VO.isi .bool (Y.free 0) (Y.free 11) (VO.vb (VO.var (i := 4)))))) (VW.or1 (VT.cp Cm.ne (VO.vb (VO.var (i := 4))) (VO.vb (VO.callX (ok__law_due Y) (VM.frz (VO.var (i := 3)) VM.nil))))))) (VSs.one (VS.ret VO.bl)) VSs.nil)))))) (VSs.one (VS.ret (VO.and (VO.cp Cm.is (VO.vb (VO.callX (ok_is_name Y) (VM.frz (VO.str (s := [111, 110])) VM.nil))) (VO.vb VO.bl)) (VO.one (VO.cp Cm.is (VO.vb (VO.callX (ok_is_name Y) (VM.frz (VO.str (s := [97])) VM.nil))) (VO.vb VO.bl)))))))
    (fun _ _ _ _ _ _ us hl => match us, hl with | [_], _ => rfl) sc_law
end Vm
set_option Elab.async false
set_option linter.all false
set_option maxRecDepth 100000
set_option maxHeartbeats 4000000
namespace Vm
open PySem PySem.Spec PyProof.Rows L2
theorem lc_in (L : List Nat) (x : Sl) : ∀ s : List Nat, gLc [1] (tName 1) ftY (fOp2 oIn (eVar 1) (eC (.str L))) (s.map fun c => .str [c]) [x, none] = .ok (s.map fun c => .bl (decide (c ∈ L))) [x, none]
  | [] => rfl
  | c :: s => by
    have ih := lc_in L x s
    simp [gLc, ih]
theorem lc_out (L : List Nat) (x : Sl) : ∀ s : List Nat, gLc [1] (tName 1) (fB (fOp2 oNotIn (eVar 1) (eC (.str L)))) (eVar 1) (s.map fun c => .str [c]) [x, none] = .ok ((s.filter fun c => !decide (c ∈ L)).map fun c => .str [c]) [x, none]
  | [] => rfl
  | c :: s => by
    have ih := lc_out L x s
    by_cases h : c ∈ L
    · simp [gLc, ih, h]
    · simp [gLc, ih, h]
theorem bls_in (L : List Nat) : ∀ s : List Nat, bls (s.map fun c => .bl (decide (c ∈ L))) = some (s.map fun c => decide (c ∈ L))
  | [] => rfl
  | c :: s => by rw [List.map_cons, List.map_cons, bls, bls_in L s]; rfl
theorem signs_nil (L : List Nat) (s : List Nat) : oEq (.lst ((s.filter fun c => !decide (c ∈ L)).map fun c => .str [c])) (.lst []) = some (.bl (s.all fun c => decide (c ∈ L))) := by
  rw [oEq_nil (plains_of fun d hd => by
    obtain ⟨c, _, e⟩ := List.mem_map.mp hd
    rw [← e]; rfl)]
  congr 2
  induction s with
  | nil => rfl
  | cons c s ih =>
    rw [List.all_cons, ← ih]
    by_cases h : c ∈ L <;> simp [h]
/-- a name, sign by sign -/
def nmB (s : List Nat) : Bool := decide (s ≠ [] ∧ s.length ≤ 8 ∧ ¬t_any = s ∧ ¬t_none = s ∧ ¬t_blank = s ∧ ¬t_new = s ∧ ¬[111, 110] = s) && s.all fun c => decide (c ∈ t_abcdefghijklmnopqrstuvwxyz)
theorem isn_str (s : List Nat) : ∃ r, F_is_name [some (.z, .str s)] = .ok (.bl (nmB s)) r := by
  unfold F_is_name
  rw [fnRun_ap]
  simp [isT, inOk, lc_in, oAll, bls_in]
  unfold nmB
  by_cases h1 : s = []
  · rw [if_pos h1]; simp [h1]
  · rw [if_neg h1]
    by_cases h2 : (8 : Int) < s.length
    · rw [if_pos h2]
      have : ¬ s.length ≤ 8 := by omega
      simp [this]
    · rw [if_neg h2]
      have : s.length ≤ 8 := by omega
      by_cases h3 : ¬t_any = s ∧ ¬t_none = s ∧ ¬t_blank = s ∧ ¬t_new = s ∧ ¬[111, 110] = s
      · rw [if_pos h3]; simp [this, h1, h3]
      · rw [if_neg h3]; simp [this, h1, h3]
theorem due_str (s : List Nat) : ∃ r, F__law_due [some (.z, .str s)] = .ok (.bl (nmB s)) r := by
  unfold F__law_due
  rw [fnRun_ap]
  simp [isT, inOk, lc_out, oAll, signs_nil]
  unfold nmB
  by_cases h3 : t_any = s ∨ t_none = s ∨ t_blank = s ∨ t_new = s ∨ [111, 110] = s
  · rw [if_pos h3]
    have : ¬ (¬t_any = s ∧ ¬t_none = s ∧ ¬t_blank = s ∧ ¬t_new = s ∧ ¬[111, 110] = s) := by
      rcases h3 with h | h | h | h | h <;> simp [h]
    simp [this]
  · rw [if_neg h3]
    simp only [not_or] at h3
    by_cases h1 : (s.length : Int) < 1
    · have : s = [] := List.eq_nil_of_length_eq_zero (by omega)
      rw [if_pos h1]; simp [this]
    · have n1 : s ≠ [] := fun e => h1 (by rw [e]; decide)
      rw [if_neg h1]
      by_cases h2 : (8 : Int) < s.length
      · rw [if_pos h2]
        have : ¬ s.length ≤ 8 := by omega
        simp [this]
      · rw [if_neg h2]
        have : s.length ≤ 8 := by omega
        simp [this, n1, h3]
theorem isn_not (d : D) (h : isT .str d = some false) : ∃ r, F_is_name [some (.z, d)] = .ok (.bl false) r := by
  unfold F_is_name
  rw [fnRun_ap]
  simp [h]
theorem due_not (d : D) (h : isT .str d = some false) : ∃ r, F__law_due [some (.z, d)] = .ok (.bl false) r := by
  unfold F__law_due
  rw [fnRun_ap]
  simp [h]
/-- what may be asked: a text, or what is none -/
def Thing (d : D) : Prop := (∃ s, d = .str s) ∨ isT .str d = some false
theorem same_ans {d : D} (h : Thing d) : ∃ b r r', F_is_name [some (.z, d)] = .ok (.bl b) r ∧ F__law_due [some (.z, d)] = .ok (.bl b) r' := by
  rcases h with ⟨s, rfl⟩ | h
  · obtain ⟨r, e⟩ := isn_str s
    obtain ⟨r', e'⟩ := due_str s
    exact ⟨_, r, r', e, e'⟩
  · obtain ⟨r, e⟩ := isn_not d h
    obtain ⟨r', e'⟩ := due_not d h
    exact ⟨_, r, r', e, e'⟩
theorem word_ok (n : Int) : ∃ s r, F__law_word [some (.z, .int n)] = .ok (.str s) r ∧ 1 ≤ s.length ∧ s.length ≤ 9 := by
  unfold F__law_word
  rw [fnRun_ap]
  have hr : 1 + n % 8 ≤ 16777216 ∧ -4611686018427387904 ≤ 1 + n % 8 := by omega
  simp [hr]
  obtain ⟨r', e, rest, found, sl, er, hl⟩ := gLoop_inv (gt := tName 4) (gb := gSeq (gSet 3 Md.z (fOp2 oAdd (eVar 3) (fOp2 oIx (eVar 1) (fOp2 oMod (eVar 2) (eC (D.int 26)))))) (gSet 2 Md.z (fOp2 oFdiv (eVar 2) (eC (D.int 26)))))
    (fun k r => ∃ rest found sl, r = [some (Md.z, D.int n), some (Md.z, D.str t_abcdefghijklmnopqrstuvwxyz), some (Md.z, D.int rest), some (Md.z, D.str found), sl] ∧ found.length = k) (rngD 0 (1 + n % 8).toNat) 0
    (fun i d r hd ⟨rest, found, sl, er, hl⟩ => by
      obtain ⟨hi, ed⟩ := rngD_get _ _ _ _ hd
      subst er ed
      obtain ⟨c, hc, _⟩ := atI_of (xs := t_abcdefghijklmnopqrstuvwxyz) (i := rest % 26) (by omega) (by
        show rest % 26 < 26
        omega)
      have h2 : found.length ≤ 16777215 := by omega
      exact ⟨[some (Md.z, D.int n), some (Md.z, D.str t_abcdefghijklmnopqrstuvwxyz), some (Md.z, D.int (rest / 26)), some (Md.z, D.str (found ++ [c])), some (Md.z, D.int (0 + i))], by simp [hc, h2], _, _, _, rfl, by rw [List.length_append, List.length_singleton]; omega⟩)
    [some (Md.z, D.int n), some (Md.z, D.str t_abcdefghijklmnopqrstuvwxyz), some (Md.z, D.int (n / 8)), some (Md.z, D.str []), none] ⟨_, _, _, rfl, rfl⟩
  rw [rngD_len] at hl
  subst er
  have h3 : found.length + 1 ≤ 16777216 := by omega
  rw [e]
  simp [inOk, h3]
  by_cases h : t_any = found ∨ t_none = found ∨ t_blank = found ∨ t_new = found ∨ [111, 110] = found
  · refine ⟨found ++ [115], ?_, by rw [List.length_append]; omega, ?_⟩
    · simp [h]
    · have : found.length ≤ 5 := by rcases h with h | h | h | h | h <;> (rw [← h]; decide)
      rw [List.length_append, List.length_singleton]; omega
  · exact ⟨found, by simp [h], by omega, by omega⟩
theorem thing_ok (n : Int) : ∃ d r, F__law_thing [some (.z, .int n)] = .ok d r ∧ Thing d := by
  obtain ⟨s, r0, e, h1, h9⟩ := word_ok (n / 8)
  unfold F__law_thing
  rw [fnRun_ap]
  have hl : (0 : Int) < s.length := by omega
  obtain ⟨c, hc, _⟩ := atI_of (xs := t_5) (i := n / 512 % 13) (by omega) (by
    show n / 512 % 13 < 13
    omega)
  have hl' : 0 < s.length := h1
  have cl : ∀ lo hi, (cutL s lo hi).length ≤ 9 := fun lo hi => Nat.le_trans (cutL_len s lo hi) h9
  have p1 : ∀ lo hi, (cutL s lo hi).length ≤ 16777215 := fun lo hi => by have := cl lo hi; omega
  have p2 : ∀ lo hi lo' hi', (cutL s lo hi).length + 1 + (cutL s lo' hi').length ≤ 16777216 := fun lo hi lo' hi' => by have := cl lo hi; have := cl lo' hi'; omega
  have p3 : s.length ≤ 16777215 := by omega
  have p4 : s.length ≤ 1000 := by omega
  obtain ⟨d5, h5, m5⟩ := atI_of (xs := [D.str t_any, .str t_none, .str t_blank, .str t_new, .str [111, 110], .str [], .str [111], .str t_one, .str t_news, .str t_Any, .str [97, 110], .str [110, 111], .str t_bla, .str t_blanks]) (i := n / 8 % 14) (by omega) (by
    show n / 8 % 14 < 14
    omega)
  obtain ⟨d6, h6, m6⟩ := atI_of (xs := [D.int n, .bl true, .non, .lst [.str s], .tup [.str s], .int 0, .dct [] []]) (i := n / 8 % 7) (by omega) (by
    show n / 8 % 7 < 7
    omega)
  have t5 : Thing d5 := by
    simp only [List.mem_cons, List.not_mem_nil, or_false] at m5
    rcases m5 with h | h | h | h | h | h | h | h | h | h | h | h | h | h <;> exact .inl ⟨_, h⟩
  have t6 : Thing d6 := by
    simp only [List.mem_cons, List.not_mem_nil, or_false] at m6
    rcases m6 with h | h | h | h | h | h | h <;> (rw [h]; exact .inr rfl)
  simp [e, hl, hl', hc]
  by_cases w1 : n % 8 = 1
  · simp [w1, p1, p2]; exact .inl ⟨_, rfl⟩
  by_cases w2 : n % 8 = 2
  · simp [w2, p1, p2]; exact .inl ⟨_, rfl⟩
  by_cases w3 : n % 8 = 3
  · simp [w3, p3]; exact .inl ⟨_, rfl⟩
  by_cases w4 : n % 8 = 4
  · simp [w4, p4]; exact .inl ⟨_, rfl⟩
  by_cases w5 : n % 8 = 5
  · simp [w5, h5]; exact t5
  by_cases w6 : n % 8 = 6
  · simp [w6, h6]; exact t6
  simp [w1, w2, w3, w4, w5, w6]
  exact .inl ⟨_, rfl⟩
theorem nm_on : nmB [111, 110] = false := by decide +kernel
theorem nm_a : nmB [97] = true := by decide +kernel
theorem pure_law (ns : List Int) (h1 : ns.length ≤ 63) (h2 : ∀ z ∈ ns, Builtin.Int.intBits z ≤ 1048576) : ∃ r, F_law [some (.z, .scr ns)] = .ok (.bl true) r := by
  unfold F_law
  rw [fnRun_ap]
  simp
  obtain ⟨r', e, a, b, c, d, er⟩ := gLoop_inv (gt := tTupl 2 (tCon (tName 1) (tCon (tName 2) tNil))) (gb := gFor (iAny (fLst (fCons (fCall F__law_thing [none] (fCons (eVar 2) fNil)) (fCons (fCall F__law_thing [none] (fCons (fOp2 oMod (fOp2 oAdd (fOp2 oMul (eVar 2) (eC (D.int 48271))) (fOp2 oMul (fOp2 oMul (eVar 1) (eVar 1)) (eC (D.int 40013)))) (eC (D.int 2147483629))) fNil)) fNil))))
                (tName 3)
                (gSeq (gSet 4 Md.z (fCall F_is_name [none] (fCons (eVar 3) fNil)))
                  (fIf (fOr (fNot (fB (fIsi PyT.bool (eVar 4)))) (fB (fOp2 oNe (eVar 4) (fCall F__law_due [none] (fCons (eVar 3) fNil))))) (gRet (eC (D.bl false))) gNx)))
    (fun _ r => ∃ a b c d, r = [some (Md.z, D.scr ns), a, b, c, d]) (enumD 0 (cutL (List.map D.int ns) none (some 63))) 0
    (fun i d r hd ⟨a, b, c, e, er⟩ => by
      obtain ⟨d', hd2, ed⟩ := enumD_get _ _ _ _ hd
      have hi : i < 63 := by
        obtain ⟨q, _⟩ := List.getElem?_eq_some_iff.mp hd2
        have := cutL_len (List.map D.int ns) none (some 63)
        rw [List.length_map] at this
        omega
      have hm : d' ∈ List.map D.int ns := List.mem_of_mem_drop (List.mem_of_mem_take (List.mem_of_getElem? hd2))
      obtain ⟨z, _, ez⟩ := List.mem_map.mp hm
      subst er ed ez
      have hk : ((0 : Int) + (i : Int)).natAbs < 18446744073709551616 := by omega
      generalize (0 : Int) + (i : Int) = k at hk
      obtain ⟨d1, r1, e1, t1⟩ := thing_ok z
      obtain ⟨d2, r2, e2, t2⟩ := thing_ok ((z * 48271 + k * k * 40013) % 2147483629)
      obtain ⟨b1, q1, q1', f1, g1⟩ := same_ans t1
      obtain ⟨b2, q2, q2', f2, g2⟩ := same_ans t2
      exact ⟨[some (Md.z, D.scr ns), some (Md.z, .int k), some (Md.z, .int z), some (Md.z, d2), some (Md.z, .bl b2)], by simp [e1, e2, f1, g1, f2, g2, hk], _, _, _, _, rfl⟩)
    [some (Md.z, D.scr ns), none, none, none, none] ⟨_, _, _, _, rfl⟩
  subst er
  obtain ⟨r1, e1⟩ := isn_str [111, 110]
  obtain ⟨r2, e2⟩ := isn_str [97]
  rw [nm_on] at e1
  rw [nm_a] at e2
  rw [e]
  simp [e1, e2]
end Vm
set_option Elab.async false
set_option linter.all false
set_option maxRecDepth 100000
set_option maxHeartbeats 0
namespace Vm
open PySem PySem.Spec PyProof.Rows L2
abbrev rwO : PySem.W.OpenRow := PySem.W.OpenLaw.row PySem.Challenge.rw_fitmost_k11_names
def nmL0 : List PySem.Str := ["LETTERS", "MOST_LETTERS", "OTHER_WORDS", "is_name", "_law_pick", "_law_word", "_law_thing", "_law_due"]
abbrev nmL : List PySem.Str := nmL0
def obL (s : PySem.W.SharedT) : AlV := obsV 5 faL fnL csL (HandSHeadRun.getT s)
theorem obL_eq (s : PySem.W.SharedT) : obL s = (hookV 5 faL fnL csL).obs s.abs := obsV_eq (HandSHeadRun.getT_eq s)
theorem runL (w : World) : HandSHeadRun.RunEq rwO (PySem.W.view rwO.prog [10]) (hookV 5 faL fnL csL) obL 3000 nmL w := by
  intro os
  kernel_rfl
end Vm
open PySem PySem.W PySem.Calls PyProof.Rows
theorem PySem.Challenge.cw_fitmost_k11_names_holds : PySem.Challenge.rw_fitmost_k11_names.Holds := by
  w_on; o_law
  refine HandSHeadRun.head_any (r := OpenLaw.row PySem.Challenge.rw_fitmost_k11_names) (q := view (OpenLaw.row PySem.Challenge.rw_fitmost_k11_names).prog [10]) (H := Vm.hookV 5 Vm.faL Vm.fnL Vm.csL) (ob := Vm.obL) (M := 3000) (loose := Vm.nmL) (d := HandSHeadRun.topDef (OpenLaw.row PySem.Challenge.rw_fitmost_k11_names).prog 10) (kwd := []) Vm.obL_eq
    (by kernel_rfl) (fun s => by kernel_rfl) Vm.runL (by kernel_rfl) (by kernel_rfl) (by kernel_rfl) (by rfl) (by first | assumption | decide +kernel) (by decide +kernel) ⟨rfl, rfl, rfl, rfl, rfl, by decide +kernel⟩ ?hw ?hc
  case hw => w_witness2
  case hc => exact Vm.lawEnd (l := PySem.Challenge.rw_fitmost_k11_names) (n := 63) (k := 3) (x := "_law_script") rfl (by decide) (by kernel_rfl) ⟨rfl, by decide, by decide⟩ Vm.F_law (by kernel_rfl) (fun G _ Y => Vm.ok_law Y) Vm.pure_law
