import PyProof.Rows.All
import Wide.All
import OpenK.AllK
import Wide.FinOn
import HandS.ForMost
import HandS.ForExc
import HandS.TupAny
import HandS.TupLe
import HandS.Style
import HandS.Deep
import HandS.IsInst
import HandS.Wide
import HandS.Defaults
import HandS.Iter
import HandS.Zip
import HandS.Rev
import HandS.HeadHook1
import HandS.HeadHook2
import HandS.EndBits
import HandS.Head2
import KE.SortData
import KE.DataMinMax
import KE.KRevIter
import PyProof.CollectIter
import PyProof.Draws
import PyProof.EnumMake
import PyProof.WalksMore
import HandS.Dict
import HandS.Set
import HandS.Strs
import HandS.More
import PySem.Challenge.RW_fitmost_k12_webs_told
set_option Elab.async false
set_option linter.all false
set_option maxRecDepth 100000
set_option maxHeartbeats 4000000
/-! Values as plain data, and how they lie in the heap: frozen data, owned trees, slots, steps. -/
namespace Vm
open PySem PySem.Spec PyProof.Rows L2

/-! ### plain data -/
inductive D where
  | non | bl (b : Bool) | int (i : Int) | str (s : List Nat)
  | tup (xs : List D) | lst (xs : List D) | dct (ks vs : List D)
  | ins (c : Str) (ns : List Str) (vs : List D)
  /-- the script -/
  | scr (ns : List Int)
  deriving Inhabited

mutual
/-- how deep a value is owned: not at all, or its node with its children -/
inductive Md where
  | z
  | o (k : Kd)
inductive Kd where
  | all (m : Md)
  | one (m : Md) (k : Kd)
end
def Kd.hd : Kd → Md
  | .all m => m
  | .one m _ => m
def Kd.tl : Kd → Kd
  | .all m => .all m
  | .one _ k => k
/-- a node of its own, its children frozen -/
abbrev m1 : Md := .o (.all .z)

abbrev Sl := Option (Md × D)
abbrev En := List Sl
inductive Res (α : Type) where
  | ok (a : α) (r : En)
  | exc (c : Str) (ns : List Str) (vs : List D) (r : En)
  | bad
abbrev M (α : Type) := En → Res α
def Res.bind {α β : Type} (x : Res α) (f : α → M β) : Res β := match x with
  | .ok a r => f a r
  | .exc c ns vs r => .exc c ns vs r
  | .bad => .bad
@[simp] theorem bind_ok {α β : Type} (a : α) (r : En) (f : α → M β) : (Res.ok a r).bind f = f a r := rfl
@[simp] theorem bind_exc {α β : Type} (c : Str) (ns : List Str) (vs : List D) (r : En) (f : α → M β) : (Res.exc c ns vs r : Res α).bind f = .exc c ns vs r := rfl
@[simp] theorem bind_bad {α β : Type} (f : α → M β) : (Res.bad : Res α).bind f = .bad := rfl
abbrev getS (r : En) (i : Nat) : Sl := r.getD i none

/-- which slots may be changed -/
abbrev Ms := Nat → Bool
abbrev ms0 : Ms := fun _ => false
abbrev msA : Ms := fun _ => true
abbrev msU (a b : Ms) : Ms := fun i => a i || b i
abbrev msO (i : Nat) : Ms := fun j => j == i
/-- the slots that are lent -/
def lentM (ls : List (Option Nat)) : Ms := fun i => ls.any fun l => l == some i

/-! ### frozen data in the heap -/
def kD : Key → D
  | .inl i => .int i
  | .inr x => .str x.cps.toList
abbrev sV (s : List Nat) : V := .str ⟨s.toArray⟩
def sOk (s : List Nat) : Bool := decide (s.length ≤ 16777216) && s.all (fun c => decide (c < 1114112))
/-- the texts of a key are of a fit size -/
def kOk : Key → Bool
  | .inl _ => true
  | .inr x => sOk x.cps.toList
def DctAt (H : Hp) (a : Addr) (ks : List D) (vs : List V) : Prop :=
  ∃ kvs : List (Key × V), Rd H a (.dK kvs) ∧ (kvs.all fun p => kOk p.1) = true ∧ ks = kvs.map (fun p => kD p.1) ∧ vs = kvs.map (·.2)
def DctOw (H : Hp) (a : Addr) (ks : List D) (vs : List V) : Prop :=
  ∃ kvs : List (Key × V), H a = some (.dK kvs) ∧ (kvs.all fun p => kOk p.1) = true ∧ ks = kvs.map (fun p => kD p.1) ∧ vs = kvs.map (·.2)
section
variable (K : PySem.W.Frag) (mg : Str → Option Value)
mutual
def Fz (H : Hp) : D → V → Prop
  | .non, v => v = .non
  | .bl b, v => v = .bl b
  | .int i, v => v = .int i
  | .str s, v => v = sV s ∧ sOk s = true
  | .scr ns, v => ∃ a, v = .ref a ∧ SqL K H a (ns.map V.int)
  | .tup ds, v => ∃ a vs, v = .ref a ∧ SqT K H a vs ∧ Fzs H ds vs
  | .lst ds, v => ∃ a vs, v = .ref a ∧ H a = some (.lst vs) ∧ Fzs H ds vs
  | .dct ks ds, v => ∃ a vs, v = .ref a ∧ DctAt H a ks vs ∧ Fzs H ds vs
  | .ins c ns ds, v => ∃ a C dx vs, v = .ref a ∧ mg c = some (.ref C) ∧ H a = some (.ins C dx (ns.zip vs)) ∧ ns.length = ds.length ∧ Fzs H ds vs
def Fzs (H : Hp) : List D → List V → Prop
  | [], vs => vs = []
  | d :: ds, vs => ∃ v r, vs = v :: r ∧ Fz H d v ∧ Fzs H ds r
end
/-- the node is read in H, what is within is frozen in H0 -/
def Sh (H0 H : Hp) : D → V → Prop
  | .lst ds, v => ∃ a vs, v = .ref a ∧ H a = some (.lst vs) ∧ Fzs K mg H0 ds vs
  | .scr ns, v => ∃ a, v = .ref a ∧ SqL K H a (ns.map V.int)
  | .dct ks ds, v => ∃ a vs, v = .ref a ∧ DctAt H a ks vs ∧ Fzs K mg H0 ds vs
  | .ins c ns ds, v => ∃ a C dx vs, v = .ref a ∧ mg c = some (.ref C) ∧ H a = some (.ins C dx (ns.zip vs)) ∧ ns.length = ds.length ∧ Fzs K mg H0 ds vs
  | d, v => Fz K mg H0 d v
mutual
/-- an owned tree: its nodes' addresses at fp -/
def Ow (H0 H : Hp) : D → Md → V → List Addr → Prop
  | d, .z, v, fp => fp = [] ∧ Fz K mg H0 d v
  | .lst ds, .o k, v, fp => ∃ a vs g, v = .ref a ∧ H a = some (.lst vs) ∧ fp = a :: g ∧ Ows H0 H ds k vs g
  | .tup ds, .o k, v, fp => ∃ a vs g, v = .ref a ∧ H a = some (.tup vs) ∧ fp = a :: g ∧ Ows H0 H ds k vs g
  | .dct ks ds, .o k, v, fp => ∃ a vs g, v = .ref a ∧ fp = a :: g ∧ DctOw H a ks vs ∧ Ows H0 H ds k vs g
  | .ins c ns ds, .o k, v, fp => ∃ a C dx vs g, v = .ref a ∧ fp = a :: g ∧ mg c = some (.ref C) ∧ H a = some (.ins C dx (ns.zip vs)) ∧ ns.length = ds.length ∧ Ows H0 H ds k vs g
  | .non, .o _, v, fp => fp = [] ∧ v = .non
  | .bl b, .o _, v, fp => fp = [] ∧ v = .bl b
  | .int i, .o _, v, fp => fp = [] ∧ v = .int i
  | .str s, .o _, v, fp => fp = [] ∧ v = sV s ∧ sOk s = true
  | .scr ns, .o _, v, fp => False
def Ows (H0 H : Hp) : List D → Kd → List V → List Addr → Prop
  | [], _, vs, fp => vs = [] ∧ fp = []
  | d :: ds, k, vs, fp => ∃ v r f g, vs = v :: r ∧ fp = f ++ g ∧ Ow H0 H d k.hd v f ∧ Ows H0 H ds k.tl r g
end
end
/-! ### they stay -/
def ext (H0 H : Hp) (fp : List Addr) : Hp := fun a => if a ∈ fp then H a else H0 a
theorem ext_in {H0 H : Hp} {fp : List Addr} {a : Addr} (h : a ∈ fp) : ext H0 H fp a = H a := by unfold ext; rw [if_pos h]
theorem ext_out {H0 H : Hp} {fp : List Addr} {a : Addr} (h : a ∉ fp) : ext H0 H fp a = H0 a := by unfold ext; rw [if_neg h]
theorem ext_nil {H0 H : Hp} : ext H0 H [] = H0 := by funext a; exact ext_out (by simp)
theorem same_ext {H0 H : Hp} {fp : List Addr} (s : Same H0 H) : Same H0 (ext H0 H fp) := fun a o e => by
  by_cases h : a ∈ fp
  · rw [ext_in h]; exact s a o e
  · rw [ext_out h]; exact e
theorem ext_same {H0 H : Hp} {fp : List Addr} (s : Same H0 H) : Same (ext H0 H fp) H := fun a o e => by
  by_cases h : a ∈ fp
  · rw [ext_in h] at e; exact e
  · rw [ext_out h] at e; exact s a o e
theorem ext_mono {H0 H : Hp} {fp g : List Addr} (s : Same H0 H) (h : ∀ a ∈ g, a ∈ fp) : Same (ext H0 H g) (ext H0 H fp) := fun a o e => by
  by_cases k : a ∈ fp
  · rw [ext_in k]; exact ext_same s a o e
  · rw [ext_out k]; rw [ext_out (fun z => k (h a z))] at e; exact e
section
variable {K : PySem.W.Frag} {mg : Str → Option Value} {H H' H0 H0' : Hp}
theorem same_rd {a : Addr} {u : HO} (s : Same H H') (h : Rd H a u) : Rd H' a u := by
  rcases h with h | ⟨o, h⟩
  · exact .inl (s _ _ h)
  · exact .inr ⟨o, s _ _ h⟩
theorem same_t {a : Addr} {xs : List V} (s : Same H H') (h : SqT K H a xs) : SqT K H' a xs := by
  rcases h with h | h
  · exact .inl (same_rd s h)
  · exact .inr h
theorem same_d {a : Addr} {ks : List D} {vs : List V} (s : Same H H') (h : DctAt H a ks vs) : DctAt H' a ks vs := by
  obtain ⟨kvs, h, e⟩ := h
  exact ⟨kvs, same_rd s h, e⟩
theorem DctOw.at {a : Addr} {ks : List D} {vs : List V} (h : DctOw H a ks vs) : DctAt H a ks vs := by
  obtain ⟨kvs, h, q⟩ := h
  exact ⟨kvs, .inl h, q⟩
theorem DctOw.eq {a : Addr} {ks : List D} {vs : List V} (h : DctOw H a ks vs) (e : H' a = H a) : DctOw H' a ks vs := by
  obtain ⟨kvs, h, q⟩ := h
  exact ⟨kvs, by rw [e]; exact h, q⟩
mutual
theorem Fz.mono (s : Same H H') : ∀ (d : D) (v : V), Fz K mg H d v → Fz K mg H' d v
  | .non, _, h => h
  | .bl _, _, h => h
  | .int _, _, h => h
  | .str _, _, h => h
  | .tup ds, _, ⟨a, vs, e, h, r⟩ => ⟨a, vs, e, same_t s h, Fzs.mono s ds vs r⟩
  | .lst ds, _, ⟨a, vs, e, h, r⟩ => ⟨a, vs, e, s _ _ h, Fzs.mono s ds vs r⟩
  | .scr ns, _, ⟨a, e, h⟩ => ⟨a, e, s.seq h⟩
  | .dct ks ds, _, ⟨a, vs, e, h, r⟩ => ⟨a, vs, e, same_d s h, Fzs.mono s ds vs r⟩
  | .ins c ns ds, _, ⟨a, C, dx, vs, e, g, h, l, r⟩ => ⟨a, C, dx, vs, e, g, s _ _ h, l, Fzs.mono s ds vs r⟩
theorem Fzs.mono (s : Same H H') : ∀ (ds : List D) (vs : List V), Fzs K mg H ds vs → Fzs K mg H' ds vs
  | [], _, h => h
  | d :: ds, _, ⟨v, r, e, h, t⟩ => ⟨v, r, e, Fz.mono s d v h, Fzs.mono s ds r t⟩
end
theorem Fz.sh (s : Same H0 H) : ∀ {d : D} {v : V}, Fz K mg H0 d v → Sh K mg H0 H d v
  | .non, _, h => h
  | .bl _, _, h => h
  | .int _, _, h => h
  | .str _, _, h => h
  | .tup _, _, h => h
  | .lst _, _, ⟨a, vs, e, h, r⟩ => ⟨a, vs, e, s _ _ h, r⟩
  | .scr _, _, ⟨a, e, h⟩ => ⟨a, e, s.seq h⟩
  | .dct _ _, _, ⟨a, vs, e, h, r⟩ => ⟨a, vs, e, same_d s h, r⟩
  | .ins _ _ _, _, ⟨a, C, dx, vs, e, g, h, l, r⟩ => ⟨a, C, dx, vs, e, g, s _ _ h, l, r⟩
theorem Sh.fz (s : Same H0 H) : ∀ {d : D} {v : V}, Sh K mg H0 H d v → Fz K mg H d v
  | .scr _, _, h => h
  | .non, _, h => h
  | .bl _, _, h => h
  | .int _, _, h => h
  | .str _, _, h => h
  | .tup ds, v, h => Fz.mono s (.tup ds) v h
  | .lst _, _, ⟨a, vs, e, h, r⟩ => ⟨a, vs, e, h, Fzs.mono s _ _ r⟩
  | .dct _ _, _, ⟨a, vs, e, h, r⟩ => ⟨a, vs, e, h, Fzs.mono s _ _ r⟩
  | .ins _ _ _, _, ⟨a, C, dx, vs, e, g, h, l, r⟩ => ⟨a, C, dx, vs, e, g, h, l, Fzs.mono s _ _ r⟩
theorem Ow.zero {d : D} {v : V} {fp : List Addr} : Ow K mg H0 H d .z v fp ↔ fp = [] ∧ Fz K mg H0 d v := by cases d <;> simp [Ow]
mutual
/-- the tree stays where its nodes stay -/
theorem Ow.mono (s : Same H0 H0') : ∀ (d : D) (m : Md) (v : V) (fp : List Addr), (∀ a ∈ fp, H' a = H a) → Ow K mg H0 H d m v fp → Ow K mg H0' H' d m v fp
  | d, .z, v, fp, _, h => Ow.zero.mpr ⟨(Ow.zero.mp h).1, Fz.mono s d v (Ow.zero.mp h).2⟩
  | .non, .o _, _, _, _, h => h
  | .bl _, .o _, _, _, _, h => h
  | .int _, .o _, _, _, _, h => h
  | .str _, .o _, _, _, _, h => h
  | .scr _, .o _, _, _, _, h => h
  | .tup ds, .o k, _, _, q, ⟨a, vs, g, e, h, ef, r⟩ => by
    subst ef
    exact ⟨a, vs, g, e, by rw [q a List.mem_cons_self]; exact h, rfl, Ows.mono s ds k vs g (fun b hb => q b (List.mem_cons_of_mem _ hb)) r⟩
  | .lst ds, .o k, _, _, q, ⟨a, vs, g, e, h, ef, r⟩ => by
    subst ef
    exact ⟨a, vs, g, e, by rw [q a List.mem_cons_self]; exact h, rfl, Ows.mono s ds k vs g (fun b hb => q b (List.mem_cons_of_mem _ hb)) r⟩
  | .dct ks ds, .o k, _, _, q, ⟨a, vs, g, e, ef, h, r⟩ => by
    subst ef
    exact ⟨a, vs, g, e, rfl, h.eq (q a List.mem_cons_self), Ows.mono s ds k vs g (fun b hb => q b (List.mem_cons_of_mem _ hb)) r⟩
  | .ins c ns ds, .o k, _, _, q, ⟨a, C, dx, vs, g, e, ef, hm, h, l, r⟩ => by
    subst ef
    exact ⟨a, C, dx, vs, g, e, rfl, hm, by rw [q a List.mem_cons_self]; exact h, l, Ows.mono s ds k vs g (fun b hb => q b (List.mem_cons_of_mem _ hb)) r⟩
theorem Ows.mono (s : Same H0 H0') : ∀ (ds : List D) (k : Kd) (vs : List V) (fp : List Addr), (∀ a ∈ fp, H' a = H a) → Ows K mg H0 H ds k vs fp → Ows K mg H0' H' ds k vs fp
  | [], _, _, _, _, h => h
  | d :: ds, k, _, _, q, ⟨v, r, f, g, e, ef, h, t⟩ => by
    subst ef
    exact ⟨v, r, f, g, e, rfl, Ow.mono s d k.hd v f (fun a ha => q a (List.mem_append_left _ ha)) h, Ows.mono s ds k.tl r g (fun a ha => q a (List.mem_append_right _ ha)) t⟩
end
mutual
/-- frozen: the nodes are handed to the frozen heap -/
theorem Ow.frz (s : Same H0 H) : ∀ (d : D) (m : Md) (v : V) (fp : List Addr), Ow K mg H0 H d m v fp → Fz K mg (ext H0 H fp) d v
  | d, .z, v, fp, h => Fz.mono (same_ext s) d v (Ow.zero.mp h).2
  | .non, .o _, _, _, h => h.2
  | .bl _, .o _, _, _, h => h.2
  | .int _, .o _, _, _, h => h.2
  | .str _, .o _, _, _, h => h.2
  | .scr _, .o _, _, _, h => h.elim
  | .tup ds, .o k, _, _, ⟨a, vs, g, e, h, ef, r⟩ => by
    subst ef
    exact ⟨a, vs, e, .inl (.inl (by rw [ext_in List.mem_cons_self]; exact h)), Fzs.mono (ext_mono s fun b hb => List.mem_cons_of_mem _ hb) ds vs (Ows.frz s ds k vs g r)⟩
  | .lst ds, .o k, _, _, ⟨a, vs, g, e, h, ef, r⟩ => by
    subst ef
    exact ⟨a, vs, e, by rw [ext_in List.mem_cons_self]; exact h, Fzs.mono (ext_mono s fun b hb => List.mem_cons_of_mem _ hb) ds vs (Ows.frz s ds k vs g r)⟩
  | .dct ks ds, .o k, _, _, ⟨a, vs, g, e, ef, h, r⟩ => by
    subst ef
    exact ⟨a, vs, e, (h.eq (ext_in List.mem_cons_self)).at, Fzs.mono (ext_mono s fun b hb => List.mem_cons_of_mem _ hb) ds vs (Ows.frz s ds k vs g r)⟩
  | .ins c ns ds, .o k, _, _, ⟨a, C, dx, vs, g, e, ef, hm, h, l, r⟩ => by
    subst ef
    exact ⟨a, C, dx, vs, e, hm, by rw [ext_in List.mem_cons_self]; exact h, l, Fzs.mono (ext_mono s fun b hb => List.mem_cons_of_mem _ hb) ds vs (Ows.frz s ds k vs g r)⟩
theorem Ows.frz (s : Same H0 H) : ∀ (ds : List D) (k : Kd) (vs : List V) (fp : List Addr), Ows K mg H0 H ds k vs fp → Fzs K mg (ext H0 H fp) ds vs
  | [], _, _, _, h => h.1
  | d :: ds, k, _, _, ⟨v, r, f, g, e, ef, h, t⟩ => by
    subst ef
    exact ⟨v, r, e, Fz.mono (ext_mono s fun b hb => List.mem_append_left _ hb) d v (Ow.frz s d k.hd v f h), Fzs.mono (ext_mono s fun b hb => List.mem_append_right _ hb) ds r (Ows.frz s ds k.tl r g t)⟩
end
/-- an owned tree is readable in the whole heap -/
theorem Ow.fz (s : Same H0 H) {d : D} {m : Md} {v : V} {fp : List Addr} (h : Ow K mg H0 H d m v fp) : Fz K mg H d v := Fz.mono (ext_same s) d v (Ow.frz s d m v fp h)
theorem Ows.all_z : ∀ {ds : List D} {vs : List V} {fp : List Addr}, Ows K mg H0 H ds (.all .z) vs fp ↔ fp = [] ∧ Fzs K mg H0 ds vs
  | [], vs, fp => ⟨fun h => ⟨h.2, h.1⟩, fun h => ⟨h.2, h.1⟩⟩
  | d :: ds, vs, fp => by
    constructor
    · rintro ⟨v, r, f, g, e, ef, h, t⟩
      obtain ⟨z1, q1⟩ := Ow.zero.mp h
      obtain ⟨z2, q2⟩ := Ows.all_z.mp t
      subst z1 z2
      exact ⟨ef, v, r, e, q1, q2⟩
    · rintro ⟨ef, v, r, e, q1, q2⟩
      exact ⟨v, r, [], [], e, ef, Ow.zero.mpr ⟨rfl, q1⟩, Ows.all_z.mpr ⟨rfl, q2⟩⟩
/-- what may be lent for reading -/
def lend : D → Bool
  | .tup _ => false
  | .scr _ => false
  | _ => true
/-- at mode one what is within is frozen -/
theorem Ow.sh : ∀ {d : D} {v : V} {fp : List Addr}, lend d = true → Ow K mg H0 H d m1 v fp → Sh K mg H0 H d v
  | .non, _, _, _, h => h.2
  | .bl _, _, _, _, h => h.2
  | .int _, _, _, _, h => h.2
  | .str _, _, _, _, h => h.2
  | .lst _, _, _, _, ⟨a, vs, g, e, h, ef, r⟩ => ⟨a, vs, e, h, (Ows.all_z.mp r).2⟩
  | .dct _ _, _, _, _, ⟨a, vs, g, e, ef, h, r⟩ => ⟨a, vs, e, h.at, (Ows.all_z.mp r).2⟩
  | .ins _ _ _, _, _, _, ⟨a, C, dx, vs, g, e, ef, hm, h, l, r⟩ => ⟨a, C, dx, vs, e, hm, h, l, (Ows.all_z.mp r).2⟩
end
end Vm
set_option Elab.async false
set_option linter.all false
set_option maxRecDepth 100000
set_option maxHeartbeats 4000000
namespace Vm
open PySem PySem.Spec PyProof.Rows L2

/-! ### who owns what, steps -/
abbrev Co := Addr → Option Nat
structure Step (ms : Ms) (H0 H : Hp) (c : Co) (H0' H' : Hp) (c' : Co) : Prop where
  keep : ∀ a o, H a = some o → (∀ i, c a = some i → ms i = false) → H' a = some o
  col : ∀ a o, H a = some o → (∀ i, c a = some i → ms i = false) → c' a = c a
  grow : Same H0 H0'
  new0 : ∀ a o, H0' a = some o → (∃ u, H0 a = some u) ∨ H a = none ∨ ∃ i, c a = some i ∧ ms i = true
  newc : ∀ a i, c' a = some i → c a = some i ∨ (ms i = true ∧ (H a = none ∨ ∃ j, c a = some j ∧ ms j = true))
section
variable {ms ms' : Ms} {H0 H H0' H' H0'' H'' : Hp} {c c' c'' : Co} {a : Addr} {o : HO}
theorem Step.refl : Step ms H0 H c H0 H c := ⟨fun _ _ h _ => h, fun _ _ _ _ => rfl, Same.refl _, fun _ _ h => .inl ⟨_, h⟩, fun _ _ h => .inl h⟩
theorem Step.mono (s : Step ms H0 H c H0' H' c') (h : ∀ i, ms i = true → ms' i = true) : Step ms' H0 H c H0' H' c' := by
  have n : ∀ i, ms' i = false → ms i = false := fun i e => by
    cases q : ms i with
    | false => rfl
    | true => rw [h i q] at e; cases e
  refine ⟨fun a o e k => s.keep a o e fun i z => n i (k i z), fun a o e k => s.col a o e fun i z => n i (k i z), s.grow, fun a o e => ?_, fun a i e => ?_⟩
  · rcases s.new0 a o e with z | z | ⟨i, z, q⟩
    · exact .inl z
    · exact .inr (.inl z)
    · exact .inr (.inr ⟨i, z, h i q⟩)
  · rcases s.newc a i e with z | ⟨q, z | ⟨j, z, p⟩⟩
    · exact .inl z
    · exact .inr ⟨h i q, .inl z⟩
    · exact .inr ⟨h i q, .inr ⟨j, z, h j p⟩⟩
/-- what is not there behind was not there, or was given up -/
theorem Step.gone (s : Step ms H0 H c H0' H' c') (h : H' a = none) : H a = none ∨ ∃ i, c a = some i ∧ ms i = true := by
  cases e : H a with
  | none => exact .inl rfl
  | some o =>
    refine .inr (Classical.byContradiction fun n => ?_)
    have := s.keep a o e fun i z => by
      cases q : ms i with
      | false => rfl
      | true => exact absurd ⟨i, z, q⟩ n
    rw [h] at this; cases this
theorem Step.owned (s : Step ms H0 H c H0' H' c') {i : Nat} (h : c' a = some i) (q : ms i = true) : H a = none ∨ ∃ j, c a = some j ∧ ms j = true := by
  rcases s.newc a i h with z | ⟨_, z⟩
  · exact .inr ⟨i, z, q⟩
  · exact z
theorem Step.trans (s : Step ms H0 H c H0' H' c') (t : Step ms H0' H' c' H0'' H'' c'') : Step ms H0 H c H0'' H'' c'' := by
  refine ⟨fun a o e k => ?_, fun a o e k => ?_, s.grow.trans t.grow, fun a o e => ?_, fun a i e => ?_⟩
  · have e1 := s.keep a o e k
    exact t.keep a o e1 fun i z => k i (by rw [← s.col a o e k]; exact z)
  · have e1 := s.keep a o e k
    have e2 := s.col a o e k
    rw [t.col a o e1 fun i z => k i (by rw [← e2]; exact z), e2]
  · rcases t.new0 a o e with ⟨u, z⟩ | z | ⟨i, z, q⟩
    · exact s.new0 a u z
    · exact .inr (s.gone z)
    · exact .inr (s.owned z q)
  · rcases t.newc a i e with z | ⟨q, z | ⟨j, z, p⟩⟩
    · exact s.newc a i z
    · exact .inr ⟨q, s.gone z⟩
    · exact .inr ⟨q, s.owned z p⟩
theorem Step.same (s : Step ms0 H0 H c H0' H' c') : Same H H' := fun a o e => s.keep a o e fun _ _ => rfl
end

mutual
theorem Ow.there {K : PySem.W.Frag} {mg : Str → Option Value} {H0 H : Hp} : ∀ (d : D) (m : Md) (v : V) (fp : List Addr), Ow K mg H0 H d m v fp → ∀ a ∈ fp, ∃ u, H a = some u
  | d, .z, v, fp, h, a, ha => by rw [(Ow.zero.mp h).1] at ha; cases ha
  | .non, .o _, _, _, h, a, ha => by rw [h.1] at ha; cases ha
  | .bl _, .o _, _, _, h, a, ha => by rw [h.1] at ha; cases ha
  | .int _, .o _, _, _, h, a, ha => by rw [h.1] at ha; cases ha
  | .str _, .o _, _, _, h, a, ha => by rw [h.1] at ha; cases ha
  | .scr _, .o _, _, _, h, a, ha => h.elim
  | .tup ds, .o k, _, _, ⟨b, vs, g, e, h, ef, r⟩, a, ha => by
    subst ef
    rcases List.mem_cons.mp ha with z | ha
    · rw [z]; exact ⟨_, h⟩
    · exact Ows.there ds k vs g r a ha
  | .lst ds, .o k, _, _, ⟨b, vs, g, e, h, ef, r⟩, a, ha => by
    subst ef
    rcases List.mem_cons.mp ha with z | ha
    · rw [z]; exact ⟨_, h⟩
    · exact Ows.there ds k vs g r a ha
  | .dct ks ds, .o k, _, _, ⟨b, vs, g, e, ef, h, r⟩, a, ha => by
    subst ef
    rcases List.mem_cons.mp ha with z | ha
    · rw [z]
      obtain ⟨_, h, _⟩ := h
      exact ⟨_, h⟩
    · exact Ows.there ds k vs g r a ha
  | .ins c ns ds, .o k, _, _, ⟨b, C, dx, vs, g, e, ef, hm, h, l, r⟩, a, ha => by
    subst ef
    rcases List.mem_cons.mp ha with z | ha
    · rw [z]; exact ⟨_, h⟩
    · exact Ows.there ds k vs g r a ha
theorem Ows.there {K : PySem.W.Frag} {mg : Str → Option Value} {H0 H : Hp} : ∀ (ds : List D) (k : Kd) (vs : List V) (fp : List Addr), Ows K mg H0 H ds k vs fp → ∀ a ∈ fp, ∃ u, H a = some u
  | [], _, _, _, h, a, ha => by rw [h.2] at ha; cases ha
  | d :: ds, k, _, _, ⟨v, r, f, g, e, ef, h, t⟩, a, ha => by
    subst ef
    rcases List.mem_append.mp ha with ha | ha
    · exact Ow.there d k.hd v f h a ha
    · exact Ows.there ds k.tl r g t a ha
end
/-- how the data lies: frozen data in H0, the owned trees of the slots -/
structure Lies (K : PySem.W.Frag) (mg : Str → Option Value) (H0 H : Hp) (c : Co) (σ : L2.St) (ρ : En) : Prop where
  sub : Same H0 H
  apart : ∀ a i, c a = some i → H0 a = none
  there : ∀ a i, c a = some i → ∃ o, H a = some o
  len : ρ.length = σ.length
  slot : ∀ i m d, getS ρ i = some (m, d) → ∃ v fp, σ[i]? = some (some v) ∧ Ow K mg H0 H d m v fp ∧ fp.Nodup ∧ ∀ a ∈ fp, c a = some i
/-- a result's nodes: new, or handed over -/
structure Fresh (ms : Ms) (H : Hp) (c : Co) (H0' H' : Hp) (c' : Co) (fp : List Addr) : Prop where
  nd : fp.Nodup
  nc : ∀ a ∈ fp, c' a = none
  n0 : ∀ a ∈ fp, H0' a = none
  there : ∀ a ∈ fp, ∃ o, H' a = some o
  new : ∀ a ∈ fp, H a = none ∨ ∃ i, c a = some i ∧ ms i = true
def ExcAt (K : PySem.W.Frag) (mg : Str → Option Value) (H0 : Hp) (n : Str) (ns : List Str) (vs : List D) (cls : Value) (dx : Option Addr) : Prop :=
  ∃ C, mg n = some (.ref C) ∧ cls = .ref C ∧ ((ns = [] ∧ vs = [] ∧ dx = none) ∨ ∃ p fs, dx = some p ∧ H0 p = some (.xd fs) ∧ fs.map (·.1) = ns ∧ Fzs K mg H0 vs (fs.map (·.2)))

section
variable {K : PySem.W.Frag} {mg : Str → Option Value} {ms ms1 ms2 : Ms} {H0 H H0' H' H0'' H'' : Hp} {c c' c'' : Co} {σ : L2.St} {ρ ρ' : En} {a : Addr} {o : HO}
theorem Fresh.nil : Fresh ms H c H0' H' c' [] := ⟨List.nodup_nil, by simp, by simp, by simp, by simp⟩
theorem Fresh.mono {fp : List Addr} (f : Fresh ms1 H c H0' H' c' fp) (h : ∀ i, ms1 i = true → ms2 i = true) : Fresh ms2 H c H0' H' c' fp :=
  ⟨f.nd, f.nc, f.n0, f.there, fun a ha => (f.new a ha).imp id fun ⟨i, e, q⟩ => ⟨i, e, h i q⟩⟩
/-- seen from further ahead -/
theorem Fresh.back {fp : List Addr} (s : Step ms H0 H c H0' H' c') (f : Fresh ms H' c' H0'' H'' c'' fp) : Fresh ms H c H0'' H'' c'' fp :=
  ⟨f.nd, f.nc, f.n0, f.there, fun a ha => by
    rcases f.new a ha with z | ⟨i, z, q⟩
    · exact s.gone z
    · exact s.owned z q⟩
/-- it stays through a further step -/
theorem Fresh.on {fp : List Addr} (f : Fresh ms H c H0' H' c' fp) (s : Step ms2 H0' H' c' H0'' H'' c'') : Fresh ms H c H0'' H'' c'' fp ∧ ∀ a ∈ fp, H'' a = H' a := by
  have cc : ∀ a ∈ fp, ∀ i, c' a = some i → ms2 i = false := fun a ha i e => by rw [f.nc a ha] at e; cases e
  have hk : ∀ a ∈ fp, H'' a = H' a := fun a ha => by
    obtain ⟨o, e⟩ := f.there a ha
    rw [e]; exact s.keep a o e (cc a ha)
  refine ⟨⟨f.nd, fun a ha => ?_, fun a ha => ?_, fun a ha => ?_, f.new⟩, hk⟩
  · obtain ⟨o, e⟩ := f.there a ha
    rw [s.col a o e (cc a ha)]; exact f.nc a ha
  · cases e : H0'' a with
    | none => rfl
    | some u =>
      obtain ⟨o, e1⟩ := f.there a ha
      rcases s.new0 a u e with ⟨w, z⟩ | z | ⟨i, z, _⟩
      · rw [f.n0 a ha] at z; cases z
      · rw [e1] at z; cases z
      · rw [f.nc a ha] at z; cases z
  · rw [hk a ha]; exact f.there a ha
theorem ExcAt.mono {n : Str} {ns : List Str} {vs : List D} {cls : Value} {dx : Option Addr} (h : ExcAt K mg H0 n ns vs cls dx) (s : Same H0 H0') : ExcAt K mg H0' n ns vs cls dx := by
  obtain ⟨C, h1, h2, h3⟩ := h
  refine ⟨C, h1, h2, ?_⟩
  rcases h3 with h3 | ⟨p, fs, e, h4, h5, h6⟩
  · exact .inl h3
  · exact .inr ⟨p, fs, e, s _ _ h4, h5, Fzs.mono s _ _ h6⟩
end

/-! ### outcomes -/
/-- how an end of data lies, seen from the heap and the owners at the beginning -/
abbrev Fam (α β : Type) := Hp → Co → α → Hp → Hp → Co → β → Prop
def Back {α β : Type} (ms : Ms) (F : Fam α β) : Prop := ∀ H0 H c H0' H' c' d H0'' H'' c'' v, Step ms H0 H c H0' H' c' → F H' c' d H0'' H'' c'' v → F H c d H0'' H'' c'' v
/-- an owned tree at mode m, its nodes new or handed over -/
def FO (K : PySem.W.Frag) (mg : Str → Option Value) (m : Md) (ms : Ms) : Fam D V := fun H c d H0' H' c' v => ∃ fp, Ow K mg H0' H' d m v fp ∧ Fresh ms H c H0' H' c' fp
/-- frozen, or lent by a slot of bs -/
def Bw (K : PySem.W.Frag) (mg : Str → Option Value) (bs : Ms) (H0 H : Hp) (c : Co) (d : D) (v : V) : Prop :=
  Fz K mg H0 d v ∨ ∃ fp i, bs i = true ∧ lend d = true ∧ Ow K mg H0 H d m1 v fp ∧ ∀ a ∈ fp, c a = some i
def FB (K : PySem.W.Frag) (mg : Str → Option Value) (bs : Ms) : Fam D V := fun _ _ d H0' H' c' v => Bw K mg bs H0' H' c' d v
def Bws (K : PySem.W.Frag) (mg : Str → Option Value) (bs : Ms) (H0 H : Hp) (c : Co) : List D → List V → Prop
  | [], vs => vs = []
  | d :: ds, vs => ∃ v r, vs = v :: r ∧ Bw K mg bs H0 H c d v ∧ Bws K mg bs H0 H c ds r
def FBs (K : PySem.W.Frag) (mg : Str → Option Value) (bs : Ms) : Fam (List D) (List V) := fun _ _ d H0' H' c' v => Bws K mg bs H0' H' c' d v
/-- owned trees side by side -/
def FOs (K : PySem.W.Frag) (mg : Str → Option Value) (k : Kd) (ms : Ms) : Fam (List D) (List V) := fun H c d H0' H' c' v => ∃ fp, Ows K mg H0' H' d k v fp ∧ Fresh ms H c H0' H' c' fp
/-- a truth -/
def FT : Fam D Bool := fun _ _ d _ _ _ b => d = .bl b

/-- what must hold so that the end x brings Q -/
def Out {α β : Type} (K : PySem.W.Frag) (mg : Str → Option Value) (W : WX) (F : Fam α β) (ms : Ms) (H0 H : Hp) (c : Co) (σ : L2.St) (x : Res α) (Q : β → Hp → Prop) : Prop := match x with
  | .ok d ρ' => ∀ v H0' H' c', Step ms H0 H c H0' H' c' → Lies K mg H0' H' c' σ ρ' → F H c d H0' H' c' v → Q v H'
  | .exc n ns vs ρ' => ∀ cls dx H0' H' c', Step ms H0 H c H0' H' c' → Lies K mg H0' H' c' σ ρ' → ExcAt K mg H0' n ns vs cls dx → W cls dx σ H'
  | .bad => False
/-- a reading by data -/
def tR {α β : Type} (K : PySem.W.Frag) (mg : Str → Option Value) (W : WX) (F : Fam α β) (ms : Ms) (f : M α) : L2.St → Hp → (β → Hp → Prop) → Prop := fun σ H Q => ∃ ρ H0 c, Lies K mg H0 H c σ ρ ∧ Out K mg W F ms H0 H c σ (f ρ) Q
section
variable {K : PySem.W.Frag} {mg : Str → Option Value} {ms ms1 ms2 bs bs1 bs2 : Ms} {H0 H H0' H' H0'' H'' : Hp} {c c' c'' : Co} {σ : L2.St} {ρ ρ' : En} {a : Addr} {o : HO}
variable {α β γ δ : Type} {W : WX} {m m' : Md} {F : Fam α β} {G : Fam γ δ} {Q Q' : β → Hp → Prop} {d : D} {x : Res α} {v : V} {fp : List Addr}
theorem back_FO : Back ms (FO K mg m ms) := fun _ _ _ _ _ _ _ _ _ _ _ s ⟨fp, o, f⟩ => ⟨fp, o, f.back s⟩
theorem back_FOs {k : Kd} : Back ms (FOs K mg k ms) := fun _ _ _ _ _ _ _ _ _ _ _ s ⟨fp, o, f⟩ => ⟨fp, o, f.back s⟩
theorem back_FB : Back ms (FB K mg bs) := fun _ _ _ _ _ _ _ _ _ _ _ _ h => h
theorem back_FBs : Back ms (FBs K mg bs) := fun _ _ _ _ _ _ _ _ _ _ _ _ h => h
theorem back_FT : Back ms FT := fun _ _ _ _ _ _ _ _ _ _ _ _ h => h
theorem Out.imp (h : Out K mg W F ms H0 H c σ x Q) (q : ∀ v H', Q v H' → Q' v H') : Out K mg W F ms H0 H c σ x Q' := by
  cases x with
  | ok d r => exact fun v H0' H' c' s l o => q _ _ (h v H0' H' c' s l o)
  | exc n ns vs r => exact h
  | bad => exact h
/-- another family, fewer slots changed -/
theorem Out.mono {F' : Fam α β} (h : Out K mg W F ms2 H0 H c σ x Q) (q : ∀ i, ms1 i = true → ms2 i = true) (r : ∀ d H0' H' c' v, F' H c d H0' H' c' v → F H c d H0' H' c' v) : Out K mg W F' ms1 H0 H c σ x Q := by
  cases x with
  | ok d ρ => exact fun v H0' H' c' s l o => h v H0' H' c' (s.mono q) l (r _ _ _ _ _ o)
  | exc n ns vs r => exact fun cls dx H0' H' c' s l e => h cls dx H0' H' c' (s.mono q) l e
  | bad => exact h
theorem fo_mono (q : ∀ i, ms1 i = true → ms2 i = true) {d : D} {v : V} : FO K mg m ms1 H c d H0' H' c' v → FO K mg m ms2 H c d H0' H' c' v := fun ⟨fp, o, f⟩ => ⟨fp, o, f.mono q⟩
/-- from a state further on -/
theorem Out.on (b : Back ms F) (h : Out K mg W F ms H0 H c σ x Q) (s : Step ms H0 H c H0' H' c') : Out K mg W F ms H0' H' c' σ x Q := by
  cases x with
  | ok d r => exact fun v H0'' H'' c'' t l o => h v H0'' H'' c'' (s.trans t) l (b _ _ _ _ _ _ _ _ _ _ _ s o)
  | exc n ns vs r => exact fun cls dx H0'' H'' c'' t l e => h cls dx H0'' H'' c'' (s.trans t) l e
  | bad => exact h
/-- one thing, then what follows -/
theorem Out.bind {f : Res γ} {g : γ → M α} (b : Back ms F) (h : Out K mg W F ms H0 H c σ (f.bind g) Q) (h1 : ∀ i, ms1 i = true → ms i = true) :
    Out K mg W G ms1 H0 H c σ f fun v H1 => ∃ d H01 c1 ρ1, f = .ok d ρ1 ∧ Step ms1 H0 H c H01 H1 c1 ∧ Lies K mg H01 H1 c1 σ ρ1 ∧ G H c d H01 H1 c1 v ∧ Out K mg W F ms H01 H1 c1 σ (g d ρ1) Q := by
  cases f with
  | ok d r => exact fun v H0' H' c' s l f => ⟨d, H0', c', r, rfl, s, l, f, h.on b (s.mono h1)⟩
  | exc n ns vs r => exact fun cls dx H0' H' c' s l e => h cls dx H0' H' c' (s.mono h1) l e
  | bad => exact h
theorem tR.imp {f : M α} (h : tR K mg W F ms f σ H Q) (q : ∀ v H', Q v H' → Q' v H') : tR K mg W F ms f σ H Q' := by
  obtain ⟨ρ, H0, c, l, h⟩ := h
  exact ⟨ρ, H0, c, l, h.imp q⟩
theorem ow_zero_fo {v : V} (f : Fz K mg H0' d v) : FO K mg .z ms H c d H0' H' c' v := ⟨[], Ow.zero.mpr ⟨rfl, f⟩, .nil⟩
/-- a frozen end, the heap as it is -/
theorem Out.here {Q : V → Hp → Prop} (h : Out K mg W (FO K mg .z ms) ms H0 H c σ (.ok d ρ) Q) (l : Lies K mg H0 H c σ ρ) (f : Fz K mg H0 d v) : Q v H := h v H0 H c .refl l (ow_zero_fo f)
theorem Lies.upd_new {p : Addr} (l : Lies K mg H0 H c σ ρ) (hp : H p = none) : Lies K mg H0 (upd H p o) c σ ρ := by
  have hne : ∀ a i, c a = some i → a ≠ p := fun a i e => by
    obtain ⟨u, q⟩ := l.there a i e
    exact ne_of_none q hp
  refine ⟨fun a u e => by rw [upd_ne (ne_of_none (l.sub a u e) hp)]; exact l.sub a u e, l.apart, fun a i e => ?_, l.len, fun i m d e => ?_⟩
  · obtain ⟨u, q⟩ := l.there a i e
    exact ⟨u, by rw [upd_ne (hne a i e)]; exact q⟩
  · obtain ⟨v, fp, e1, ow, nd, hc⟩ := l.slot i m d e
    exact ⟨v, fp, e1, Ow.mono (Same.refl _) d m v fp (fun a ha => upd_ne (hne a i (hc a ha))) ow, nd, hc⟩
theorem Lies.nc {p : Addr} (l : Lies K mg H0 H c σ ρ) (hp : H p = none) : c p = none := by
  cases e : c p with
  | none => rfl
  | some i =>
    obtain ⟨u, q⟩ := l.there p i e
    rw [hp] at q; cases q
theorem Lies.n0 {p : Addr} (l : Lies K mg H0 H c σ ρ) (hp : H p = none) : H0 p = none := l.sub.free hp
theorem Step.new {p : Addr} (hp : H p = none) : Step ms H0 H c H0 (upd H p o) c :=
  ⟨fun a u e _ => by rw [upd_ne (ne_of_none e hp)]; exact e, fun _ _ _ _ => rfl, Same.refl _, fun _ _ h => .inl ⟨_, h⟩, fun _ _ h => .inl h⟩
/-- a new node over nodes that are held -/
theorem Out.node {p : Addr} {g : List Addr} {Q : V → Hp → Prop} {Hs : Hp} {cs : Co} (h : Out K mg W (FO K mg m ms) ms H0 H c σ (.ok d ρ) Q) (s : Step ms H0 H c H0' H' c') (l : Lies K mg H0' H' c' σ ρ) (hp : H' p = none)
    (fg : Fresh ms H c H0' H' c' g) (ow : Ow K mg H0' (upd H' p o) d m (.ref p) (p :: g)) : Q (.ref p) (upd H' p o) := by
  have hne : ∀ a ∈ g, a ≠ p := fun a ha => by
    obtain ⟨u, q⟩ := fg.there a ha
    exact ne_of_none q hp
  refine h (.ref p) H0' (upd H' p o) c' (s.trans (.new hp)) (l.upd_new hp) ⟨p :: g, ow, List.nodup_cons.mpr ⟨fun z => hne p z rfl, fg.nd⟩, fun a ha => ?_, fun a ha => ?_, fun a ha => ?_, fun a ha => ?_⟩
  · rcases List.mem_cons.mp ha with e | ha
    · rw [e]; exact l.nc hp
    · exact fg.nc a ha
  · rcases List.mem_cons.mp ha with e | ha
    · rw [e]; exact l.n0 hp
    · exact fg.n0 a ha
  · rcases List.mem_cons.mp ha with e | ha
    · rw [e]; exact ⟨o, upd_same⟩
    · rw [upd_ne (hne a ha)]; exact fg.there a ha
  · rcases List.mem_cons.mp ha with e | ha
    · rw [e]; exact s.gone hp
    · exact fg.new a ha
/-- a new object -/
theorem Out.new {p : Addr} {Q : V → Hp → Prop} (h : Out K mg W (FO K mg m ms) ms H0 H c σ (.ok d ρ) Q) (l : Lies K mg H0 H c σ ρ) (hp : H p = none) (ow : Ow K mg H0 (upd H p o) d m (.ref p) [p]) : Q (.ref p) (upd H p o) :=
  Out.node (Hs := H) (cs := c) h .refl l hp .nil ow
/-- the frozen heap takes a result over -/
theorem Lies.take (l : Lies K mg H0 H c σ ρ) (nc : ∀ a ∈ fp, c a = none) : Lies K mg (ext H0 H fp) H c σ ρ := by
  refine ⟨ext_same l.sub, fun a i e => ?_, l.there, l.len, fun i m d e => ?_⟩
  · rw [ext_out fun z => by rw [nc a z] at e; cases e]
    exact l.apart a i e
  · obtain ⟨v, g, e1, ow, nd, hc⟩ := l.slot i m d e
    exact ⟨v, g, e1, Ow.mono (same_ext l.sub) d m v g (fun _ _ => rfl) ow, nd, hc⟩
theorem Step.take (s : Step ms H0 H c H0' H' c') (l : Same H0' H') (f : Fresh ms H c H0' H' c' fp) : Step ms H0 H c (ext H0' H' fp) H' c' := by
  refine ⟨s.keep, s.col, s.grow.trans (same_ext l), fun a o e => ?_, s.newc⟩
  by_cases z : a ∈ fp
  · exact .inr (f.new a z)
  · rw [ext_out z] at e
    exact s.new0 a o e
/-- an owned end is a frozen one -/
theorem Out.frz {x : Res D} {Q : V → Hp → Prop} (h : Out K mg W (FO K mg .z ms) ms H0 H c σ x Q) : Out K mg W (FO K mg m ms) ms H0 H c σ x Q := by
  cases x with
  | ok d r => exact fun v H0' H' c' s l ⟨fp, o, f⟩ => h v (ext H0' H' fp) H' c' (s.take l.sub f) (l.take f.nc) (ow_zero_fo (Ow.frz l.sub d m v fp o))
  | exc n ns vs r => exact h
  | bad => exact h
/-- a lent value stays through steps that leave its slot alone -/
theorem Bw.on (h : Bw K mg bs H0 H c d v) (s : Step ms H0 H c H0' H' c') (dj : ∀ i, bs i = true → ms i = false) : Bw K mg bs H0' H' c' d v := by
  rcases h with h | ⟨fp, i, hi, hl, o, hc⟩
  · exact .inl (Fz.mono s.grow d v h)
  · have hk : ∀ a ∈ fp, ∀ u, H a = some u → H' a = some u := fun a ha u e => s.keep a u e fun j e2 => by rw [hc a ha] at e2; cases e2; exact dj i hi
    have all : ∀ (d : D) (m : Md) (v : V) (fp : List Addr), Ow K mg H0 H d m v fp → ∀ a ∈ fp, ∃ u, H a = some u := Ow.there
    refine .inr ⟨fp, i, hi, hl, Ow.mono s.grow d m1 v fp (fun a ha => ?_) o, fun a ha => ?_⟩
    · obtain ⟨u, e⟩ := all _ _ _ _ o a ha
      rw [e]; exact hk a ha u e
    · obtain ⟨u, e⟩ := all _ _ _ _ o a ha
      rw [s.col a u e fun j e2 => by rw [hc a ha] at e2; cases e2; exact dj i hi]
      exact hc a ha
theorem Bw.sh (s : Same H0 H) (h : Bw K mg bs H0 H c d v) : Sh K mg H0 H d v := by
  rcases h with h | ⟨fp, i, hi, hl, o, hc⟩
  · exact h.sh s
  · exact o.sh hl
end
theorem _root_.L2.PE.imp {X : Cx} {e : Expr} {t t' : TE} (h : PE X e t) (q : ∀ σ H Q, t' σ H Q → t σ H Q) : PE X e t' := ⟨fun pins s σ H Q I w => h.run pins s σ H Q I (q σ H Q w)⟩
theorem _root_.L2.PT.imp {X : Cx} {e : Expr} {t t' : TT} (h : PT X e t) (q : ∀ σ H Q, t' σ H Q → t σ H Q) : PT X e t' := ⟨fun pins s σ H Q I w => h.run pins s σ H Q I (q σ H Q w)⟩
theorem _root_.L2.PA.imp {X : Cx} {e : List Expr} {t t' : TA} (h : PA X e t) (q : ∀ σ H Q, t' σ H Q → t σ H Q) : PA X e t' := ⟨fun p pins s σ H Q I w => h.run p pins s σ H Q I (q σ H Q w)⟩
theorem _root_.L2.PS.imp {X : Cx} {e : Stmt} {t t' : TS} (h : PS X e t) (q : ∀ D σ H, t' D σ H → t D σ H) : PS X e t' := ⟨fun pins s σ H D I w => h.run pins s σ H D I (q D σ H w)⟩
theorem _root_.L2.PSs.imp {X : Cx} {e : List Stmt} {t t' : TS} (h : PSs X e t) (q : ∀ D σ H, t' D σ H → t D σ H) : PSs X e t' := ⟨fun pins s σ H D I w => h.run pins s σ H D I (q D σ H w)⟩
end Vm
set_option Elab.async false
set_option linter.all false
set_option maxRecDepth 100000
set_option maxHeartbeats 4000000
namespace Vm
open PySem PySem.Spec PyProof.Rows L2

/-! ### contexts -/
structure GC where
  P : Program
  w : World
  K : PySem.W.Frag
  mg : Str → Option Value
  base : Heap
structure Rs where
  A : Around
  s_0 : Shared
  H_0 : Hp
  env : Env
  outer : List Env
  stack : List Env
  ex : List Addr
  fn : Str → Bool
  calm : Bool
  pn : List (Addr × Obj)
  xe : Value → Shared → Prop
abbrev mkX (G : GC) (N : List Str) (R : Rs) : Cx :=
  { prog := G.P, w := G.w, K := G.K, mg := G.mg, base := G.base, A := R.A, N := N, s_0 := R.s_0, H_0 := R.H_0, env := R.env, outer := R.outer, stack := R.stack, ex := R.ex, fn := R.fn, calm := R.calm, pn := R.pn, xe := R.xe }
/-- what is known of where one stands: the scope, which names are cells of one's own, the room for calls, whether nothing is being handled -/
structure SC where
  sc : Scope
  fn : Str → Bool
  k : Nat
  cm : Bool
structure At (S : SC) (N : List Str) (X : Cx) : Prop where
  sc : X.env.scope = S.sc
  fn : X.fn = S.fn
  nd : N.Nodup
  calm : X.calm = S.cm
  room : S.cm = true → Room S.k X.A
  po : PassesOwn (model X.prog X.w) X.A X.env X.xe

def VE {α β : Type} (G : GC) (N : List Str) (S : SC) (J : Cx → (L2.St → Hp → (β → Hp → Prop) → Prop) → Prop) (F : Fam α β) (ms : Ms) (f : M α) : Prop :=
  ∀ R, At S N (mkX G N R) → ∀ W, Takes (mkX G N R) W → J (mkX G N R) (tR G.K G.mg W F ms f)
/-- an expression: its end owned at mode m -/
abbrev VO (G : GC) (N : List Str) (S : SC) (m : Md) (ms : Ms) (e : Expr) (f : M D) : Prop := VE G N S (fun X t => PE X e t) (FO G.K G.mg m ms) ms f
/-- .. its end frozen or lent -/
abbrev VB (G : GC) (N : List Str) (S : SC) (bs ms : Ms) (e : Expr) (f : M D) : Prop := VE G N S (fun X t => PE X e t) (FB G.K G.mg bs) ms f
/-- arguments: frozen or lent -/
abbrev VA (G : GC) (N : List Str) (S : SC) (bs ms : Ms) (es : List Expr) (f : M (List D)) : Prop := VE G N S (fun X t => PA X es t) (FBs G.K G.mg bs) ms f
/-- the children of a display -/
abbrev VL (G : GC) (N : List Str) (S : SC) (k : Kd) (ms : Ms) (es : List Expr) (f : M (List D)) : Prop := VE G N S (fun X t => PA X es t) (FOs G.K G.mg k ms) ms f
/-- a test -/
abbrev VT (G : GC) (N : List Str) (S : SC) (ms : Ms) (e : Expr) (f : M D) : Prop := VE G N S (fun X t => PT X e t) FT ms f
abbrev VW (G : GC) (N : List Str) (S : SC) (ms : Ms) (e : Expr) (f : M D) : Prop := VE G N S (fun X t => PW X e t) FT ms f

def rM {α : Type} (x : Option α) : M α := fun r => match x with
  | some a => .ok a r
  | none => .bad
@[simp] theorem rM_some {α : Type} (a : α) (r : En) : rM (some a) r = .ok a r := rfl
@[simp] theorem rM_none {α : Type} (r : En) : rM (none : Option α) r = .bad := rfl

section
variable {G : GC} {N : List Str} {S : SC} {bs bs1 bs2 ms ms1 ms2 ms3 : Ms} {m : Md} {e a b : Expr} {es : List Expr} {f fa fb : M D} {pos : Pos}

theorem VO.frz (h : VO G N S m ms e f) : VO G N S .z ms e f := fun R a W t => (h R a W t).imp fun σ H Q ⟨ρ, H0, c, l, o⟩ => ⟨ρ, H0, c, l, o.frz⟩
theorem VO.vb (h : VO G N S .z ms e f) : VB G N S ms0 ms e f := fun R a W t => (h R a W t).imp fun σ H Q ⟨ρ, H0, c, l, o⟩ => ⟨ρ, H0, c, l, o.mono (fun _ h => h) fun d H0' H' c' v ⟨fp, o, _⟩ => .inl (Ow.zero.mp o).2⟩

/-! ### constants, names -/
def eC (d : D) : M D := fun r => .ok d r
theorem VO.cst {v : V} {d : D} (h : ∀ X, PE X e (tC v)) (hd : ∀ H, Fz G.K G.mg H d v) : VO G N S .z ms0 e (eC d) := fun R a W t => (h _).imp fun σ H Q ⟨ρ, H0, c, l, o⟩ => o.here l (hd H0)
theorem VO.int {i j pos} : VO G N S .z ms0 (.Constant (.int i) j pos) (eC (.int i)) := .cst (fun X => pe_int) fun _ => rfl
theorem VO.bl {b j pos} : VO G N S .z ms0 (.Constant (.bool b) j pos) (eC (.bl b)) := .cst (fun X => pe_bl) fun _ => rfl
theorem VO.non {j pos} : VO G N S .z ms0 (.Constant .none j pos) (eC .non) := .cst (fun X => pe_non) fun _ => rfl
theorem VO.str {x : Str} {s : List Nat} {j pos} (h : x = ⟨s.toArray⟩ := by rfl) (hs : sOk s = true := by rfl) : VO G N S .z ms0 (.Constant (.str x) j pos) (eC (.str s)) := .cst (v := .str x) (fun X => pe_str) fun _ => ⟨by rw [h], hs⟩
def Hp0 : Hp := fun _ => none
/-- a constant of the module -/
def GlobC (G : GC) (x : Str) (d : D) : Prop := ∃ v u, G.mg x = some u ∧ RelV v u ∧ Fz G.K G.mg Hp0 d v
abbrev Glb (S : SC) (x : Str) : Prop := S.sc.names.lookup x = some .globalImplicit
theorem At.gl {X : Cx} {x : Str} (a : At S N X) (h : Glb S x) : Gl X x := by
  show X.env.scope.names.lookup x = _
  rw [a.sc]; exact h
theorem At.vis {X : Cx} {x : Str} (a : At S N X) (h : Vis S.sc x) : Vis X.env.scope x := by rw [a.sc]; exact h
theorem VO.glob {x : Str} {d : D} (h : GlobC G x d) (hg : Glb S x := by rfl) (hd : (x == ("__debug__" : Str)) = false := by decide) : VO G N S .z ms0 (.Name x pos) (eC d) := by
  obtain ⟨v, u, h1, h2, h3⟩ := h
  exact fun R a W t => (pe_glob (a.gl hg) h1 h2 hd).imp fun σ H Q ⟨ρ, H0, c, l, o⟩ => o.here l (Fz.mono (fun b o e => by cases e) d v h3)
def atom : D → Bool
  | .non => true
  | .bl _ => true
  | .int _ => true
  | .str _ => true
  | _ => false
/-- a slot's value: frozen, or an atom -/
def eVar (i : Nat) : M D := fun r => match getS r i with
  | some (.z, d) => .ok d r
  | some (.o _, d) => if atom d = true then .ok d r else .bad
  | none => .bad
theorem ow_atom {K : PySem.W.Frag} {mg : Str → Option Value} {H0 H : Hp} {d : D} {m : Md} {v : V} {fp : List Addr} (h : Ow K mg H0 H d m v fp) (a : atom d = true) : Fz K mg H0 d v := by
  cases m with
  | z => exact (Ow.zero.mp h).2
  | o k => cases d <;> first | exact h.2 | cases a
theorem VO.var {i : Nat} {x : Str} (hN : N[i]? = some x := by rfl) (hv : Vis S.sc x := by first | exact Or.inl rfl | exact Or.inr (Or.inl rfl) | exact Or.inr (Or.inr rfl))
    (hd : (x == ("__debug__" : Str)) = false := by decide) (hcd : (x == ("__classdict__" : Str)) = false := by decide) : VO G N S .z ms0 (.Name x pos) (eVar i) := by
  refine fun R a W t => (pe_var (i := i) hN (a.vis hv) hd hcd).imp fun σ H Q ⟨ρ, H0, c, l, o⟩ => ?_
  cases es : getS ρ i with
  | none => unfold eVar at o; rw [es] at o; exact o.elim
  | some md =>
    obtain ⟨m, d⟩ := md
    obtain ⟨v, fp, e1, ow, nd, hc⟩ := l.slot i m d es
    refine ⟨v, e1, ?_⟩
    cases m with
    | z => unfold eVar at o; rw [es] at o; exact o.here l (Ow.zero.mp ow).2
    | o k =>
      unfold eVar at o; rw [es] at o
      simp only at o
      split at o
      · exact o.here l (ow_atom ow (by assumption))
      · exact o.elim
/-- a slot's value, lent for reading -/
def eBor (i : Nat) : M D := fun r => match getS r i with
  | some (.z, d) => .ok d r
  | some (.o (.all .z), d) => if lend d = true then .ok d r else .bad
  | _ => .bad
theorem VB.var {i : Nat} {x : Str} (hN : N[i]? = some x := by rfl) (hv : Vis S.sc x := by first | exact Or.inl rfl | exact Or.inr (Or.inl rfl) | exact Or.inr (Or.inr rfl))
    (hd : (x == ("__debug__" : Str)) = false := by decide) (hcd : (x == ("__classdict__" : Str)) = false := by decide) : VB G N S (msO i) ms0 (.Name x pos) (eBor i) := by
  refine fun R a W t => (pe_var (i := i) hN (a.vis hv) hd hcd).imp fun σ H Q ⟨ρ, H0, c, l, o⟩ => ?_
  cases es : getS ρ i with
  | none => unfold eBor at o; rw [es] at o; exact o.elim
  | some md =>
    obtain ⟨m, d⟩ := md
    obtain ⟨v, fp, e1, ow, nd, hc⟩ := l.slot i m d es
    refine ⟨v, e1, ?_⟩
    unfold eBor at o; rw [es] at o
    split at o
    · rename_i e; cases e; exact o v H0 H c .refl l (.inl (Ow.zero.mp ow).2)
    · rename_i e; cases e
      split at o
      · exact o v H0 H c .refl l (.inr ⟨fp, i, by simp, by assumption, ow, hc⟩)
      · exact o.elim
    · exact o.elim
/-- a slot's value handed over: the slot is left frozen -/
def eFrz (i : Nat) : M D := fun r => match getS r i with
  | some (_, d) => .ok d (r.set i (some (.z, d)))
  | none => .bad

/-! ### operators -/
/-- how a rule may end: both heaps grown, the end owned by new nodes -/
def Fin (K : PySem.W.Frag) (mg : Str → Option Value) (m : Md) (H0 H : Hp) (d : D) (Q : VK) : Prop :=
  ∀ v H0' H' fp, Same H H' → Same H0 H0' → Same H0' H' → (∀ a o, H0' a = some o → (∃ u, H0 a = some u) ∨ H a = none) → Ow K mg H0' H' d m v fp → fp.Nodup → (∀ a ∈ fp, H a = none ∧ H0' a = none ∧ ∃ o, H' a = some o) → Q v H'
section
variable {K : PySem.W.Frag} {mg : Str → Option Value} {W : WX} {H0 H H0' H' : Hp} {c : Co} {σ : L2.St} {ρ : En} {d : D} {Q : VK} {v : V} {p : Addr} {ds : List D} {vs : List V}
theorem Lies.grow (l : Lies K mg H0 H c σ ρ) (s1 : Same H H') (s2 : Same H0 H0') (s3 : Same H0' H') (s4 : ∀ a o, H0' a = some o → (∃ u, H0 a = some u) ∨ H a = none) : Lies K mg H0' H' c σ ρ := by
  refine ⟨s3, fun a i e => ?_, fun a i e => ?_, l.len, fun i m d e => ?_⟩
  · cases q : H0' a with
    | none => rfl
    | some o =>
      rcases s4 a o q with ⟨u, z⟩ | z
      · rw [l.apart a i e] at z; cases z
      · obtain ⟨u, w⟩ := l.there a i e
        rw [z] at w; cases w
  · obtain ⟨u, w⟩ := l.there a i e
    exact ⟨u, s1 _ _ w⟩
  · obtain ⟨v, fp, e1, ow, nd, hc⟩ := l.slot i m d e
    exact ⟨v, fp, e1, Ow.mono s2 d m v fp (fun a ha => by
      obtain ⟨u, w⟩ := l.there a i (hc a ha)
      rw [w, s1 _ _ w]) ow, nd, hc⟩
theorem Step.growth (s1 : Same H H') (s2 : Same H0 H0') (s4 : ∀ a o, H0' a = some o → (∃ u, H0 a = some u) ∨ H a = none) : Step ms H0 H c H0' H' c :=
  ⟨fun a o e _ => s1 a o e, fun _ _ _ _ => rfl, s2, fun a o e => (s4 a o e).imp id .inl, fun _ _ h => .inl h⟩
theorem Out.fin {ms : Ms} {m : Md} (h : Out K mg W (FO K mg m ms) ms H0 H c σ (.ok d ρ) Q) (l : Lies K mg H0 H c σ ρ) : Fin K mg m H0 H d Q :=
  fun v H0' H' fp s1 s2 s3 s4 ow nd new => h v H0' H' c (Step.growth s1 s2 s4) (l.grow s1 s2 s3 s4) ⟨fp, ow, nd, fun a ha => l.nc (new a ha).1, fun a ha => (new a ha).2.1, fun a ha => (new a ha).2.2, fun a ha => .inl (new a ha).1⟩
/-- the heap as it is -/
theorem Fin.at {m : Md} (h : Fin K mg m H0 H d Q) (s : Same H0 H) (o : Ow K mg H0 H d m v []) : Q v H := h v H0 H [] (Same.refl _) (Same.refl _) s (fun _ _ e => .inl ⟨_, e⟩) o List.nodup_nil (by simp)
theorem Fin.frz (h : Fin K mg .z H0 H d Q) (s : Same H0 H) (f : Fz K mg H0 d v) : Q v H := h.at s (Ow.zero.mpr ⟨rfl, f⟩)
theorem ow_of_atom {m : Md} (f : Fz K mg H0 d v) (a : atom d = true) : Ow K mg H0 H d m v [] := by
  cases m with
  | z => exact Ow.zero.mpr ⟨rfl, f⟩
  | o k => cases d <;> first | exact ⟨rfl, f⟩ | cases a
theorem Fin.atom {m : Md} (h : Fin K mg m H0 H d Q) (s : Same H0 H) (f : Fz K mg H0 d v) (a : atom d = true) : Q v H := h.at s (ow_of_atom f a)
theorem same_upd0 {H : Hp} {p : Addr} {o : HO} (hp : H p = none) : Same H (upd H p o) := fun b u e => by
  rw [upd_ne (ne_of_none e hp)]; exact e
theorem same_upd2 {p : Addr} {o : HO} (s : Same H0 H) : Same (upd H0 p o) (upd H p o) := fun b u e => by
  by_cases h : b = p
  · rw [h, upd_same] at e ⊢; exact e
  · rw [upd_ne h] at e ⊢; exact s b u e
/-- one new frozen object -/
theorem Fin.newz {o : HO} (h : Fin K mg .z H0 H d Q) (s : Same H0 H) (hp : H p = none) (f : Fz K mg (upd H0 p o) d (.ref p)) : Q (.ref p) (upd H p o) :=
  h (.ref p) (upd H0 p o) (upd H p o) [] (same_upd0 hp) (same_upd0 (s.free hp)) (same_upd2 s) (fun a u e => by
    by_cases z : a = p
    · exact .inr (by rw [z]; exact hp)
    · rw [upd_ne z] at e; exact .inl ⟨u, e⟩) (Ow.zero.mpr ⟨rfl, f⟩) List.nodup_nil (by simp)
/-- one new owned object -/
theorem Fin.newo {m : Md} {o : HO} (h : Fin K mg m H0 H d Q) (s : Same H0 H) (hp : H p = none) (f : Ow K mg H0 (upd H p o) d m (.ref p) [p]) : Q (.ref p) (upd H p o) :=
  h (.ref p) H0 (upd H p o) [p] (same_upd0 hp) (Same.refl _) (s.trans (same_upd0 hp)) (fun a u e => .inl ⟨u, e⟩) f (by simp) (fun a ha => by
    rw [List.mem_singleton.mp ha]
    exact ⟨hp, s.free hp, o, upd_same⟩)
/-- frozen, or a node of one's own over frozen ones -/
def ZO (m : Md) : Prop := m = .z ∨ m = m1
theorem Fin.lst {m : Md} (hm : ZO m) (h : Fin K mg m H0 H (.lst ds) Q) (s : Same H0 H) (f : Fzs K mg H0 ds vs) (hp : H p = none) : Q (.ref p) (upd H p (.lst vs)) := by
  rcases hm with rfl | rfl
  · exact h.newz s hp ⟨p, vs, rfl, upd_same, Fzs.mono (same_upd0 (s.free hp)) ds vs f⟩
  · exact h.newo s hp ⟨p, vs, [], rfl, upd_same, rfl, Ows.all_z.mpr ⟨rfl, f⟩⟩
theorem Fin.tup {m : Md} (hm : ZO m) (h : Fin K mg m H0 H (.tup ds) Q) (s : Same H0 H) (f : Fzs K mg H0 ds vs) (hp : H p = none) : Q (.ref p) (upd H p (.tup vs)) := by
  rcases hm with rfl | rfl
  · exact h.newz s hp ⟨p, vs, rfl, .inl (.inl upd_same), Fzs.mono (same_upd0 (s.free hp)) ds vs f⟩
  · exact h.newo s hp ⟨p, vs, [], rfl, upd_same, rfl, Ows.all_z.mpr ⟨rfl, f⟩⟩
end
/-- a rule of two values serves o -/
def Ru2 (G : GC) (r : R2) (m : Md) (o : D → D → Option D) : Prop :=
  ∀ H0 H d1 d2 x y d Q, Same H0 H → Sh G.K G.mg H0 H d1 x → Sh G.K G.mg H0 H d2 y → o d1 d2 = some d → Fin G.K G.mg m H0 H d Q → r x y H Q
def fOp2 (o : D → D → Option D) (fa fb : M D) : M D := fun r => (fa r).bind fun x r => (fb r).bind fun y => rM (o x y)
theorem or_l {a b : Bool} (h : a = true) : (a || b) = true := by rw [h]; rfl
theorem or_r {a b : Bool} (h : b = true) : (a || b) = true := by rw [h, Bool.or_true]
abbrev Dj (bs ms : Ms) : Prop := ∀ i, bs i = true → ms i = false
theorem VE.bin {K : PySem.W.Frag} {mg : Str → Option Value} {W : WX} {σ : L2.St} {H : Hp} {Q : VK} {r : R2} {o : D → D → Option D} (hK : K = G.K) (hm : mg = G.mg) (ru : Ru2 G r m o) (dj : Dj bs1 ms2)
    (h : tR K mg W (FO K mg m (msU ms1 ms2)) (msU ms1 ms2) (fOp2 o fa fb) σ H Q) : tR K mg W (FB K mg bs1) ms1 fa σ H fun x H1 => tR K mg W (FB K mg bs2) ms2 fb σ H1 fun y H2 => r x y H2 Q := by
  subst hK hm
  obtain ⟨ρ, H0, c, l, h⟩ := h
  refine ⟨ρ, H0, c, l, (Out.bind (G := FB G.K G.mg bs1) (ms1 := ms1) back_FO h fun i e => or_l e).imp fun x H1 ⟨d1, H01, c1, ρ1, e1, s1, l1, b1, h1⟩ => ?_⟩
  refine ⟨ρ1, H01, c1, l1, (Out.bind (G := FB G.K G.mg bs2) (ms1 := ms2) back_FO h1 fun i e => or_r e).imp fun y H2 ⟨d2, H02, c2, ρ2, e2, s2, l2, b2, h2⟩ => ?_⟩
  cases eo : o d1 d2 with
  | none => rw [eo] at h2; exact h2.elim
  | some d =>
    rw [eo] at h2
    exact ru H02 H2 d1 d2 x y d Q l2.sub ((b1.on s2 dj).sh l2.sub) (b2.sh l2.sub) eo (Out.fin h2 l2)
theorem VO.op {op : Operator} {r : R2} {o : D → D → Option D} (ho : ∀ R, At S N (mkX G N R) → OpR (mkX G N R) (binaryOp op) r) (ru : Ru2 G r m o) (ha : VB G N S bs1 ms1 a fa) (hb : VB G N S bs2 ms2 b fb) (dj : Dj bs1 ms2 := by intro i h; first | rfl | exact absurd h Bool.false_ne_true | (simp [lentM] at h ⊢ <;> omega)) :
    VO G N S m (msU ms1 ms2) (.BinOp a op b pos) (fOp2 o fa fb) := fun R a W t => (pe_op (ho R a) (ha R a W t) (hb R a W t)).imp fun σ H Q h => VE.bin rfl rfl ru dj h
theorem VO.cmp {op : CmpOp} {r : R2} {o : D → D → Option D} (ho : ∀ R, At S N (mkX G N R) → OpR (mkX G N R) (compareOp op) r) (ru : Ru2 G r m o) (ha : VB G N S bs1 ms1 a fa) (hb : VB G N S bs2 ms2 b fb) (dj : Dj bs1 ms2 := by intro i h; first | rfl | exact absurd h Bool.false_ne_true | (simp [lentM] at h ⊢ <;> omega))
    (hm : behindInMarks op b = false := by first | exact nomark _ | rfl) : VO G N S m (msU ms1 ms2) (.Compare a [op] [b] pos) (fOp2 o fa fb) := fun R a W t => (pe_cmpR (ho R a) (ha R a W t) (hb R a W t) hm).imp fun σ H Q h => VE.bin rfl rfl ru dj h
end
end Vm
set_option Elab.async false
set_option linter.all false
set_option maxRecDepth 100000
set_option maxHeartbeats 4000000
namespace Vm
open PySem PySem.Spec PyProof.Rows L2

/-! ### data as the library's data; equality, order -/
mutual
def toPy : D → PyData
  | .non => .none
  | .bl b => .bool b
  | .int i => .int i
  | .str s => .str ⟨s.toArray⟩
  | .tup ds => .tuple (toPys ds)
  | .lst ds => .list (toPys ds)
  | .dct _ _ => .dict []
  | .ins _ _ _ => .dict []
  | .scr _ => .dict []
def toPys : List D → List PyData
  | [] => []
  | d :: ds => toPy d :: toPys ds
end
mutual
/-- no dict, no object in it -/
def plain : D → Bool
  | .non => true
  | .bl _ => true
  | .int _ => true
  | .str _ => true
  | .tup ds => plains ds
  | .lst ds => plains ds
  | .dct _ _ => false
  | .ins _ _ _ => false
  | .scr _ => false
def plains : List D → Bool
  | [] => true
  | d :: ds => plain d && plains ds
end
mutual
def dep : D → Nat
  | .non => 0
  | .bl _ => 0
  | .int _ => 0
  | .str _ => 0
  | .tup ds => deps ds + 1
  | .lst ds => deps ds + 1
  | .dct _ _ => 1
  | .ins _ _ _ => 1
  | .scr _ => 1
def deps : List D → Nat
  | [] => 0
  | d :: ds => max (dep d) (deps ds)
end
def b2I (b : Bool) : Int := if b = true then 1 else 0
mutual
def eqD : D → D → Bool
  | .non, e => match e with | .non => true | _ => false
  | .bl a, e => match e with | .bl b => a == b | .int j => b2I a == j | _ => false
  | .int i, e => match e with | .int j => i == j | .bl b => i == b2I b | _ => false
  | .str s, e => match e with | .str t => s == t | _ => false
  | .tup xs, e => match e with | .tup ys => eqDs xs ys | _ => false
  | .lst xs, e => match e with | .lst ys => eqDs xs ys | _ => false
  | .dct _ _, _ => false
  | .ins _ _ _, _ => false
  | .scr _, _ => false
def eqDs : List D → List D → Bool
  | [], ys => match ys with | [] => true | _ :: _ => false
  | x :: xs, ys => match ys with | y :: ys => eqD x y && eqDs xs ys | [] => false
end
theorem str_beq (s t : List Nat) : ((⟨s.toArray⟩ : Str) == ⟨t.toArray⟩) = (s == t) := by
  by_cases h : s = t
  · subst h; simp
  · have h2 : ¬ (⟨s.toArray⟩ : Str) = ⟨t.toArray⟩ := fun e => h (by
      have := congrArg (fun x : Str => x.cps.toList) e
      simpa using this)
    rw [beq_eq_false_iff_ne.mpr h, beq_eq_false_iff_ne.mpr h2]
mutual
theorem eqv_eqD : ∀ d e : D, PyData.eqv (toPy d) (toPy e) = eqD d e
  | .non, e => by cases e <;> rfl
  | .bl a, e => by cases e <;> rfl
  | .int a, e => by cases e <;> rfl
  | .str a, e => by cases e <;> first | rfl | exact str_beq _ _
  | .tup xs, e => by cases e <;> first | rfl | exact eqv_eqDs _ _
  | .lst xs, e => by cases e <;> first | rfl | exact eqv_eqDs _ _
  | .dct _ _, e => by cases e <;> rfl
  | .ins _ _ _, e => by cases e <;> rfl
  | .scr _, e => by cases e <;> rfl
theorem eqv_eqDs : ∀ ds es : List D, PyData.eqvAll (toPys ds) (toPys es) = eqDs ds es
  | [], es => by cases es <;> rfl
  | d :: ds, es => by
    cases es with
    | nil => rfl
    | cons e es =>
      show (PyData.eqv (toPy d) (toPy e) && PyData.eqvAll (toPys ds) (toPys es)) = (eqD d e && eqDs ds es)
      rw [eqv_eqD, eqv_eqDs]
end
mutual
theorem dep_py : ∀ d : D, (toPy d).depth ≤ dep d
  | .non => Nat.le_refl _
  | .bl _ => Nat.le_refl _
  | .int _ => Nat.le_refl _
  | .str _ => Nat.le_refl _
  | .tup ds => by simp only [toPy, PyData.depth, dep]; exact Nat.succ_le_succ (deps_py ds)
  | .lst ds => by simp only [toPy, PyData.depth, dep]; exact Nat.succ_le_succ (deps_py ds)
  | .dct _ _ => by simp [toPy, PyData.depth, PyData.depthKv, dep]
  | .ins _ _ _ => by simp [toPy, PyData.depth, PyData.depthKv, dep]
  | .scr _ => by simp [toPy, PyData.depth, PyData.depthKv, dep]
theorem deps_py : ∀ ds : List D, PyData.depthAll (toPys ds) ≤ deps ds
  | [] => Nat.le_refl _
  | d :: ds => by
    have h1 := dep_py d
    have h2 := deps_py ds
    simp only [toPys, PyData.depthAll, deps]
    omega
end
section
variable {K : PySem.W.Frag} {mg : Str → Option Value} {H H0 : Hp}
mutual
theorem Fz.dp : ∀ (d : D) (v : V), Fz K mg H d v → plain d = true → Dp K H v (toPy d)
  | .non, _, h, _ => by cases h; exact .non
  | .bl _, _, h, _ => by cases h; exact .bl _
  | .int _, _, h, _ => by cases h; exact .int _
  | .str _, _, h, _ => by rw [h.1]; exact .str _
  | .tup ds, _, ⟨a, vs, e, h, r⟩, p => by subst e; exact .tup h (Fzs.dp ds vs r p)
  | .lst ds, _, ⟨a, vs, e, h, r⟩, p => by subst e; exact .lst (.of h) (Fzs.dp ds vs r p)
  | .dct _ _, _, _, p => by cases p
  | .ins _ _ _, _, _, p => by cases p
  | .scr _, _, _, p => by cases p
theorem Fzs.dp : ∀ (ds : List D) (vs : List V), Fzs K mg H ds vs → plains ds = true → DpAll K H vs (toPys ds)
  | [], _, h, _ => by cases h; exact .nil
  | d :: ds, _, ⟨v, r, e, h, t⟩, p => by
    subst e
    have p := Bool.and_eq_true_iff.mp p
    exact .cons (Fz.dp d v h p.1) (Fzs.dp ds r t p.2)
end
theorem sOk_str {s : List Nat} (h : sOk s = true) : PyData.strOk ⟨s.toArray⟩ = true := by
  have h := (Bool.and_eq_true_iff.mp h).2
  unfold PyData.strOk
  simpa using h
mutual
theorem Fz.lay : ∀ (d : D) (v : V), Fz K mg H d v → plain d = true → (toPy d).canLay0 = true
  | .non, _, h, _ => rfl
  | .bl _, _, h, _ => rfl
  | .int _, _, h, _ => rfl
  | .str _, _, h, _ => sOk_str h.2
  | .tup ds, _, ⟨a, vs, e, h, r⟩, p => Fzs.lay ds vs r p
  | .lst ds, _, ⟨a, vs, e, h, r⟩, p => Fzs.lay ds vs r p
  | .dct _ _, _, _, p => by cases p
  | .ins _ _ _, _, _, p => by cases p
  | .scr _, _, _, p => by cases p
theorem Fzs.lay : ∀ (ds : List D) (vs : List V), Fzs K mg H ds vs → plains ds = true → PyData.canLayAll0 (toPys ds) = true
  | [], _, h, _ => rfl
  | d :: ds, _, ⟨v, r, e, h, t⟩, p => by
    have p := Bool.and_eq_true_iff.mp p
    show (PyData.canLay0 (toPy d) && PyData.canLayAll0 (toPys ds)) = true
    rw [Fz.lay d v h p.1, Fzs.lay ds r t p.2]; rfl
end
end
theorem Room.u65 {k : Nat} {A : Around} (h : Room k A) : A.units + 100 < cLine := by have := h.un; omega

section
variable {G : GC} {N : List Str} {S : SC} {X : Cx}
/-! ### == and != -/
def eqOk (d e : D) : Bool := plain d && plain e && decide (min (dep d) (dep e) ≤ 64)
def oEq (d e : D) : Option D := if eqOk d e = true then some (.bl (eqD d e)) else none
def oNe (d e : D) : Option D := if eqOk d e = true then some (.bl (!eqD d e)) else none
def rEqV (K : PySem.W.Frag) : R2 := fun x y H Q => ∃ d e, Dp K H x d ∧ Dp K H y e ∧ d.canLay0 = true ∧ e.canLay0 = true ∧ min d.depth e.depth ≤ 64 ∧ Q (.bl (PyData.eqv d e)) H
def rNeV (K : PySem.W.Frag) : R2 := fun x y H Q => ∃ d e, Dp K H x d ∧ Dp K H y e ∧ d.canLay0 = true ∧ e.canLay0 = true ∧ min d.depth e.depth ≤ 64 ∧ Q (.bl (!PyData.eqv d e)) H
theorem op_eqV (hu : X.A.units + 100 < cLine) : OpR X (compareOp .Eq) (rEqV X.K) := by
  intro pins s σ H x y v u Q I rx ry h
  obtain ⟨d, e, hd, he, sd, se, hm, q⟩ := h
  obtain ⟨as, r1⟩ := Dp.reads I d x v hd rx
  obtain ⟨bs, r2⟩ := Dp.reads I e y u he ry
  exact SeqAt.compareEq_reads r1 r2 sd se (by omega) ⟨.bl _, H, I, rfl, q⟩
theorem op_neV (hu : X.A.units + 100 < cLine) : OpR X (compareOp .NotEq) (rNeV X.K) := by
  intro pins s σ H x y v u Q I rx ry h
  obtain ⟨d, e, hd, he, sd, se, hm, q⟩ := h
  obtain ⟨as, r1⟩ := Dp.reads I d x v hd rx
  obtain ⟨bs, r2⟩ := Dp.reads I e y u he ry
  exact SeqAt.compareNe_reads r1 r2 sd se (by omega) ⟨.bl _, H, I, rfl, q⟩
theorem eqOk_of {d e : D} (h : eqOk d e = true) : plain d = true ∧ plain e = true ∧ min (toPy d).depth (toPy e).depth ≤ 64 := by
  unfold eqOk at h
  simp only [Bool.and_eq_true, decide_eq_true_eq] at h
  have h1 := dep_py d
  have h2 := dep_py e
  exact ⟨h.1.1, h.1.2, by omega⟩
theorem ru_eq : Ru2 G (rEqV G.K) .z oEq := by
  intro H0 H d1 d2 x y d Q s h1 h2 ho f
  unfold oEq at ho
  split at ho
  · rename_i hk
    obtain ⟨p1, p2, p3⟩ := eqOk_of hk
    cases ho
    have z1 := h1.fz s
    have z2 := h2.fz s
    refine ⟨toPy d1, toPy d2, Fz.dp d1 x z1 p1, Fz.dp d2 y z2 p2, Fz.lay d1 x z1 p1, Fz.lay d2 y z2 p2, p3, ?_⟩
    rw [eqv_eqD]
    exact f.frz s rfl
  · cases ho
theorem ru_ne : Ru2 G (rNeV G.K) .z oNe := by
  intro H0 H d1 d2 x y d Q s h1 h2 ho f
  unfold oNe at ho
  split at ho
  · rename_i hk
    obtain ⟨p1, p2, p3⟩ := eqOk_of hk
    cases ho
    have z1 := h1.fz s
    have z2 := h2.fz s
    refine ⟨toPy d1, toPy d2, Fz.dp d1 x z1 p1, Fz.dp d2 y z2 p2, Fz.lay d1 x z1 p1, Fz.lay d2 y z2 p2, p3, ?_⟩
    rw [eqv_eqD]
    exact f.frz s rfl
  · cases ho

/-! ### numbers -/
def oI2 (C : Int → Int → Bool) (g : Int → Int → D) (d e : D) : Option D := match d, e with
  | .int i, .int j => if C i j = true then some (g i j) else none
  | _, _ => none
theorem sh_int {K : PySem.W.Frag} {mg : Str → Option Value} {H0 H : Hp} {i : Int} {x : V} (h : Sh K mg H0 H (.int i) x) : x = .int i := h
theorem sh_str {K : PySem.W.Frag} {mg : Str → Option Value} {H0 H : Hp} {i : List Nat} {x : V} (h : Sh K mg H0 H (.str i) x) : x = sV i ∧ sOk i = true := h
theorem ru_I2 {m : Md} {C : Int → Int → Bool} {P : Int → Int → Prop} {g : Int → Int → D} {gv : Int → Int → V} (hC : ∀ i j, C i j = true → P i j) (hg : ∀ i j, atom (g i j) = true ∧ ∀ H, Fz G.K G.mg H (g i j) (gv i j)) :
    Ru2 G (rI P gv) m (oI2 C g) := by
  intro H0 H d1 d2 x y d Q s h1 h2 ho f
  unfold oI2 at ho
  split at ho
  · rename_i i j
    split at ho
    · rename_i hc
      cases ho
      exact ⟨i, j, h1, h2, hC i j hc, f.atom s ((hg i j).2 _) (hg i j).1⟩
    · cases ho
  · cases ho
def mulOk (i j : Int) : Bool := decide (i.natAbs < 18446744073709551616) || (decide (j.natAbs < 18446744073709551616) || decide (i.natAbs.log2 + j.natAbs.log2 < 1000000))
def divOk (_ j : Int) : Bool := decide (0 < j) && decide (j.natAbs.log2 < 9000)
def modOk (_ j : Int) : Bool := decide (0 < j)
def powOk (i j : Int) : Bool := decide (0 ≤ j) && decide (j ≤ 1000000) && decide (i.natAbs < 18446744073709551616)
abbrev yes2 (_ _ : Int) : Bool := true
def oSub : D → D → Option D := oI2 yes2 fun i j => .int (i - j)
def oFdiv : D → D → Option D := oI2 divOk fun i j => .int (i / j)
def oMod : D → D → Option D := oI2 modOk fun i j => .int (i % j)
def oPow : D → D → Option D := oI2 powOk fun i j => .int (i ^ j.toNat)
def rI0' (g : Int → Int → V) : R2 := rI (fun _ _ => True) g
theorem op_rI0 {f : Value → Value → Sem Value} {g : Int → Int → V} (h : OpR X f (rI0 g)) : OpR X f (rI0' g) := fun pins s σ H x y v u Q I rx ry ⟨i, j, e1, e2, _, q⟩ => h pins s σ H x y v u Q I rx ry ⟨i, j, e1, e2, q⟩
theorem ru_sub {m : Md} : Ru2 G (rI0' fun i j => .int (i - j)) m oSub := ru_I2 (fun _ _ _ => trivial) fun _ _ => ⟨rfl, fun _ => rfl⟩
theorem ru_fdiv {m : Md} : Ru2 G (rI CDivW fun i j => .int (i / j)) m oFdiv := ru_I2 (fun i j h => by
  unfold divOk at h
  simp only [Bool.and_eq_true, decide_eq_true_eq] at h
  exact h) fun _ _ => ⟨rfl, fun _ => rfl⟩
theorem ru_mod {m : Md} : Ru2 G (rI (fun _ j => 0 < j) fun i j => .int (i % j)) m oMod := ru_I2 (fun i j h => of_decide_eq_true h) fun _ _ => ⟨rfl, fun _ => rfl⟩
theorem ru_pow {m : Md} : Ru2 G (rI CPow fun i j => .int (i ^ j.toNat)) m oPow := ru_I2 (fun i j h => by
  unfold powOk at h
  simp only [Bool.and_eq_true, decide_eq_true_eq] at h
  exact ⟨h.1.1, h.1.2, h.2⟩) fun _ _ => ⟨rfl, fun _ => rfl⟩
/-- comparisons of ints -/
def oLtI : D → D → Option D := oI2 yes2 fun i j => .bl (decide (i < j))
def oLeI : D → D → Option D := oI2 yes2 fun i j => .bl (decide (i ≤ j))
def oGtI : D → D → Option D := oI2 yes2 fun i j => .bl (decide (j < i))
def oGeI : D → D → Option D := oI2 yes2 fun i j => .bl (decide (j ≤ i))
theorem ru_ltI {m : Md} : Ru2 G (rI0' fun i j => .bl (decide (i < j))) m oLtI := ru_I2 (fun _ _ _ => trivial) fun _ _ => ⟨rfl, fun _ => rfl⟩
theorem ru_leI {m : Md} : Ru2 G (rI0' fun i j => .bl (decide (i ≤ j))) m oLeI := ru_I2 (fun _ _ _ => trivial) fun _ _ => ⟨rfl, fun _ => rfl⟩
theorem ru_gtI {m : Md} : Ru2 G (rI0' fun i j => .bl (decide (j < i))) m oGtI := ru_I2 (fun _ _ _ => trivial) fun _ _ => ⟨rfl, fun _ => rfl⟩
theorem ru_geI {m : Md} : Ru2 G (rI0' fun i j => .bl (decide (j ≤ i))) m oGeI := ru_I2 (fun _ _ _ => trivial) fun _ _ => ⟨rfl, fun _ => rfl⟩

/-! ### + -/
theorem Fzs.append {K : PySem.W.Frag} {mg : Str → Option Value} {H : Hp} : ∀ {ds es : List D} {vs ws : List V}, Fzs K mg H ds vs → Fzs K mg H es ws → Fzs K mg H (ds ++ es) (vs ++ ws)
  | [], es, vs, ws, h, g => by rw [show vs = [] from h]; exact g
  | d :: ds, es, vs, ws, ⟨v, r, e, h, t⟩, g => by subst e; exact ⟨v, r ++ ws, rfl, h, Fzs.append t g⟩
theorem Fzs.length {K : PySem.W.Frag} {mg : Str → Option Value} {H : Hp} : ∀ {ds : List D} {vs : List V}, Fzs K mg H ds vs → vs.length = ds.length
  | [], vs, h => by rw [show vs = [] from h]; rfl
  | d :: ds, vs, ⟨v, r, e, h, t⟩ => by subst e; simp [Fzs.length t]
abbrev lnOk (n : Nat) : Bool := decide (n ≤ 16777216)
def oAdd (d e : D) : Option D := match d, e with
  | .int i, .int j => some (.int (i + j))
  | .str s, .str t => if lnOk (s.length + t.length) = true then some (.str (s ++ t)) else none
  | .lst s, .lst t => if lnOk (s.length + t.length) = true then some (.lst (s ++ t)) else none
  | .tup s, .tup t => if lnOk (s.length + t.length) = true then some (.tup (s ++ t)) else none
  | _, _ => none
def oAddL (d e : D) : Option D := match d, e with
  | .lst s, .lst t => if lnOk (s.length + t.length) = true then some (.lst (s ++ t)) else none
  | _, _ => none
abbrev rOr (r r' : R2) : R2 := fun x y H Q => r x y H Q ∨ r' x y H Q
abbrev rAddS : R2 := fun x y H Q => ∃ i j, x = .str i ∧ y = .str j ∧ i.length + j.length ≤ sizeLine ∧ Q (.str (i ++ j)) H
abbrev rAddV (K : PySem.W.Frag) : R2 := rOr (rI0' fun i j => .int (i + j)) (rOr rAddS (rOr rCat (rCatA K)))
theorem op_addV : OpR X (binaryOp .Add) (rAddV X.K) := (op_rI0 op_add).or (op_add_str.or (op_cat.or op_catA))
theorem str_app (s t : List Nat) : ((⟨s.toArray⟩ : Str) ++ ⟨t.toArray⟩) = ⟨(s ++ t).toArray⟩ := by
  show (Str.mk (s.toArray ++ t.toArray)) = _
  congr 1
  simp
theorem str_len (s : List Nat) : (⟨s.toArray⟩ : Str).length = s.length := by simp [Str.length]
theorem sOk_app {s t : List Nat} (h1 : sOk s = true) (h2 : sOk t = true) (h : s.length + t.length ≤ 16777216) : sOk (s ++ t) = true := by
  unfold sOk at *
  simp only [Bool.and_eq_true, decide_eq_true_eq, List.all_append, List.length_append] at *
  exact ⟨h, h1.2, h2.2⟩
theorem ru_add : Ru2 G (rAddV G.K) .z oAdd := by
  intro H0 H d1 d2 x y d Q s h1 h2 ho f
  unfold oAdd at ho
  split at ho
  · rename_i i j
    cases ho
    exact .inl ⟨i, j, h1, h2, trivial, f.atom s rfl rfl⟩
  · rename_i a b
    split at ho
    · rename_i hl
      cases ho
      have hl := of_decide_eq_true hl
      obtain ⟨e1, k1⟩ := sh_str h1
      obtain ⟨e2, k2⟩ := sh_str h2
      refine .inr (.inl ⟨_, _, e1, e2, ?_, ?_⟩)
      · rw [str_len, str_len, sizeLine_eq]; exact hl
      · rw [str_app]
        exact f.atom s ⟨rfl, sOk_app k1 k2 hl⟩ rfl
    · cases ho
  · rename_i a b
    split at ho
    · rename_i hl
      cases ho
      have hl := of_decide_eq_true hl
      obtain ⟨a1, vs, e1, k1, f1⟩ := h1
      obtain ⟨a2, ws, e2, k2, f2⟩ := h2
      refine .inr (.inr (.inl ⟨a1, a2, vs, ws, e1, e2, k1, k2, ?_, fun p hp => f.lst (.inl rfl) s (f1.append f2) hp⟩))
      rw [f1.length, f2.length, sizeLine_eq]; exact hl
    · cases ho
  · rename_i a b
    split at ho
    · rename_i hl
      cases ho
      have hl := of_decide_eq_true hl
      obtain ⟨a1, vs, e1, k1, f1⟩ := id h1
      obtain ⟨a2, ws, e2, k2, f2⟩ := id h2
      have l1 := f1.length
      have l2 := f2.length
      refine .inr (.inr (.inr ⟨a1, a2, vs, ws, e1, e2, same_t s k1, same_t s k2, ?_, fun hx => ?_, fun hx hy => ?_, fun hx hy p hp => f.tup (.inl rfl) s (f1.append f2) hp⟩))
      · rw [l1, l2, sizeLine_eq]; exact hl
      · have z : a = [] := by
          rw [hx] at l1
          exact List.eq_nil_of_length_eq_zero l1.symm
        rw [z] at f
        exact f.frz s (by rw [← e2]; exact h2)
      · have z : b = [] := by
          rw [hy] at l2
          exact List.eq_nil_of_length_eq_zero l2.symm
        rw [z, List.append_nil] at f
        exact f.frz s (by rw [← e1]; exact h1)
    · cases ho
  · cases ho
end
end Vm
set_option Elab.async false
set_option linter.all false
set_option maxRecDepth 100000
set_option maxHeartbeats 4000000
namespace Vm
open PySem PySem.Spec PyProof.Rows L2
section
variable {G : GC} {N : List Str} {S : SC} {X : Cx}
theorem ru_addL : Ru2 G rCat m1 oAddL := by
  intro H0 H d1 d2 x y d Q s h1 h2 ho f
  unfold oAddL at ho
  split at ho
  · rename_i a b
    split at ho
    · rename_i hl
      cases ho
      have hl := of_decide_eq_true hl
      obtain ⟨a1, vs, e1, k1, f1⟩ := h1
      obtain ⟨a2, ws, e2, k2, f2⟩ := h2
      refine ⟨a1, a2, vs, ws, e1, e2, k1, k2, ?_, fun p hp => f.lst (.inr rfl) s (f1.append f2) hp⟩
      rw [f1.length, f2.length, sizeLine_eq]; exact hl
    · cases ho
  · cases ho

/-! ### * -/
def repS (s : List Nat) : Nat → List Nat
  | 0 => []
  | n + 1 => s ++ repS s n
def oMul (d e : D) : Option D := match d, e with
  | .int i, .int j => if mulOk i j = true then some (.int (i * j)) else none
  | .str s, .int n => if decide (0 ≤ n) && decide (n ≤ 1000) && decide (s.length ≤ 1000) = true then some (.str (repS s n.toNat)) else none
  | _, _ => none
abbrev rMulS : R2 := fun x y H Q => ∃ s n, x = .str ⟨s.toArray⟩ ∧ y = .int n ∧ 0 ≤ n ∧ n ≤ 1000 ∧ s.length ≤ 1000 ∧ Q (.str ⟨(repS s n.toNat).toArray⟩) H
theorem foldl_repS (s : List Nat) : ∀ (n : Nat) (acc : List Nat), List.foldl (fun x y : Array Nat => x ++ y) acc.toArray (List.replicate n s.toArray) = (acc ++ repS s n).toArray
  | 0, acc => by simp [repS]
  | n + 1, acc => by
    rw [List.replicate_succ, List.foldl_cons]
    have : acc.toArray ++ s.toArray = (acc ++ s).toArray := by simp
    rw [this, foldl_repS s n (acc ++ s), repS, List.append_assoc]
theorem repS_len (s : List Nat) : ∀ n, (repS s n).length = n * s.length
  | 0 => by simp [repS]
  | n + 1 => by rw [repS, List.length_append, repS_len s n, Nat.succ_mul]; omega
theorem repS_one (s : List Nat) : repS s 1 = s := by simp [repS]
theorem repS_nil : ∀ n, repS [] n = []
  | 0 => rfl
  | n + 1 => by rw [repS, repS_nil n]; rfl
theorem op_mulS : OpR X (binaryOp .Mult) rMulS := by
  intro pins s σ H x y v u Q I rx ry h
  obtain ⟨z, n, rfl, rfl, h0, h1, h2, q⟩ := h
  obtain ⟨t, rfl⟩ := rx
  obtain ⟨t', rfl⟩ := ry
  have hb : z.length * n.toNat ≤ 1000 * 1000 := Nat.mul_le_mul h2 (by omega)
  refine PySem.P.mul_str ?_ ?_ ?_ ?_
  · have a1 : ¬ n < -(2 ^ 63 : Int) := by omega
    have a2 : ¬ n ≥ 2 ^ 63 := by omega
    rw [decide_eq_false a1, decide_eq_false a2]; rfl
  · intro hn _
    rw [str_len]
    have : (1000 : Int) ≤ (2 ^ 63 - 1) / n := by
      rw [Int.le_ediv_iff_mul_le (by omega)]
      omega
    omega
  · intro _ _
    rw [str_len]
    unfold Builtin.Str.tooLong
    exact decide_eq_false (by rw [sizeLine_eq]; omega)
  · by_cases hn : n < 1
    · rw [if_pos hn]
      have e : n = 0 := by omega
      subst e
      refine ⟨by decide, .str ⟨#[]⟩, H, I.tok _, ⟨_, rfl⟩, q⟩
    · rw [if_neg hn]
      by_cases hc : (n == 1 || (⟨z.toArray⟩ : Str).length == 0) = true
      · rw [if_pos hc]
        refine ⟨.str ⟨z.toArray⟩, H, I, ⟨t, rfl⟩, ?_⟩
        rcases Bool.or_eq_true_iff.mp hc with e | e
        · have e : n = 1 := by simpa using e
          subst e
          rw [show (1 : Int).toNat = 1 from rfl, repS_one] at q
          exact q
        · rw [str_len] at e
          have e : z = [] := List.eq_nil_of_length_eq_zero (by simpa using e)
          subst e
          rw [repS_nil] at q
          exact q
      · rw [if_neg hc]
        have e := foldl_repS z n.toNat []
        refine ⟨?_, ?_⟩
        · rw [sizeLine_eq]
          show (List.foldl (· ++ ·) #[] (List.replicate n.toNat z.toArray)).size ≤ _
          have e2 : List.foldl (· ++ ·) #[] (List.replicate n.toNat z.toArray) = (repS z n.toNat).toArray := e
          rw [e2]
          have := repS_len z n.toNat
          have hc := Nat.mul_comm z.length n.toNat
          simp only [List.size_toArray]
          omega
        · have e2 : List.foldl (· ++ ·) #[] (List.replicate n.toNat z.toArray) = (repS z n.toNat).toArray := e
          have fin : ∀ (w : Str) (tk : Tok), w = ⟨(repS z n.toNat).toArray⟩ → EP X pins σ Q (.str w tk) { s with toks := s.toks + 1 } := fun w tk ew => ⟨.str w, H, I.tok _, ⟨tk, rfl⟩, by rw [ew]; exact q⟩
          exact fin _ _ (by rw [← e2])
abbrev rMulV : R2 := rOr (rI (fun i j => CMul i j ∨ CMulW i j) fun i j => .int (i * j)) rMulS
theorem op_mulB : OpR X (binaryOp .Mult) (rI (fun i j => CMul i j ∨ CMulW i j) fun i j => .int (i * j)) := opI fun _ _ _ _ _ _ _ hc q => mul_int q (hc.elim CMul.ok CMulW.ok)
theorem op_mulV : OpR X (binaryOp .Mult) rMulV := op_mulB.or op_mulS
theorem mulOk_of {i j : Int} (h : mulOk i j = true) : CMul i j ∨ CMulW i j := by
  unfold mulOk at h
  simp only [Bool.or_eq_true, decide_eq_true_eq] at h
  rcases h with h | h | h
  · exact .inl (.inl ⟨by omega, by omega⟩)
  · exact .inl (.inr ⟨by omega, by omega⟩)
  · exact .inr h
theorem sOk_rep {s : List Nat} (h : sOk s = true) (h1 : s.length ≤ 1000) : ∀ {n : Nat}, n ≤ 1000 → sOk (repS s n) = true := by
  intro n hn
  have hall : ∀ n, (repS s n).all (fun c => decide (c < 1114112)) = true := by
    intro n
    induction n with
    | zero => rfl
    | succ n ih =>
      unfold sOk at h
      simp only [Bool.and_eq_true] at h
      rw [repS, List.all_append, h.2, ih]; rfl
  unfold sOk
  rw [hall n, Bool.and_true]
  refine decide_eq_true ?_
  rw [repS_len]
  have : n * s.length ≤ 1000 * 1000 := Nat.mul_le_mul hn h1
  omega
theorem ru_mul {m : Md} : Ru2 G rMulV m oMul := by
  intro H0 H d1 d2 x y d Q s h1 h2 ho f
  unfold oMul at ho
  split at ho
  · split at ho
    · rename_i hk
      cases ho
      exact .inl ⟨_, _, h1, h2, mulOk_of hk, f.atom s rfl rfl⟩
    · cases ho
  · rename_i z n
    split at ho
    · rename_i hk
      cases ho
      simp only [Bool.and_eq_true, decide_eq_true_eq] at hk
      obtain ⟨e1, k1⟩ := sh_str h1
      exact .inr ⟨z, n, e1, h2, hk.1.1, hk.1.2, hk.2, f.atom s ⟨rfl, sOk_rep k1 hk.2 (by omega)⟩ rfl⟩
    · cases ho
  · cases ho

/-! ### in, not in -/
def inOk (d : D) (cs : List D) : Bool := plain d && plains cs && decide (min (deps cs) (dep d) ≤ 64)
def oIn (d c : D) : Option D := match c with
  | .lst cs => if inOk d cs = true then some (.bl (cs.any fun y => eqD y d)) else none
  | .tup cs => if inOk d cs = true then some (.bl (cs.any fun y => eqD y d)) else none
  | .str t => match d with
    | .str [c] => some (.bl (decide (c ∈ t)))
    | _ => none
  | _ => none
def oNotIn (d c : D) : Option D := match oIn d c with
  | some (.bl b) => some (.bl (!b))
  | _ => none
def rInV (K : PySem.W.Frag) (neg : Bool) : R2 := fun x y H Q =>
  (∃ d ds, Dp K H x d ∧ (Dp K H y (.list ds) ∨ Dp K H y (.tuple ds)) ∧ d.canLay0 = true ∧ PyData.canLayAll0 ds = true ∧ min (PyData.depthAll ds) d.depth ≤ 64 ∧ Q (.bl (if neg then !ds.any (fun z => PyData.eqv z d) else ds.any fun z => PyData.eqv z d)) H) ∨
  ∃ (c : Nat) (z : List Nat), x = .str ⟨#[c]⟩ ∧ y = .str ⟨z.toArray⟩ ∧ Q (.bl (if neg then !decide (c ∈ z) else decide (c ∈ z))) H
theorem op_inV (hu : X.A.units + 100 < cLine) : OpR X (compareOp .In) (rInV X.K false) := by
  intro pins s σ H x y v u Q I rx ry h
  rcases h with ⟨d, ds, hd, he, sd, se, hm, q⟩ | ⟨c, z, e1, e2, q⟩
  · obtain ⟨as, r1⟩ := Dp.reads I d x v hd rx
    rcases he with he | he
    · obtain ⟨bs, r2⟩ := Dp.reads I _ y u he ry
      exact SeqAt.in_list_reads r2 r1 se sd (by omega) ⟨.bl _, H, I, rfl, q⟩
    · obtain ⟨bs, r2⟩ := Dp.reads I _ y u he ry
      exact SeqAt.in_tuple_reads r2 r1 se sd (by omega) ⟨.bl _, H, I, rfl, q⟩
  · exact op_in_sign pins s σ H x y v u Q I rx ry ⟨c, _, e1, e2, by simpa using q⟩
theorem op_notInV (hu : X.A.units + 100 < cLine) : OpR X (compareOp .NotIn) (rInV X.K true) := by
  intro pins s σ H x y v u Q I rx ry h
  rcases h with ⟨d, ds, hd, he, sd, se, hm, q⟩ | ⟨c, z, e1, e2, q⟩
  · obtain ⟨as, r1⟩ := Dp.reads I d x v hd rx
    rcases he with he | he
    · obtain ⟨bs, r2⟩ := Dp.reads I _ y u he ry
      exact SeqAt.notIn_list_reads r2 r1 se sd (by omega) ⟨.bl _, H, I, rfl, q⟩
    · obtain ⟨bs, r2⟩ := Dp.reads I _ y u he ry
      exact SeqAt.notIn_tuple_reads r2 r1 se sd (by omega) ⟨.bl _, H, I, rfl, q⟩
  · exact op_notIn_sign pins s σ H x y v u Q I rx ry ⟨c, _, e1, e2, by simpa using q⟩
theorem inOk_of {d : D} {cs : List D} (h : inOk d cs = true) : plain d = true ∧ plains cs = true ∧ min (PyData.depthAll (toPys cs)) (toPy d).depth ≤ 64 := by
  unfold inOk at h
  simp only [Bool.and_eq_true, decide_eq_true_eq] at h
  have h1 := dep_py d
  have h2 := deps_py cs
  exact ⟨h.1.1, h.1.2, by omega⟩
theorem any_toPys (d : D) : ∀ cs : List D, (toPys cs).any (fun z => PyData.eqv z (toPy d)) = cs.any fun y => eqD y d
  | [] => rfl
  | c :: cs => by
    show (PyData.eqv (toPy c) (toPy d) || _) = _
    rw [eqv_eqD, any_toPys d cs]; rfl
theorem in_core {neg : Bool} {H0 H : Hp} {d c : D} {x y : V} {b : Bool} {Q : VK} (s : Same H0 H) (h1 : Sh G.K G.mg H0 H d x) (h2 : Sh G.K G.mg H0 H c y) (ho : oIn d c = some (.bl b)) (q : Q (.bl (if neg then !b else b)) H) : rInV G.K neg x y H Q := by
  have z1 := h1.fz s
  have z2 := h2.fz s
  unfold oIn at ho
  split at ho
  · split at ho
    · rename_i hk
      obtain ⟨p1, p2, p3⟩ := inOk_of hk
      cases ho
      obtain ⟨a, vs, e, k, f⟩ := id z2
      refine .inl ⟨toPy d, _, Fz.dp d x z1 p1, .inl (Fz.dp (.lst _) y z2 p2), Fz.lay d x z1 p1, Fzs.lay _ vs f p2, p3, ?_⟩
      rw [any_toPys]; exact q
    · cases ho
  · split at ho
    · rename_i hk
      obtain ⟨p1, p2, p3⟩ := inOk_of hk
      cases ho
      obtain ⟨a, vs, e, k, f⟩ := id z2
      refine .inl ⟨toPy d, _, Fz.dp d x z1 p1, .inr (Fz.dp (.tup _) y z2 p2), Fz.lay d x z1 p1, Fzs.lay _ vs f p2, p3, ?_⟩
      rw [any_toPys]; exact q
    · cases ho
  · split at ho
    · cases ho
      exact .inr ⟨_, _, (sh_str h1).1, (sh_str h2).1, q⟩
    · cases ho
  · cases ho
theorem oIn_bl {d c e : D} (h : oIn d c = some e) : ∃ b, e = .bl b := by
  unfold oIn at h
  split at h
  · split at h
    · cases h; exact ⟨_, rfl⟩
    · cases h
  · split at h
    · cases h; exact ⟨_, rfl⟩
    · cases h
  · split at h
    · cases h; exact ⟨_, rfl⟩
    · cases h
  · cases h
theorem ru_in : Ru2 G (rInV G.K false) .z oIn := by
  intro H0 H d1 d2 x y d Q s h1 h2 ho f
  obtain ⟨b, e⟩ := oIn_bl ho
  subst e
  exact in_core s h1 h2 ho (f.frz s rfl)
theorem ru_notIn : Ru2 G (rInV G.K true) .z oNotIn := by
  intro H0 H d1 d2 x y d Q s h1 h2 ho f
  unfold oNotIn at ho
  split at ho
  · rename_i hi
    cases ho
    exact in_core s h1 h2 hi (f.frz s rfl)
  · cases ho

/-! ### is, is not -/
def isNon : D → Bool
  | .non => true
  | _ => false
def oIs (d e : D) : Option D := match e with
  | .non => some (.bl (isNon d))
  | .bl b => match d with
    | .bl a => some (.bl (decide (a = b)))
    | _ => none
  | _ => none
def oIsNot (d e : D) : Option D := match e with
  | .non => some (.bl (!isNon d))
  | .bl b => match d with
    | .bl a => some (.bl (!decide (a = b)))
    | _ => none
  | _ => none
abbrev rIsV : R2 := rOr (fun x y H Q => y = .non ∧ Q (.bl (decide (x = .non))) H) rIsB
abbrev rIsNotV : R2 := rOr (fun x y H Q => y = .non ∧ Q (.bl (!decide (x = .non))) H) rNotB
theorem op_isV : OpR X (compareOp .Is) rIsV := op_isN.or op_isBl
theorem op_isNotV : OpR X (compareOp .IsNot) rIsNotV := op_notN.or op_notBl
theorem sh_non {H0 H : Hp} {d : D} {x : V} (h : Sh G.K G.mg H0 H d x) : decide (x = V.non) = isNon d := by
  cases d with
  | non => rw [show x = V.non from h]; rfl
  | bl b => rw [show x = V.bl b from h]; rfl
  | int b => rw [show x = V.int b from h]; rfl
  | str b => rw [(sh_str h).1]; rfl
  | tup b => obtain ⟨a, vs, e, _⟩ := id h; rw [e]; rfl
  | lst b => obtain ⟨a, vs, e, _⟩ := id h; rw [e]; rfl
  | dct b _ => obtain ⟨a, vs, e, _⟩ := id h; rw [e]; rfl
  | ins b _ _ => obtain ⟨a, _, _, vs, e, _⟩ := id h; rw [e]; rfl
  | scr _ => obtain ⟨a, e, _⟩ := id h; rw [e]; rfl
theorem ru_is {m : Md} : Ru2 G rIsV m oIs := by
  intro H0 H d1 d2 x y d Q s h1 h2 ho f
  unfold oIs at ho
  split at ho
  · cases ho
    refine .inl ⟨h2, ?_⟩
    rw [sh_non h1]
    exact f.atom s rfl rfl
  · split at ho
    · cases ho
      exact .inr ⟨_, _, h1, h2, f.atom s rfl rfl⟩
    · cases ho
  · cases ho
theorem ru_isNot {m : Md} : Ru2 G rIsNotV m oIsNot := by
  intro H0 H d1 d2 x y d Q s h1 h2 ho f
  unfold oIsNot at ho
  split at ho
  · cases ho
    refine .inl ⟨h2, ?_⟩
    rw [sh_non h1]
    exact f.atom s rfl rfl
  · split at ho
    · cases ho
      exact .inr ⟨_, _, h1, h2, f.atom s rfl rfl⟩
    · cases ho
  · cases ho

/-! ### an item -/
def oIx (d e : D) : Option D := match d, e with
  | .lst ds, .int i => atI ds i
  | .tup ds, .int i => atI ds i
  | .str s, .int i => (atI s i).map fun c => .str [c]
  | .scr ns, .int i => (atI ns i).map .int
  | _, _ => none
theorem Fzs.get {K : PySem.W.Frag} {mg : Str → Option Value} {H : Hp} : ∀ {ds : List D} {vs : List V} {j : Nat} {d : D}, Fzs K mg H ds vs → ds[j]? = some d → ∃ v, vs[j]? = some v ∧ Fz K mg H d v
  | [], _, _, _, _, h => by simp at h
  | d :: ds, vs, 0, d', ⟨v, r, e, h, t⟩, q => by
    subst e
    simp at q
    subst q
    exact ⟨v, rfl, h⟩
  | d :: ds, vs, j + 1, d', ⟨v, r, e, h, t⟩, q => by
    subst e
    obtain ⟨w, h1, h2⟩ := Fzs.get (j := j) t (by simpa using q)
    exact ⟨w, by simpa using h1, h2⟩
theorem Fzs.atI {K : PySem.W.Frag} {mg : Str → Option Value} {H : Hp} {ds : List D} {vs : List V} {i : Int} {d : D} (f : Fzs K mg H ds vs) (h : L2.atI ds i = some d) : ∃ v, L2.atI vs i = some v ∧ Fz K mg H d v := by
  unfold L2.atI at h ⊢
  rw [f.length]
  cases e : ixN ds.length i with
  | none => rw [e] at h; cases h
  | some j =>
    rw [e] at h
    exact f.get h
theorem atI_mem {α : Type} {xs : List α} {i : Int} {c : α} (h : L2.atI xs i = some c) : c ∈ xs := by
  unfold L2.atI at h
  cases hq : ixN xs.length i with
  | none => rw [hq] at h; cases h
  | some j => rw [hq] at h; exact List.mem_of_getElem? (show xs[j]? = some c from h)
theorem atI_map {α β : Type} {g : α → β} {xs : List α} {i : Int} : L2.atI (xs.map g) i = (L2.atI xs i).map g := by
  unfold L2.atI
  rw [List.length_map]
  cases hq : ixN xs.length i with
  | none => rfl
  | some j =>
    show (xs.map g)[j]? = (xs[j]?).map g
    rw [List.getElem?_map]
theorem ru_ix : Ru2 G (rIx G.K) .z oIx := by
  intro H0 H d1 d2 x y d Q s h1 h2 ho f
  unfold oIx at ho
  split at ho
  · obtain ⟨a, vs, e, k, g⟩ := h1
    obtain ⟨v, e1, e2⟩ := g.atI ho
    exact .inl ⟨a, vs, _, v, e, h2, .of k, e1, f.frz s e2⟩
  · obtain ⟨a, vs, e, k, g⟩ := h1
    obtain ⟨v, e1, e2⟩ := g.atI ho
    exact .inr (.inl ⟨a, vs, _, v, e, h2, same_t s k, e1, f.frz s e2⟩)
  · obtain ⟨c, e1, e2⟩ := Option.map_eq_some_iff.mp ho
    obtain ⟨e3, k⟩ := sh_str h1
    subst e2
    refine .inr (.inr ⟨_, _, c, e3, h2, ?_, by simpa using e1, f.frz s ⟨rfl, ?_⟩⟩)
    · rw [str_len, sizeLine_eq]
      unfold sOk at k
      simp only [Bool.and_eq_true, decide_eq_true_eq] at k
      exact k.1
    · unfold sOk at k ⊢
      simp only [Bool.and_eq_true, decide_eq_true_eq, List.all_eq_true] at k ⊢
      refine ⟨by simp, fun y hy => ?_⟩
      rw [List.mem_singleton.mp hy]
      exact k.2 c (atI_mem e1)
  · obtain ⟨n, e1, e2⟩ := Option.map_eq_some_iff.mp ho
    obtain ⟨a, e3, k⟩ := h1
    subst e2
    exact .inl ⟨a, _, _, .int n, e3, h2, k, by rw [atI_map, e1]; rfl, f.frz s rfl⟩
  · cases ho
end
section
variable {G : GC} {N : List Str} {S : SC} {bs bs1 bs2 ms ms1 ms2 ms3 : Ms} {m : Md} {e a b : Expr} {es : List Expr} {f fa fb : M D} {pos : Pos}
theorem VO.ix {r : R2} {o : D → D → Option D} (ho : ∀ R, At S N (mkX G N R) → IxR (mkX G N R) r) (ru : Ru2 G r m o) (ha : VB G N S bs1 ms1 a fa) (hb : VB G N S bs2 ms2 b fb) (dj : Dj bs1 ms2 := by intro i h; first | rfl | exact absurd h Bool.false_ne_true | (simp [lentM] at h ⊢ <;> omega)) (hp : PlainIx b := by exact fun _ _ => rfl) :
    VO G N S m (msU ms1 ms2) (.Subscript a b pos) (fOp2 o fa fb) := fun R a W t => (pe_ix (ho R a) (ha R a W t) (hb R a W t) hp).imp fun σ H Q h => VE.bin rfl rfl ru dj h
end
end Vm
set_option Elab.async false
set_option linter.all false
set_option maxRecDepth 100000
set_option maxHeartbeats 4000000
namespace Vm
open PySem PySem.Spec PyProof.Rows L2

def Shs (K : PySem.W.Frag) (mg : Str → Option Value) (H0 H : Hp) : List D → List V → Prop
  | [], vs => vs = []
  | d :: ds, vs => ∃ v r, vs = v :: r ∧ Sh K mg H0 H d v ∧ Shs K mg H0 H ds r
/-! ### children, arguments -/
def fNil : M (List D) := fun r => .ok [] r
def fCons (fe : M D) (fr : M (List D)) : M (List D) := fun r => (fe r).bind fun d r => (fr r).bind fun ds r => .ok (d :: ds) r
theorem Bw.more {K : PySem.W.Frag} {mg : Str → Option Value} {bs1 bs2 : Ms} {H0 H : Hp} {c : Co} {d : D} {v : V} (h : Bw K mg bs1 H0 H c d v) (q : ∀ i, bs1 i = true → bs2 i = true) : Bw K mg bs2 H0 H c d v := by
  rcases h with h | ⟨fp, i, hi, r⟩
  · exact .inl h
  · exact .inr ⟨fp, i, q i hi, r⟩
theorem Bws.more {K : PySem.W.Frag} {mg : Str → Option Value} {bs1 bs2 : Ms} {H0 H : Hp} {c : Co} (q : ∀ i, bs1 i = true → bs2 i = true) : ∀ {ds : List D} {vs : List V}, Bws K mg bs1 H0 H c ds vs → Bws K mg bs2 H0 H c ds vs
  | [], vs, h => h
  | d :: ds, vs, ⟨v, r, e, h, t⟩ => ⟨v, r, e, h.more q, Bws.more q t⟩
theorem Ows.length {K : PySem.W.Frag} {mg : Str → Option Value} {H0 H : Hp} : ∀ {ds : List D} {k : Kd} {vs : List V} {fp : List Addr}, Ows K mg H0 H ds k vs fp → vs.length = ds.length
  | [], _, _, _, h => by rw [h.1]; rfl
  | d :: ds, k, _, _, ⟨v, r, f, g, e, ef, h, t⟩ => by rw [e]; simp [Ows.length t]
/-- new nodes, then more of them -/
theorem Fresh.app {ms1 ms2 ms : Ms} {H0 H H1 H02 H2 : Hp} {H01 : Hp} {c c1 c2 : Co} {fp1 fp2 : List Addr} (f1 : Fresh ms1 H c H02 H2 c2 fp1) (t1 : ∀ a ∈ fp1, ∃ o, H1 a = some o) (n1 : ∀ a ∈ fp1, c1 a = none) (f2 : Fresh ms2 H1 c1 H02 H2 c2 fp2)
    (q1 : ∀ i, ms1 i = true → ms i = true) (q2 : ∀ i, ms2 i = true → ms i = true) (s : Step ms H0 H c H01 H1 c1) : Fresh ms H c H02 H2 c2 (fp1 ++ fp2) := by
  have f1 := f1.mono q1
  have f2' := Fresh.back s (f2.mono q2)
  have ap : ∀ {P : Addr → Prop}, (∀ a ∈ fp1, P a) → (∀ a ∈ fp2, P a) → ∀ a ∈ fp1 ++ fp2, P a := fun h1 h2 a ha => (List.mem_append.mp ha).elim (h1 a) (h2 a)
  refine ⟨List.nodup_append.mpr ⟨f1.nd, f2.nd, fun a ha b hb e => ?_⟩, ap f1.nc f2'.nc, ap f1.n0 f2'.n0, ap f1.there f2'.there, ap f1.new f2'.new⟩
  subst e
  obtain ⟨o, e1⟩ := t1 a ha
  rcases f2.new a hb with z | ⟨i, z, _⟩
  · rw [e1] at z; cases z
  · rw [n1 a ha] at z; cases z
section
variable {G : GC} {N : List Str} {S : SC} {bs bs1 bs2 ms ms1 ms2 ms3 : Ms} {m : Md} {k : Kd} {e a b : Expr} {es : List Expr} {f fa fb : M D} {fs : M (List D)} {pos : Pos}
def VLs (G : GC) (N : List Str) (S : SC) (k : Kd) (ms : Ms) (es : List Expr) (f : M (List D)) : Prop := VL G N S k ms es f ∧ ∀ r ds r', f r = .ok ds r' → ds.length = es.length
theorem VLs.nil : VLs G N S k ms0 [] fNil := by
  refine ⟨fun R a W t => pa_nil.imp fun σ H Q ⟨ρ, H0, c, l, o⟩ => o [] H0 H c .refl l ⟨[], ⟨rfl, rfl⟩, .nil⟩, fun r ds r' h => ?_⟩
  cases h; rfl
theorem VLs.cons (he : VO G N S k.hd ms1 e f) (hr : VLs G N S k.tl ms2 es fs) (hs : ∀ env, starEach (e :: es) env = (false, eval e env) :: starEach es env := by intro _; rfl) : VLs G N S k (msU ms1 ms2) (e :: es) (fCons f fs) := by
  refine ⟨fun R a W t => (pa_cons (he R a W t) (hr.1 R a W t) (hs _)).imp fun σ H Q ⟨ρ, H0, c, l, h⟩ => ?_, fun r ds r' h => ?_⟩
  · refine ⟨ρ, H0, c, l, (Out.bind (G := FO G.K G.mg k.hd ms1) (ms1 := ms1) back_FOs h fun i e => or_l e).imp fun x H1 ⟨d1, H01, c1, ρ1, e1, s1, l1, ⟨fp1, o1, f1⟩, h1⟩ => ?_⟩
    refine ⟨ρ1, H01, c1, l1, (Out.bind (G := FOs G.K G.mg k.tl ms2) (ms1 := ms2) back_FOs h1 fun i e => or_r e).imp fun y H2 ⟨d2, H02, c2, ρ2, e2, s2, l2, ⟨fp2, o2, f2⟩, h2⟩ => ?_⟩
    obtain ⟨f1', hk⟩ := f1.on s2
    have hh : Out G.K G.mg W (FOs G.K G.mg k (msU ms1 ms2)) (msU ms1 ms2) H0 H c σ (.ok (d1 :: d2) ρ2) Q := by
      have z : fCons f fs ρ = .ok (d1 :: d2) ρ2 := by unfold fCons; rw [e1, bind_ok, e2, bind_ok]
      rw [← z]; exact h
    have s1' := s1.mono (ms' := msU ms1 ms2) fun i e => or_l e
    have s2' := s2.mono (ms' := msU ms1 ms2) fun i e => or_r e
    refine hh (x :: y) H02 H2 c2 (s1'.trans s2') l2 ⟨fp1 ++ fp2, ⟨x, y, fp1, fp2, rfl, rfl, Ow.mono s2.grow d1 k.hd x fp1 hk o1, o2⟩, ?_⟩
    exact Fresh.app f1' (f1.there) (f1.nc) f2 (fun i e => or_l e) (fun i e => or_r e) s1'
  · unfold fCons at h
    cases e1 : f r with
    | ok d r1 =>
      rw [e1, bind_ok] at h
      cases e2 : fs r1 with
      | ok ds2 r2 =>
        rw [e2, bind_ok] at h
        cases h
        rw [List.length_cons, List.length_cons, hr.2 _ _ _ e2]
      | exc => rw [e2] at h; cases h
      | bad => rw [e2] at h; cases h
    | exc => rw [e1] at h; cases h
    | bad => rw [e1] at h; cases h
theorem VA.nil : VA G N S ms0 ms0 [] fNil := fun R a W t => pa_nil.imp fun σ H Q ⟨ρ, H0, c, l, o⟩ => o [] H0 H c .refl l rfl
theorem VA.cons (he : VB G N S bs1 ms1 e f) (hr : VA G N S bs2 ms2 es fs) (dj : Dj bs1 ms2 := by intro i h; first | rfl | exact absurd h Bool.false_ne_true | (simp [lentM] at h ⊢ <;> omega)) (hs : ∀ env, starEach (e :: es) env = (false, eval e env) :: starEach es env := by intro _; rfl) : VA G N S (msU bs1 bs2) (msU ms1 ms2) (e :: es) (fCons f fs) := by
  refine fun R a W t => (pa_cons (he R a W t) (hr R a W t) (hs _)).imp fun σ H Q ⟨ρ, H0, c, l, h⟩ => ?_
  refine ⟨ρ, H0, c, l, (Out.bind (G := FB G.K G.mg bs1) (ms1 := ms1) back_FBs h fun i e => or_l e).imp fun x H1 ⟨d1, H01, c1, ρ1, e1, s1, l1, b1, h1⟩ => ?_⟩
  refine ⟨ρ1, H01, c1, l1, (Out.bind (G := FBs G.K G.mg bs2) (ms1 := ms2) back_FBs h1 fun i e => or_r e).imp fun y H2 ⟨d2, H02, c2, ρ2, e2, s2, l2, b2, h2⟩ => ?_⟩
  exact h2 (x :: y) H02 H2 c2 .refl l2 ⟨x, y, rfl, (b1.on s2 dj).more fun i e => or_l e, Bws.more (fun i e => or_r e) b2⟩
/-! ### displays -/
def fLst (f : M (List D)) : M D := fun r => (f r).bind fun ds r => .ok (.lst ds) r
def fTup (f : M (List D)) : M D := fun r => (f r).bind fun ds r => .ok (.tup ds) r
theorem VO.lst (h : VLs G N S k ms es fs) (hl : decide (es.length ≤ 1000) = true := by rfl) : VO G N S (.o k) ms (.List es pos) (fLst fs) := by
  refine fun R a W t => (pe_lst (h.1 R a W t)).imp fun σ H Q ⟨ρ, H0, c, l, o⟩ => ?_
  refine ⟨ρ, H0, c, l, (Out.bind (G := FOs G.K G.mg k ms) (ms1 := ms) back_FO o fun i e => e).imp fun xs H1 ⟨ds, H01, c1, ρ1, e1, s1, l1, ⟨g, o1, f1⟩, h1⟩ => ⟨?_, fun p hp => ?_⟩⟩
  · rw [o1.length, h.2 _ _ _ e1, sizeLine_eq]
    have := of_decide_eq_true hl
    omega
  · have hh : Out G.K G.mg W (FO G.K G.mg (.o k) ms) ms H0 H c σ (.ok (.lst ds) ρ1) Q := by
      have z : fLst fs ρ = .ok (.lst ds) ρ1 := by unfold fLst; rw [e1, bind_ok]
      rw [← z]; exact o
    refine Out.node (Hs := H) (cs := c) hh s1 l1 hp f1 ⟨p, xs, g, rfl, upd_same, rfl, Ows.mono (Same.refl _) ds k xs g (fun b hb => ?_) o1⟩
    obtain ⟨u, e⟩ := f1.there b hb
    exact upd_ne (ne_of_none e hp)
theorem VO.tup {x1} (h : VLs G N S k ms es fs) (hl : decide (es.length ≤ 1000) = true := by rfl) : VO G N S (.o k) ms (.Tuple es x1 pos) (fTup fs) := by
  refine fun R a W t => (pe_tup (h.1 R a W t)).imp fun σ H Q ⟨ρ, H0, c, l, o⟩ => ?_
  refine ⟨ρ, H0, c, l, (Out.bind (G := FOs G.K G.mg k ms) (ms1 := ms) back_FO o fun i e => e).imp fun xs H1 ⟨ds, H01, c1, ρ1, e1, s1, l1, ⟨g, o1, f1⟩, h1⟩ => ⟨?_, fun p hp => ?_⟩⟩
  · rw [o1.length, h.2 _ _ _ e1, sizeLine_eq]
    have := of_decide_eq_true hl
    omega
  · have hh : Out G.K G.mg W (FO G.K G.mg (.o k) ms) ms H0 H c σ (.ok (.tup ds) ρ1) Q := by
      have z : fTup fs ρ = .ok (.tup ds) ρ1 := by unfold fTup; rw [e1, bind_ok]
      rw [← z]; exact o
    refine Out.node (Hs := H) (cs := c) hh s1 l1 hp f1 ⟨p, xs, g, rfl, upd_same, rfl, Ows.mono (Same.refl _) ds k xs g (fun b hb => ?_) o1⟩
    obtain ⟨u, e⟩ := f1.there b hb
    exact upd_ne (ne_of_none e hp)

/-! ### tests -/
def fB (f : M D) : M D := fun r => (f r).bind fun d r => match d with
  | .bl b => .ok (.bl b) r
  | _ => .bad
theorem VT.of (h : VO G N S .z ms e f) (he : ∀ env whole, isTrue e env whole = (do let v ← whole; standAt e.pos; holding [v] (truthy v)) := by intro _ _; rfl) : VT G N S ms e (fB f) := by
  refine fun R a W t => (pt_val (h R a W t) (he _)).imp fun σ H Q ⟨ρ, H0, c, l, o⟩ => ?_
  refine ⟨ρ, H0, c, l, (Out.bind (G := FO G.K G.mg .z ms) (ms1 := ms) back_FT o fun i e => e).imp fun x H1 ⟨d, H01, c1, ρ1, e1, s1, l1, ⟨g, o1, f1⟩, h1⟩ => ?_⟩
  have z := (Ow.zero.mp o1).2
  cases d with
  | bl b => exact ⟨b, z, h1 b H01 H1 c1 .refl l1 rfl⟩
  | _ => exact h1.elim
theorem VT.cmp {op : CmpOp} {r : R2} {o : D → D → Option D} {bs1 bs2 ms1 ms2 : Ms} (ho : ∀ R, At S N (mkX G N R) → OpR (mkX G N R) (compareOp op) r) (ru : Ru2 G r .z o) (ha : VB G N S bs1 ms1 a fa) (hb : VB G N S bs2 ms2 b fb) (dj : Dj bs1 ms2 := by intro i h; first | rfl | exact absurd h Bool.false_ne_true | (simp [lentM] at h ⊢ <;> omega))
    (hm : behindInMarks op b = false := by first | exact nomark _ | rfl) : VT G N S (msU ms1 ms2) (.Compare a [op] [b] pos) (fB (fOp2 o fa fb)) := by
  refine fun R a W t => (pt_cmpR (ho R a) (ha R a W t) (hb R a W t) hm).imp fun σ H Q ⟨ρ, H0, c, l, h⟩ => ?_
  refine VE.bin (m := .z) rfl rfl ru dj ⟨ρ, H0, c, l, (Out.bind (G := FO G.K G.mg .z (msU ms1 ms2)) (ms1 := msU ms1 ms2) back_FT h fun i e => e).imp fun x H1 ⟨d, H01, c1, ρ1, e1, s1, l1, ⟨g, o1, f1⟩, h1⟩ => ?_⟩
  have z := (Ow.zero.mp o1).2
  cases d with
  | bl b => exact ⟨b, z, h1 b H01 H1 c1 .refl l1 rfl⟩
  | _ => exact h1.elim
/-- a and b, a or b; not a -/
def fAnd (fa fb : M D) : M D := fun r => (fa r).bind fun d r => match d with
  | .bl true => fb r
  | .bl false => .ok (.bl false) r
  | _ => .bad
def fOr (fa fb : M D) : M D := fun r => (fa r).bind fun d r => match d with
  | .bl true => .ok (.bl true) r
  | .bl false => fb r
  | _ => .bad
def fNot (fa : M D) : M D := fun r => (fa r).bind fun d r => match d with
  | .bl b => .ok (.bl (!b)) r
  | _ => .bad
theorem VW.pt (h : VW G N S ms e f) : VT G N S ms e f := fun R a W t => PW.pt (h R a W t)
theorem VW.and1 (h : VT G N S ms a f) : VW G N S ms (.BoolOp .And [a] pos) f := fun R s W t => pw_and1 (h R s W t)
theorem VW.or1 (h : VT G N S ms a f) : VW G N S ms (.BoolOp .Or [a] pos) f := fun R s W t => pw_or1 (h R s W t)
theorem PW.imp {X : Cx} {e : Expr} {t t' : TT} (h : PW X e t) (q : ∀ σ H Q, t' σ H Q → t σ H Q) : PW X e t' := ⟨fun w pins s σ H Q I z => h.run w pins s σ H Q I (q σ H Q z)⟩
theorem VW.and {rest : List Expr} (ha : VT G N S ms1 a fa) (hb : VW G N S ms2 (.BoolOp .And (b :: rest) pos) fb) : VW G N S (msU ms1 ms2) (.BoolOp .And (a :: b :: rest) pos) (fAnd fa fb) := by
  refine fun R s W t => PW.imp (pw_and (ha R s W t) (hb R s W t)) fun σ H Q ⟨ρ, H0, c, l, o⟩ => ?_
  refine ⟨ρ, H0, c, l, (Out.bind (G := FT) (ms1 := ms1) back_FT o fun i e => or_l e).imp fun x H1 ⟨d, H01, c1, ρ1, e1, s1, l1, z, h1⟩ => ?_⟩
  have z : d = .bl x := z
  subst z
  cases x with
  | true => rw [if_pos rfl]; exact ⟨ρ1, H01, c1, l1, h1.mono (fun i e => or_r e) fun _ _ _ _ _ h => h⟩
  | false => rw [if_neg Bool.false_ne_true]; exact h1 false H01 H1 c1 .refl l1 rfl
theorem VW.or {rest : List Expr} (ha : VT G N S ms1 a fa) (hb : VW G N S ms2 (.BoolOp .Or (b :: rest) pos) fb) : VW G N S (msU ms1 ms2) (.BoolOp .Or (a :: b :: rest) pos) (fOr fa fb) := by
  refine fun R s W t => PW.imp (pw_or (ha R s W t) (hb R s W t)) fun σ H Q ⟨ρ, H0, c, l, o⟩ => ?_
  refine ⟨ρ, H0, c, l, (Out.bind (G := FT) (ms1 := ms1) back_FT o fun i e => or_l e).imp fun x H1 ⟨d, H01, c1, ρ1, e1, s1, l1, z, h1⟩ => ?_⟩
  have z : d = .bl x := z
  subst z
  cases x with
  | false => rw [if_neg Bool.false_ne_true]; exact ⟨ρ1, H01, c1, l1, h1.mono (fun i e => or_r e) fun _ _ _ _ _ h => h⟩
  | true => rw [if_pos rfl]; exact h1 true H01 H1 c1 .refl l1 rfl
theorem VT.not (ha : VT G N S ms a fa) : VT G N S ms (.UnaryOp .Not a pos) (fNot fa) := by
  refine fun R s W t => (pt_not (ha R s W t)).imp fun σ H Q ⟨ρ, H0, c, l, o⟩ => ?_
  refine ⟨ρ, H0, c, l, (Out.bind (G := FT) (ms1 := ms) back_FT o fun i e => e).imp fun x H1 ⟨d, H01, c1, ρ1, e1, s1, l1, z, h1⟩ => ?_⟩
  have z : d = .bl x := z
  subst z
  exact h1 (!x) H01 H1 c1 .refl l1 rfl
/-- .. as values -/
theorem VO.one {op} (h : VO G N S m ms a f) : VO G N S m ms (.BoolOp op [a] pos) f := fun R s W t => pe_one (h R s W t)
theorem VO.and {rest : List Expr} (ha : VO G N S .z ms1 a fa) (hb : VO G N S .z ms2 (.BoolOp .And (b :: rest) pos) fb) : VO G N S .z (msU ms1 ms2) (.BoolOp .And (a :: b :: rest) pos) (fAnd fa fb) := by
  refine fun R s W t => (pe_and (ha R s W t) (hb R s W t)).imp fun σ H Q ⟨ρ, H0, c, l, o⟩ => ?_
  refine ⟨ρ, H0, c, l, (Out.bind (G := FO G.K G.mg .z ms1) (ms1 := ms1) back_FO o fun i e => or_l e).imp fun x H1 ⟨d, H01, c1, ρ1, e1, s1, l1, ⟨g, o1, f1⟩, h1⟩ => ?_⟩
  have z := (Ow.zero.mp o1).2
  cases d with
  | bl b =>
    refine ⟨b, z, ?_⟩
    cases b with
    | true => rw [if_pos rfl]; exact ⟨ρ1, H01, c1, l1, h1.mono (fun i e => or_r e) fun _ _ _ _ _ h => fo_mono (fun i e => or_r e) h⟩
    | false => rw [if_neg Bool.false_ne_true]; exact h1.here l1 rfl
  | _ => exact h1.elim
theorem VO.or {rest : List Expr} (ha : VO G N S .z ms1 a fa) (hb : VO G N S .z ms2 (.BoolOp .Or (b :: rest) pos) fb) : VO G N S .z (msU ms1 ms2) (.BoolOp .Or (a :: b :: rest) pos) (fOr fa fb) := by
  refine fun R s W t => (pe_or (ha R s W t) (hb R s W t)).imp fun σ H Q ⟨ρ, H0, c, l, o⟩ => ?_
  refine ⟨ρ, H0, c, l, (Out.bind (G := FO G.K G.mg .z ms1) (ms1 := ms1) back_FO o fun i e => or_l e).imp fun x H1 ⟨d, H01, c1, ρ1, e1, s1, l1, ⟨g, o1, f1⟩, h1⟩ => ?_⟩
  have z := (Ow.zero.mp o1).2
  cases d with
  | bl b =>
    refine ⟨b, z, ?_⟩
    cases b with
    | false => rw [if_neg Bool.false_ne_true]; exact ⟨ρ1, H01, c1, l1, h1.mono (fun i e => or_r e) fun _ _ _ _ _ h => fo_mono (fun i e => or_r e) h⟩
    | true => rw [if_pos rfl]; exact h1.here l1 rfl
  | _ => exact h1.elim
theorem VO.not (ha : VO G N S .z ms a fa) : VO G N S .z ms (.UnaryOp .Not a pos) (fNot fa) := by
  refine fun R s W t => (pe_not (ha R s W t)).imp fun σ H Q ⟨ρ, H0, c, l, o⟩ => ?_
  refine ⟨ρ, H0, c, l, (Out.bind (G := FO G.K G.mg .z ms) (ms1 := ms) back_FO o fun i e => e).imp fun x H1 ⟨d, H01, c1, ρ1, e1, s1, l1, ⟨g, o1, f1⟩, h1⟩ => ?_⟩
  have z := (Ow.zero.mp o1).2
  cases d with
  | bl b => exact ⟨b, z, h1.here l1 rfl⟩
  | _ => exact h1.elim
/-- a if t else b -/
def fIf {α : Type} (ft : M D) (fa fb : M α) : M α := fun r => (ft r).bind fun d r => match d with
  | .bl true => fa r
  | .bl false => fb r
  | _ => .bad
theorem VO.ite {t : Expr} {ft : M D} {ms0' : Ms} (ht : VT G N S ms0' t ft) (ha : VO G N S m ms1 a fa) (hb : VO G N S m ms2 b fb) : VO G N S m (msU ms0' (msU ms1 ms2)) (.IfExp t a b pos) (fIf ft fa fb) := by
  refine fun R s W tk => (pe_ifExp (ht R s W tk) (ha R s W tk) (hb R s W tk)).imp fun σ H Q ⟨ρ, H0, c, l, o⟩ => ?_
  refine ⟨ρ, H0, c, l, (Out.bind (G := FT) (ms1 := ms0') back_FO o fun i e => or_l e).imp fun x H1 ⟨d, H01, c1, ρ1, e1, s1, l1, z, h1⟩ => ?_⟩
  have z : d = .bl x := z
  subst z
  cases x with
  | true => rw [if_pos rfl]; exact ⟨ρ1, H01, c1, l1, h1.mono (fun i e => or_r (or_l e)) fun _ _ _ _ _ h => fo_mono (fun i e => or_r (or_l e)) h⟩
  | false => rw [if_neg Bool.false_ne_true]; exact ⟨ρ1, H01, c1, l1, h1.mono (fun i e => or_r (or_r e)) fun _ _ _ _ _ h => fo_mono (fun i e => or_r (or_r e)) h⟩
/-- -a -/
def fNeg (fa : M D) : M D := fun r => (fa r).bind fun d r => match d with
  | .int i => .ok (.int (-i)) r
  | _ => .bad
theorem VO.neg (ha : VO G N S .z ms a fa) : VO G N S .z ms (.UnaryOp .USub a pos) (fNeg fa) := by
  refine fun R s W t => (pe_un un_neg (ha R s W t)).imp fun σ H Q ⟨ρ, H0, c, l, o⟩ => ?_
  refine ⟨ρ, H0, c, l, (Out.bind (G := FO G.K G.mg .z ms) (ms1 := ms) back_FO o fun i e => e).imp fun x H1 ⟨d, H01, c1, ρ1, e1, s1, l1, ⟨g, o1, f1⟩, h1⟩ => ?_⟩
  have z := (Ow.zero.mp o1).2
  cases d with
  | int i => exact ⟨i, z, h1.here l1 rfl⟩
  | _ => exact h1.elim

/-! ### calls of built-ins -/
def RuA (G : GC) (r : List V → Hp → VK → Prop) (m : Md) (o : List D → Option D) : Prop :=
  ∀ H0 H ds xs d Q, Same H0 H → Shs G.K G.mg H0 H ds xs → o ds = some d → Fin G.K G.mg m H0 H d Q → r xs H Q
def fA (o : List D → Option D) (f : M (List D)) : M D := fun r => (f r).bind fun ds => rM (o ds)
theorem Bws.shs {K : PySem.W.Frag} {mg : Str → Option Value} {bs : Ms} {H0 H : Hp} {c : Co} (s : Same H0 H) : ∀ {ds : List D} {vs : List V}, Bws K mg bs H0 H c ds vs → Shs K mg H0 H ds vs
  | [], vs, h => h
  | d :: ds, vs, ⟨v, r, e, h, t⟩ => ⟨v, r, e, h.sh s, Bws.shs s t⟩
theorem VE.args {K : PySem.W.Frag} {mg : Str → Option Value} {W : WX} {σ : L2.St} {H : Hp} {Q : VK} {r : List V → Hp → VK → Prop} {o : List D → Option D} (hK : K = G.K) (hm : mg = G.mg) (ru : RuA G r m o)
    (h : tR K mg W (FO K mg m ms) ms (fA o fs) σ H Q) : tR K mg W (FBs K mg bs) ms fs σ H fun xs H1 => r xs H1 Q := by
  subst hK hm
  obtain ⟨ρ, H0, c, l, h⟩ := h
  refine ⟨ρ, H0, c, l, (Out.bind (G := FBs G.K G.mg bs) (ms1 := ms) back_FO h fun i e => e).imp fun xs H1 ⟨ds, H01, c1, ρ1, e1, s1, l1, b1, h1⟩ => ?_⟩
  cases eo : o ds with
  | none => rw [eo] at h1; exact h1.elim
  | some d => rw [eo] at h1; exact ru H01 H1 ds xs d Q l1.sub (b1.shs l1.sub) eo (Out.fin h1 l1)
variable {x : Str} {p : Pos} {id : String} {r : List V → Hp → VK → Prop} {o : List D → Option D}
theorem VO.callB (hc : ∀ R, At S N (mkX G N R) → CallR (mkX G N R) (.builtin id) r) (ru : RuA G r m o) (hm : G.mg x = none) (hv : bootBuiltins x = some (.builtin id)) (ha : VA G N S bs ms (e :: es) fs) (hg : Glb S x := by rfl)
    (hn : x ≠ "__name__" := by decide) (hdb : (x == ("__debug__" : Str)) = false := by decide) (he : ∀ env, starEach (e :: es) env = (false, eval e env) :: starEach es env := by intro _; rfl) (hpl : ∀ env, (backTo pos (starEach es env)).any (·.1) = false := by intro _; rfl) :
    VO G N S m ms (.Call (.Name x p) (e :: es) [] pos) (fA o fs) := fun R a W t => (pe_callB (hc R a) (a.gl hg) hm hv (ha R a W t) hn hdb (he _) (hpl _)).imp fun σ H Q h => VE.args rfl rfl ru h
theorem VO.callTy {T : String} (hc : ∀ R, At S N (mkX G N R) → CallR (mkX G N R) (.type T) r) (ru : RuA G r m o) (hm : G.mg x = none) (hv : bootBuiltins x = some (.type T)) (ha : VA G N S bs ms (e :: es) fs) (hg : Glb S x := by rfl)
    (hn : x ≠ "__name__" := by decide) (hdb : (x == ("__debug__" : Str)) = false := by decide) (he : ∀ env, starEach (e :: es) env = (false, eval e env) :: starEach es env := by intro _; rfl) (hpl : ∀ env, (backTo pos (starEach es env)).any (·.1) = false := by intro _; rfl) :
    VO G N S m ms (.Call (.Name x p) (e :: es) [] pos) (fA o fs) := fun R a W t => (pe_callTy (hc R a) (a.gl hg) hm hv (ha R a W t) hn hdb (he _) (hpl _)).imp fun σ H Q h => VE.args rfl rfl ru h
end
end Vm
set_option Elab.async false
set_option linter.all false
set_option maxRecDepth 100000
set_option maxHeartbeats 4000000
namespace Vm
open PySem PySem.Spec PyProof.Rows L2

/-! ### isinstance against a built-in type -/
inductive PyT where
  | int | bool | str | list | tuple | dict
def PyT.nm : PyT → String
  | .int => "int"
  | .bool => "bool"
  | .str => "str"
  | .list => "list"
  | .tuple => "tuple"
  | .dict => "dict"
def isT : PyT → D → Option Bool
  | .int, .int _ => some true
  | .int, .bl _ => some true
  | .bool, .bl _ => some true
  | .str, .str _ => some true
  | .list, .lst _ => some true
  | .list, .scr _ => some true
  | .tuple, .tup _ => some true
  | .dict, .dct _ _ => some true
  | _, .ins _ _ _ => none
  | _, _ => some false
def tyD : D → String
  | .non => "NoneType"
  | .bl _ => "bool"
  | .int _ => "int"
  | .str _ => "str"
  | .lst _ => "list"
  | .scr _ => "list"
  | .tup _ => "tuple"
  | .dct _ _ => "dict"
  | .ins _ _ _ => ""
theorem isT_kit {K : PySem.W.Frag} (T : PyT) (d : D) {b : Bool} (h : isT T d = some b) : PySem.W.kitOne K (.type (tyD d)) (.type T.nm) = some b := by
  cases T <;> cases d <;> first
    | (cases h; simp only [tyD, PyT.nm]; exact kit_ty (by decide +kernel))
    | cases h
section
variable {G : GC} {N : List Str} {S : SC} {bs bs1 bs2 ms ms1 ms2 ms3 : Ms} {m : Md} {k : Kd} {e a b : Expr} {es : List Expr} {f fa fb : M D} {fs : M (List D)} {pos : Pos} {X : Cx}
theorem tyX_of {K : PySem.W.Frag} {mg : Str → Option Value} {H : Hp} : ∀ {d : D} {v : V}, Fz K mg H d v → (∀ c ns vs, d ≠ .ins c ns vs) → TyX K H v (.type (tyD d))
  | .non, _, h, _ => by cases h; exact .base .non
  | .bl _, _, h, _ => by cases h; exact .base (.bl _)
  | .int _, _, h, _ => by cases h; exact .base (.int _)
  | .str _, _, h, _ => by rw [h.1]; exact .base (.str _)
  | .lst _, _, ⟨a, vs, e, h, _⟩, _ => by subst e; exact .base (.lst h)
  | .scr _, _, ⟨a, e, h⟩, _ => by
    subst e
    rcases h with (h | ⟨o, h⟩) | ⟨o, its, n, h, hc, _⟩
    · exact .base (.lst h)
    · exact .base (.frz h)
    · exact .kList h hc
  | .tup _, _, ⟨a, vs, e, h, _⟩, _ => by
    subst e
    rcases h with (h | ⟨o, h⟩) | ⟨o, its, n, h, hc, _⟩
    · exact .base (.tup h)
    · exact .fTuple h
    · exact .kTuple h hc
  | .dct _ _, _, ⟨a, vs, e, h, _⟩, _ => by
    subst e
    obtain ⟨kvs, h, _⟩ := h
    rcases h with h | ⟨o, h⟩
    · exact .base (.dK h)
    · exact .fDict h
  | .ins _ _ _, _, _, h => absurd rfl (h _ _ _)
def fIsi (T : PyT) (f : M D) : M D := fun r => (f r).bind fun d => rM ((isT T d).map .bl)
theorem VO.isi (T : PyT) {x : Str} {p p2 : Pos} (hm : G.mg "isinstance" = none) (hx : G.mg x = none) (ha : VB G N S bs ms e f) (hg : Glb S "isinstance" := by rfl) (hgx : Glb S x := by rfl) (hv : bootBuiltins x = some (.type T.nm) := by decide +kernel)
    (hs : ∀ env, starEach (e :: [.Name x p2]) env = (false, eval e env) :: starEach [.Name x p2] env := by intro _; rfl) (hn : x ≠ "__name__" := by decide) (hd : (x == ("__debug__" : Str)) = false := by decide) :
    VO G N S .z ms (.Call (.Name "isinstance" p) [e, .Name x p2] [] pos) (fIsi T f) := by
  refine fun R a W t => (pe_callB call_isi (a.gl hg) hm (by decide +kernel) (pa_cons (ha R a W t) (pa_cons (pe_bltn (v := .ty T.nm) (a.gl hgx) hx hv rfl hn hd) pa_nil) (hs _)) (he := hs _)).imp fun σ H Q ⟨ρ, H0, c, l, o⟩ => ?_
  refine ⟨ρ, H0, c, l, (Out.bind (G := FB G.K G.mg bs) (ms1 := ms) back_FO o fun i e => e).imp fun x H1 ⟨d, H01, c1, ρ1, e1, s1, l1, b1, h1⟩ => ?_⟩
  have z := (b1.sh l1.sub).fz l1.sub
  cases ht : isT T d with
  | none => rw [ht] at h1; exact h1.elim
  | some b =>
    rw [ht] at h1
    refine ⟨x, .ty T.nm, _, _, b, rfl, .ty _, tyX_of z (fun c ns vs e => by rw [e] at ht; cases T <;> cases ht), isT_kit T d ht, h1.here l1 rfl⟩

/-! ### len -/
def oLen : List D → Option D
  | [.str s] => some (.int s.length)
  | [.lst ds] => some (.int ds.length)
  | [.tup ds] => some (.int ds.length)
  | [.scr ns] => some (.int ns.length)
  | _ => none
abbrev rLen (K : PySem.W.Frag) : List V → Hp → VK → Prop := fun xs H Q => ∃ x n, xs = [x] ∧ LenV K x H n ∧ Q (.int n) H
theorem shs_one {K : PySem.W.Frag} {mg : Str → Option Value} {H0 H : Hp} {d : D} {xs : List V} (h : Shs K mg H0 H [d] xs) : ∃ x, xs = [x] ∧ Sh K mg H0 H d x := by
  obtain ⟨v, r, e, h1, h2⟩ := h
  rw [show r = [] from h2] at e
  exact ⟨v, e, h1⟩
theorem shs_two {K : PySem.W.Frag} {mg : Str → Option Value} {H0 H : Hp} {d d2 : D} {xs : List V} (h : Shs K mg H0 H [d, d2] xs) : ∃ x y, xs = [x, y] ∧ Sh K mg H0 H d x ∧ Sh K mg H0 H d2 y := by
  obtain ⟨v, r, e, h1, h2⟩ := h
  obtain ⟨y, e2, h3⟩ := shs_one h2
  rw [e2] at e
  exact ⟨v, y, e, h1, h3⟩
theorem sOk_len {s : List Nat} (h : sOk s = true) : s.length ≤ 16777216 := by
  unfold sOk at h
  simp only [Bool.and_eq_true, decide_eq_true_eq] at h
  exact h.1
theorem ru_len {m : Md} : RuA G (rLen G.K) m oLen := by
  intro H0 H ds xs d Q s h ho f
  unfold oLen at ho
  split at ho
  · obtain ⟨x, e, h1⟩ := shs_one h
    cases ho
    obtain ⟨e1, k⟩ := sh_str h1
    refine ⟨x, _, e, ?_, f.atom s rfl rfl⟩
    rw [e1]
    refine ⟨?_, (str_len _).symm⟩
    rw [str_len, sizeLine_eq]; exact sOk_len k
  · obtain ⟨x, e, a, vs, e1, k, g⟩ := shs_one h
    cases ho
    refine ⟨x, _, e, ?_, f.atom s rfl rfl⟩
    rw [e1]
    exact .inl ⟨vs, .of k, g.length.symm⟩
  · obtain ⟨x, e, a, vs, e1, k, g⟩ := shs_one h
    cases ho
    refine ⟨x, _, e, ?_, f.atom s rfl rfl⟩
    rw [e1]
    exact .inr ⟨vs, same_t s k, g.length.symm⟩
  · obtain ⟨x, e, a, e1, k⟩ := shs_one h
    cases ho
    refine ⟨x, _, e, ?_, f.atom s rfl rfl⟩
    rw [e1]
    exact .inl ⟨_, k, by simp⟩
  · cases ho

/-! ### any, all -/
def bls : List D → Option (List Bool)
  | [] => some []
  | .bl b :: ds => (bls ds).map (b :: ·)
  | _ => none
def oAll : List D → Option D
  | [.lst ds] => (bls ds).map fun bs => .bl (bs.all id)
  | _ => none
def oAny : List D → Option D
  | [.lst ds] => (bls ds).map fun bs => .bl (bs.any id)
  | _ => none
theorem bls_fz {K : PySem.W.Frag} {mg : Str → Option Value} {H : Hp} : ∀ {ds : List D} {vs : List V} {bs : List Bool}, Fzs K mg H ds vs → bls ds = some bs → vs = bs.map V.bl
  | [], vs, bs, h, e => by cases e; exact h
  | .bl b :: ds, vs, bs, ⟨v, r, e, h, t⟩, q => by
    obtain ⟨cs, e1, e2⟩ := Option.map_eq_some_iff.mp q
    subst e2
    rw [e, show v = V.bl b from h, bls_fz t e1]; rfl
  | .non :: _, _, _, _, q => by cases q
  | .int _ :: _, _, _, _, q => by cases q
  | .str _ :: _, _, _, _, q => by cases q
  | .tup _ :: _, _, _, _, q => by cases q
  | .lst _ :: _, _, _, _, q => by cases q
  | .dct _ _ :: _, _, _, _, q => by cases q
  | .ins _ _ _ :: _, _, _, _, q => by cases q
  | .scr _ :: _, _, _, _, q => by cases q
theorem ru_all {m : Md} : RuA G (rAll G.K) m oAll := by
  intro H0 H ds xs d Q s h ho f
  unfold oAll at ho
  split at ho
  · obtain ⟨x, e, a, vs, e1, k, g⟩ := shs_one h
    obtain ⟨bs, e2, e3⟩ := Option.map_eq_some_iff.mp ho
    subst e3
    exact ⟨a, bs, by rw [e, e1], by rw [← bls_fz g e2]; exact .of k, f.atom s rfl rfl⟩
  · cases ho
theorem ru_any {m : Md} : RuA G (rAny G.K) m oAny := by
  intro H0 H ds xs d Q s h ho f
  unfold oAny at ho
  split at ho
  · obtain ⟨x, e, a, vs, e1, k, g⟩ := shs_one h
    obtain ⟨bs, e2, e3⟩ := Option.map_eq_some_iff.mp ho
    subst e3
    exact ⟨a, bs, by rw [e, e1], by rw [← bls_fz g e2]; exact .of k, f.atom s rfl rfl⟩
  · cases ho

/-! ### list, tuple -/
def oList : List D → Option D
  | [.lst ds] => some (.lst ds)
  | [.tup ds] => some (.lst ds)
  | [.scr ns] => some (.lst (ns.map .int))
  | _ => none
def oTuple : List D → Option D
  | [.lst ds] => some (.tup ds)
  | [.tup ds] => some (.tup ds)
  | _ => none
abbrev rListOf (K : PySem.W.Frag) : List V → Hp → VK → Prop := fun xs H Q => ∃ p ys, xs = [.ref p] ∧ (SqL K H p ys ∨ SqT K H p ys) ∧ ∀ l, H l = none → Q (.ref l) (upd H l (.lst ys))
abbrev rTupleOf (K : PySem.W.Frag) : List V → Hp → VK → Prop := fun xs H Q => ∃ p ys, xs = [.ref p] ∧ ((SqL K H p ys ∧ ∀ l, H l = none → Q (.ref l) (upd H l (.tup ys))) ∨ (SqT K H p ys ∧ Q (.ref p) H))
theorem fzs_ints {K : PySem.W.Frag} {mg : Str → Option Value} {H : Hp} : ∀ ns : List Int, Fzs K mg H (ns.map D.int) (ns.map V.int)
  | [] => rfl
  | n :: ns => ⟨_, _, rfl, rfl, fzs_ints ns⟩
theorem ru_list {m : Md} (hm : ZO m) : RuA G (rListOf G.K) m oList := by
  intro H0 H ds xs d Q s h ho f
  unfold oList at ho
  split at ho
  · obtain ⟨x, e, a, vs, e1, k, g⟩ := shs_one h
    cases ho
    exact ⟨a, vs, by rw [e, e1], .inl (.of k), fun p hp => f.lst hm s g hp⟩
  · obtain ⟨x, e, a, vs, e1, k, g⟩ := shs_one h
    cases ho
    exact ⟨a, vs, by rw [e, e1], .inr (same_t s k), fun p hp => f.lst hm s g hp⟩
  · obtain ⟨x, e, a, e1, k⟩ := shs_one h
    cases ho
    exact ⟨a, _, by rw [e, e1], .inl k, fun p hp => f.lst hm s (fzs_ints _) hp⟩
  · cases ho
theorem ru_tuple : RuA G (rTupleOf G.K) .z oTuple := by
  intro H0 H ds xs d Q s h ho f
  unfold oTuple at ho
  split at ho
  · obtain ⟨x, e, a, vs, e1, k, g⟩ := shs_one h
    cases ho
    exact ⟨a, vs, by rw [e, e1], .inl ⟨.of k, fun p hp => f.tup (.inl rfl) s g hp⟩⟩
  · obtain ⟨x, e, h1⟩ := shs_one h
    obtain ⟨a, vs, e1, k, g⟩ := id h1
    cases ho
    exact ⟨a, vs, by rw [e, e1], .inr ⟨same_t s k, f.frz s (by rw [← e1]; exact h1)⟩⟩
  · cases ho

/-! ### slices -/
def cutL {α : Type} (xs : List α) (lo hi : Option Int) : List α := (xs.drop (HT.sIx xs.length 0 lo)).take (HT.sIx xs.length xs.length hi - HT.sIx xs.length 0 lo)
def oCut (d : D) (lo hi : Option Int) : Option D := match d with
  | .str s => some (.str (cutL s lo hi))
  | .lst ds => some (.lst (cutL ds lo hi))
  | .tup ds => some (.tup (cutL ds lo hi))
  | .scr ns => some (.lst (cutL (ns.map .int) lo hi))
  | _ => none
def oCutL (d : D) (lo hi : Option Int) : Option D := match d with
  | .lst ds => some (.lst (cutL ds lo hi))
  | .scr ns => some (.lst (cutL (ns.map .int) lo hi))
  | _ => none
/-- a part of a slice -/
abbrev VP (G : GC) (N : List Str) (S : SC) (ms : Ms) (e : Option Expr) (f : M (Option Int)) : Prop := VE G N S (fun X t => PO X e t) (fun _ _ d _ _ _ v => v = d) ms f
def fNoP : M (Option Int) := fun r => .ok none r
def fPart (f : M D) : M (Option Int) := fun r => (f r).bind fun d r => match d with
  | .int i => .ok (some i) r
  | _ => .bad
theorem PO.imp {X : Cx} {e : Option Expr} {t t' : TO} (h : PO X e t) (q : ∀ σ H Q, t' σ H Q → t σ H Q) : PO X e t' := ⟨fun pins s σ H Q I z => h.run pins s σ H Q I (q σ H Q z)⟩
theorem back_eq {α : Type} {ms : Ms} : Back ms (fun _ _ (d : α) _ _ _ v => v = d) := fun _ _ _ _ _ _ _ _ _ _ _ _ h => h
theorem VP.none : VP G N S ms0 none fNoP := fun R a W t => PO.imp po_none fun σ H Q ⟨ρ, H0, c, l, o⟩ => o _ H0 H c .refl l rfl
theorem VP.some (h : VO G N S .z ms e f) : VP G N S ms (some e) (fPart f) := by
  refine fun R a W t => PO.imp (po_some (h R a W t)) fun σ H Q ⟨ρ, H0, c, l, o⟩ => ?_
  refine ⟨ρ, H0, c, l, (Out.bind (G := FO G.K G.mg .z ms) (ms1 := ms) back_eq o fun i e => e).imp fun x H1 ⟨d, H01, c1, ρ1, e1, s1, l1, ⟨g, o1, f1⟩, h1⟩ => ?_⟩
  have z := (Ow.zero.mp o1).2
  cases d with
  | int i => exact ⟨i, z, h1 _ H01 H1 c1 .refl l1 rfl⟩
  | _ => exact h1.elim
def RuS (G : GC) (r : V → Option Int → Option Int → Hp → VK → Prop) (m : Md) (o : D → Option Int → Option Int → Option D) : Prop :=
  ∀ H0 H d1 x lo hi d Q, Same H0 H → Sh G.K G.mg H0 H d1 x → o d1 lo hi = some d → Fin G.K G.mg m H0 H d Q → r x lo hi H Q
def fSl (o : D → Option Int → Option Int → Option D) (f : M D) (fl fh : M (Option Int)) : M D := fun r => (f r).bind fun d r => (fl r).bind fun lo r => (fh r).bind fun hi => rM (o d lo hi)
theorem VO.sl {lo hi : Option Expr} {fl fh : M (Option Int)} {p2 : Pos} {r : V → Option Int → Option Int → Hp → VK → Prop} {o : D → Option Int → Option Int → Option D} (hr : ∀ R, At S N (mkX G N R) → SlR (mkX G N R) r) (ru : RuS G r m o)
    (ha : VB G N S bs1 ms1 e f) (hl : VP G N S ms2 lo fl) (hh : VP G N S ms3 hi fh) (dj : Dj bs1 ms2 := by intro i h; first | rfl | exact absurd h Bool.false_ne_true | (simp [lentM] at h ⊢ <;> omega)) (dj2 : Dj bs1 ms3 := by intro i h; first | rfl | exact absurd h Bool.false_ne_true | (simp [lentM] at h ⊢ <;> omega)) :
    VO G N S m (msU ms1 (msU ms2 ms3)) (.Subscript e (.Slice lo hi none p2) pos) (fSl o f fl fh) := by
  refine fun R a W t => (pe_slice (hr R a) (ha R a W t) (hl R a W t) (hh R a W t)).imp fun σ H Q ⟨ρ, H0, c, l, h⟩ => ?_
  refine ⟨ρ, H0, c, l, (Out.bind (G := FB G.K G.mg bs1) (ms1 := ms1) back_FO h fun i e => or_l e).imp fun x H1 ⟨d1, H01, c1, ρ1, e1, s1, l1, b1, h1⟩ => ?_⟩
  refine ⟨ρ1, H01, c1, l1, (Out.bind (G := fun _ _ d _ _ _ v => v = d) (ms1 := ms2) back_FO h1 fun i e => or_r (or_l e)).imp fun y H2 ⟨d2, H02, c2, ρ2, e2, s2, l2, b2, h2⟩ => ?_⟩
  refine ⟨ρ2, H02, c2, l2, (Out.bind (G := fun _ _ d _ _ _ v => v = d) (ms1 := ms3) back_FO h2 fun i e => or_r (or_r e)).imp fun z H3 ⟨d3, H03, c3, ρ3, e3, s3, l3, b3, h3⟩ => ?_⟩
  subst b2 b3
  cases eo : o d1 y z with
  | none => rw [eo] at h3; exact h3.elim
  | some d =>
    rw [eo] at h3
    exact ru H03 H3 d1 x y z d Q l3.sub (((b1.on s2 dj).on s3 dj2).sh l3.sub) eo (Out.fin h3 l3)
theorem Fzs.take {K : PySem.W.Frag} {mg : Str → Option Value} {H : Hp} : ∀ {ds : List D} {vs : List V} (n : Nat), Fzs K mg H ds vs → Fzs K mg H (ds.take n) (vs.take n)
  | ds, vs, 0, h => rfl
  | [], vs, n + 1, h => by rw [show vs = [] from h]; rfl
  | d :: ds, vs, n + 1, ⟨v, r, e, h, t⟩ => by subst e; exact ⟨v, r.take n, rfl, h, Fzs.take n t⟩
theorem Fzs.drop {K : PySem.W.Frag} {mg : Str → Option Value} {H : Hp} : ∀ {ds : List D} {vs : List V} (n : Nat), Fzs K mg H ds vs → Fzs K mg H (ds.drop n) (vs.drop n)
  | ds, vs, 0, h => h
  | [], vs, n + 1, h => by rw [show vs = [] from h]; rfl
  | d :: ds, vs, n + 1, ⟨v, r, e, h, t⟩ => by subst e; exact Fzs.drop n t
theorem Fzs.cut {K : PySem.W.Frag} {mg : Str → Option Value} {H : Hp} {ds : List D} {vs : List V} (lo hi : Option Int) (h : Fzs K mg H ds vs) : Fzs K mg H (cutL ds lo hi) (cutV vs lo hi) := by
  unfold cutL cutV
  rw [h.length]
  exact Fzs.take _ (Fzs.drop _ h)
abbrev rSlV (K : PySem.W.Frag) : V → Option Int → Option Int → Hp → VK → Prop := fun x lo hi H Q => rSlS x lo hi H Q ∨ rSlL K x lo hi H Q ∨ rSlA K x lo hi H Q
theorem sl_V : SlR X (rSlV X.K) := sl_str.or (sl_list.or sl_tupA)
theorem sOk_cut {s : List Nat} {lo hi : Option Int} (h : sOk s = true) : sOk (cutL s lo hi) = true := by
  unfold sOk at h ⊢
  simp only [Bool.and_eq_true, decide_eq_true_eq, List.all_eq_true] at h ⊢
  unfold cutL
  refine ⟨?_, fun x hx => h.2 x (List.mem_of_mem_drop (List.mem_of_mem_take hx))⟩
  rw [List.length_take, List.length_drop]
  omega
theorem ru_cut : RuS G (rSlV G.K) .z oCut := by
  intro H0 H d1 x lo hi d Q s h ho f
  unfold oCut at ho
  split at ho
  · cases ho
    obtain ⟨e1, k⟩ := sh_str h
    refine .inl ⟨_, e1, ?_, f.frz s ⟨?_, sOk_cut k⟩⟩
    · rw [str_len, sizeLine_eq]; exact sOk_len k
    · unfold cutS cutL
      rw [str_len]
  · cases ho
    obtain ⟨a, vs, e1, k, g⟩ := h
    exact .inr (.inl ⟨a, vs, e1, .of k, fun p hp => f.lst (.inl rfl) s (g.cut lo hi) hp⟩)
  · cases ho
    obtain ⟨a, vs, e1, k, g⟩ := id h
    have hl := g.length
    refine .inr (.inr ⟨a, vs, e1, same_t s k, fun hw => ?_, fun hw p hp => f.tup (.inl rfl) s (g.cut lo hi) hp⟩)
    rw [hl] at hw
    refine f.frz s ?_
    rw [show cutL _ lo hi = _ from by unfold cutL; rw [hw.1, hw.2, List.drop_zero, Nat.sub_zero, List.take_length], ← e1]
    exact h
  · cases ho
    obtain ⟨a, e1, k⟩ := h
    exact .inr (.inl ⟨a, _, e1, k, fun p hp => f.lst (.inl rfl) s ((fzs_ints _).cut lo hi) hp⟩)
  · cases ho
theorem ru_cutL {m : Md} (hm : ZO m) : RuS G (rSlL G.K) m oCutL := by
  intro H0 H d1 x lo hi d Q s h ho f
  unfold oCutL at ho
  split at ho
  · cases ho
    obtain ⟨a, vs, e1, k, g⟩ := h
    exact ⟨a, vs, e1, .of k, fun p hp => f.lst hm s (g.cut lo hi) hp⟩
  · cases ho
    obtain ⟨a, e1, k⟩ := h
    exact ⟨a, _, e1, k, fun p hp => f.lst hm s ((fzs_ints _).cut lo hi) hp⟩
  · cases ho
end
end Vm
set_option Elab.async false
set_option linter.all false
set_option maxRecDepth 100000
set_option maxHeartbeats 4000000
namespace Vm
open PySem PySem.Spec PyProof.Rows L2

/-! ### statements -/
inductive Fl where
  | nx | bk | ct
  | rt (d : D)
/-- the slots' values stay but those of as -/
def Agr (as : Ms) (σ σ' : L2.St) : Prop := σ'.length = σ.length ∧ ∀ i, as i = false → σ'[i]? = σ[i]?
theorem Agr.refl {as : Ms} {σ : L2.St} : Agr as σ σ := ⟨rfl, fun _ _ => rfl⟩
theorem Agr.trans {as : Ms} {σ σ1 σ2 : L2.St} (a : Agr as σ σ1) (b : Agr as σ1 σ2) : Agr as σ σ2 := ⟨b.1.trans a.1, fun i h => (b.2 i h).trans (a.2 i h)⟩
theorem Agr.mono {as as' : Ms} {σ σ' : L2.St} (a : Agr as σ σ') (h : ∀ i, as i = true → as' i = true) : Agr as' σ σ' := ⟨a.1, fun i e => a.2 i (by
  cases q : as i with
  | false => rfl
  | true => rw [h i q] at e; cases e)⟩
/-- what must hold so that the end x of a statement brings D -/
def OutS (K : PySem.W.Frag) (mg : Str → Option Value) (W : WX) (rm : Md) (ms as : Ms) (H0 H : Hp) (c : Co) (σ : L2.St) (x : Res Fl) (D : Ends) : Prop := match x with
  | .ok .nx ρ' => ∀ σ' H0' H' c', Step ms H0 H c H0' H' c' → Lies K mg H0' H' c' σ' ρ' → Agr as σ σ' → D.nx σ' H'
  | .ok .bk ρ' => ∀ σ' H0' H' c', Step ms H0 H c H0' H' c' → Lies K mg H0' H' c' σ' ρ' → Agr as σ σ' → D.bk σ' H'
  | .ok .ct ρ' => ∀ σ' H0' H' c', Step ms H0 H c H0' H' c' → Lies K mg H0' H' c' σ' ρ' → Agr as σ σ' → D.ct σ' H'
  | .ok (.rt d) ρ' => ∀ v σ' H0' H' c', Step ms H0 H c H0' H' c' → Lies K mg H0' H' c' σ' ρ' → Agr as σ σ' → FO K mg rm msA H c d H0' H' c' v → D.rt v H'
  | .exc n ns vs ρ' => ∀ cls dx σ' H0' H' c', Step ms H0 H c H0' H' c' → Lies K mg H0' H' c' σ' ρ' → Agr as σ σ' → ExcAt K mg H0' n ns vs cls dx → W cls dx σ' H'
  | .bad => False
def tS (K : PySem.W.Frag) (mg : Str → Option Value) (W : WX) (rm : Md) (as : Ms) (g : M Fl) : TS := fun D σ H => ∃ ρ H0 c, Lies K mg H0 H c σ ρ ∧ OutS K mg W rm msA as H0 H c σ (g ρ) D
section
variable {K : PySem.W.Frag} {mg : Str → Option Value} {W : WX} {rm m : Md} {as as1 as2 ms ms1 ms2 : Ms} {H0 H H0' H' : Hp} {c c' : Co} {σ σ' : L2.St} {ρ ρ' : En} {x : Res Fl} {D D' : Ends} {d : Vm.D} {v : V}
theorem OutS.imp (h : OutS K mg W rm ms as H0 H c σ x D) (h1 : ∀ σ H, D.nx σ H → D'.nx σ H) (h2 : ∀ σ H, D.bk σ H → D'.bk σ H) (h3 : ∀ σ H, D.ct σ H → D'.ct σ H) (h4 : ∀ v H, D.rt v H → D'.rt v H) : OutS K mg W rm ms as H0 H c σ x D' := by
  cases x with
  | ok f r => cases f with
    | nx => exact fun σ' H0' H' c' s l a => h1 _ _ (h σ' H0' H' c' s l a)
    | bk => exact fun σ' H0' H' c' s l a => h2 _ _ (h σ' H0' H' c' s l a)
    | ct => exact fun σ' H0' H' c' s l a => h3 _ _ (h σ' H0' H' c' s l a)
    | rt d => exact fun v σ' H0' H' c' s l a f => h4 _ _ (h v σ' H0' H' c' s l a f)
  | exc n ns vs r => exact h
  | bad => exact h
theorem OutS.on (h : OutS K mg W rm ms as H0 H c σ x D) (s : Step ms H0 H c H0' H' c') (a : Agr as σ σ') : OutS K mg W rm ms as H0' H' c' σ' x D := by
  cases x with
  | ok f r => cases f with
    | nx => exact fun σ' H0' H' c' t l b => h σ' H0' H' c' (s.trans t) l (a.trans b)
    | bk => exact fun σ' H0' H' c' t l b => h σ' H0' H' c' (s.trans t) l (a.trans b)
    | ct => exact fun σ' H0' H' c' t l b => h σ' H0' H' c' (s.trans t) l (a.trans b)
    | rt d => exact fun v σ' H0' H' c' t l b f => h v σ' H0' H' c' (s.trans t) l (a.trans b) (back_FO _ _ _ _ _ _ _ _ _ _ _ (s.mono fun _ _ => rfl) f)
  | exc n ns vs r => exact fun cls dx σ' H0' H' c' t l b e => h cls dx σ' H0' H' c' (s.trans t) l (a.trans b) e
  | bad => exact h
theorem OutS.mono (h : OutS K mg W rm ms2 as2 H0 H c σ x D) (q : ∀ i, as1 i = true → as2 i = true) (p : ∀ i, ms1 i = true → ms2 i = true) : OutS K mg W rm ms1 as1 H0 H c σ x D := by
  cases x with
  | ok f r => cases f with
    | nx => exact fun σ' H0' H' c' t l b => h σ' H0' H' c' (t.mono p) l (b.mono q)
    | bk => exact fun σ' H0' H' c' t l b => h σ' H0' H' c' (t.mono p) l (b.mono q)
    | ct => exact fun σ' H0' H' c' t l b => h σ' H0' H' c' (t.mono p) l (b.mono q)
    | rt d => exact fun v σ' H0' H' c' t l b f => h v σ' H0' H' c' (t.mono p) l (b.mono q) f
  | exc n ns vs r => exact fun cls dx σ' H0' H' c' t l b e => h cls dx σ' H0' H' c' (t.mono p) l (b.mono q) e
  | bad => exact h
/-- an expression, then a flow -/
theorem OutS.expr {α β : Type} {F : Fam α β} {f : Res α} {g : α → M Fl} (h : OutS K mg W rm msA as H0 H c σ (f.bind g) D) :
    Out K mg W F ms H0 H c σ f fun v H1 => ∃ d H01 c1 ρ1, f = .ok d ρ1 ∧ Step ms H0 H c H01 H1 c1 ∧ Lies K mg H01 H1 c1 σ ρ1 ∧ F H c d H01 H1 c1 v ∧ OutS K mg W rm msA as H01 H1 c1 σ (g d ρ1) D := by
  cases f with
  | ok d r => exact fun v H0' H' c' s l f => ⟨d, H0', c', r, rfl, s, l, f, h.on (s.mono fun _ _ => rfl) .refl⟩
  | exc n ns vs r => exact fun cls dx H0' H' c' s l e => h cls dx σ H0' H' c' (s.mono fun _ _ => rfl) l .refl e
  | bad => exact h
/-- one statement, then what follows -/
def gSeq (g1 g2 : M Fl) : M Fl := fun r => (g1 r).bind fun f r => match f with
  | .nx => g2 r
  | .bk => .ok .bk r
  | .ct => .ok .ct r
  | .rt d => .ok (.rt d) r
theorem OutS.seq {g : Res Fl} {g2 : M Fl} (h : OutS K mg W rm ms as H0 H c σ (g.bind fun f r => match f with
  | .nx => g2 r
  | .bk => .ok .bk r
  | .ct => .ok .ct r
  | .rt d => .ok (.rt d) r) D) :
    OutS K mg W rm ms as H0 H c σ g { D with nx := fun σ' H' => ∃ ρ1 H01 c1, Lies K mg H01 H' c1 σ' ρ1 ∧ Step ms H0 H c H01 H' c1 ∧ Agr as σ σ' ∧ OutS K mg W rm ms as H01 H' c1 σ' (g2 ρ1) D } := by
  cases g with
  | ok f r => cases f with
    | nx => exact fun σ' H0' H' c' s l a => ⟨r, H0', c', l, s, a, h.on s a⟩
    | bk => exact h
    | ct => exact h
    | rt d => exact h
  | exc n ns vs r => exact h
  | bad => exact h
end
/-- statements -/
abbrev VS (G : GC) (N : List Str) (S : SC) (rm : Md) (as : Ms) (st : Stmt) (g : M Fl) : Prop := ∀ R, At S N (mkX G N R) → ∀ W, Takes (mkX G N R) W → PS (mkX G N R) st (tS G.K G.mg W rm as g)
abbrev VSs (G : GC) (N : List Str) (S : SC) (rm : Md) (as : Ms) (st : List Stmt) (g : M Fl) : Prop := ∀ R, At S N (mkX G N R) → ∀ W, Takes (mkX G N R) W → PSs (mkX G N R) st (tS G.K G.mg W rm as g)
def gNx : M Fl := fun r => .ok .nx r
def gBk : M Fl := fun r => .ok .bk r
def gCt : M Fl := fun r => .ok .ct r
section
variable {G : GC} {N : List Str} {S : SC} {bs bs1 bs2 ms ms1 ms2 ms3 as as1 as2 : Ms} {m rm : Md} {k : Kd} {e a b : Expr} {es : List Expr} {f fa fb : M D} {fs : M (List D)} {pos : Pos} {g g1 g2 : M Fl} {st : Stmt} {rest st1 st2 : List Stmt}
theorem VS.mono (h : VS G N S rm as1 st g) (q : ∀ i, as1 i = true → as2 i = true) : VS G N S rm as2 st g := fun R a W t => (h R a W t).imp fun D σ H ⟨ρ, H0, c, l, o⟩ => ⟨ρ, H0, c, l, o.mono q fun _ h => h⟩
theorem VSs.mono (h : VSs G N S rm as1 rest g) (q : ∀ i, as1 i = true → as2 i = true) : VSs G N S rm as2 rest g := fun R a W t => (h R a W t).imp fun D σ H ⟨ρ, H0, c, l, o⟩ => ⟨ρ, H0, c, l, o.mono q fun _ h => h⟩
theorem VSs.nil : VSs G N S rm ms0 [] gNx := fun R a W t => pss_nil.imp fun D σ H ⟨ρ, H0, c, l, o⟩ => o σ H0 H c .refl l .refl
theorem VSs.one (h : VS G N S rm as st g) : VSs G N S rm as [st] g := fun R a W t => pss_one (h R a W t)
theorem VSs.cons (h1 : VS G N S rm as1 st g1) (h2 : VSs G N S rm as2 rest g2) : VSs G N S rm (msU as1 as2) (st :: rest) (gSeq g1 g2) := by
  refine fun R a W t => (pss_cons (h1 R a W t) (h2 R a W t)).imp fun D σ H ⟨ρ, H0, c, l, o⟩ => ?_
  exact ⟨ρ, H0, c, l, ((OutS.seq o).mono (fun i e => or_l e) fun _ h => h).imp (fun σ' H' ⟨ρ1, H01, c1, l1, s1, a1, o1⟩ => ⟨ρ1, H01, c1, l1, o1.mono (fun i e => or_r e) fun _ h => h⟩) (fun _ _ h => h) (fun _ _ h => h) (fun _ _ h => h)⟩
theorem VS.pass : VS G N S rm ms0 (.Pass pos) gNx := fun R a W t => ps_pass.imp fun D σ H ⟨ρ, H0, c, l, o⟩ => o σ H0 H c .refl l .refl
theorem VS.brk : VS G N S rm ms0 (.Break pos) gBk := fun R a W t => ps_break.imp fun D σ H ⟨ρ, H0, c, l, o⟩ => o σ H0 H c .refl l .refl
theorem VS.cont : VS G N S rm ms0 (.Continue pos) gCt := fun R a W t => ps_continue.imp fun D σ H ⟨ρ, H0, c, l, o⟩ => o σ H0 H c .refl l .refl
theorem VS.doc {x j pos'} : VS G N S rm ms0 (.Expr (.Constant (.str x) j pos) pos') gNx := fun R a W t => ps_doc.imp fun D σ H ⟨ρ, H0, c, l, o⟩ => o σ H0 H c .refl l .refl
/-- an expression for what it does -/
def gDo (f : M D) : M Fl := fun r => (f r).bind fun _ r => .ok .nx r
theorem VS.expr (h : VO G N S m ms e f) (hs : ∀ env, swapsWith e none pos.line env = pure false := by intro _; rfl) : VS G N S rm ms0 (.Expr e pos) (gDo f) := by
  refine fun R a W t => (ps_expr (h R a W t) (hs _)).imp fun D σ H ⟨ρ, H0, c, l, o⟩ => ?_
  exact ⟨ρ, H0, c, l, (OutS.expr o).imp fun x H1 ⟨d, H01, c1, ρ1, e1, s1, l1, f1, h1⟩ => h1 σ H01 H1 c1 .refl l1 .refl⟩
def gRet (f : M D) : M Fl := fun r => (f r).bind fun d r => .ok (.rt d) r
theorem VS.ret (h : VO G N S rm ms e f) : VS G N S rm ms0 (.Return (some e) pos) (gRet f) := by
  refine fun R a W t => (ps_ret (h R a W t)).imp fun D σ H ⟨ρ, H0, c, l, o⟩ => ⟨ρ, H0, c, l, ?_⟩
  show Out _ _ _ _ _ _ _ _ _ _ D.rt
  unfold gRet at o
  cases e1 : f ρ with
  | ok d r =>
    rw [e1, bind_ok] at o
    exact fun v H0' H' c' s l' f => o v σ H0' H' c' (s.mono fun _ _ => rfl) l' .refl (fo_mono (fun _ _ => rfl) f)
  | exc n ns vs r =>
    rw [e1] at o
    exact fun cls dx H0' H' c' s l' e => o cls dx σ H0' H' c' (s.mono fun _ _ => rfl) l' .refl e
  | bad => rw [e1] at o; exact o
def gRetN : M Fl := fun r => .ok (.rt .non) r
theorem VS.retN : VS G N S rm ms0 (.Return none pos) gRetN := fun R a W t => ps_retN.imp fun D σ H ⟨ρ, H0, c, l, o⟩ => o .non σ H0 H c .refl l .refl ⟨[], ow_of_atom rfl rfl, .nil⟩
theorem VS.ite {t : Expr} {ft : M D} (ht : VT G N S ms t ft) (h1 : VSs G N S rm as1 st1 g1) (h2 : VSs G N S rm as2 st2 g2) : VS G N S rm (msU as1 as2) (.If t st1 st2 pos) (fIf ft g1 g2) := by
  refine fun R a W tk => (ps_if (ht R a W tk) (h1 R a W tk) (h2 R a W tk)).imp fun D σ H ⟨ρ, H0, c, l, o⟩ => ?_
  refine ⟨ρ, H0, c, l, (OutS.expr (F := FT) o).imp fun x H1 ⟨d, H01, c1, ρ1, e1, s1, l1, z, o1⟩ => ?_⟩
  have z : d = .bl x := z
  subst z
  cases x with
  | true => rw [if_pos rfl]; exact ⟨ρ1, H01, c1, l1, o1.mono (fun i e => or_l e) fun _ h => h⟩
  | false => rw [if_neg Bool.false_ne_true]; exact ⟨ρ1, H01, c1, l1, o1.mono (fun i e => or_r e) fun _ h => h⟩

/-! ### a slot is stored -/
theorem getS_set_eq {r : En} {i : Nat} {s : Sl} (h : i < r.length) : getS (r.set i s) i = s := by
  simp [getS, List.getD_eq_getElem?_getD, List.getElem?_set_self h]
theorem getS_set_ne {r : En} {i j : Nat} {s : Sl} (h : i ≠ j) : getS (r.set i s) j = getS r j := by
  simp [getS, List.getD_eq_getElem?_getD, List.getElem?_set_ne h]
def coSet (c : Co) (i : Nat) (fp : List Addr) : Co := fun a => if a ∈ fp then some i else if c a = some i then none else c a
section
variable {K : PySem.W.Frag} {mg : Str → Option Value} {H0 H H0' H' : Hp} {c c' : Co} {σ : L2.St} {ρ : En} {d : D} {v : V} {i : Nat} {fp : List Addr}
theorem coSet_in {a : Addr} (h : a ∈ fp) : coSet c i fp a = some i := by unfold coSet; rw [if_pos h]
theorem coSet_out {a : Addr} {j : Nat} (h : a ∉ fp) (e : coSet c i fp a = some j) : c a = some j ∧ j ≠ i := by
  unfold coSet at e
  rw [if_neg h] at e
  split at e
  · cases e
  · rename_i n
    exact ⟨e, fun z => n (by rw [e, z])⟩
theorem Lies.set (l : Lies K mg H0 H c σ ρ) (o : Ow K mg H0 H d m v fp) (nd : fp.Nodup) (nc : ∀ a ∈ fp, c a = none ∨ c a = some i) (n0 : ∀ a ∈ fp, H0 a = none) (th : ∀ a ∈ fp, ∃ o, H a = some o) :
    Lies K mg H0 H (coSet c i fp) (σ.set i (some v)) (ρ.set i (some (m, d))) := by
  refine ⟨l.sub, fun a j e => ?_, fun a j e => ?_, by rw [List.length_set, List.length_set]; exact l.len, fun j m' d' e => ?_⟩
  · by_cases h : a ∈ fp
    · exact n0 a h
    · exact l.apart a j (coSet_out h e).1
  · by_cases h : a ∈ fp
    · exact th a h
    · exact l.there a j (coSet_out h e).1
  · by_cases h : i = j
    · subst h
      by_cases hi : i < ρ.length
      · rw [getS_set_eq hi] at e
        cases e
        exact ⟨v, fp, List.getElem?_set_self (by rw [← l.len]; exact hi), o, nd, fun a ha => coSet_in ha⟩
      · have : getS (ρ.set i (some (m, d))) i = none := by
          simp [getS, List.getD_eq_getElem?_getD, hi]
        rw [this] at e; cases e
    · rw [getS_set_ne h] at e
      obtain ⟨w, g, e1, o', nd', hc⟩ := l.slot j m' d' e
      refine ⟨w, g, by rw [List.getElem?_set_ne h]; exact e1, o', nd', fun a ha => ?_⟩
      have e2 := hc a ha
      unfold coSet
      by_cases z : a ∈ fp
      · rcases nc a z with q | q
        · rw [e2] at q; cases q
        · rw [e2] at q; exact absurd (Option.some.inj q).symm h
      · rw [if_neg z, if_neg (by rw [e2]; exact fun q => h (Option.some.inj q).symm)]
        exact e2
end
theorem Agr.set {σ : L2.St} {i : Nat} {v : V} : Agr (msO i) σ (σ.set i (some v)) := ⟨by rw [List.length_set], fun j h => by
  have : i ≠ j := fun e => by rw [e] at h; simp at h
  exact List.getElem?_set_ne this⟩
/-- the owners behind a store -/
theorem Step.store {K : PySem.W.Frag} {mg : Str → Option Value} {H0 H H0' H' : Hp} {c c' : Co} {fp : List Addr} {i : Nat} (s : Step ms H0 H c H0' H' c') (f : Fresh ms H c H0' H' c' fp) (hi : ms i = true := by first | rfl | simp) : Step ms H0 H c H0' H' (coSet c' i fp) := by
  refine ⟨s.keep, fun a o e k => ?_, s.grow, s.new0, fun a j e => ?_⟩
  · have e2 := s.col a o e k
    have hn : a ∉ fp := fun z => by
      rcases f.new a z with w | ⟨j, w, q⟩
      · rw [e] at w; cases w
      · rw [k j w] at q; cases q
    unfold coSet
    rw [if_neg hn, e2]
    by_cases z : c a = some i
    · rw [k i z] at hi; cases hi
    · rw [if_neg z]
  · by_cases h : a ∈ fp
    · have ej : j = i := by rw [coSet_in h] at e; exact (Option.some.inj e).symm
      refine .inr ⟨by rw [ej]; exact hi, ?_⟩
      rcases f.new a h with w | ⟨j, w, q⟩
      · exact .inl w
      · exact .inr ⟨j, w, q⟩
    · exact s.newc a j (coSet_out h e).1
def Loc' (S : SC) (x : Str) : Prop := (S.sc.names.lookup x = some .local) ∨ (S.sc.names.lookup x = some .cell ∧ S.fn x = true)
theorem At.loc {X : Cx} {x : Str} (a : At S N X) (h : Loc' S x) : Loc X.env.scope x ∧ (X.fn x = true ∨ X.env.scope.names.lookup x = some .local) := by
  rw [a.sc, a.fn]
  rcases h with h | ⟨h, q⟩
  · exact ⟨.inl h, .inr h⟩
  · exact ⟨.inr h, .inl q⟩
/-- x = e, the slot's tree owned at mode m -/
def gSet (i : Nat) (m : Md) (f : M D) : M Fl := fun r => (f r).bind fun d r => .ok .nx (r.set i (some (m, d)))
theorem VS.set {i : Nat} {x : Str} {p : Pos} (h : VO G N S m ms e f) (hi : N[i]? = some x := by rfl) (hx : Loc' S x := by first | exact Or.inl rfl | exact Or.inr ⟨rfl, rfl⟩) (hs : ∀ env, swapsWith e (some (.Name x p)) pos.line env = pure false := by intro _; rfl) :
    VS G N S rm (msO i) (.Assign [.Name x p] e pos) (gSet i m f) := by
  refine fun R a W t => (ps_set (i := i) a.nd hi (a.loc hx).1 (h R a W t) (hs _) (a.loc hx).2).imp fun D σ H ⟨ρ, H0, c, l, o⟩ => ⟨ρ, H0, c, l, ?_⟩
  show Out _ _ _ _ _ _ _ _ _ _ fun x H1 => D.nx (σ.set i (some x)) H1
  unfold gSet at o
  cases e1 : f ρ with
  | ok d r =>
    rw [e1, bind_ok] at o
    refine fun v H0' H' c' s l' ⟨fp, ow, fr⟩ => ?_
    have s' := s.mono (ms' := msA) fun _ _ => rfl
    have fr' := fr.mono (ms2 := msA) fun _ _ => rfl
    exact o (σ.set i (some v)) H0' H' (coSet c' i fp) (Step.store (K := G.K) (mg := G.mg) s' fr') (l'.set ow fr.nd (fun a ha => .inl (fr.nc a ha)) fr.n0 fr.there) Agr.set
  | exc n ns vs r =>
    rw [e1] at o
    exact fun cls dx H0' H' c' s l' e => o cls dx σ H0' H' c' (s.mono fun _ _ => rfl) l' .refl e
  | bad => rw [e1] at o; exact o

/-! ### targets -/
/-- a target's reading: the value is frozen data -/
def tG (K : PySem.W.Frag) (mg : Str → Option Value) (as : Ms) (gt : D → M Fl) : TG := fun v σ H Q => ∃ (W : WX) (E : Ends), ∃ rm ρ H0 c d, Lies K mg H0 H c σ ρ ∧ Fz K mg H0 d v ∧ OutS K mg W rm as as H0 H c σ (gt d ρ) E ∧ ∀ σ' H', E.nx σ' H' → Q σ' H'
abbrev VG (G : GC) (N : List Str) (S : SC) (as : Ms) (tg : Expr) (gt : D → M Fl) : Prop := ∀ R, At S N (mkX G N R) → PG (mkX G N R) tg (tG G.K G.mg as gt)
def tGs (K : PySem.W.Frag) (mg : Str → Option Value) (as : Ms) (gt : List D → M Fl) : TGs := fun vs σ H Q => ∃ (W : WX) (E : Ends), ∃ rm ρ H0 c ds, Lies K mg H0 H c σ ρ ∧ Fzs K mg H0 ds vs ∧ OutS K mg W rm as as H0 H c σ (gt ds ρ) E ∧ ∀ σ' H', E.nx σ' H' → Q σ' H'
abbrev VGs (G : GC) (N : List Str) (S : SC) (as : Ms) (tg : List Expr) (gt : List D → M Fl) : Prop := ∀ R, At S N (mkX G N R) → PGs (mkX G N R) tg (tGs G.K G.mg as gt)
theorem PG.imp {X : Cx} {e : Expr} {t t' : TG} (h : PG X e t) (q : ∀ v σ H Q, t' v σ H Q → t v σ H Q) : PG X e t' := ⟨fun pins s σ H v u Q I r z => h.run pins s σ H v u Q I r (q v σ H Q z)⟩
theorem PGs.imp {X : Cx} {e : List Expr} {t t' : TGs} (h : PGs X e t) (q : ∀ v σ H Q, t' v σ H Q → t v σ H Q) : PGs X e t' := ⟨fun pins s σ H v u Q I r z => h.run pins s σ H v u Q I r (q v σ H Q z)⟩
def tName (i : Nat) : D → M Fl := fun d r => .ok .nx (r.set i (some (.z, d)))
theorem VG.name {i : Nat} {x : Str} (hi : N[i]? = some x := by rfl) (hx : Loc' S x := by first | exact Or.inl rfl | exact Or.inr ⟨rfl, rfl⟩) : VG G N S (msO i) (.Name x pos) (tName i) := by
  refine fun R a => PG.imp (pg_name (i := i) a.nd hi (a.loc hx).1 (a.loc hx).2) fun v σ H Q ⟨W, E, rm, ρ, H0, c, d, l, fz, o, q⟩ => ?_
  refine q _ _ ?_
  exact o (σ.set i (some v)) H0 H (coSet c i []) (Step.store (K := G.K) (mg := G.mg) .refl .nil) (l.set (Ow.zero.mpr ⟨rfl, fz⟩) List.nodup_nil (by simp) (by simp) (by simp)) Agr.set
def tNil : List D → M Fl := fun ds r => match ds with
  | [] => .ok .nx r
  | _ :: _ => .bad
def tCon (gt : D → M Fl) (gs : List D → M Fl) : List D → M Fl := fun ds => match ds with
  | d :: ds => gSeq (gt d) (gs ds)
  | [] => fun _ => .bad
theorem VGs.nil : VGs G N S ms0 [] tNil := by
  refine fun R a => PGs.imp pgs_nil fun v σ H Q ⟨W, E, rm, ρ, H0, c, ds, l, fz, o, q⟩ => ?_
  cases ds with
  | nil => exact ⟨fz, q _ _ (o σ H0 H c .refl l .refl)⟩
  | cons => exact o.elim
theorem VGs.cons {gt : D → M Fl} {gs : List D → M Fl} (h1 : VG G N S as1 e gt) (h2 : VGs G N S as2 es gs) (hs : ∀ env, (assignEach (e :: es) env).map (·.2) = assign e env :: (assignEach es env).map (·.2) := by intro _; rfl) :
    VGs G N S (msU as1 as2) (e :: es) (tCon gt gs) := by
  refine fun R a => PGs.imp (pgs_cons (h1 R a) (h2 R a) (hs _)) fun vs σ H Q ⟨W, E, rm, ρ, H0, c, ds, l, fz, o, q⟩ => ?_
  cases ds with
  | nil => exact o.elim
  | cons d ds =>
    obtain ⟨v, r, ev, fv, fr⟩ := fz
    refine ⟨v, r, ev, W, _, rm, ρ, H0, c, d, l, fv, OutS.mono (OutS.seq o) (fun i e => or_l e) fun i e => or_l e, fun σ' H' ⟨ρ1, H01, c1, l1, s1, a1, o1⟩ => ?_⟩
    exact ⟨W, E, rm, ρ1, H01, c1, ds, l1, Fzs.mono s1.grow ds r fr, o1.mono (fun i e => or_r e) fun i e => or_r e, q⟩
def tTupl (n : Nat) (gs : List D → M Fl) : D → M Fl := fun d => match d with
  | .tup ds => if ds.length = n then gs ds else fun _ => .bad
  | _ => fun _ => .bad
theorem VG.tup {n : Nat} {kk : Nat} {gs : List D → M Fl} (h : VGs G N S as es gs) (hc : S.cm = true := by rfl) (hn : ∀ env, (assignEach es env).length = n := by intro _; rfl) (hst : ∀ env, (assignEach es env).findIdx? (·.1) = none := by intro _; rfl) :
    VG G N S as (.Tuple es kk pos) (tTupl n gs) := by
  refine fun R a => PG.imp (pg_tup (n := n) (a.calm.trans hc) (h R a) (hn _) (hst _)) fun v σ H Q ⟨W, E, rm, ρ, H0, c, d, l, fz, o, q⟩ => ?_
  cases d with
  | tup ds =>
    obtain ⟨b, vs, e, k, g⟩ := fz
    by_cases hl : ds.length = n
    · have o' : OutS G.K G.mg W rm as as H0 H c σ ((if ds.length = n then gs ds else fun _ => .bad) ρ) E := o
      rw [if_pos hl] at o'
      exact ⟨b, vs, e, same_t l.sub k, g.length.trans hl, W, E, rm, ρ, H0, c, ds, l, g, o', q⟩
    · have o' : OutS G.K G.mg W rm as as H0 H c σ ((if ds.length = n then gs ds else fun _ => .bad) ρ) E := o
      rw [if_neg hl] at o'
      exact o'.elim
  | _ => exact o.elim
/-- targets = e, e frozen data -/
def gAsg (gt : D → M Fl) (f : M D) : M Fl := fun r => (f r).bind gt
theorem VS.asg {tg : Expr} {gt : D → M Fl} (h : VO G N S .z ms e f) (hg : VG G N S as tg gt) (hs : ∀ env, swapsWithSole [tg] e pos.line env = pure false := by intro _; rfl) (hw : ∀ env, swappedStores [tg] e env = pure none := by intro _; rfl)
    (h1 : ∀ env, (assignEach [tg] env).map (·.2) = [assign tg env] := by intro _; rfl) : VS G N S rm as (.Assign [tg] e pos) (gAsg gt f) := by
  refine fun R a W t => (ps_asg (h R a W t) (hg R a) (hs _) (hw _) (h1 _)).imp fun D σ H ⟨ρ, H0, c, l, o⟩ => ?_
  refine ⟨ρ, H0, c, l, (OutS.expr (F := FO G.K G.mg .z ms) o).imp fun x H1 ⟨d, H01, c1, ρ1, e1, s1, l1, ⟨fp, o1, f1⟩, h1⟩ => ?_⟩
  exact ⟨W, D, rm, ρ1, H01, c1, d, l1, (Ow.zero.mp o1).2, h1.mono (fun _ h => h) fun _ _ => rfl, fun _ _ h => h⟩

/-! ### what is walked -/
/-- how large a list may be -/
abbrev LIM : Nat := 16777216
/-- it yields the data ds, one after another, while the frozen heap only grows and P stays -/
def ItOk (K : PySem.W.Frag) (mg : Str → Option Value) (J : It) (H0 : Hp) (ds : List D) (P : Hp → Co → Prop) : Prop := ∀ H0' H c, Same H0 H0' → Same H0' H → P H c →
  (∀ i d, ds[i]? = some d → J.go i H ∧ ∀ x H', J.yld i H x H' → ∃ H0'', Same H H' ∧ Same H0' H0'' ∧ Same H0'' H' ∧ (∀ a o, H0'' a = some o → (∃ u, H0' a = some u) ∨ H a = none) ∧ Fz K mg H0'' d x) ∧ J.stop ds.length H
/-- it stays through steps that leave the slots bs alone, and where an object of no slot is changed -/
structure Stays (bs : Ms) (P : Hp → Co → Prop) : Prop where
  run : ∀ (ms : Ms) (H0 H : Hp) (c : Co) (H0' H' : Hp) (c' : Co), (∀ i, bs i = true → ms i = false) → P H c → Step ms H0 H c H0' H' c' → P H' c'
  oth : ∀ (H : Hp) (c : Co) (a : Addr) (o : HO), c a = none → P H c → P (upd H a o) c
def FI (K : PySem.W.Frag) (mg : Str → Option Value) (bs : Ms) : Fam (List D) It := fun _ _ ds H0' H' c' J => ds.length ≤ LIM ∧ ∃ P, P H' c' ∧ Stays bs P ∧ ItOk K mg J H0' ds P
theorem back_FI {K : PySem.W.Frag} {mg : Str → Option Value} : Back ms (FI K mg bs) := fun _ _ _ _ _ _ _ _ _ _ _ _ h => h
abbrev VI (G : GC) (N : List Str) (S : SC) (bs ms : Ms) (tg e : Expr) (f : M (List D)) : Prop := VE G N S (fun X t => PI X tg e t) (FI G.K G.mg bs) ms f
theorem PI.imp {X : Cx} {tg e : Expr} {t t' : TI} (h : PI X tg e t) (q : ∀ σ H Q, t' σ H Q → t σ H Q) : PI X tg e t' := ⟨fun pins s σ H Q I z => h.run pins s σ H Q I (q σ H Q z)⟩
/-- what stands in the heap is not too large -/
theorem pe_small {X : Cx} {e : Expr} {t : TE} (h : PE X e t) : PE X e fun σ H Q => t σ H fun v H' => (∀ a xs, v = .ref a → (SqL X.K H' a xs ∨ SqT X.K H' a xs) → xs.length ≤ LIM) → Q v H' := by
  refine ⟨fun pins s σ H Q I w => ?_⟩
  refine thn (h.run pins s σ H _ I w) fun u s1 ⟨v, H1, I1, r1, q⟩ => ⟨v, H1, I1, r1, q fun a xs e k => ?_⟩
  rcases k with k | k
  · obtain ⟨_, _, _, z⟩ := I1.list k
    rw [sizeLine_eq] at z; exact z
  · obtain ⟨_, _, _, z⟩ := I1.tuple k
    rw [sizeLine_eq] at z; exact z
theorem ItOk.list {K : PySem.W.Frag} {mg : Str → Option Value} {H0 : Hp} {a : Addr} {ds : List D} {vs : List V} {P : Hp → Co → Prop} (h : ∀ H0' H c, Same H0 H0' → Same H0' H → P H c → SqL K H a vs) (f : Fzs K mg H0 ds vs) : ItOk K mg (Itl K a) H0 ds P := fun H0' H c s1 s2 p => by
  have hq : SqL K H a vs := h H0' H c s1 s2 p
  refine ⟨fun i d e => ?_, ⟨vs, hq, by rw [f.length]; exact Nat.le_refl _⟩⟩
  obtain ⟨v, e1, e2⟩ := f.get e
  refine ⟨⟨vs, v, hq, e1⟩, fun x H' ⟨e3, e4⟩ => ?_⟩
  subst e3
  have e5 := e4 vs hq
  rw [e1] at e5
  cases e5
  exact ⟨H0', Same.refl _, Same.refl _, s2, fun a o q => .inl ⟨o, q⟩, Fz.mono s1 d v e2⟩
theorem ItOk.tup {K : PySem.W.Frag} {mg : Str → Option Value} {H0 : Hp} {a : Addr} {ds : List D} {vs : List V} {P : Hp → Co → Prop} (h : ∀ H0' H c, Same H0 H0' → Same H0' H → P H c → SqT K H a vs) (f : Fzs K mg H0 ds vs) : ItOk K mg (Itt K a) H0 ds P := fun H0' H c s1 s2 p => by
  have hq : SqT K H a vs := h H0' H c s1 s2 p
  refine ⟨fun i d e => ?_, ⟨vs, hq, by rw [f.length]; exact Nat.le_refl _⟩⟩
  obtain ⟨v, e1, e2⟩ := f.get e
  refine ⟨⟨vs, v, hq, e1⟩, fun x H' ⟨e3, e4⟩ => ?_⟩
  subst e3
  have e5 := e4 vs hq
  rw [e1] at e5
  cases e5
  exact ⟨H0', Same.refl _, Same.refl _, s2, fun a o q => .inl ⟨o, q⟩, Fz.mono s1 d v e2⟩
theorem Stays.tt : Stays bs (fun _ _ => True) := ⟨fun _ _ _ _ _ _ _ _ _ _ => trivial, fun _ _ _ _ _ _ => trivial⟩
theorem Stays.own {a : Addr} {o : HO} {i : Nat} (hi : bs i = true) : Stays bs (fun H c => H a = some o ∧ c a = some i) := ⟨fun ms H0 H c H0' H' c' dj ⟨h1, h2⟩ s =>
  ⟨s.keep a o h1 fun j e => by rw [h2] at e; cases e; exact dj i hi, (s.col a o h1 fun j e => by rw [h2] at e; cases e; exact dj i hi).trans h2⟩,
  fun H c b u h ⟨h1, h2⟩ => ⟨by rw [upd_ne fun e => by rw [e, h] at h2; cases h2]; exact h1, h2⟩⟩
/-- over a list, the script -/
def iLst (f : M D) : M (List D) := fun r => (f r).bind fun d r => match d with
  | .lst ds => .ok ds r
  | .scr ns => .ok (ns.map .int) r
  | _ => .bad
theorem FI.lst {K : PySem.W.Frag} {mg : Str → Option Value} {H0 H Hh : Hp} {c cc : Co} {d : D} {ds : List D} {v : V} (s : Same H0 H) (b : Bw K mg bs H0 H c d v) (hd : (∃ ds', d = .lst ds' ∧ ds = ds') ∨ ∃ ns, d = .scr ns ∧ ds = ns.map .int) (hs : ∀ a xs, v = .ref a → (SqL K H a xs ∨ SqT K H a xs) → xs.length ≤ LIM) :
    ∃ a, v = .ref a ∧ (∃ vs, SqL K H a vs) ∧ FI K mg bs Hh cc ds H0 H c (Itl K a) := by
  rcases hd with ⟨ds', rfl, rfl⟩ | ⟨ns, rfl, rfl⟩
  · rcases b with ⟨a, vs, e, k, g⟩ | ⟨fp, i, hi, hl, ⟨a, vs, g, e, k, ef, r⟩, hc⟩
    · have q : SqL K H a vs := .of (s _ _ k)
      refine ⟨a, e, ⟨vs, q⟩, by rw [← g.length]; exact hs a vs e (.inl q), fun _ _ => True, trivial, .tt, ItOk.list (fun H0' H c s1 s2 _ => .of (s2 _ _ (s1 _ _ k))) g⟩
    · have q : SqL K H a vs := .of k
      have gz := (Ows.all_z.mp r).2
      refine ⟨a, e, ⟨vs, q⟩, by rw [← gz.length]; exact hs a vs e (.inl q), fun H c => H a = some (.lst vs) ∧ c a = some i, ⟨k, hc a (by rw [ef]; exact List.mem_cons_self)⟩, .own hi, ItOk.list (fun H0' H c s1 s2 p => .of p.1) gz⟩
  · have z : Fz K mg H0 (.scr ns) v := by
      rcases b with z | ⟨fp, i, hi, hl, _⟩
      · exact z
      · cases hl
    obtain ⟨a, e, k⟩ := z
    exact ⟨a, e, ⟨_, s.seq k⟩, by rw [List.length_map, ← List.length_map (f := V.int)]; exact hs a _ e (.inl (s.seq k)), fun _ _ => True, trivial, .tt, ItOk.list (fun H0' H c s1 s2 _ => s2.seq (s1.seq k)) (fzs_ints _)⟩
theorem VI.lst {tg : Expr} (h : VB G N S bs ms e f) : VI G N S bs ms tg e (iLst f) := by
  refine fun R a W t => PI.imp (pi_list (pe_small (h R a W t))) fun σ H Q ⟨ρ, H0, c, l, o⟩ => ?_
  refine ⟨ρ, H0, c, l, (Out.bind (G := FB G.K G.mg bs) (ms1 := ms) back_FI o fun i e => e).imp fun x H1 ⟨d, H01, c1, ρ1, e1, s1, l1, b1, h1⟩ hs => ?_⟩
  cases d with
  | lst ds =>
    obtain ⟨b, e, q, fi⟩ := FI.lst (Hh := H1) (cc := c1) l1.sub b1 (.inl ⟨ds, rfl, rfl⟩) hs
    exact ⟨b, e, q, h1 _ H01 H1 c1 .refl l1 fi⟩
  | scr ns =>
    obtain ⟨b, e, q, fi⟩ := FI.lst (Hh := H1) (cc := c1) l1.sub b1 (.inr ⟨ns, rfl, rfl⟩) hs
    exact ⟨b, e, q, h1 _ H01 H1 c1 .refl l1 fi⟩
  | _ => exact h1.elim
/-- over a tuple -/
def iTup (f : M D) : M (List D) := fun r => (f r).bind fun d r => match d with
  | .tup ds => .ok ds r
  | _ => .bad
theorem VI.tup {tg : Expr} (h : VO G N S .z ms e f) : VI G N S ms0 ms tg e (iTup f) := by
  refine fun R a W t => PI.imp (pi_tup (pe_small (h R a W t))) fun σ H Q ⟨ρ, H0, c, l, o⟩ => ?_
  refine ⟨ρ, H0, c, l, (Out.bind (G := FO G.K G.mg .z ms) (ms1 := ms) back_FI o fun i e => e).imp fun x H1 ⟨d, H01, c1, ρ1, e1, s1, l1, ⟨fp, o1, f1⟩, h1⟩ hs => ?_⟩
  have z := (Ow.zero.mp o1).2
  cases d with
  | tup ds =>
    obtain ⟨b, vs, e, k, g⟩ := z
    exact ⟨b, e, ⟨vs, same_t l1.sub k⟩, h1 _ H01 H1 c1 .refl l1 ⟨by rw [← g.length]; exact hs b vs e (.inr (same_t l1.sub k)), fun _ _ => True, trivial, .tt, ItOk.tup (fun H0' H c s1 s2 _ => same_t s2 (same_t s1 k)) g⟩⟩
  | _ => exact h1.elim
/-- for -/
def lpK (k : M Fl) : Fl → M Fl := fun fl r => match fl with
  | .nx => k r
  | .ct => k r
  | .bk => .ok .nx r
  | .rt d => .ok (.rt d) r
def gLoop (gt : D → M Fl) (gb : M Fl) : List D → M Fl
  | [] => gNx
  | d :: ds => fun r => (gt d r).bind fun _ r => (gb r).bind (lpK (gLoop gt gb ds))
def gFor (fi : M (List D)) (gt : D → M Fl) (gb : M Fl) : M Fl := fun r => (fi r).bind (gLoop gt gb)
theorem VS.for_ {tg it : Expr} {body : List Stmt} {fi : M (List D)} {gt : D → M Fl} {gb : M Fl} (hi : VI G N S ms0 ms tg it fi) (hg : VG G N S as1 tg gt) (hb : VSs G N S rm as2 body gb) (hc : S.cm = true := by rfl) (hs : ∀ env x, foldedSetIterable it env x = pure x := by intro _ _; rfl) :
    VS G N S rm (msU as1 as2) (.For tg it body [] pos) (gFor fi gt gb) := by
  refine fun R a W t => (ps_for a.po (a.calm.trans hc) (hi R a W t) (hg R a) (hb R a W t) (hs _)).imp fun D σ H ⟨ρ, H0, c, l, o⟩ => ?_
  refine ⟨ρ, H0, c, l, (OutS.expr (F := FI G.K G.mg ms0) o).imp fun J H1 ⟨ds, H01, c1, ρ1, e1, s1, l1, ⟨_, P, p1, sP, hJ⟩, o1⟩ => ?_⟩
  refine ⟨fun i m σ H => m = ds.length - i ∧ i ≤ ds.length ∧ ∃ ρ H0 c, Lies G.K G.mg H0 H c σ ρ ∧ (Same H01 H0 ∧ P H c) ∧ OutS G.K G.mg W rm msA (msU as1 as2) H0 H c σ (gLoop gt gb (ds.drop i) ρ) D,
    ⟨ds.length, rfl, Nat.zero_le _, ρ1, H01, c1, l1, ⟨Same.refl _, p1⟩, o1⟩, fun i m σ H ⟨em, hi, ρ, H0, c, l, ⟨s, pH⟩, o⟩ => ?_⟩
  obtain ⟨hgo, hst⟩ := hJ H0 H c s l.sub pH
  by_cases hlt : i < ds.length
  · have ed : ds.drop i = ds[i] :: ds.drop (i + 1) := List.drop_eq_getElem_cons hlt
    rw [ed] at o
    obtain ⟨go, step⟩ := hgo i ds[i] (List.getElem?_eq_getElem hlt)
    refine .inr ⟨go, fun σ' H' => ∃ ρ H0 c, Lies G.K G.mg H0 H' c σ' ρ ∧ (Same H01 H0 ∧ P H' c) ∧ OutS G.K G.mg W rm msA (msU as1 as2) H0 H' c σ' (gLoop gt gb (ds.drop (i + 1)) ρ) D, fun σ' H' ⟨ρ, H0, c, l, s, o⟩ => ⟨ds.length - (i + 1), by omega, rfl, hlt, ρ, H0, c, l, s, o⟩, fun x H' hy => ?_⟩
    obtain ⟨H0', k1, k2, k3, k4, fz⟩ := step x H' hy
    have l' := l.grow k1 k2 k3 k4
    have gr : Step msA H0 H c H0' H' c := Step.growth k1 k2 k4
    have pH' : P H' c := sP.run msA _ _ _ _ _ _ (fun _ z => by cases z) pH gr
    have o' := o.on gr Agr.refl
    -- the target, then the body
    have e2 : OutS G.K G.mg W rm as1 as1 H0' H' c σ (gt ds[i] ρ) { D with nx := fun σ2 H2 => ∃ ρ2 H02 c2, Lies G.K G.mg H02 H2 c2 σ2 ρ2 ∧ (Same H01 H02 ∧ P H2 c2) ∧ OutS G.K G.mg W rm msA (msU as1 as2) H02 H2 c2 σ2 ((gb ρ2).bind (lpK (gLoop gt gb (ds.drop (i + 1))))) D, bk := fun _ _ => True, ct := fun _ _ => True, rt := fun _ _ => True } := by
      have o2 : OutS G.K G.mg W rm msA (msU as1 as2) H0' H' c σ ((gt ds[i] ρ).bind fun _ r => (gb r).bind (lpK (gLoop gt gb (ds.drop (i + 1))))) D := o'
      cases hh : gt ds[i] ρ with
      | ok fl r =>
        rw [hh, bind_ok] at o2
        cases fl with
        | nx => exact fun σ2 H02 H2 c2 t l2 a2 => ⟨r, H02, c2, l2, ⟨s.trans (k2.trans t.grow), sP.run msA _ _ _ _ _ _ (fun _ z => by cases z) pH' (t.mono fun _ _ => rfl)⟩, o2.on (t.mono fun _ _ => rfl) (a2.mono fun i e => or_l e)⟩
        | bk => exact fun _ _ _ _ _ _ _ => trivial
        | ct => exact fun _ _ _ _ _ _ _ => trivial
        | rt d => exact fun _ _ _ _ _ _ _ _ _ => trivial
      | exc n ns vs r =>
        rw [hh, bind_exc] at o2
        exact fun cls dx σ2 H02 H2 c2 t l2 a2 e => o2 cls dx σ2 H02 H2 c2 (t.mono fun _ _ => rfl) l2 (a2.mono fun i e => or_l e) e
      | bad => rw [hh, bind_bad] at o2; exact o2.elim
    refine ⟨W, _, rm, ρ, H0', c, ds[i], l', fz, e2, fun σ2 H2 ⟨ρ2, H02, c2, l2, ⟨s2, pH2⟩, o2⟩ => ?_⟩
    refine ⟨ρ2, H02, c2, l2, ?_⟩
    cases hh : gb ρ2 with
    | ok fl r =>
      rw [hh, bind_ok] at o2
      cases fl with
      | nx => exact fun σ3 H03 H3 c3 t l3 a3 => ⟨r, H03, c3, l3, ⟨s2.trans t.grow, sP.run msA _ _ _ _ _ _ (fun _ z => by cases z) pH2 t⟩, o2.on t (a3.mono fun i e => or_r e)⟩
      | ct => exact fun σ3 H03 H3 c3 t l3 a3 => ⟨r, H03, c3, l3, ⟨s2.trans t.grow, sP.run msA _ _ _ _ _ _ (fun _ z => by cases z) pH2 t⟩, o2.on t (a3.mono fun i e => or_r e)⟩
      | bk => exact fun σ3 H03 H3 c3 t l3 a3 => o2 σ3 H03 H3 c3 t l3 (a3.mono fun i e => or_r e)
      | rt d => exact fun v σ3 H03 H3 c3 t l3 a3 f => o2 v σ3 H03 H3 c3 t l3 (a3.mono fun i e => or_r e) f
    | exc n ns vs r =>
      rw [hh, bind_exc] at o2
      exact fun cls dx σ3 H03 H3 c3 t l3 a3 e => o2 cls dx σ3 H03 H3 c3 t l3 (a3.mono fun i e => or_r e) e
    | bad => rw [hh, bind_bad] at o2; exact o2.elim
  · have e : i = ds.length := by omega
    subst e
    rw [List.drop_length] at o
    exact .inl ⟨hst, o σ H0 H c .refl l .refl⟩
/-- while, with so many turns at most -/
def gWhile (ft : M D) (gb : M Fl) : Nat → M Fl
  | 0 => fun _ => .bad
  | n + 1 => fun r => (ft r).bind fun d r => match d with
    | .bl true => (gb r).bind (lpK (gWhile ft gb n))
    | .bl false => .ok .nx r
    | _ => .bad
theorem VS.while_ {t : Expr} {body : List Stmt} {ft : M D} {gb : M Fl} (n : Nat) (ht : VT G N S ms t ft) (hb : VSs G N S rm as body gb) : VS G N S rm as (.While t body [] pos) (gWhile ft gb n) := by
  refine fun R a W tk => (ps_while a.po (ht R a W tk) (hb R a W tk)).imp fun D σ H ⟨ρ, H0, c, l, o⟩ => ?_
  refine ⟨fun m σ H => ∃ ρ H0 c, Lies G.K G.mg H0 H c σ ρ ∧ OutS G.K G.mg W rm msA as H0 H c σ (gWhile ft gb m ρ) D, ⟨n, ρ, H0, c, l, o⟩, fun m σ H ⟨ρ, H0, c, l, o⟩ => ?_⟩
  cases m with
  | zero => exact o.elim
  | succ m =>
    refine ⟨ρ, H0, c, l, (OutS.expr (F := FT) o).imp fun x H1 ⟨d, H01, c1, ρ1, e1, s1, l1, z, o1⟩ => ?_⟩
    have z : d = .bl x := z
    subst z
    cases x with
    | false => rw [if_neg Bool.false_ne_true]; exact o1 σ H01 H1 c1 .refl l1 .refl
    | true =>
      rw [if_pos rfl]
      refine ⟨fun σ' H' => ∃ ρ H0 c, Lies G.K G.mg H0 H' c σ' ρ ∧ OutS G.K G.mg W rm msA as H0 H' c σ' (gWhile ft gb m ρ) D, fun σ' H' h => ⟨m, Nat.lt_succ_self _, h⟩, ρ1, H01, c1, l1, ?_⟩
      have o2 : OutS G.K G.mg W rm msA as H01 H1 c1 σ ((gb ρ1).bind (lpK (gWhile ft gb m))) D := o1
      cases hh : gb ρ1 with
      | ok fl r =>
        rw [hh, bind_ok] at o2
        cases fl with
        | nx => exact fun σ3 H03 H3 c3 t l3 a3 => ⟨r, H03, c3, l3, o2.on t a3⟩
        | ct => exact fun σ3 H03 H3 c3 t l3 a3 => ⟨r, H03, c3, l3, o2.on t a3⟩
        | bk => exact fun σ3 H03 H3 c3 t l3 a3 => o2 σ3 H03 H3 c3 t l3 a3
        | rt d => exact fun v σ3 H03 H3 c3 t l3 a3 f => o2 v σ3 H03 H3 c3 t l3 a3 f
      | exc n ns vs r =>
        rw [hh, bind_exc] at o2
        exact fun cls dx σ3 H03 H3 c3 t l3 a3 e => o2 cls dx σ3 H03 H3 c3 t l3 a3 e
      | bad => rw [hh, bind_bad] at o2; exact o2.elim
end
end Vm
set_option Elab.async false
set_option linter.all false
set_option maxRecDepth 100000
set_option maxHeartbeats 4000000
namespace Vm
open PySem PySem.Spec PyProof.Rows L2

/-! ### a def by its data -/
/-- what a def leaves in the slots that were lent to it -/
def ioEnd : List Bool → Nat → En → En
  | [], _, _ => []
  | b :: bs, i, r => (if b = true then getS r i else none) :: ioEnd bs (i + 1) r
theorem ioEnd_len : ∀ (io : List Bool) (i : Nat) (r : En), (ioEnd io i r).length = io.length
  | [], _, _ => rfl
  | b :: bs, i, r => by simp [ioEnd, ioEnd_len bs (i + 1) r]
theorem ioEnd_get : ∀ (io : List Bool) (i : Nat) (r : En) (j : Nat) (s : Md × D), getS (ioEnd io i r) j = some s → io.getD j false = true ∧ getS r (i + j) = some s
  | [], _, _, j, s, h => by simp [ioEnd, getS] at h
  | b :: bs, i, r, 0, s, h => by
    cases b with
    | true => exact ⟨rfl, by simpa [ioEnd, getS] using h⟩
    | false => simp [ioEnd, getS] at h
  | b :: bs, i, r, j + 1, s, h => by
    have h' : getS (ioEnd bs (i + 1) r) j = some s := by simpa [ioEnd, getS] using h
    obtain ⟨h1, h2⟩ := ioEnd_get bs (i + 1) r j s h'
    exact ⟨by simpa using h1, by rw [show i + (j + 1) = i + 1 + j by omega]; exact h2⟩
def fnRun (io : List Bool) (n : Nat) (g : M Fl) : M D := fun r => match g (r ++ List.replicate n none) with
  | .ok (.rt d) r => .ok d (ioEnd io 0 r)
  | .ok .nx r => .ok .non (ioEnd io 0 r)
  | .ok _ _ => .bad
  | .exc c ns vs r => .exc c ns vs (ioEnd io 0 r)
  | .bad => .bad
def spV (G : GC) (F : M D) (p : Nat) (rm : Md) : Sp := fun vs H Q E => vs.length = p ∧ tR G.K G.mg (fun cls dx _ H => E cls dx H) (FO G.K G.mg rm msA) msA F (vs.map some) H Q
/-- a def of the text that does F -/
abbrev FnV (G : GC) (k : Nat) (f : Addr) (fd : FuncData) (ps : List Str) (rm : Md) (F : M D) : Prop := FnOk G.P G.w G.K G.mg G.base (L2.CX G.P G.w) k f fd ps (spV G F ps.length rm)
theorem FnV.mk {G : GC} {k : Nat} {f : Addr} {fd : FuncData} {N ps : List Str} {rm : Md} {g : M Fl} {x qual : Str} {params : Arguments} {body : List Stmt} {scope : Scope} {dvs : List V} {kws : List (Str × V)} {as : Ms} (F : FunD G.K x qual params body scope dvs kws f fd) (Sc : FnScope N ps scope) (io : List Bool) (n : Nat)
    (hb : VSs G N ⟨scope, fun _ => true, k, true⟩ rm as body g) (hio : io.length = ps.length := by rfl) (hn : N.length = ps.length + n := by rfl) (has : ∀ i, io.getD i false = true → as i = false := by intro i h; rcases i with _ | _ | _ | _ | _ | _ | i <;> first | rfl | (cases h)) :
    FnV G (k + 1) f fd ps rm (fnRun io n g) := by
  refine F.ok Sc (fun vs H Q E h => h.1) (fun cdv A outer s H vs Q E hr ⟨hl, ρ, H0, c, l, o⟩ => ?_)
  have hlen : ρ.length = vs.length := by rw [l.len, List.length_map]
  refine ⟨tS G.K G.mg (fun cls d _ H => E cls d H) rm as g, hb ⟨A.deeper (envOfC qual scope s.heap.objs.size f cdv), s, H, envOfC qual scope s.heap.objs.size f cdv, outer, envOfC qual scope s.heap.objs.size f cdv :: outer, [], fun _ => true, true, [],
    fun e s' => wpAny (model G.P G.w) (A.deeper (envOfC qual scope s.heap.objs.size f cdv)) (leaving (envOfC qual scope s.heap.objs.size f cdv) e) (fun _ s'' => L2.CX G.P G.w outer H s E e s'') (fun e' s'' => L2.CX G.P G.w outer H s E e' s'') s'⟩
    ⟨rfl, rfl, Sc.nd, rfl, fun _ => hr, PassesOwn.leaving⟩ _ (takes_of rfl rfl rfl rfl), ρ ++ List.replicate n none, H0, c, ?_, ?_⟩
  · refine ⟨l.sub, l.apart, l.there, ?_, fun i m d e => ?_⟩
    · unfold L2.start
      simp only [List.length_append, List.length_map, List.length_replicate]
      omega
    · have hi : i < ρ.length := by
        rcases Nat.lt_or_ge i ρ.length with h | h
        · exact h
        · exfalso
          have z : getS (ρ ++ List.replicate n none) i = none := by
            simp only [getS, List.getD_eq_getElem?_getD]
            rw [List.getElem?_append_right h, List.getElem?_replicate]
            split <;> rfl
          rw [z] at e; cases e
      have e' : getS ρ i = some (m, d) := by
        simp only [getS, List.getD_eq_getElem?_getD] at e ⊢
        rw [List.getElem?_append_left hi] at e
        exact e
      obtain ⟨v, fp, e1, ow, nd, hc⟩ := l.slot i m d e'
      refine ⟨v, fp, ?_, ow, nd, hc⟩
      unfold L2.start
      rw [List.getElem?_append_left (by rw [List.length_map]; omega)]
      exact e1
  · have back : ∀ {r : En} {σ' : L2.St} {H0' H' : Hp} {c' : Co}, Lies G.K G.mg H0' H' c' σ' r → Agr as (L2.start N vs) σ' → Lies G.K G.mg H0' H' c' (vs.map some) (ioEnd io 0 r) := fun {r σ' H0' H' c'} l' a' => by
      refine ⟨l'.sub, l'.apart, l'.there, by rw [ioEnd_len, hio, List.length_map, hl], fun i m d e => ?_⟩
      obtain ⟨q1, q2⟩ := ioEnd_get io 0 r i (m, d) e
      rw [Nat.zero_add] at q2
      obtain ⟨v, fp, e1, ow, nd, hc⟩ := l'.slot i m d q2
      have hi : i < io.length := by
        rcases Nat.lt_or_ge i io.length with h | h
        · exact h
        · rw [List.getD_eq_getElem?_getD, List.getElem?_eq_none h] at q1; cases q1
      rw [a'.2 i (has i q1)] at e1
      refine ⟨v, fp, ?_, ow, nd, hc⟩
      unfold L2.start at e1
      rw [List.getElem?_append_left (by rw [List.length_map]; omega)] at e1
      exact e1
    unfold fnRun at o
    cases hg : g (ρ ++ List.replicate n none) with
    | ok fl r =>
      rw [hg] at o
      cases fl with
      | nx => exact fun σ' H0' H' c' t l' a' => o .non H0' H' c' t (back l' a') ⟨[], ow_of_atom rfl rfl, .nil⟩
      | bk => exact o.elim
      | ct => exact o.elim
      | rt d => exact fun v σ' H0' H' c' t l' a' f => o v H0' H' c' t (back l' a') f
    | exc nn ns es r =>
      rw [hg] at o
      exact fun cls dx σ' H0' H' c' t l' a' e => o cls dx H0' H' c' t (back l' a') e
    | bad => rw [hg] at o; exact o

/-! ### calls -/
/-- arguments: frozen data, or a slot lent -/
def AMr (K : PySem.W.Frag) (mg : Str → Option Value) (H0 : Hp) (σ : L2.St) : List (Option Nat) → List D → List V → Prop
  | [], ds, vs => ds = [] ∧ vs = []
  | none :: ls, ds, vs => ∃ d r v w, ds = d :: r ∧ vs = v :: w ∧ Fz K mg H0 d v ∧ AMr K mg H0 σ ls r w
  | some i :: ls, ds, vs => ∃ v w, vs = v :: w ∧ σ[i]? = some (some v) ∧ AMr K mg H0 σ ls ds w
def FAM (K : PySem.W.Frag) (mg : Str → Option Value) (σ : L2.St) (ls : List (Option Nat)) : Fam (List D) (List V) := fun _ _ ds H0' _ _ vs => AMr K mg H0' σ ls ds vs
def tAM (K : PySem.W.Frag) (mg : Str → Option Value) (W : WX) (ls : List (Option Nat)) (ms : Ms) (f : M (List D)) : TA := fun σ H Q => ∃ ρ H0 c, Lies K mg H0 H c σ ρ ∧ Out K mg W (FAM K mg σ ls) ms H0 H c σ (f ρ) Q
abbrev VM (G : GC) (N : List Str) (S : SC) (ls : List (Option Nat)) (ms : Ms) (es : List Expr) (f : M (List D)) : Prop := ∀ R, At S N (mkX G N R) → ∀ W, Takes (mkX G N R) W → PA (mkX G N R) es (tAM G.K G.mg W ls ms f)
theorem back_FAM {K : PySem.W.Frag} {mg : Str → Option Value} {σ : L2.St} {ls : List (Option Nat)} {ms : Ms} : Back ms (FAM K mg σ ls) := fun _ _ _ _ _ _ _ _ _ _ _ _ h => h
theorem AMr.mono {K : PySem.W.Frag} {mg : Str → Option Value} {H0 H0' : Hp} {σ : L2.St} (s : Same H0 H0') : ∀ {ls : List (Option Nat)} {ds : List D} {vs : List V}, AMr K mg H0 σ ls ds vs → AMr K mg H0' σ ls ds vs
  | [], _, _, h => h
  | none :: ls, _, _, ⟨d, r, v, w, e1, e2, f, h⟩ => ⟨d, r, v, w, e1, e2, Fz.mono s d v f, AMr.mono s h⟩
  | some i :: ls, _, _, ⟨v, w, e1, e2, h⟩ => ⟨v, w, e1, e2, AMr.mono s h⟩
/-- the callee's slots -/
def mkArgs : List (Option Nat) → List D → En → En
  | [], _, _ => []
  | none :: ls, [], r => none :: mkArgs ls [] r
  | none :: ls, d :: ds, r => some (.z, d) :: mkArgs ls ds r
  | some i :: ls, ds, r => getS r i :: mkArgs ls ds r
def putBack : List (Option Nat) → En → En → En
  | [], _, r => r
  | none :: ls, rp, r => putBack ls rp.tail r
  | some i :: ls, rp, r => putBack ls rp.tail (r.set i (getS rp 0))
def fCall (F : M D) (ls : List (Option Nat)) (f : M (List D)) : M D := fun r => (f r).bind fun ds r => match F (mkArgs ls ds r) with
  | .ok d rp => .ok d (putBack ls rp r)
  | .exc n ns vs rp => .exc n ns vs (putBack ls rp r)
  | .bad => .bad
section
variable {G : GC} {N : List Str} {S : SC} {bs bs1 bs2 ms ms1 ms2 ms3 as as1 as2 : Ms} {m rm : Md} {k : Kd} {e a b : Expr} {es : List Expr} {f fa fb : M D} {fs : M (List D)} {pos : Pos} {ls : List (Option Nat)}
theorem VM.nil : VM G N S [] ms0 [] fNil := fun R a W t => pa_nil.imp fun σ H Q ⟨ρ, H0, c, l, o⟩ => o [] H0 H c .refl l ⟨rfl, rfl⟩
theorem VM.frz (he : VO G N S .z ms1 e f) (hr : VM G N S ls ms2 es fs) (hs : ∀ env, starEach (e :: es) env = (false, eval e env) :: starEach es env := by intro _; rfl) : VM G N S (none :: ls) (msU ms1 ms2) (e :: es) (fCons f fs) := by
  refine fun R a W t => (pa_cons (he R a W t) (hr R a W t) (hs _)).imp fun σ H Q ⟨ρ, H0, c, l, h⟩ => ?_
  refine ⟨ρ, H0, c, l, (Out.bind (G := FO G.K G.mg .z ms1) (ms1 := ms1) back_FAM h fun i e => or_l e).imp fun x H1 ⟨d1, H01, c1, ρ1, e1, s1, l1, ⟨fp, b1, _⟩, h1⟩ => ?_⟩
  refine ⟨ρ1, H01, c1, l1, (Out.bind (G := FAM G.K G.mg σ ls) (ms1 := ms2) back_FAM h1 fun i e => or_r e).imp fun y H2 ⟨d2, H02, c2, ρ2, e2, s2, l2, b2, h2⟩ => ?_⟩
  exact h2 (x :: y) H02 H2 c2 .refl l2 ⟨d1, d2, x, y, rfl, rfl, Fz.mono s2.grow d1 x (Ow.zero.mp b1).2, b2⟩
theorem VM.lent {i : Nat} {x : Str} {p : Pos} (hr : VM G N S ls ms2 es fs) (hN : N[i]? = some x := by rfl) (hv : Vis S.sc x := by first | exact Or.inl rfl | exact Or.inr (Or.inl rfl) | exact Or.inr (Or.inr rfl))
    (hs : ∀ env, starEach (.Name x p :: es) env = (false, eval (.Name x p) env) :: starEach es env := by intro _; rfl) (hd : (x == ("__debug__" : Str)) = false := by decide) (hcd : (x == ("__classdict__" : Str)) = false := by decide) :
    VM G N S (some i :: ls) ms2 (.Name x p :: es) (fun r => match getS r i with | some _ => fs r | none => .bad) := by
  refine fun R a W t => (pa_cons (pe_var (i := i) hN (a.vis hv) hd hcd) (hr R a W t) (hs _)).imp fun σ H Q ⟨ρ, H0, c, l, h⟩ => ?_
  cases es : getS ρ i with
  | none =>
    have h' : Out G.K G.mg W (FAM G.K G.mg σ (some i :: ls)) ms2 H0 H c σ (match getS ρ i with | some _ => fs ρ | none => .bad) Q := h
    rw [es] at h'; exact h'.elim
  | some md =>
    have h' : Out G.K G.mg W (FAM G.K G.mg σ (some i :: ls)) ms2 H0 H c σ (match getS ρ i with | some _ => fs ρ | none => .bad) Q := h
    rw [es] at h'
    obtain ⟨m, d⟩ := md
    obtain ⟨v, fp, e1, _⟩ := l.slot i m d es
    refine ⟨v, e1, ρ, H0, c, l, ?_⟩
    have h2 : Out G.K G.mg W (FAM G.K G.mg σ (some i :: ls)) ms2 H0 H c σ (fs ρ) Q := h'
    cases hf : fs ρ with
    | ok ds r => rw [hf] at h2; exact fun w H0' H' c' s l' q => h2 (v :: w) H0' H' c' s l' ⟨v, w, rfl, e1, q⟩
    | exc n ns vs r => rw [hf] at h2; exact h2
    | bad => rw [hf] at h2; exact h2
end
section
variable {K : PySem.W.Frag} {mg : Str → Option Value} {H0 H : Hp} {σ : L2.St} {ls : List (Option Nat)} {ds : List D} {vs : List V} {ρ rp r : En}
theorem mkArgs_len : ∀ {ls : List (Option Nat)} {ds : List D} {vs : List V}, AMr K mg H0 σ ls ds vs → (mkArgs ls ds r).length = ls.length ∧ vs.length = ls.length
  | [], _, _, h => by rw [h.2]; exact ⟨rfl, rfl⟩
  | none :: ls, _, _, ⟨d, _, v, w, e1, e2, f, h⟩ => by
    subst e1 e2
    obtain ⟨h1, h2⟩ := mkArgs_len h
    exact ⟨by simp [mkArgs, h1], by simp [h2]⟩
  | some i :: ls, _, _, ⟨v, w, e1, e2, h⟩ => by
    subst e1
    obtain ⟨h1, h2⟩ := mkArgs_len h
    exact ⟨by simp [mkArgs, h1], by simp [h2]⟩
theorem mkArgs_get : ∀ {ls : List (Option Nat)} {ds : List D} {vs : List V} {j : Nat} {s : Md × D}, AMr K mg H0 σ ls ds vs → getS (mkArgs ls ds r) j = some s →
    (ls[j]? = some none ∧ ∃ v, vs[j]? = some v ∧ s.1 = .z ∧ Fz K mg H0 s.2 v) ∨ ∃ i v, ls[j]? = some (some i) ∧ vs[j]? = some v ∧ σ[i]? = some (some v) ∧ getS r i = some s
  | [], _, _, j, s, h, e => by simp [mkArgs, getS] at e
  | none :: ls, _, _, 0, s, ⟨d, _, v, w, e1, e2, f, h⟩, e => by
    subst e1 e2
    have e : some (Md.z, d) = some s := by simpa [mkArgs, getS] using e
    cases e
    exact .inl ⟨rfl, v, rfl, rfl, f⟩
  | some i :: ls, _, _, 0, s, ⟨v, w, e1, e2, h⟩, e => by
    subst e1
    exact .inr ⟨i, v, rfl, rfl, e2, by simpa [mkArgs, getS] using e⟩
  | none :: ls, _, _, j + 1, s, ⟨d, dr, v, w, e1, e2, f, h⟩, e => by
    subst e1 e2
    have e : getS (mkArgs ls dr r) j = some s := by simpa [mkArgs, getS] using e
    rcases mkArgs_get h e with ⟨q1, v', q2, q3⟩ | ⟨i', v', q1, q2, q3⟩
    · exact .inl ⟨by simpa using q1, v', by simpa using q2, q3⟩
    · exact .inr ⟨i', v', by simpa using q1, by simpa using q2, q3⟩
  | some i :: ls, ds, _, j + 1, s, ⟨v, w, e1, e2, h⟩, e => by
    subst e1
    have e : getS (mkArgs ls ds r) j = some s := by simpa [mkArgs, getS] using e
    rcases mkArgs_get h e with ⟨q1, v', q2, q3⟩ | ⟨i', v', q1, q2, q3⟩
    · exact .inl ⟨by simpa using q1, v', by simpa using q2, q3⟩
    · exact .inr ⟨i', v', by simpa using q1, by simpa using q2, q3⟩
theorem AMr.get : ∀ {ls : List (Option Nat)} {ds : List D} {vs : List V} {j i : Nat}, AMr K mg H0 σ ls ds vs → ls[j]? = some (some i) → ∃ v, vs[j]? = some v ∧ σ[i]? = some (some v)
  | [], _, _, j, i, h, e => by simp at e
  | none :: ls, _, _, 0, i, ⟨d, _, v, w, e1, e2, f, h⟩, e => by simp at e
  | some i' :: ls, _, _, 0, i, ⟨v, w, e1, e2, h⟩, e => by
    subst e1
    simp at e
    subst e
    exact ⟨v, rfl, e2⟩
  | none :: ls, _, _, j + 1, i, ⟨d, _, v, w, e1, e2, f, h⟩, e => by
    subst e2
    simpa using AMr.get h (by simpa using e)
  | some i' :: ls, _, _, j + 1, i, ⟨v, w, e1, e2, h⟩, e => by
    subst e1
    simpa using AMr.get h (by simpa using e)
theorem putBack_len : ∀ (ls : List (Option Nat)) (rp r : En), (putBack ls rp r).length = r.length
  | [], _, _ => rfl
  | none :: ls, rp, r => putBack_len ls rp.tail r
  | some i :: ls, rp, r => by
    show (putBack ls rp.tail (r.set i (getS rp 0))).length = _
    rw [putBack_len ls rp.tail _, List.length_set]
theorem getS_tail (rp : En) (j : Nat) : getS rp.tail j = getS rp (j + 1) := by
  cases rp with
  | nil => simp [getS]
  | cons a r => simp [getS]
/-- a slot behind a call: it was not lent, or it is what the callee left -/
theorem putBack_get : ∀ {ls : List (Option Nat)} {rp r : En} {i : Nat}, (ls.filterMap id).Nodup → i < r.length →
    (lentM ls i = false ∧ getS (putBack ls rp r) i = getS r i) ∨ ∃ j, ls[j]? = some (some i) ∧ getS (putBack ls rp r) i = getS rp j
  | [], rp, r, i, _, _ => .inl ⟨rfl, rfl⟩
  | none :: ls, rp, r, i, nd, hi => by
    rcases putBack_get (ls := ls) (rp := rp.tail) (r := r) (i := i) (by simpa using nd) hi with ⟨h1, h2⟩ | ⟨j, h1, h2⟩
    · exact .inl ⟨by simpa [lentM] using h1, h2⟩
    · exact .inr ⟨j + 1, by simpa using h1, by rw [← getS_tail]; exact h2⟩
  | some i' :: ls, rp, r, i, nd, hi => by
    have nd' : i' ∉ ls.filterMap id ∧ (ls.filterMap id).Nodup := by simpa using nd
    rcases putBack_get (ls := ls) (rp := rp.tail) (r := r.set i' (getS rp 0)) (i := i) nd'.2 (by rw [List.length_set]; exact hi) with ⟨h1, h2⟩ | ⟨j, h1, h2⟩
    · by_cases e : i' = i
      · subst e
        exact .inr ⟨0, rfl, by show getS (putBack ls rp.tail (r.set i' (getS rp 0))) i' = _; rw [h2, getS_set_eq hi]⟩
      · refine .inl ⟨?_, by show getS (putBack ls rp.tail (r.set i' (getS rp 0))) i = _; rw [h2, getS_set_ne e]⟩
        unfold lentM at h1 ⊢
        rw [List.any_cons, h1]
        simp [e]
    · exact .inr ⟨j + 1, by simpa using h1, by rw [← getS_tail]; exact h2⟩
/-- the callee's owners -/
def coIn (ls : List (Option Nat)) (c : Co) : Co := fun a => match c a with
  | some i => ls.findIdx? fun l => l == some i
  | none => none
/-- .. back again -/
def coOut (ls : List (Option Nat)) (c cc : Co) : Co := fun a => match cc a with
  | some j => (ls[j]?).join
  | none => match c a with
    | some i => if lentM ls i = true then none else some i
    | none => none
theorem coIn_some {c : Co} {a : Addr} {j : Nat} (h : coIn ls c a = some j) : ∃ i, c a = some i ∧ ls[j]? = some (some i) ∧ lentM ls i = true := by
  unfold coIn at h
  split at h
  · rename_i i e
    obtain ⟨h1, h2, h3⟩ := List.findIdx?_eq_some_iff_getElem.mp h
    have h2 : ls[j] = some i := by simpa using h2
    refine ⟨i, e, by rw [List.getElem?_eq_getElem h1, h2], ?_⟩
    unfold lentM
    rw [List.any_eq_true]
    exact ⟨ls[j], List.getElem_mem h1, by simp [h2]⟩
  · cases h
theorem lent_at {i : Nat} (h : lentM ls i = true) : ∃ j : Nat, ls[j]? = some (some i) := by
  unfold lentM at h
  obtain ⟨l, h1, h2⟩ := List.any_eq_true.mp h
  have h2 : l = some i := by simpa using h2
  subst h2
  obtain ⟨j, hj, e⟩ := List.getElem_of_mem h1
  exact ⟨j, by rw [List.getElem?_eq_getElem hj, e]⟩
theorem coIn_lent {c : Co} {a : Addr} {i : Nat} (e : c a = some i) (h : lentM ls i = true) : ∃ j, coIn ls c a = some j := by
  unfold coIn
  rw [e]
  cases q : ls.findIdx? fun l => l == some i with
  | some j => exact ⟨j, q⟩
  | none =>
    obtain ⟨j, hj⟩ := lent_at h
    have := List.findIdx?_eq_none_iff.mp q (some i) (List.mem_of_getElem? hj)
    simp at this
theorem coIn_none {c : Co} {a : Addr} (h : ∀ i, c a = some i → lentM ls i = false) : coIn ls c a = none := by
  cases q : coIn ls c a with
  | none => rfl
  | some j =>
    obtain ⟨i, e, _, h2⟩ := coIn_some q
    rw [h i e] at h2; cases h2
theorem lent_of {i j : Nat} (h : ls[j]? = some (some i)) : lentM ls i = true := by
  unfold lentM
  rw [List.any_eq_true]
  exact ⟨some i, List.mem_of_getElem? h, by simp⟩
theorem coOut_some {c cc : Co} {a : Addr} {i : Nat} (h : coOut ls c cc a = some i) : (∃ j, cc a = some j ∧ ls[j]? = some (some i)) ∨ (cc a = none ∧ c a = some i ∧ lentM ls i = false) := by
  unfold coOut at h
  split at h
  · rename_i j e
    refine .inl ⟨j, e, ?_⟩
    cases q : ls[j]? with
    | none => rw [q] at h; cases h
    | some o => rw [q] at h; rw [show o = some i from h]
  · rename_i e
    split at h
    · rename_i i' e'
      split at h
      · cases h
      · rename_i n
        cases h
        refine .inr ⟨e, e', ?_⟩
        cases q : lentM ls i with
        | false => rfl
        | true => exact absurd q n
    · cases h
theorem findIdx_nodup : ∀ {ls : List (Option Nat)} {j i : Nat}, (ls.filterMap id).Nodup → ls[j]? = some (some i) → ls.findIdx? (fun l => l == some i) = some j
  | [], j, i, _, h => by simp at h
  | none :: ls, 0, i, _, h => by simp at h
  | none :: ls, j + 1, i, nd, h => by
    have := findIdx_nodup (ls := ls) (j := j) (i := i) (by simpa using nd) (by simpa using h)
    rw [List.findIdx?_cons, this]
    simp
  | some i' :: ls, 0, i, _, h => by
    have e : i' = i := by simpa using h
    subst e
    rw [List.findIdx?_cons]; simp
  | some i' :: ls, j + 1, i, nd, h => by
    have nd' : i' ∉ ls.filterMap id ∧ (ls.filterMap id).Nodup := by simpa using nd
    have h' : ls[j]? = some (some i) := by simpa using h
    have ne : i' ≠ i := fun e => nd'.1 (by
      subst e
      exact List.mem_filterMap.mpr ⟨some i', List.mem_of_getElem? h', rfl⟩)
    have := findIdx_nodup nd'.2 h'
    rw [List.findIdx?_cons, this]
    simp [ne]
/-- the callee's view -/
theorem Lies.enter {c : Co} (l : Lies K mg H0 H c σ ρ) (nd : (ls.filterMap id).Nodup) (am : AMr K mg H0 σ ls ds vs) : Lies K mg H0 H (coIn ls c) (vs.map some) (mkArgs ls ds ρ) := by
  refine ⟨l.sub, fun a j e => ?_, fun a j e => ?_, ?_, fun j m d e => ?_⟩
  · obtain ⟨i, e1, _⟩ := coIn_some e
    exact l.apart a i e1
  · obtain ⟨i, e1, _⟩ := coIn_some e
    exact l.there a i e1
  · obtain ⟨h1, h2⟩ := mkArgs_len (r := ρ) am
    rw [h1, List.length_map, h2]
  · rcases mkArgs_get am e with ⟨h1, v, h2, h3, h4⟩ | ⟨i, v, h1, h2, h3, h4⟩
    · have h3 : m = .z := h3
      subst h3
      exact ⟨v, [], by rw [List.getElem?_map, h2]; rfl, Ow.zero.mpr ⟨rfl, h4⟩, List.nodup_nil, by simp⟩
    · obtain ⟨v', fp, e1, ow, nd', hc⟩ := l.slot i m d h4
      rw [h3] at e1
      cases e1
      refine ⟨v, fp, by rw [List.getElem?_map, h2]; rfl, ow, nd', fun a ha => ?_⟩
      unfold coIn
      rw [hc a ha]
      exact findIdx_nodup nd h1
theorem Lies.leave {H0' H' : Hp} {c cc : Co} (l : Lies K mg H0 H c σ ρ) (nd : (ls.filterMap id).Nodup) (am : AMr K mg H0 σ ls ds vs) (s : Step msA H0 H (coIn ls c) H0' H' cc) (l' : Lies K mg H0' H' cc (vs.map some) rp) :
    Lies K mg H0' H' (coOut ls c cc) σ (putBack ls rp ρ) := by
  have keep : ∀ a i, c a = some i → lentM ls i = false → ∃ o, H a = some o ∧ H' a = some o ∧ cc a = none := fun a i e h => by
    obtain ⟨o, ho⟩ := l.there a i e
    have cn : coIn ls c a = none := coIn_none fun i' e' => by rw [e] at e'; cases e'; exact h
    refine ⟨o, ho, s.keep a o ho (fun j q => by rw [cn] at q; cases q), ?_⟩
    rw [s.col a o ho fun j q => by rw [cn] at q; cases q]
    exact cn
  refine ⟨l'.sub, fun a i e => ?_, fun a i e => ?_, by rw [putBack_len]; exact l.len, fun i m d e => ?_⟩
  · rcases coOut_some e with ⟨j, e1, e2⟩ | ⟨e1, e2, e3⟩
    · exact l'.apart a j e1
    · obtain ⟨o, h1, h2, h3⟩ := keep a i e2 e3
      cases q : H0' a with
      | none => rfl
      | some u =>
        rcases s.new0 a u q with ⟨w, z⟩ | z | ⟨j, z, _⟩
        · rw [l.apart a i e2] at z; cases z
        · rw [h1] at z; cases z
        · obtain ⟨i', z1, _, z2⟩ := coIn_some z
          rw [e2] at z1; cases z1
          rw [e3] at z2; cases z2
  · rcases coOut_some e with ⟨j, e1, e2⟩ | ⟨e1, e2, e3⟩
    · exact l'.there a j e1
    · obtain ⟨o, h1, h2, h3⟩ := keep a i e2 e3
      exact ⟨o, h2⟩
  · have hi : i < ρ.length := by
      rcases Nat.lt_or_ge i ρ.length with h | h
      · exact h
      · rw [getS, List.getD_eq_getElem?_getD, List.getElem?_eq_none (by rw [putBack_len]; exact h)] at e; cases e
    rcases putBack_get (rp := rp) nd hi with ⟨h1, h2⟩ | ⟨j, h1, h2⟩
    · rw [h2] at e
      obtain ⟨v, fp, e1, ow, nd', hc⟩ := l.slot i m d e
      refine ⟨v, fp, e1, Ow.mono s.grow d m v fp (fun a ha => ?_) ow, nd', fun a ha => ?_⟩
      · obtain ⟨o, q1, q2, q3⟩ := keep a i (hc a ha) h1
        rw [q1, q2]
      · obtain ⟨o, q1, q2, q3⟩ := keep a i (hc a ha) h1
        unfold coOut
        rw [q3, hc a ha]
        simp [h1]
    · rw [h2] at e
      obtain ⟨v, fp, e1, ow, nd', hc⟩ := l'.slot j m d e
      obtain ⟨v', q1, q2⟩ := am.get h1
      rw [List.getElem?_map, q1] at e1
      have e1 : v' = v := by simpa using e1
      subst e1
      refine ⟨v', fp, q2, ow, nd', fun a ha => ?_⟩
      unfold coOut
      rw [hc a ha]
      show (ls[j]?).join = some i
      rw [h1]; rfl
theorem Step.leave {H0' H' : Hp} {c cc : Co} (l : Lies K mg H0 H c σ ρ) (s : Step msA H0 H (coIn ls c) H0' H' cc) : Step (lentM ls) H0 H c H0' H' (coOut ls c cc) := by
  have cn : ∀ a, (∀ i, c a = some i → lentM ls i = false) → coIn ls c a = none := fun a h => coIn_none h
  refine ⟨fun a o e k => s.keep a o e (fun j q => by rw [cn a k] at q; cases q), fun a o e k => ?_, s.grow, fun a o e => ?_, fun a i e => ?_⟩
  · have q := s.col a o e fun j q => by rw [cn a k] at q; cases q
    rw [cn a k] at q
    unfold coOut
    rw [q]
    cases z : c a with
    | none => rfl
    | some i => simp [k i z]
  · rcases s.new0 a o e with z | z | ⟨j, z, _⟩
    · exact .inl z
    · exact .inr (.inl z)
    · obtain ⟨i, z1, _, z2⟩ := coIn_some z
      exact .inr (.inr ⟨i, z1, z2⟩)
  · rcases coOut_some e with ⟨j, e1, e2⟩ | ⟨e1, e2, e3⟩
    · rcases s.newc a j e1 with z | ⟨_, z | ⟨j', z, _⟩⟩
      · obtain ⟨i', z1, z2, z3⟩ := coIn_some z
        rw [e2] at z2
        cases z2
        exact .inl z1
      · exact .inr ⟨lent_of e2, .inl z⟩
      · obtain ⟨i', z1, _, z3⟩ := coIn_some z
        exact .inr ⟨lent_of e2, .inr ⟨i', z1, z3⟩⟩
    · exact .inl e2
theorem Fresh.leave {H0' H' : Hp} {c cc : Co} {fp : List Addr} (l : Lies K mg H0 H c σ ρ) (f : Fresh msA H (coIn ls c) H0' H' cc fp) : Fresh (lentM ls) H c H0' H' (coOut ls c cc) fp := by
  refine ⟨f.nd, fun a ha => ?_, f.n0, f.there, fun a ha => ?_⟩
  · unfold coOut
    rw [f.nc a ha]
    cases z : c a with
    | none => rfl
    | some i =>
      rcases f.new a ha with w | ⟨j, w, _⟩
      · obtain ⟨o, q⟩ := l.there a i z
        rw [w] at q; cases q
      · obtain ⟨i', z1, _, z3⟩ := coIn_some w
        rw [z] at z1; cases z1
        simp [z3]
  · rcases f.new a ha with w | ⟨j, w, _⟩
    · exact .inl w
    · obtain ⟨i', z1, _, z3⟩ := coIn_some w
      exact .inr ⟨i', z1, z3⟩
end
section
variable {G : GC} {N : List Str} {S : SC} {bs bs1 bs2 ms ms1 ms2 ms3 as as1 as2 : Ms} {m rm : Md} {k : Nat} {e a b : Expr} {es : List Expr} {fs : M (List D)} {pos p : Pos} {ls : List (Option Nat)} {F : M D} {f : Addr} {fd : FuncData} {ps : List Str} {x : Str}
/-- arguments, then the callee -/
theorem call_core {W : WX} {σ : L2.St} {H : Hp} {Q : VK} (nd : (ls.filterMap id).Nodup) (hl : ls.length = ps.length) (h : tR G.K G.mg W (FO G.K G.mg rm (msU ms (lentM ls))) (msU ms (lentM ls)) (fCall F ls fs) σ H Q) :
    tAM G.K G.mg W ls ms fs σ H fun vs H1 => spV G F ps.length rm vs H1 Q (WE W σ) := by
  obtain ⟨ρ, H0, c, l, o⟩ := h
  refine ⟨ρ, H0, c, l, (Out.bind (G := FAM G.K G.mg σ ls) (ms1 := ms) back_FO o fun i e => or_l e).imp fun vs H1 ⟨ds, H01, c1, ρ1, e1, s1, l1, am, o1⟩ => ?_⟩
  obtain ⟨_, hv⟩ := mkArgs_len (r := ρ1) am
  refine ⟨hv.trans hl, mkArgs ls ds ρ1, H01, coIn ls c1, l1.enter nd am, ?_⟩
  cases hF : F (mkArgs ls ds ρ1) with
  | ok d rp =>
    rw [hF] at o1
    intro v H0' H' cc s l' ⟨fp, ow, fr⟩
    exact o1 v H0' H' (coOut ls c1 cc) ((Step.leave l1 s).mono fun i e => or_r e) (l1.leave nd am s l') ⟨fp, ow, (Fresh.leave l1 fr).mono fun i e => or_r e⟩
  | exc n ns vs rp =>
    rw [hF] at o1
    intro cls dx H0' H' cc s l' ex
    exact o1 cls dx H0' H' (coOut ls c1 cc) ((Step.leave l1 s).mono fun i e => or_r e) (l1.leave nd am s l') ex
  | bad => rw [hF] at o1; exact o1
theorem VO.call (hF : FnV G k f fd ps rm F) (hm : G.mg x = some (.ref f)) (hk : PySem.W.keepIn G.K (.ref f) = true) (hb : Binds G.K fd ps []) (ha : VM G N S ls ms (e :: es) fs) (hk' : k ≤ S.k := by decide) (hc : S.cm = true := by rfl) (nd : (ls.filterMap id).Nodup := by decide) (hl : ls.length = ps.length := by rfl) (hg : Glb S x := by rfl)
    (hdb : (x == ("__debug__" : Str)) = false := by decide) (he : ∀ env, starEach (e :: es) env = (false, eval e env) :: starEach es env := by intro _; rfl) (hpl : ∀ env, (backTo pos (starEach es env)).any (·.1) = false := by intro _; rfl) :
    VO G N S rm (msU ms (lentM ls)) (.Call (.Name x p) (e :: es) [] pos) (fCall F ls fs) := by
  refine fun R a W t => (pe_callS hF ((a.room hc).mono hk') (a.gl hg) hm hk hb (fun σ => passAt t σ) (ha R a W t) hdb (he _) (hpl _)).imp fun σ H Q h => ?_
  exact call_core nd hl h
end
end Vm
set_option Elab.async false
set_option linter.all false
set_option maxRecDepth 100000
set_option maxHeartbeats 4000000
namespace Vm
open PySem PySem.Spec PyProof.Rows L2

/-! ### list comprehensions -/
def wipeE : List Nat → En → En
  | [], r => r
  | i :: is, r => (wipeE is r).set i none
def restE (r0 : En) : List Nat → En → En
  | [], r => r
  | i :: is, r => (restE r0 is r).set i (match getS r0 i with
    | some (.z, d) => some (.z, d)
    | _ => none)
theorem wipeE_len (r : En) : ∀ vs : List Nat, (wipeE vs r).length = r.length
  | [] => rfl
  | v :: vs => by unfold wipeE; rw [List.length_set, wipeE_len r vs]
theorem restE_len (r0 r : En) : ∀ vs : List Nat, (restE r0 vs r).length = r.length
  | [] => rfl
  | v :: vs => by unfold restE; rw [List.length_set, restE_len r0 r vs]
theorem getS_set_out {r : En} {i : Nat} {s : Sl} (h : ¬ i < r.length) : getS (r.set i s) i = none := by
  simp [getS, List.getD_eq_getElem?_getD, h]
theorem wipeE_some {r : En} {i : Nat} {s : Md × D} : ∀ {vs : List Nat}, getS (wipeE vs r) i = some s → getS r i = some s ∧ i ∉ vs
  | [], h => ⟨h, by simp⟩
  | v :: vs, h => by
    unfold wipeE at h
    by_cases e : v = i
    · subst e
      by_cases hv : v < (wipeE vs r).length
      · rw [getS_set_eq hv] at h; cases h
      · rw [getS_set_out hv] at h; cases h
    · rw [getS_set_ne e] at h
      obtain ⟨h1, h2⟩ := wipeE_some h
      exact ⟨h1, by simp only [List.mem_cons, not_or]; exact ⟨fun z => e z.symm, h2⟩⟩
theorem restE_some {r0 r : En} {i : Nat} {s : Md × D} : ∀ {vs : List Nat}, getS (restE r0 vs r) i = some s → (getS r0 i = some s ∧ s.1 = .z) ∨ (getS r i = some s ∧ i ∉ vs)
  | [], h => .inr ⟨h, by simp⟩
  | v :: vs, h => by
    unfold restE at h
    by_cases e : v = i
    · subst e
      by_cases hv : v < (restE r0 vs r).length
      · rw [getS_set_eq hv] at h
        split at h
        · rename_i d q
          cases h
          exact .inl ⟨q, rfl⟩
        · cases h
      · rw [getS_set_out hv] at h; cases h
    · rw [getS_set_ne e] at h
      rcases restE_some h with h | ⟨h1, h2⟩
      · exact .inl h
      · exact .inr ⟨h1, by simp only [List.mem_cons, not_or]; exact ⟨fun z => e z.symm, h2⟩⟩
section
variable {K : PySem.W.Frag} {mg : Str → Option Value} {H0 H H0' H' : Hp} {c c' : Co} {σ σ' : L2.St} {ρ ρ' : En} {own : List Nat} {ms : Ms}
theorem Lies.wipe (l : Lies K mg H0 H c σ ρ) (own : List Nat) : Lies K mg H0 H c (L2.wipe σ own) (wipeE own ρ) := by
  refine ⟨l.sub, l.apart, l.there, by rw [wipeE_len, wipe_length]; exact l.len, fun i m d e => ?_⟩
  obtain ⟨e1, e2⟩ := wipeE_some e
  obtain ⟨v, fp, q, r⟩ := l.slot i m d e1
  exact ⟨v, fp, by rw [wipe_out e2]; exact q, r⟩
theorem Lies.rest (l : Lies K mg H0 H c σ ρ) (l' : Lies K mg H0' H' c' σ' ρ') (s : Same H0 H0') (hl : σ'.length = σ.length) (hw : ∀ i, i ∉ own → ∀ v, σ'[i]? = some (some v) → σ[i]? = some (some v)) : Lies K mg H0' H' c' σ (restE ρ own ρ') := by
  refine ⟨l'.sub, l'.apart, l'.there, by rw [restE_len, l'.len, hl], fun i m d e => ?_⟩
  rcases restE_some e with ⟨e1, e2⟩ | ⟨e1, e2⟩
  · have e2 : m = .z := e2
    subst e2
    obtain ⟨v, fp, q, o, nd, hc⟩ := l.slot i .z d e1
    exact ⟨v, [], q, Ow.zero.mpr ⟨rfl, Fz.mono s d v (Ow.zero.mp o).2⟩, List.nodup_nil, by simp⟩
  · obtain ⟨v, fp, q, r⟩ := l'.slot i m d e1
    exact ⟨v, fp, hw i e2 v q, r⟩
/-- an object of no one's is changed -/
theorem Lies.other {a : Addr} {o : HO} (l : Lies K mg H0 H c σ ρ) (hc : c a = none) (h0 : H0 a = none) : Lies K mg H0 (upd H a o) c σ ρ := by
  have hne : ∀ b i, c b = some i → b ≠ a := fun b i e z => by rw [z, hc] at e; cases e
  refine ⟨fun b u e => by rw [upd_ne (fun z => by rw [z, h0] at e; cases e)]; exact l.sub b u e, l.apart, fun b i e => ?_, l.len, fun i m d e => ?_⟩
  · obtain ⟨u, q⟩ := l.there b i e
    exact ⟨u, by rw [upd_ne (hne b i e)]; exact q⟩
  · obtain ⟨v, fp, e1, ow, nd, hq⟩ := l.slot i m d e
    exact ⟨v, fp, e1, Ow.mono (Same.refl _) d m v fp (fun b hb => upd_ne (hne b i (hq b hb))) ow, nd, hq⟩
theorem Step.other {a : Addr} {o : HO} (s : Step ms H0 H c H0' H' c') (hn : H a = none) : Step ms H0 H c H0' (upd H' a o) c' :=
  ⟨fun b u e k => by rw [upd_ne (ne_of_none e hn)]; exact s.keep b u e k, s.col, s.grow, s.new0, s.newc⟩
theorem Ows.snoc {H0 H : Hp} {m : Md} {d : D} {v : V} {f : List Addr} : ∀ {ds : List D} {vs : List V} {g : List Addr}, Ows K mg H0 H ds (.all m) vs g → Ow K mg H0 H d m v f → Ows K mg H0 H (ds ++ [d]) (.all m) (vs ++ [v]) (g ++ f)
  | [], vs, g, ⟨e1, e2⟩, h => by
    subst e1 e2
    exact ⟨v, [], f, [], rfl, by simp, h, rfl, rfl⟩
  | x :: ds, _, _, ⟨w, r, f1, g1, e1, e2, h1, h2⟩, h => by
    subst e1 e2
    exact ⟨w, r ++ [v], f1, g1 ++ f, rfl, by rw [List.append_assoc], h1, Ows.snoc h2 h⟩
end
def noX {α : Type} : Res α → Res α
  | .ok a r => .ok a r
  | .exc _ _ _ _ => .bad
  | .bad => .bad
@[simp] theorem noX_ok {α : Type} (a : α) (r : En) : noX (.ok a r) = .ok a r := rfl
@[simp] theorem noX_exc {α : Type} (c : Str) (ns : List Str) (vs : List D) (r : En) : (noX (.exc c ns vs r) : Res α) = .bad := rfl
@[simp] theorem noX_bad {α : Type} : (noX .bad : Res α) = .bad := rfl
/-- no exception comes out -/
abbrev WNo : WX := fun _ _ _ _ => False
theorem Out.noX {α β : Type} {K : PySem.W.Frag} {mg : Str → Option Value} {W : WX} {F : Fam α β} {ms : Ms} {H0 H : Hp} {c : Co} {σ : L2.St} {x : Res α} {Q : β → Hp → Prop} (h : Out K mg W F ms H0 H c σ (noX x) Q) : Out K mg WNo F ms H0 H c σ x Q := by
  cases x with
  | ok d r => exact h
  | exc n ns vs r => exact h.elim
  | bad => exact h.elim
/-- the turns: what is gathered -/
def lcT (own : List Nat) (fe : M D) (k : M (List D)) : D → M (List D) := fun b r => match b with
  | .bl true => (noX (fe r)).bind fun y r => (k (wipeE own r)).bind fun ys r => .ok (y :: ys) r
  | .bl false => k (wipeE own r)
  | _ => .bad
def gLc (own : List Nat) (gt : D → M Fl) (ft fe : M D) : List D → M (List D)
  | [] => fun r => .ok [] r
  | d :: ds => fun r => (noX (gt d r)).bind fun _ r => (noX (ft r)).bind (lcT own fe (gLc own gt ft fe ds))
def fLc (own : List Nat) (fi : M (List D)) (gt : D → M Fl) (ft fe : M D) : M D := fun r => (fi r).bind fun ds r => (gLc own gt ft fe ds (wipeE own r)).bind fun ys r' => .ok (.lst ys) (restE r own r')
/-- tests of a clause -/
abbrev VTs (G : GC) (N : List Str) (S : SC) (ms : Ms) (es : List Expr) (f : M D) : Prop := VE G N S (fun X t => PTs X es t) FT ms f
theorem PTs.imp {X : Cx} {e : List Expr} {t t' : TT} (h : PTs X e t) (q : ∀ σ H Q, t' σ H Q → t σ H Q) : PTs X e t' := ⟨fun pins s σ H Q I w => h.run pins s σ H Q I (q σ H Q w)⟩
def ftY : M D := fun r => .ok (.bl true) r
@[simp] theorem ftY_def (r : En) : ftY r = .ok (.bl true) r := rfl
section
variable {G : GC} {N : List Str} {S : SC} {bs bs1 bs2 ms ms1 ms2 ms3 as as1 as2 : Ms} {m me rm : Md} {k : Kd} {e a b : Expr} {es : List Expr} {f fa fb : M D} {fs : M (List D)} {pos : Pos}
theorem VTs.nil : VTs G N S ms0 [] ftY := fun R a W t => PTs.imp pts_nil fun σ H Q ⟨ρ, H0, c, l, o⟩ => o true H0 H c .refl l rfl
theorem VTs.one (h : VT G N S ms e f) : VTs G N S ms [e] f := fun R a W t => pts_one (h R a W t)
abbrev blkS (S : SC) (scope : Scope) : SC := ⟨relS scope S.sc, fun x => scope.names.lookup x == some .cell, S.k, S.cm⟩
theorem takes_no {X : Cx} : Takes X WNo := fun u s' ⟨a, B, sI, pins, σ, H, cls, d, e, I, nb, up, sky, na, os, ag, w⟩ => w.elim
theorem At.blk {R : Rs} (a : At S N (mkX G N R)) (scope : Scope) (s : Shared) (H : Hp) (C : Addr) (cl : List (Str × Addr)) (fp : List Addr) :
    ∃ R', (mkX G N R).blk s H scope (compEnvC scope cl C (mkX G N R).env) fp = mkX G N R' ∧ At (blkS S scope) N (mkX G N R') := by
  refine ⟨{ R with s_0 := s, H_0 := H, env := compEnvC scope cl C R.env, outer := R.stack, ex := fp, fn := fun x => scope.names.lookup x == some .cell, pn := [], xe := fun _ _ => False }, rfl, ?_, rfl, a.nd, a.calm, a.room, PassesOwn.never⟩
  show relS scope R.env.scope = relS scope S.sc
  rw [show R.env.scope = S.sc from a.sc]
theorem wipe_agr {as : Ms} {σ σ2 : L2.St} {own : List Nat} (h : Agr as (L2.wipe σ own) σ2) (ho : ∀ i, as i = true → i ∈ own) : L2.wipe σ2 own = L2.wipe σ own := by
  apply List.ext_getElem?
  intro i
  have hl : (L2.wipe σ2 own).length = (L2.wipe σ own).length := by rw [wipe_length, h.1]
  by_cases hi : i ∈ own
  · have key : ∀ (σ : L2.St) (i : Nat), i ∈ own → i < σ.length → (L2.wipe σ own)[i]? = some none := by
      intro σ
      clear h ho hl hi
      induction own with
      | nil => exact fun i hi _ => by cases hi
      | cons v vs ih =>
        intro i hi hlt
        unfold L2.wipe
        by_cases e : v = i
        · subst e; rw [List.getElem?_set_self (by rw [wipe_length]; exact hlt)]
        · rw [List.getElem?_set_ne e]
          exact ih i ((List.mem_cons.mp hi).resolve_left fun z => e z.symm) hlt
    have l2 : σ2.length = σ.length := by rw [h.1, wipe_length]
    by_cases hlt : i < σ.length
    · rw [key σ2 i hi (by rw [l2]; exact hlt), key σ i hi hlt]
    · rw [List.getElem?_eq_none (by rw [wipe_length, l2]; omega), List.getElem?_eq_none (by rw [wipe_length]; omega)]
  · rw [wipe_out hi]
    exact h.2 i (by
      cases q : as i with
      | false => rfl
      | true => exact absurd (ho i q) hi)
/-- what holds between the turns -/
structure LcF (K : PySem.W.Frag) (mg : Str → Option Value) (me : Md) (L : Ms) (P : Hp → Co → Prop) (H01 H1 : Hp) (c1 : Co) (B : Addr) (done : List D) (acc : List V) (g : List Addr) (H0 H : Hp) (c : Co) : Prop where
  st : Step L H01 H1 c1 H0 H c
  hD : H B = some (.lst acc)
  cD : c B = none
  D0 : H0 B = none
  ow : Ows K mg H0 H done (.all me) acc g
  fr : Fresh L H1 c1 H0 H c g
  dg : B ∉ g
  pH : P H c
theorem LcF.adv {K : PySem.W.Frag} {mg : Str → Option Value} {L msx : Ms} {P : Hp → Co → Prop} {H01 H1 H0 H H0' H' : Hp} {c1 c c' : Co} {B : Addr} {done : List D} {acc : List V} {g : List Addr} (f : LcF K mg me L P H01 H1 c1 B done acc g H0 H c)
    (s : Step msx H0 H c H0' H' c') (h : ∀ i, msx i = true → L i = true) (dj : Dj bs msx) (sP : Stays bs P) : LcF K mg me L P H01 H1 c1 B done acc g H0' H' c' := by
  have cc : ∀ i, c B = some i → msx i = false := fun i e => by rw [f.cD] at e; cases e
  obtain ⟨f2, hk⟩ := f.fr.on s
  refine ⟨f.st.trans (s.mono h), s.keep B _ f.hD cc, (s.col B _ f.hD cc).trans f.cD, ?_, Ows.mono s.grow done _ acc g hk f.ow, f2, f.dg, sP.run _ _ _ _ _ _ _ dj f.pH s⟩
  cases e : H0' B with
  | none => rfl
  | some u =>
    rcases s.new0 B u e with ⟨w, z⟩ | z | ⟨i, z, _⟩
    · rw [f.D0] at z; cases z
    · rw [f.hD] at z; cases z
    · rw [f.cD] at z; cases z
theorem Fresh.other {ms : Ms} {H H0' H' : Hp} {c c' : Co} {fp : List Addr} {a : Addr} {o : HO} (f : Fresh ms H c H0' H' c' fp) : Fresh ms H c H0' (upd H' a o) c' fp :=
  ⟨f.nd, f.nc, f.n0, fun b hb => by
    by_cases e : b = a
    · rw [e]; exact ⟨o, upd_same⟩
    · rw [upd_ne e]; exact f.there b hb, f.new⟩
theorem VO.lc {tg iter : Expr} {ifs : List Expr} {scope : Scope} {fi : M (List D)} {gt : D → M Fl} {ft fe : M D} (own : List (Str × Nat)) (hi : VI G N S bs ms1 tg iter fi) (hg : VG G N (blkS S scope) as tg gt) (ht : VTs G N (blkS S scope) ms2 ifs ft) (he : VO G N (blkS S scope) me ms3 e fe)
    (dj : Dj bs (msU as (msU ms2 ms3)) := by intro i h; first | rfl | exact absurd h Bool.false_ne_true | (simp [lentM] at h ⊢ <;> omega)) (hc : S.cm = true := by rfl) (hb : blkC N S.sc scope own = true := by decide +kernel) (ho : ∀ i, as i = true → i ∈ own.map (·.2) := by intro i h; simpa using h) (hs : ∀ env x, foldedSetIterable iter env x = pure x := by intro _ _; rfl) :
    VO G N S (.o (.all me)) (msU ms1 (msU as (msU ms2 ms3))) (.ListComp e [⟨tg, iter, ifs, 0⟩] scope pos) (fLc (own.map (·.2)) fi gt ft fe) := by
  refine fun R a W t => ?_
  have ok : BlkOk (mkX G N R).N (mkX G N R).env.scope scope own := by
    rw [show (mkX G N R).env.scope = S.sc from a.sc]
    exact blkOk_by hb
  refine (pe_lc (own := own) (a.calm.trans hc) a.nd (hi R a W t) ok (g := tG G.K G.mg as gt) (tt := tR G.K G.mg WNo FT ms2 ft) (te := tR G.K G.mg WNo (FO G.K G.mg me ms3) ms3 fe)
    (fun s H C cl fp => ?_) (fun s H C cl fp => ?_) (fun s H C cl fp => ?_) (hs _)).imp fun σ H Q ⟨ρ, H0, c, l, o⟩ => ?_
  · obtain ⟨R', e1, a'⟩ := a.blk scope s H C cl fp
    rw [e1]; exact hg R' a'
  · obtain ⟨R', e1, a'⟩ := a.blk scope s H C cl fp
    rw [e1]; exact ht R' a' _ takes_no
  · obtain ⟨R', e1, a'⟩ := a.blk scope s H C cl fp
    rw [e1]; exact he R' a' _ takes_no
  generalize hO : own.map (·.2) = ow at ho o ⊢
  generalize hL : msU ms1 (msU as (msU ms2 ms3)) = L at o
  have iL1 : ∀ i, ms1 i = true → L i = true := fun i e => by rw [← hL]; exact or_l e
  have iLa : ∀ i, as i = true → L i = true := fun i e => by rw [← hL]; exact or_r (or_l e)
  have iL2 : ∀ i, ms2 i = true → L i = true := fun i e => by rw [← hL]; exact or_r (or_r (or_l e))
  have iL3 : ∀ i, ms3 i = true → L i = true := fun i e => by rw [← hL]; exact or_r (or_r (or_r e))
  have dja : Dj bs as := fun i h => (Bool.or_eq_false_iff.mp (dj i h)).1
  have dj2 : Dj bs ms2 := fun i h => (Bool.or_eq_false_iff.mp (Bool.or_eq_false_iff.mp (dj i h)).2).1
  have dj3 : Dj bs ms3 := fun i h => (Bool.or_eq_false_iff.mp (Bool.or_eq_false_iff.mp (dj i h)).2).2
  have dj0 : Dj bs ms0 := fun i h => rfl
  refine ⟨ρ, H0, c, l, (Out.bind (G := FI G.K G.mg bs) (ms1 := ms1) back_FO o iL1).imp fun J H1 ⟨ds, H01, c1, ρ1, e1, s1, l1, ⟨hlen, P, p1, sP, hJ⟩, o1⟩ B hD => ?_⟩
  have f0 : LcF G.K G.mg me L P H01 H1 c1 B [] [] [] H01 (upd H1 B (.lst [])) c1 := ⟨.new hD, upd_same, l1.nc hD, l1.n0 hD, ⟨rfl, rfl⟩, .nil, by simp, sP.run ms0 H01 H1 c1 H01 _ c1 dj0 p1 (.new hD)⟩
  refine ⟨fun i n H => n = ds.length - i ∧ i ≤ ds.length ∧ ∃ ρ H0 c acc g done, Lies G.K G.mg H0 H c (L2.wipe σ ow) ρ ∧ LcF G.K G.mg me L P H01 H1 c1 B done acc g H0 H c ∧ done.length ≤ i ∧
      Out G.K G.mg W (FO G.K G.mg (.o (.all me)) L) L H01 H1 c1 σ ((gLc ow gt ft fe (ds.drop i) ρ).bind fun ys r => .ok (.lst (done ++ ys)) (restE ρ1 ow r)) Q,
    ⟨ds.length, rfl, Nat.zero_le _, wipeE ow ρ1, H01, c1, [], [], [], (l1.upd_new hD).wipe ow, f0, Nat.zero_le _, o1⟩, ?_⟩
  rintro i n H ⟨em, hi, ρ, H0, c, acc, g, done, l, F, dl, o⟩
  obtain ⟨hgo, hst⟩ := hJ H0 H c F.st.grow l.sub F.pH
  by_cases hlt : i < ds.length
  · have ed : ds.drop i = ds[i] :: ds.drop (i + 1) := List.drop_eq_getElem_cons hlt
    rw [ed] at o
    unfold gLc at o
    obtain ⟨go, step⟩ := hgo i ds[i] (List.getElem?_eq_getElem hlt)
    refine .inr ⟨go, fun H => ∃ ρ H0 c acc g done, Lies G.K G.mg H0 H c (L2.wipe σ ow) ρ ∧ LcF G.K G.mg me L P H01 H1 c1 B done acc g H0 H c ∧ done.length ≤ i + 1 ∧
      Out G.K G.mg W (FO G.K G.mg (.o (.all me)) L) L H01 H1 c1 σ ((gLc ow gt ft fe (ds.drop (i + 1)) ρ).bind fun ys r => .ok (.lst (done ++ ys)) (restE ρ1 ow r)) Q, fun H' h => ⟨ds.length - (i + 1), by omega, rfl, hlt, h⟩, fun x H' hy => ?_⟩
    obtain ⟨H0', k1, k2, k3, k4, fz⟩ := step x H' hy
    have l' := l.grow k1 k2 k3 k4
    have gr : Step ms0 H0 H c H0' H' c := Step.growth k1 k2 k4
    have F' := F.adv gr (fun i e => by cases e) dj0 sP
    refine ⟨WNo, { nx := fun σ2 H2 => ∃ ρ2 H02 c2, Lies G.K G.mg H02 H2 c2 σ2 ρ2 ∧ LcF G.K G.mg me L P H01 H1 c1 B done acc g H02 H2 c2 ∧ Agr as (L2.wipe σ ow) σ2 ∧  Out G.K G.mg W (FO G.K G.mg (.o (.all me)) L) L H01 H1 c1 σ (((Vm.noX (ft ρ2)).bind (lcT ow fe (gLc ow gt ft fe (ds.drop (i + 1))))).bind fun ys r => .ok (.lst (done ++ ys)) (restE ρ1 ow r)) Q, bk := fun _ _ => True, ct := fun _ _ => True, rt := fun _ _ => True }, .z, ρ, H0', c, ds[i], l', fz, ?_, ?_⟩
    · cases hh : gt ds[i] ρ with
      | ok fl r =>
        rw [hh, noX_ok, bind_ok] at o
        cases fl with
        | nx => exact fun σ2 H02 H2 c2 t l2 a2 => ⟨r, H02, c2, l2, F'.adv t iLa dja sP, a2, o⟩
        | bk => exact fun _ _ _ _ _ _ _ => trivial
        | ct => exact fun _ _ _ _ _ _ _ => trivial
        | rt d => exact fun _ _ _ _ _ _ _ _ _ => trivial
      | exc n ns vs r => rw [hh, noX_exc, bind_bad, bind_bad] at o; exact o.elim
      | bad => rw [hh, noX_bad, bind_bad, bind_bad] at o; exact o.elim
    · rintro σ2 H2 ⟨ρ2, H02, c2, l2, F2, a2, o2⟩
      have hw := wipe_agr a2 ho
      refine ⟨hw, ρ2, H02, c2, l2, ?_⟩
      cases hh : ft ρ2 with
      | exc n ns vs r => rw [hh, noX_exc, bind_bad, bind_bad] at o2; exact o2.elim
      | bad => rw [hh, noX_bad, bind_bad, bind_bad] at o2; exact o2.elim
      | ok d r =>
        rw [hh, noX_ok, bind_ok] at o2
        intro b H03 H3 c3 s3 l3 z
        have z : d = .bl b := z
        subst z
        have F3 := F2.adv s3 iL2 dj2 sP
        cases b with
        | false =>
          rw [if_neg Bool.false_ne_true]
          exact ⟨wipeE ow r, H03, c3, acc, g, done, by rw [← hw]; exact l3.wipe ow, F3, Nat.le_succ_of_le dl, o2⟩
        | true =>
          rw [if_pos rfl]
          refine ⟨r, H03, c3, l3, ?_⟩
          have o3 : Out G.K G.mg W (FO G.K G.mg (.o (.all me)) L) L H01 H1 c1 σ (((Vm.noX (fe r)).bind fun y r => (gLc ow gt ft fe (ds.drop (i + 1)) (wipeE ow r)).bind fun ys r => .ok (y :: ys) r).bind fun ys r => .ok (.lst (done ++ ys)) (restE ρ1 ow r)) Q := o2
          cases hh : fe r with
          | exc n ns vs r => rw [hh, noX_exc, bind_bad, bind_bad] at o3; exact o3.elim
          | bad => rw [hh, noX_bad, bind_bad, bind_bad] at o3; exact o3.elim
          | ok y r2 =>
            rw [hh, noX_ok, bind_ok] at o3
            intro v H04 H4 c4 s4 l4 ⟨fp, oy, fy⟩
            have F4 := F3.adv s4 iL3 dj3 sP
            have dfp : B ∉ fp := fun z => by
              rcases fy.new B z with w | ⟨j, w, _⟩
              · rw [F3.hD] at w; cases w
              · rw [F3.cD] at w; cases w
            refine ⟨acc, F4.hD, ?_, wipeE ow r2, H04, c4, acc ++ [v], g ++ fp, done ++ [y], ?_, ?_, ?_, ?_⟩
            · rw [F4.ow.length, sizeLine_eq]
              have : ds.length ≤ 16777216 := hlen
              omega
            · rw [← hw]; exact (l4.other F4.cD F4.D0).wipe ow
            · refine ⟨F4.st.other hD, upd_same, F4.cD, F4.D0, Ows.snoc (Ows.mono (Same.refl _) done _ acc g (fun b hb => upd_ne fun e => F4.dg (e ▸ hb)) F4.ow) (Ow.mono (Same.refl _) y me v fp (fun b hb => upd_ne fun e => dfp (e ▸ hb)) oy), ?_, ?_, ?_⟩
              · exact Fresh.other (Fresh.app F4.fr F3.fr.there F3.fr.nc fy (fun _ e => e) iL3 F3.st)
              · exact fun h => (List.mem_append.mp h).elim F4.dg dfp
              · exact sP.oth _ _ _ _ F4.cD F4.pH
            · rw [List.length_append]; exact Nat.succ_le_succ dl
            · cases hq : gLc ow gt ft fe (ds.drop (i + 1)) (wipeE ow r2) with
              | ok ys r3 =>
                rw [hq, bind_ok, bind_ok] at o3
                rw [bind_ok, List.append_assoc]
                exact o3
              | exc n ns vs r3 => rw [hq] at o3; exact o3
              | bad => rw [hq] at o3; exact o3
  · have e : i = ds.length := by omega
    subst e
    rw [List.drop_length] at o
    refine .inl ⟨hst, ?_⟩
    have o' : Out G.K G.mg W (FO G.K G.mg (.o (.all me)) L) L H01 H1 c1 σ (.ok (.lst (done ++ [])) (restE ρ1 ow ρ)) Q := o
    rw [List.append_nil] at o'
    refine o' (.ref B) H0 H c F.st (l1.rest l F.st.grow (wipe_length _ _) fun i hi v e => (wipe_some e).1) ⟨B :: g, ⟨B, acc, g, rfl, F.hD, rfl, F.ow⟩, ?_⟩
    refine ⟨List.nodup_cons.mpr ⟨F.dg, F.fr.nd⟩, ?_, ?_, ?_, ?_⟩ <;> intro b hb <;> rcases List.mem_cons.mp hb with z | hb
    · rw [z]; exact F.cD
    · exact F.fr.nc b hb
    · rw [z]; exact F.D0
    · exact F.fr.n0 b hb
    · rw [z]; exact ⟨_, F.hD⟩
    · exact F.fr.there b hb
    · rw [z]; exact .inl hD
    · exact F.fr.new b hb
end
end Vm
set_option Elab.async false
set_option linter.all false
set_option maxRecDepth 100000
set_option maxHeartbeats 4000000
namespace Vm
open PySem PySem.Spec PyProof.Rows L2

/-! ### more that is walked -/
def rngD (lo : Int) : Nat → List D
  | 0 => []
  | n + 1 => .int lo :: rngD (lo + 1) n
theorem rngD_len : ∀ (n : Nat) (lo : Int), (rngD lo n).length = n
  | 0, _ => rfl
  | n + 1, lo => by simp [rngD, rngD_len n]
theorem rngD_get : ∀ (n : Nat) (lo : Int) (i : Nat) (d : D), (rngD lo n)[i]? = some d → i < n ∧ d = .int (lo + i)
  | 0, _, _, _, h => by simp [rngD] at h
  | n + 1, lo, 0, d, h => by
    simp [rngD] at h
    exact ⟨Nat.succ_pos _, by rw [← h]; simp⟩
  | n + 1, lo, i + 1, d, h => by
    obtain ⟨h1, h2⟩ := rngD_get n (lo + 1) i d (by simpa [rngD] using h)
    refine ⟨Nat.succ_lt_succ h1, ?_⟩
    rw [h2]
    congr 1
    push_cast
    omega
def enumD : Int → List D → List D
  | _, [] => []
  | k, d :: ds => .tup [.int k, d] :: enumD (k + 1) ds
theorem enumD_len : ∀ (ds : List D) (k : Int), (enumD k ds).length = ds.length
  | [], _ => rfl
  | d :: ds, k => by simp [enumD, enumD_len ds]
theorem enumD_get : ∀ (ds : List D) (k : Int) (i : Nat) (e : D), (enumD k ds)[i]? = some e → ∃ d, ds[i]? = some d ∧ e = .tup [.int (k + i), d]
  | [], _, _, _, h => by simp [enumD] at h
  | d :: ds, k, 0, e, h => by
    simp [enumD] at h
    exact ⟨d, rfl, by rw [← h]; simp⟩
  | d :: ds, k, i + 1, e, h => by
    obtain ⟨d', h1, h2⟩ := enumD_get ds (k + 1) i e (by simpa [enumD] using h)
    refine ⟨d', by simpa using h1, ?_⟩
    rw [h2]
    congr 3
    push_cast
    omega
def zipD : List D → List D → List D
  | x :: xs, y :: ys => .tup [x, y] :: zipD xs ys
  | _, _ => []
theorem zipD_len : ∀ (xs ys : List D), (zipD xs ys).length = min xs.length ys.length
  | [], ys => by simp [zipD]
  | x :: xs, [] => by simp [zipD]
  | x :: xs, y :: ys => by simp [zipD, zipD_len xs ys]
theorem zipD_get : ∀ (xs ys : List D) (i : Nat) (e : D), (zipD xs ys)[i]? = some e → ∃ x y, xs[i]? = some x ∧ ys[i]? = some y ∧ e = .tup [x, y]
  | [], _, _, _, h => by simp [zipD] at h
  | x :: xs, [], _, _, h => by simp [zipD] at h
  | x :: xs, y :: ys, 0, e, h => by
    simp [zipD] at h
    exact ⟨x, y, rfl, rfl, h.symm⟩
  | x :: xs, y :: ys, i + 1, e, h => by simpa using zipD_get xs ys i e (by simpa [zipD] using h)
section
variable {G : GC} {N : List Str} {S : SC} {bs bs1 bs2 ms ms1 ms2 ms3 as : Ms} {m : Md} {k : Kd} {e a b : Expr} {es : List Expr} {f fa fb : M D} {fs : M (List D)} {pos : Pos} {tg : Expr}
theorem ItOk.rng {K : PySem.W.Frag} {mg : Str → Option Value} {H0 : Hp} {lo : Int} {n : Nat} {P : Hp → Co → Prop} : ItOk K mg (Itr lo n) H0 (rngD lo n) P := fun H0' H c s1 s2 p => by
  refine ⟨fun i d e => ?_, by rw [rngD_len]; exact Nat.le_refl _⟩
  obtain ⟨h1, h2⟩ := rngD_get n lo i d e
  refine ⟨h1, fun x H' ⟨e3, e4⟩ => ?_⟩
  subst e3 e4 h2
  exact ⟨H0', Same.refl _, Same.refl _, s2, fun a o q => .inl ⟨o, q⟩, rfl⟩
def iRng (f : M D) : M (List D) := fun r => (f r).bind fun d r => match d with
  | .int j => if j ≤ 16777216 ∧ -4611686018427387904 ≤ j then .ok (rngD 0 j.toNat) r else .bad
  | _ => .bad
theorem VI.rng {p : Pos} (h : VO G N S .z ms e f) (hm : G.mg "range" = none) (hg : Glb S "range" := by rfl) (hs : ∀ env, starEach [e] env = [(false, eval e env)] := by intro _; rfl) : VI G N S bs ms tg (.Call (.Name "range" p) [e] [] pos) (iRng f) := by
  refine fun R a W t => PI.imp (pi_range1 (a.gl hg) hm (pa_cons (h R a W t) pa_nil (hs _)) (hs _)) fun σ H Q ⟨ρ, H0, c, l, o⟩ => ?_
  refine ⟨ρ, H0, c, l, (Out.bind (G := FO G.K G.mg .z ms) (ms1 := ms) back_FI o fun i e => e).imp fun x H1 ⟨d, H01, c1, ρ1, e1, s1, l1, ⟨fp, o1, f1⟩, h1⟩ => ?_⟩
  have z := (Ow.zero.mp o1).2
  cases d with
  | int j =>
    have z : x = .int j := z
    subst z
    have h1' : Out G.K G.mg W (FI G.K G.mg bs) ms H01 H1 c1 σ (if j ≤ 16777216 ∧ -4611686018427387904 ≤ j then .ok (rngD 0 j.toNat) ρ1 else .bad) Q := h1
    by_cases hj : j ≤ 16777216 ∧ -4611686018427387904 ≤ j
    · rw [if_pos hj] at h1'
      exact ⟨j, rfl, by omega, by omega, h1' _ H01 H1 c1 .refl l1 ⟨by rw [rngD_len]; show j.toNat ≤ 16777216; omega, fun _ _ => True, trivial, .tt, .rng⟩⟩
    · rw [if_neg hj] at h1'
      exact h1'.elim
  | _ => exact h1.elim
def iRng2 (fa fb : M D) : M (List D) := fun r => (fa r).bind fun x r => (fb r).bind fun y r => match x, y with
  | .int i, .int j => if j - i ≤ 16777216 ∧ -2305843009213693952 ≤ i ∧ i ≤ 2305843009213693952 ∧ -2305843009213693952 ≤ j then .ok (rngD i (j - i).toNat) r else .bad
  | _, _ => .bad
theorem VI.rng2 {p : Pos} (ha : VO G N S .z ms1 a fa) (hb : VO G N S .z ms2 b fb) (hm : G.mg "range" = none) (hg : Glb S "range" := by rfl) (hs : ∀ env, starEach [a, b] env = [(false, eval a env), (false, eval b env)] := by intro _; rfl) (hs2 : ∀ env, starEach [b] env = [(false, eval b env)] := by intro _; rfl) :
    VI G N S bs (msU ms1 ms2) tg (.Call (.Name "range" p) [a, b] [] pos) (iRng2 fa fb) := by
  refine fun R a W t => PI.imp (pi_range2 (a.gl hg) hm (pa_cons (ha R a W t) (pa_cons (hb R a W t) pa_nil (hs2 _)) ((hs _).trans (by rw [hs2]))) (hs _) (hs2 _)) fun σ H Q ⟨ρ, H0, c, l, o⟩ => ?_
  refine ⟨ρ, H0, c, l, (Out.bind (G := FO G.K G.mg .z ms1) (ms1 := ms1) back_FI o fun i e => or_l e).imp fun x H1 ⟨d, H01, c1, ρ1, e1, s1, l1, ⟨fp, o1, f1⟩, h1⟩ => ?_⟩
  refine ⟨ρ1, H01, c1, l1, (Out.bind (G := FO G.K G.mg .z ms2) (ms1 := ms2) back_FI h1 fun i e => or_r e).imp fun y H2 ⟨d2, H02, c2, ρ2, e2, s2, l2, ⟨fp2, o2, f2⟩, h2⟩ => ?_⟩
  have z1 := (Ow.zero.mp o1).2
  have z2 := (Ow.zero.mp o2).2
  cases d with
  | int i =>
    cases d2 with
    | int j =>
      have z1 : x = .int i := z1
      have z2 : y = .int j := z2
      subst z1 z2
      have h' : Out G.K G.mg W (FI G.K G.mg bs) (msU ms1 ms2) H02 H2 c2 σ (if j - i ≤ 16777216 ∧ -2305843009213693952 ≤ i ∧ i ≤ 2305843009213693952 ∧ -2305843009213693952 ≤ j then .ok (rngD i (j - i).toNat) ρ2 else .bad) Q := h2
      by_cases hj : j - i ≤ 16777216 ∧ -2305843009213693952 ≤ i ∧ i ≤ 2305843009213693952 ∧ -2305843009213693952 ≤ j
      · rw [if_pos hj] at h'
        exact ⟨i, j, rfl, ⟨by omega, by omega, by omega, by omega⟩, h' _ H02 H2 c2 .refl l2 ⟨by rw [rngD_len]; show (j - i).toNat ≤ 16777216; omega, fun _ _ => True, trivial, .tt, .rng⟩⟩
      · rw [if_neg hj] at h'
        exact h'.elim
    | _ => exact h2.elim
  | _ => cases d2 <;> exact h2.elim
/-- a list that is walked: frozen or lent -/
def LSrc (K : PySem.W.Frag) (mg : Str → Option Value) (bs : Ms) (H0 H : Hp) (c : Co) (ds : List D) (v : V) : Prop :=
  ∃ a vs P, v = .ref a ∧ SqL K H a vs ∧ Fzs K mg H0 ds vs ∧ ds.length ≤ LIM ∧ P H c ∧ Stays bs P ∧ ∀ H0' H c, Same H0 H0' → Same H0' H → P H c → SqL K H a vs
theorem LSrc.of {K : PySem.W.Frag} {mg : Str → Option Value} {H0 H : Hp} {c : Co} {d : D} {ds : List D} {v : V} (s : Same H0 H) (b : Bw K mg bs H0 H c d v) (hd : (∃ ds', d = .lst ds' ∧ ds = ds') ∨ ∃ ns, d = .scr ns ∧ ds = ns.map .int) (hs : ∀ a xs, v = .ref a → (SqL K H a xs ∨ SqT K H a xs) → xs.length ≤ LIM) :
    LSrc K mg bs H0 H c ds v := by
  rcases hd with ⟨ds', rfl, rfl⟩ | ⟨ns, rfl, rfl⟩
  · rcases b with ⟨a, vs, e, k, g⟩ | ⟨fp, i, hi, hl, ⟨a, vs, g, e, k, ef, r⟩, hc⟩
    · have q : SqL K H a vs := .of (s _ _ k)
      exact ⟨a, vs, fun _ _ => True, e, q, g, by rw [← g.length]; exact hs a vs e (.inl q), trivial, .tt, fun H0' H c s1 s2 _ => .of (s2 _ _ (s1 _ _ k))⟩
    · have q : SqL K H a vs := .of k
      have gz := (Ows.all_z.mp r).2
      exact ⟨a, vs, fun H c => H a = some (.lst vs) ∧ c a = some i, e, q, gz, by rw [← gz.length]; exact hs a vs e (.inl q), ⟨k, hc a (by rw [ef]; exact List.mem_cons_self)⟩, .own hi, fun H0' H c s1 s2 p => .of p.1⟩
  · have z : Fz K mg H0 (.scr ns) v := by
      rcases b with z | ⟨fp, i, hi, hl, _⟩
      · exact z
      · cases hl
    obtain ⟨a, e, k⟩ := z
    exact ⟨a, _, fun _ _ => True, e, s.seq k, fzs_ints _, by rw [List.length_map, ← List.length_map (f := V.int)]; exact hs a _ e (.inl (s.seq k)), trivial, .tt, fun H0' H c s1 s2 _ => s2.seq (s1.seq k)⟩
def asLst : D → Option (List D)
  | .lst ds => some ds
  | .scr ns => some (ns.map .int)
  | _ => none
theorem asLst_or {d : D} {ds : List D} (h : asLst d = some ds) : (∃ ds', d = .lst ds' ∧ ds = ds') ∨ ∃ ns, d = .scr ns ∧ ds = ns.map .int := by
  cases d with
  | lst x => cases h; exact .inl ⟨_, rfl, rfl⟩
  | scr x => cases h; exact .inr ⟨_, rfl, rfl⟩
  | _ => cases h
def iEnm (f : M D) : M (List D) := fun r => (f r).bind fun d => rM ((asLst d).map (enumD 0))
theorem same_pair {K : PySem.W.Frag} {mg : Str → Option Value} {H0 H : Hp} {T : Addr} {d1 d2 : D} {x y : V} (s : Same H0 H) (hT : H T = none) (h1 : Fz K mg H0 d1 x) (h2 : Fz K mg H0 d2 y) :
    ∃ H0'', Same H (upd H T (.tup [x, y])) ∧ Same H0 H0'' ∧ Same H0'' (upd H T (.tup [x, y])) ∧ (∀ a o, H0'' a = some o → (∃ u, H0 a = some u) ∨ H a = none) ∧ Fz K mg H0'' (.tup [d1, d2]) (.ref T) := by
  have s0 : Same H0 (upd H0 T (.tup [x, y])) := same_upd0 (s.free hT)
  refine ⟨upd H0 T (.tup [x, y]), same_upd0 hT, s0, same_upd2 s, fun a o e => ?_, T, [x, y], rfl, .inl (.inl upd_same), x, [y], rfl, Fz.mono s0 _ _ h1, y, [], rfl, Fz.mono s0 _ _ h2, rfl⟩
  by_cases z : a = T
  · exact .inr (by rw [z]; exact hT)
  · rw [upd_ne z] at e; exact .inl ⟨o, e⟩
theorem VI.enm {p tpos : Pos} {elts : List Expr} {kk : Nat} (h : VB G N S bs ms e f) (hm : G.mg "enumerate" = none) (hg : Glb S "enumerate" := by rfl) (hs : ∀ env, starEach [e] env = [(false, eval e env)] := by intro _; rfl) :
    VI G N S bs ms (.Tuple elts kk tpos) (.Call (.Name "enumerate" p) [e] [] pos) (iEnm f) := by
  refine fun R a W t => PI.imp (pi_enum (a.gl hg) hm (pa_cons (pe_small (h R a W t)) pa_nil (hs _)) (hs _)) fun σ H Q ⟨ρ, H0, c, l, o⟩ => ?_
  refine ⟨ρ, H0, c, l, (Out.bind (G := FB G.K G.mg bs) (ms1 := ms) back_FI o fun i e => e).imp fun x H1 ⟨d, H01, c1, ρ1, e1, s1, l1, b1, h1⟩ hs => ?_⟩
  cases hd : asLst d with
  | none => rw [hd] at h1; exact h1.elim
  | some ds =>
    rw [hd] at h1
    obtain ⟨q, vs, P, e2, sq, fz, hl, p1, sP, kp⟩ := LSrc.of l1.sub b1 (asLst_or hd) hs
    refine ⟨q, vs, by rw [e2], sq, h1 _ H01 H1 c1 .refl l1 ⟨by rw [enumD_len]; exact hl, P, p1, sP, fun H0' H c s1 s2 p => ?_⟩⟩
    have hq := kp H0' H c s1 s2 p
    refine ⟨fun i d e => ?_, ⟨vs, hq, by rw [fz.length, enumD_len]; exact Nat.le_refl _⟩⟩
    obtain ⟨d', g1, g2⟩ := enumD_get ds 0 i d e
    obtain ⟨v, v1, v2⟩ := fz.get g1
    refine ⟨⟨vs, v, hq, v1⟩, fun x H' ⟨T, x', k1, k2, k3, k4⟩ => ?_⟩
    have k5 := k4 vs hq
    rw [v1] at k5
    cases k5
    subst k1 k3 g2
    exact same_pair s2 k2 (by show V.int _ = V.int _; rw [Int.zero_add]) (Fz.mono s1 d' v v2)
def iZp (fa fb : M D) : M (List D) := fun r => (fa r).bind fun x r => (fb r).bind fun y => rM ((asLst x).bind fun xs => (asLst y).map fun ys => zipD xs ys)
theorem LSrc.on {K : PySem.W.Frag} {mg : Str → Option Value} {H0 H H0' H' : Hp} {c c' : Co} {ds : List D} {v : V} (h : LSrc K mg bs H0 H c ds v) (s : Step ms H0 H c H0' H' c') (l : Same H0' H') (dj : Dj bs ms) : LSrc K mg bs H0' H' c' ds v := by
  obtain ⟨a, vs, P, e, q, fz, hl, p, sP, kp⟩ := h
  have p' := sP.run _ _ _ _ _ _ _ dj p s
  exact ⟨a, vs, P, e, kp H0' H' c' s.grow l p', Fzs.mono s.grow ds vs fz, hl, p', sP, fun H0'' H'' c'' s1 s2 p => kp H0'' H'' c'' (s.grow.trans s1) s2 p⟩
theorem Stays.and {P1 P2 : Hp → Co → Prop} (h1 : Stays bs1 P1) (h2 : Stays bs2 P2) : Stays (msU bs1 bs2) (fun H c => P1 H c ∧ P2 H c) :=
  ⟨fun ms H0 H c H0' H' c' dj p s => ⟨h1.run ms _ _ _ _ _ _ (fun i e => dj i (or_l e)) p.1 s, h2.run ms _ _ _ _ _ _ (fun i e => dj i (or_r e)) p.2 s⟩, fun H c a o h p => ⟨h1.oth H c a o h p.1, h2.oth H c a o h p.2⟩⟩
theorem VI.zp {p tpos : Pos} {elts : List Expr} {kk : Nat} (ha : VB G N S bs1 ms1 a fa) (hb : VB G N S bs2 ms2 b fb) (hm : G.mg "zip" = none) (dj : Dj bs1 ms2 := by intro i h; first | rfl | exact absurd h Bool.false_ne_true | (simp [lentM] at h ⊢ <;> omega)) (hg : Glb S "zip" := by rfl) (hs : ∀ env, starEach [a, b] env = (false, eval a env) :: starEach [b] env := by intro _; rfl) (hs2 : ∀ env, starEach [b] env = [(false, eval b env)] := by intro _; rfl)
    (hpl : ∀ env, (backTo pos (starEach [b] env)).any (·.1) = false := by intro _; rfl) : VI G N S (msU bs1 bs2) (msU ms1 ms2) (.Tuple elts kk tpos) (.Call (.Name "zip" p) [a, b] [] pos) (iZp fa fb) := by
  refine fun R a W t => PI.imp (pi_zip (a.gl hg) hm (pa_cons (pe_small (ha R a W t)) (pa_cons (pe_small (hb R a W t)) pa_nil (hs2 _)) (hs _)) (hs _) (hpl _)) fun σ H Q ⟨ρ, H0, c, l, o⟩ => ?_
  refine ⟨ρ, H0, c, l, (Out.bind (G := FB G.K G.mg bs1) (ms1 := ms1) back_FI o fun i e => or_l e).imp fun x H1 ⟨d, H01, c1, ρ1, e1, s1, l1, b1, h1⟩ hz1 => ?_⟩
  refine ⟨ρ1, H01, c1, l1, (Out.bind (G := FB G.K G.mg bs2) (ms1 := ms2) back_FI h1 fun i e => or_r e).imp fun y H2 ⟨d2, H02, c2, ρ2, e2, s2, l2, b2, h2⟩ hz2 => ?_⟩
  cases hd : asLst d with
  | none => rw [hd] at h2; exact h2.elim
  | some ds =>
    cases hd2 : asLst d2 with
    | none => rw [hd, hd2] at h2; exact h2.elim
    | some ds2 =>
      rw [hd, hd2] at h2
      obtain ⟨q, vs, P, e3, sq, fz, hl, p1, sP, kp⟩ := (LSrc.of l1.sub b1 (asLst_or hd) hz1).on s2 l2.sub dj
      obtain ⟨q2, vs2, P2, e4, sq2, fz2, hl2, p2, sP2, kp2⟩ := LSrc.of l2.sub b2 (asLst_or hd2) hz2
      refine ⟨q, q2, vs, vs2, by rw [e3, e4], sq, sq2, h2 _ H02 H2 c2 .refl l2 ⟨by rw [zipD_len]; exact Nat.le_trans (Nat.min_le_left _ _) hl, fun H c => P H c ∧ P2 H c, ⟨p1, p2⟩, .and sP sP2, fun H0' H c s1 s2 p => ?_⟩⟩
      have hq := kp H0' H c s1 s2 p.1
      have hq2 := kp2 H0' H c s1 s2 p.2
      refine ⟨fun i d e => ?_, ⟨vs, vs2, hq, hq2, by rw [fz.length, fz2.length, zipD_len]; omega⟩⟩
      obtain ⟨d', d2', g1, g1', g2⟩ := zipD_get ds ds2 i d e
      obtain ⟨v, v1, v2⟩ := fz.get g1
      obtain ⟨v', v1', v2'⟩ := fz2.get g1'
      refine ⟨⟨vs, vs2, v, v', hq, hq2, v1, v1'⟩, fun x H' ⟨T, x', y', k1, k2, k3, k4, k4'⟩ => ?_⟩
      have k5 := k4 vs hq
      rw [v1] at k5
      cases k5
      have k5' := k4' vs2 hq2
      rw [v1'] at k5'
      cases k5'
      subst k1 k3 g2
      exact same_pair s2 k2 (Fz.mono s1 d' v v2) (Fz.mono s1 d2' v' v2')
def iStrs (f : M D) : M (List D) := fun r => (f r).bind fun d r => match d with
  | .str s => .ok (s.map fun c => .str [c]) r
  | _ => .bad
theorem VI.str (h : VO G N S .z ms e f) : VI G N S bs ms tg e (iStrs f) := by
  refine fun R a W t => PI.imp (pi_str (h R a W t)) fun σ H Q ⟨ρ, H0, c, l, o⟩ => ?_
  refine ⟨ρ, H0, c, l, (Out.bind (G := FO G.K G.mg .z ms) (ms1 := ms) back_FI o fun i e => e).imp fun x H1 ⟨d, H01, c1, ρ1, e1, s1, l1, ⟨fp, o1, f1⟩, h1⟩ => ?_⟩
  have z := (Ow.zero.mp o1).2
  cases d with
  | str s =>
    obtain ⟨z1, z2⟩ : x = sV s ∧ sOk s = true := z
    have hk := z2
    unfold sOk at hk
    simp only [Bool.and_eq_true, decide_eq_true_eq, List.all_eq_true] at hk
    refine ⟨_, z1, h1 _ H01 H1 c1 .refl l1 ⟨by rw [List.length_map]; exact hk.1, fun _ _ => True, trivial, .tt, fun H0' H c s1 s2 p => ⟨fun i d e => ?_, ?_⟩⟩⟩
    · rw [List.getElem?_map] at e
      cases hg : s[i]? with
      | none => rw [hg] at e; cases e
      | some ch =>
        rw [hg] at e
        cases e
        obtain ⟨hi, hg2⟩ := List.getElem?_eq_some_iff.mp hg
        refine ⟨by show i < s.toArray.size; simpa using hi, fun x H' ⟨e3, c', e4, e5⟩ => ?_⟩
        have e4 : s.toArray[i]? = some c' := e4
        rw [List.getElem?_toArray, hg] at e4
        cases e4
        subst e3 e5
        refine ⟨H0', Same.refl _, Same.refl _, s2, fun a o q => .inl ⟨o, q⟩, rfl, ?_⟩
        unfold sOk
        simp only [List.length_singleton, List.all_cons, List.all_nil, Bool.and_true, Bool.and_eq_true, decide_eq_true_eq]
        exact ⟨by omega, by have := hk.2 ch (by rw [← hg2]; exact List.getElem_mem hi); simpa using this⟩
    · show s.toArray.size ≤ _
      simp
  | _ => exact h1.elim
def iRevd (f : M D) : M (List D) := fun r => (f r).bind fun d => rM ((asLst d).map List.reverse)
theorem VI.revd {p : Pos} (h : VB G N S bs ms e f) (hm : G.mg "reversed" = none) (hg : Glb S "reversed" := by rfl) (hs : ∀ env, starEach [e] env = [(false, eval e env)] := by intro _; rfl) : VI G N S bs ms tg (.Call (.Name "reversed" p) [e] [] pos) (iRevd f) := by
  refine fun R a W t => PI.imp (pi_reversed (a.gl hg) hm (pa_cons (pe_small (h R a W t)) pa_nil (hs _)) (hs _)) fun σ H Q ⟨ρ, H0, c, l, o⟩ => ?_
  refine ⟨ρ, H0, c, l, (Out.bind (G := FB G.K G.mg bs) (ms1 := ms) back_FI o fun i e => e).imp fun x H1 ⟨d, H01, c1, ρ1, e1, s1, l1, b1, h1⟩ hs => ?_⟩
  cases hd : asLst d with
  | none => rw [hd] at h1; exact h1.elim
  | some ds =>
    rw [hd] at h1
    obtain ⟨q, vs, P, e2, sq, fz, hl, p1, sP, kp⟩ := LSrc.of l1.sub b1 (asLst_or hd) hs
    refine ⟨q, vs, by rw [e2], sq, h1 _ H01 H1 c1 .refl l1 ⟨by rw [List.length_reverse]; exact hl, P, p1, sP, fun H0' H c s1 s2 p => ?_⟩⟩
    have hq := kp H0' H c s1 s2 p
    have hlen := fz.length
    refine ⟨fun i d e => ?_, by show vs.length ≤ _; rw [List.length_reverse, hlen]; exact Nat.le_refl _⟩
    obtain ⟨hi, _⟩ := List.getElem?_eq_some_iff.mp e
    rw [List.length_reverse] at hi
    rw [List.getElem?_reverse hi] at e
    obtain ⟨v, v1, v2⟩ := fz.get e
    rw [← hlen] at v1
    refine ⟨⟨by rw [hlen]; exact hi, vs, v, hq, v1⟩, fun x H' ⟨k1, k2⟩ => ?_⟩
    have k5 := k2 vs hq
    rw [v1] at k5
    cases k5
    subst k1
    exact ⟨H0', Same.refl _, Same.refl _, s2, fun a o q => .inl ⟨o, q⟩, Fz.mono s1 d v v2⟩
end
end Vm
set_option Elab.async false
set_option linter.all false
set_option maxRecDepth 100000
set_option maxHeartbeats 4000000
namespace Vm
open PySem PySem.Spec PyProof.Rows L2
section
variable {G : GC} {N : List Str} {S : SC} {bs bs1 bs2 ms ms1 ms2 ms3 as : Ms} {m : Md} {k : Kd} {e a b : Expr} {es : List Expr} {f fa fb : M D} {fs : M (List D)} {pos : Pos} {tg : Expr}
/-- a new dict: of int, str keys -/
theorem VO.dct0 : VO G N S (.o k) ms0 (.Dict [] [] pos) (eC (.dct [] [])) := by
  refine fun R a W t => pe_dnewK.imp fun σ H Q ⟨ρ, H0, c, l, o⟩ => ?_
  intro p hp
  refine Out.new o l hp ⟨p, [], [], rfl, rfl, ⟨[], upd_same, rfl, rfl, rfl⟩, rfl, rfl⟩
end
end Vm
set_option Elab.async false
set_option linter.all false
set_option maxRecDepth 100000
set_option maxHeartbeats 4000000
namespace Vm
open PySem PySem.Spec PyProof.Rows L2

/-! ### what stands in the module -/
mutual
def relD (K : PySem.W.Frag) : D → Value → Bool
  | .non, .none => true
  | .bl b, .bool c => b == c
  | .int i, .int j _ => decide (i = j)
  | .str s, .str x _ => decide (x = ⟨s.toArray⟩) && sOk s
  | .tup ds, .ref a => match K.lookup a with
    | some ⟨.type c, _, .seq its _, _⟩ => decide (c = "tuple") && (decide (its.size ≤ sizeLine) && relDs K ds its.toList)
    | _ => false
  | _, _ => false
def relDs (K : PySem.W.Frag) : List D → List Value → Bool
  | [], [] => true
  | d :: ds, u :: us => relD K d u && relDs K ds us
  | _, _ => false
end
mutual
theorem relD_ok {K : PySem.W.Frag} {mg : Str → Option Value} {H : Hp} : ∀ (d : D) (u : Value), relD K d u = true → ∃ v, RelV v u ∧ Fz K mg H d v
  | .non, u, h => by cases u <;> first | exact ⟨.non, rfl, rfl⟩ | cases h
  | .bl b, u, h => by
    cases u <;> first | cases h | skip
    rename_i c
    have e : b = c := eq_of_beq (show (b == c) = true from h)
    exact ⟨.bl b, by rw [e]; rfl, rfl⟩
  | .int i, u, h => by
    cases u <;> first | cases h | skip
    rename_i j t
    have e : i = j := of_decide_eq_true h
    exact ⟨.int i, ⟨t, by rw [e]⟩, rfl⟩
  | .str s, u, h => by
    cases u <;> first | cases h | skip
    rename_i x t
    obtain ⟨h1, h2⟩ := He.ba (show (decide (x = ⟨s.toArray⟩) && sOk s) = true from h)
    exact ⟨sV s, ⟨t, by rw [of_decide_eq_true h1]⟩, rfl, h2⟩
  | .tup ds, u, h => by
    cases u <;> first | cases h | skip
    rename_i a
    unfold relD at h
    cases q : K.lookup a with
    | none => rw [q] at h; cases h
    | some o =>
      obtain ⟨oc, od, dt, osl⟩ := o
      rw [q] at h
      cases oc <;> first | cases h | skip
      rename_i c
      cases dt <;> first | cases h | skip
      rename_i its n
      obtain ⟨h1, h2⟩ := He.ba (show (decide (c = "tuple") && (decide (its.size ≤ sizeLine) && relDs K ds its.toList)) = true from h)
      obtain ⟨h3, h4⟩ := He.ba h2
      obtain ⟨vs, r, f⟩ := relDs_ok (mg := mg) (H := H) ds its.toList h4
      exact ⟨.ref a, rfl, a, vs, rfl, .inr ⟨_, its, n, q, congrArg Value.type (of_decide_eq_true h1), rfl, of_decide_eq_true h3, r⟩, f⟩
  | .lst _, u, h => by cases u <;> cases h
  | .dct _ _, u, h => by cases u <;> cases h
  | .ins _ _ _, u, h => by cases u <;> cases h
  | .scr _, u, h => by cases u <;> cases h
theorem relDs_ok {K : PySem.W.Frag} {mg : Str → Option Value} {H : Hp} : ∀ (ds : List D) (us : List Value), relDs K ds us = true → ∃ vs, Vals vs us ∧ Fzs K mg H ds vs
  | [], [], _ => ⟨[], .nil, rfl⟩
  | d :: ds, u :: us, h => by
    obtain ⟨h1, h2⟩ := He.ba (show (relD K d u && relDs K ds us) = true from h)
    obtain ⟨v, r, f⟩ := relD_ok (mg := mg) (H := H) d u h1
    obtain ⟨vs, rs, fs⟩ := relDs_ok (mg := mg) (H := H) ds us h2
    exact ⟨v :: vs, .cons r rs, v, vs, rfl, f, fs⟩
  | [], _ :: _, h => by cases h
  | _ :: _, [], h => by cases h
end
def glbB (K : PySem.W.Frag) (p : Str × D) : Bool := match PySem.W.nsIn K mainGlobals p.1 with
  | some (some u) => relD K p.2 u
  | _ => false
/-- what the top has written -/
structure Says (fa : List He.Fa) (fn : List He.DefD) (cs : List (Str × D)) (K : PySem.W.Frag) : Prop where
  d : He.SaysD fa fn K
  c : (cs.all fun p => glbB K p) = true
abbrev AlV : Type := He.AlD × Bool
def obsV (n : Nat) (fa : List He.Fa) (fn : List He.DefD) (cs : List (Str × D)) (g : Addr → Option Obj) : AlV := (He.obsD fa fn (He.frG g (He.asD g n)), cs.all fun p => glbB (He.frG g (He.asD g n)) p)
def hookV (n : Nat) (fa : List He.Fa) (fn : List He.DefD) (cs : List (Str × D)) : PySem.W.Hook where
  α := AlV
  obs := fun s => obsV n fa fn cs s.heap.get?
  val := fun _ => (He.valD fn, true)
  says := fun _ h => ∃ K : PySem.W.Frag, K.In h ∧ Says fa fn cs K
  of := fun _ _ e => ⟨_, He.frG_in, congrArg (fun z : AlV => z.1) e, congrArg (fun z : AlV => z.2) e⟩
  keeps := fun _ _ _ ⟨K, hK, c⟩ k => ⟨K, PySem.W.Frag.In.keeps hK k, c⟩
theorem obsV_eq {n : Nat} {fa : List He.Fa} {fn : List He.DefD} {cs : List (Str × D)} {g : Addr → Option Obj} {s : Shared} (h : ∀ a, g a = s.heap.get? a) : obsV n fa fn cs g = (hookV n fa fn cs).obs s := by
  have e : g = s.heap.get? := funext h
  rw [e] <;> rfl
/-- where one stands: a world in which the top has written this -/
structure Ye (fa : List He.Fa) (fn : List He.DefD) (cs : List (Str × D)) (G : GC) : Prop where
  h : ∃ h : Heap, G.K.In h ∧ h.Ns mainGlobals G.mg
  s : Says fa fn cs G.K
/-- a def of the module -/
structure Fx (G : GC) (k : Nat) (x : Str) (ps : List Str) (rm : Md) (F : M D) : Prop where
  ex : ∃ f fd, G.mg x = some (.ref f) ∧ PySem.W.keepIn G.K (.ref f) = true ∧ Binds G.K fd ps [] ∧ FnV G k f fd ps rm F ∧ (∃ o od sl, G.K.lookup f = some ⟨o, od, .func fd, sl⟩) ∧ ∀ (s : Shared) (us : List Value), us.length = ps.length → BindsTo s fd ⟨us, []⟩ (ps.zip us)
section
variable {fa : List He.Fa} {fn : List He.DefD} {cs : List (Str × D)} {G : GC}
theorem Ye.fact (Y : Ye fa fn cs G) (i : Nat) {f : He.Fa} (h : fa[i]? = some f := by rfl) : f.ok G.K = true := Y.s.d.fact i h
theorem Ye.free (Y : Ye fa fn cs G) (i : Nat) {x : Str} (h : fa[i]? = some (.free x) := by rfl) : G.mg x = none := by
  obtain ⟨h0, X, N⟩ := Y.h
  exact He.free_ok X N (Y.fact i h)
theorem Ye.glob (Y : Ye fa fn cs G) (i : Nat) {x : Str} {d : D} (h : cs[i]? = some (x, d) := by rfl) : GlobC G x d := by
  obtain ⟨h0, X, N⟩ := Y.h
  have c := List.all_eq_true.mp Y.s.c _ (List.mem_of_getElem? h)
  unfold glbB at c
  cases e : PySem.W.nsIn G.K mainGlobals x with
  | none => simp only [e] at c; cases c
  | some r =>
    simp only [e] at c
    cases r with
    | none => cases c
    | some u =>
      obtain ⟨v, r, f⟩ := relD_ok (mg := G.mg) (H := Hp0) d u c
      exact ⟨v, u, PySem.W.mg_of X N e, r, f⟩
theorem Fx.mk' (Y : Ye fa fn cs G) (i j : Nat) {d : He.DefD} {x : Str} {k : Nat} {N ps : List Str} {rm : Md} {g : M Fl} {as : Ms} (io : List Bool) (n : Nat) (hb : VSs G N ⟨d.scope, fun _ => true, k, true⟩ rm as d.body g)
    (hbi : ∀ (kV doc pm : Value) (an : Option Addr) (cdv ct : Value) (us : List Value), us.length = ps.length → bindArgs (PySem.W.fnOf d.name d.qual d.params d.body d.scope .none kV doc pm an cdv ct) ⟨us, []⟩ = pure (ps.zip us))
    (Sc : FnScope N ps d.scope) (hd : fn[i]? = some d := by rfl) (hj : fa[j]? = some (.glo x) := by rfl) (hx : d.at_ = (x, none) := by rfl) (h0 : d.dfl = [] := by rfl) (hio : io.length = ps.length := by rfl) (hn : N.length = ps.length + n := by rfl)
    (has : ∀ i, io.getD i false = true → as i = false := by intro i h; rcases i with _ | _ | _ | _ | _ | _ | i <;> first | rfl | (cases h)) : Fx G (k + 1) x ps rm (fnRun io n g) := by
  obtain ⟨h, X, Nn⟩ := Y.h
  obtain ⟨fd, F⟩ := Y.s.d.def_ i hd
  have e : G.mg x = some (.ref (He.fAd G.K d.at_)) := by
    rw [hx]
    exact He.glo_ok X Nn (Y.fact j hj)
  have e0 : d.dvs G.K = [] := by unfold He.DefD.dvs; rw [h0]; rfl
  rw [e0] at F
  refine ⟨_, fd, e, F.kp, F.bindsN hbi, FnV.mk F Sc io n hb hio hn has, ?_, F.bindsA hbi⟩
  obtain ⟨oc, od, dV, kV, doc, pm, an, cdv, ct, osl, _, lk, _⟩ := F.ex
  exact ⟨oc, od, osl, lk⟩
variable {N : List Str} {S : SC} {bs ms ms1 ms2 : Ms} {rm : Md} {k : Nat} {e : Expr} {es : List Expr} {fs : M (List D)} {pos p : Pos} {ls : List (Option Nat)} {F : M D} {ps : List Str} {x : Str}
theorem VO.callX (hF : Fx G k x ps rm F) (ha : VM G N S ls ms (e :: es) fs) (hk' : k ≤ S.k := by decide) (hc : S.cm = true := by rfl) (nd : (ls.filterMap id).Nodup := by decide) (hl : ls.length = ps.length := by rfl) (hg : Glb S x := by rfl)
    (hdb : (x == ("__debug__" : Str)) = false := by decide) (he : ∀ env, starEach (e :: es) env = (false, eval e env) :: starEach es env := by intro _; rfl) (hpl : ∀ env, (backTo pos (starEach es env)).any (·.1) = false := by intro _; rfl) :
    VO G N S rm (msU ms (lentM ls)) (.Call (.Name x p) (e :: es) [] pos) (fCall F ls fs) := by
  obtain ⟨f, fd, h1, h2, h3, h4, _⟩ := hF.ex
  exact VO.call h4 h1 h2 h3 ha hk' hc nd hl hg hdb he hpl
end
/-! ### a law's end -/
theorem lawEnd {l : PySem.W.OpenLaw} {n k : Nat} {q : Program} {loose : List Str} {XP : (Str → Option Value) → Heap → Prop} {d : DefRec} {x : Str} {fa : List He.Fa} {fn : List He.DefD} {cs : List (Str × D)} {N : Nat}
    (hn : l.most = some n) (hn2 : n ≤ sizeLine) (hd : d.params.defaults = []) (hr : Room k callerA) (F : M D) (hx : d.name = ("law" : Str))
    (hF : ∀ (G : GC), G.P = l.prog → Ye fa fn cs G → Fx G k ("law" : Str) [x] .z F)
    (hp : ∀ ns : List Int, ns.length ≤ n → (∀ z ∈ ns, Builtin.Int.intBits z ≤ 1048576) → ∃ r, F [some (.z, .scr ns)] = .ok (.bl true) r) :
    PySem.W.WalkO q loose XP (hookV N fa fn cs).says l.row.toRowW d [] (fun f vs => PySem.call f vs) := by
  refine Att.attach_callB hn hd fun w t0 t1 mg mb f obj pm cd doc adr xs ns gr says ho ho2 hcd hf hadr hints hlen hbits hgen => ?_
  obtain ⟨K, KX, c⟩ := says
  rw [hx] at hf
  have gy : ∀ base : Heap, K.In base → base.Ns mainGlobals mg → Ye fa fn cs (⟨l.prog, w, K, mg, base⟩ : GC) := fun base b1 b2 => ⟨⟨base, b1, b2⟩, c⟩
  have gn := gr.T.g
  obtain ⟨f', fd, e1, _, _, _, ⟨o1, od1, sl1, lk1⟩, bt⟩ := (hF ⟨l.prog, w, K, mg, t1.heap⟩ rfl (gy _ KX gn)).ex
  have e1 : mg ("law" : Str) = some (.ref f') := e1
  rw [hf] at e1
  cases e1
  refine law_call KX gn gr.T.b gr.T.builtins gr.T.nolimit hgen hadr hints (Nat.le_trans hlen hn2) hr (CX := L2.CX l.prog w) (fd := fd) (sp := spV ⟨l.prog, w, K, mg, t1.heap⟩ F 1 .z) (fun base b1 b2 => ?_) (fun s u => bt s [u] rfl) (fun H _ hS => ?_) fun H e s' z => ?_
  · obtain ⟨f2, fd2, e2, _, _, h4, ⟨o2, od2, sl2, lk2⟩, _⟩ := (hF ⟨l.prog, w, K, mg, base⟩ rfl (gy base b1 b2)).ex
    have e2 : mg ("law" : Str) = some (.ref f2) := e2
    rw [hf] at e2
    cases e2
    have lk2 : K.lookup f = some ⟨o2, od2, .func fd2, sl2⟩ := lk2
    have lk1 : K.lookup f = some ⟨o1, od1, .func fd, sl1⟩ := lk1
    rw [lk1] at lk2
    cases lk2
    exact h4
  · obtain ⟨r, hr⟩ := hp ns hlen hbits
    refine ⟨rfl, [some (.z, .scr ns)], H, fun _ => none, ⟨Same.refl _, fun _ _ z => (by cases z), fun _ _ z => (by cases z), rfl, fun i m d e => ?_⟩, ?_⟩
    · rcases i with _ | i
      · cases e
        exact ⟨.ref adr, [], rfl, ⟨rfl, adr, rfl, hS⟩, List.nodup_nil, by simp⟩
      · simp [getS] at e
    · rw [hr]
      intro v H0' H' c' _ _ ⟨fp, o, _⟩
      exact (Ow.zero.mp o).2
  · obtain ⟨a, B, H', cls, dd, _, _, _, _, _, _, _, z⟩ := z
    exact z
end Vm
set_option Elab.async false
set_option linter.all false
set_option maxRecDepth 100000
set_option maxHeartbeats 4000000
namespace Vm
open PySem PySem.Spec PyProof.Rows L2
section
variable {G : GC} {N : List Str} {S : SC} {bs bs1 bs2 ms ms1 ms2 ms3 as : Ms} {m : Md} {k : Kd} {e a b : Expr} {es : List Expr} {f fa fb : M D} {fs : M (List D)} {pos : Pos} {tg : Expr}
theorem At.u100 {X : Cx} (a : At S N X) (hc : S.cm = true) : X.A.units + 100 < cLine := by
  have := (a.room hc).un
  omega
/-! ### operators by name -/
theorem VO.add (ha : VB G N S bs1 ms1 a fa) (hb : VB G N S bs2 ms2 b fb) (dj : Dj bs1 ms2 := by intro i h; first | rfl | exact absurd h Bool.false_ne_true | (simp [lentM] at h ⊢ <;> omega)) : VO G N S .z (msU ms1 ms2) (.BinOp a .Add b pos) (fOp2 oAdd fa fb) := .op (fun _ _ => op_addV) ru_add ha hb dj
theorem VO.addL (ha : VB G N S bs1 ms1 a fa) (hb : VB G N S bs2 ms2 b fb) (dj : Dj bs1 ms2 := by intro i h; first | rfl | exact absurd h Bool.false_ne_true | (simp [lentM] at h ⊢ <;> omega)) : VO G N S m1 (msU ms1 ms2) (.BinOp a .Add b pos) (fOp2 oAddL fa fb) := .op (fun _ _ => op_cat) ru_addL ha hb dj
theorem VO.sub (ha : VB G N S bs1 ms1 a fa) (hb : VB G N S bs2 ms2 b fb) (dj : Dj bs1 ms2 := by intro i h; first | rfl | exact absurd h Bool.false_ne_true | (simp [lentM] at h ⊢ <;> omega)) : VO G N S .z (msU ms1 ms2) (.BinOp a .Sub b pos) (fOp2 oSub fa fb) := .op (fun _ _ => op_rI0 op_sub) ru_sub ha hb dj
theorem VO.mul (ha : VB G N S bs1 ms1 a fa) (hb : VB G N S bs2 ms2 b fb) (dj : Dj bs1 ms2 := by intro i h; first | rfl | exact absurd h Bool.false_ne_true | (simp [lentM] at h ⊢ <;> omega)) : VO G N S .z (msU ms1 ms2) (.BinOp a .Mult b pos) (fOp2 oMul fa fb) := .op (fun _ _ => op_mulV) ru_mul ha hb dj
theorem VO.fdiv (ha : VB G N S bs1 ms1 a fa) (hb : VB G N S bs2 ms2 b fb) (dj : Dj bs1 ms2 := by intro i h; first | rfl | exact absurd h Bool.false_ne_true | (simp [lentM] at h ⊢ <;> omega)) : VO G N S .z (msU ms1 ms2) (.BinOp a .FloorDiv b pos) (fOp2 oFdiv fa fb) := .op (fun _ _ => op_fdivW) ru_fdiv ha hb dj
theorem VO.mod (ha : VB G N S bs1 ms1 a fa) (hb : VB G N S bs2 ms2 b fb) (dj : Dj bs1 ms2 := by intro i h; first | rfl | exact absurd h Bool.false_ne_true | (simp [lentM] at h ⊢ <;> omega)) : VO G N S .z (msU ms1 ms2) (.BinOp a .Mod b pos) (fOp2 oMod fa fb) := .op (fun _ _ => op_mod) ru_mod ha hb dj
theorem VO.pow (ha : VB G N S bs1 ms1 a fa) (hb : VB G N S bs2 ms2 b fb) (dj : Dj bs1 ms2 := by intro i h; first | rfl | exact absurd h Bool.false_ne_true | (simp [lentM] at h ⊢ <;> omega)) : VO G N S .z (msU ms1 ms2) (.BinOp a .Pow b pos) (fOp2 oPow fa fb) := .op (fun _ _ => op_pow) ru_pow ha hb dj
/-- a comparison by name, as a value and as a test -/
structure Cm (G : GC) (N : List Str) (S : SC) (op : CmpOp) (o : D → D → Option D) : Prop where
  ex : ∃ r, (∀ R, At S N (mkX G N R) → OpR (mkX G N R) (compareOp op) r) ∧ Ru2 G r .z o
theorem Cm.eq (hc : S.cm = true := by rfl) : Cm G N S .Eq oEq := ⟨_, fun _ a => op_eqV (a.u100 hc), ru_eq⟩
theorem Cm.ne (hc : S.cm = true := by rfl) : Cm G N S .NotEq oNe := ⟨_, fun _ a => op_neV (a.u100 hc), ru_ne⟩
theorem Cm.lt : Cm G N S .Lt oLtI := ⟨_, fun _ _ => op_rI0 op_lt, ru_ltI⟩
theorem Cm.le : Cm G N S .LtE oLeI := ⟨_, fun _ _ => op_rI0 op_le, ru_leI⟩
theorem Cm.gt : Cm G N S .Gt oGtI := ⟨_, fun _ _ => op_rI0 op_gt, ru_gtI⟩
theorem Cm.ge : Cm G N S .GtE oGeI := ⟨_, fun _ _ => op_rI0 op_ge, ru_geI⟩
theorem Cm.in_ (hc : S.cm = true := by rfl) : Cm G N S .In oIn := ⟨_, fun _ a => op_inV (a.u100 hc), ru_in⟩
theorem Cm.nin (hc : S.cm = true := by rfl) : Cm G N S .NotIn oNotIn := ⟨_, fun _ a => op_notInV (a.u100 hc), ru_notIn⟩
theorem Cm.is : Cm G N S .Is oIs := ⟨_, fun _ _ => op_isV, ru_is⟩
theorem Cm.isn : Cm G N S .IsNot oIsNot := ⟨_, fun _ _ => op_isNotV, ru_isNot⟩
theorem VO.cp {op : CmpOp} {o : D → D → Option D} (c : Cm G N S op o) (ha : VB G N S bs1 ms1 a fa) (hb : VB G N S bs2 ms2 b fb) (dj : Dj bs1 ms2 := by intro i h; first | rfl | exact absurd h Bool.false_ne_true | (simp [lentM] at h ⊢ <;> omega)) (hm : behindInMarks op b = false := by first | exact nomark _ | rfl) : VO G N S .z (msU ms1 ms2) (.Compare a [op] [b] pos) (fOp2 o fa fb) := by
  obtain ⟨r, h1, h2⟩ := c.ex
  exact .cmp h1 h2 ha hb dj hm
theorem VT.cp {op : CmpOp} {o : D → D → Option D} (c : Cm G N S op o) (ha : VB G N S bs1 ms1 a fa) (hb : VB G N S bs2 ms2 b fb) (dj : Dj bs1 ms2 := by intro i h; first | rfl | exact absurd h Bool.false_ne_true | (simp [lentM] at h ⊢ <;> omega)) (hm : behindInMarks op b = false := by first | exact nomark _ | rfl) : VT G N S (msU ms1 ms2) (.Compare a [op] [b] pos) (fB (fOp2 o fa fb)) := by
  obtain ⟨r, h1, h2⟩ := c.ex
  exact .cmp h1 h2 ha hb dj hm
theorem VO.item (ha : VB G N S bs1 ms1 a fa) (hb : VB G N S bs2 ms2 b fb) (dj : Dj bs1 ms2 := by intro i h; first | rfl | exact absurd h Bool.false_ne_true | (simp [lentM] at h ⊢ <;> omega)) (hp : PlainIx b := by exact fun _ _ => rfl) : VO G N S .z (msU ms1 ms2) (.Subscript a b pos) (fOp2 oIx fa fb) := .ix (fun _ _ => ix_seq) ru_ix ha hb dj hp
theorem VO.cut {lo hi : Option Expr} {fl fh : M (Option Int)} {p2 : Pos} (ha : VB G N S bs1 ms1 e f) (hl : VP G N S ms2 lo fl) (hh : VP G N S ms3 hi fh) (dj : Dj bs1 ms2 := by intro i h; first | rfl | exact absurd h Bool.false_ne_true | (simp [lentM] at h ⊢ <;> omega)) (dj2 : Dj bs1 ms3 := by intro i h; first | rfl | exact absurd h Bool.false_ne_true | (simp [lentM] at h ⊢ <;> omega)) :
    VO G N S .z (msU ms1 (msU ms2 ms3)) (.Subscript e (.Slice lo hi none p2) pos) (fSl oCut f fl fh) := .sl (fun _ _ => sl_V) ru_cut ha hl hh dj dj2
theorem VO.cutL {lo hi : Option Expr} {fl fh : M (Option Int)} {p2 : Pos} (ha : VB G N S bs1 ms1 e f) (hl : VP G N S ms2 lo fl) (hh : VP G N S ms3 hi fh) (dj : Dj bs1 ms2 := by intro i h; first | rfl | exact absurd h Bool.false_ne_true | (simp [lentM] at h ⊢ <;> omega)) (dj2 : Dj bs1 ms3 := by intro i h; first | rfl | exact absurd h Bool.false_ne_true | (simp [lentM] at h ⊢ <;> omega)) :
    VO G N S m1 (msU ms1 (msU ms2 ms3)) (.Subscript e (.Slice lo hi none p2) pos) (fSl oCutL f fl fh) := .sl (fun _ _ => sl_list) (ru_cutL (.inr rfl)) ha hl hh dj dj2
/-! ### built-ins by name -/
variable {p : Pos}
theorem VO.len (hm : G.mg "len" = none) (ha : VA G N S bs ms (e :: es) fs) (hg : Glb S "len" := by rfl) (he : ∀ env, starEach (e :: es) env = (false, eval e env) :: starEach es env := by intro _; rfl) (hpl : ∀ env, (backTo pos (starEach es env)).any (·.1) = false := by intro _; rfl) :
    VO G N S .z ms (.Call (.Name "len" p) (e :: es) [] pos) (fA oLen fs) := .callB (fun _ _ => call_len) ru_len hm boot_len ha hg (by decide) (by decide) he hpl
theorem VO.all (hm : G.mg "all" = none) (ha : VA G N S bs ms (e :: es) fs) (hc : S.cm = true := by rfl) (hg : Glb S "all" := by rfl) (he : ∀ env, starEach (e :: es) env = (false, eval e env) :: starEach es env := by intro _; rfl) (hpl : ∀ env, (backTo pos (starEach es env)).any (·.1) = false := by intro _; rfl) :
    VO G N S .z ms (.Call (.Name "all" p) (e :: es) [] pos) (fA oAll fs) := .callB (fun _ a => cr_all (a.calm.trans hc)) ru_all hm (by decide +kernel) ha hg (by decide) (by decide) he hpl
theorem VO.any (hm : G.mg "any" = none) (ha : VA G N S bs ms (e :: es) fs) (hc : S.cm = true := by rfl) (hg : Glb S "any" := by rfl) (he : ∀ env, starEach (e :: es) env = (false, eval e env) :: starEach es env := by intro _; rfl) (hpl : ∀ env, (backTo pos (starEach es env)).any (·.1) = false := by intro _; rfl) :
    VO G N S .z ms (.Call (.Name "any" p) (e :: es) [] pos) (fA oAny fs) := .callB (fun _ a => cr_any (a.calm.trans hc)) ru_any hm (by decide +kernel) ha hg (by decide) (by decide) he hpl
theorem VO.list (hm : G.mg "list" = none) (ha : VA G N S bs ms (e :: es) fs) (hg : Glb S "list" := by rfl) (he : ∀ env, starEach (e :: es) env = (false, eval e env) :: starEach es env := by intro _; rfl) (hpl : ∀ env, (backTo pos (starEach es env)).any (·.1) = false := by intro _; rfl) :
    VO G N S m1 ms (.Call (.Name "list" p) (e :: es) [] pos) (fA oList fs) := .callTy (fun _ _ => call_list_of) (ru_list (.inr rfl)) hm (by decide +kernel) ha hg (by decide) (by decide) he hpl
theorem VO.tuple (hm : G.mg "tuple" = none) (ha : VA G N S bs ms (e :: es) fs) (hg : Glb S "tuple" := by rfl) (he : ∀ env, starEach (e :: es) env = (false, eval e env) :: starEach es env := by intro _; rfl) (hpl : ∀ env, (backTo pos (starEach es env)).any (·.1) = false := by intro _; rfl) :
    VO G N S .z ms (.Call (.Name "tuple" p) (e :: es) [] pos) (fA oTuple fs) := .callTy (fun _ _ => call_tuple_of) ru_tuple hm (by decide +kernel) ha hg (by decide) (by decide) he hpl
/-! ### walked: a list, a tuple, a text -/
def anyL : D → Option (List D)
  | .lst ds => some ds
  | .scr ns => some (ns.map .int)
  | .tup ds => some ds
  | .str s => some (s.map fun c => .str [c])
  | _ => none
def iAny (f : M D) : M (List D) := fun r => (f r).bind fun d => rM (anyL d)
theorem PI.or {X : Cx} {tg e : Expr} {t t' : TI} (h : PI X tg e t) (h' : PI X tg e t') : PI X tg e fun σ H R => t σ H R ∨ t' σ H R :=
  ⟨fun pins s σ H Q I w => w.elim (h.run pins s σ H Q I) (h'.run pins s σ H Q I)⟩
theorem VI.any (h : VO G N S .z ms e f) : VI G N S ms0 ms tg e (iAny f) := by
  refine fun R a W t => PI.imp (PI.or ((VI.lst (tg := tg) h.vb) R a W t) (PI.or ((VI.tup (tg := tg) h) R a W t) ((VI.str (bs := ms0) (tg := tg) h) R a W t))) fun σ H Q ⟨ρ, H0, c, l, o⟩ => ?_
  cases hf : f ρ with
  | ok d r =>
    have e1 : iAny f ρ = rM (anyL d) r := by unfold iAny; rw [hf]; rfl
    rw [e1] at o
    cases d with
    | lst ds => exact .inl ⟨ρ, H0, c, l, by unfold iLst; rw [hf]; exact o⟩
    | scr ds => exact .inl ⟨ρ, H0, c, l, by unfold iLst; rw [hf]; exact o⟩
    | tup ds => exact .inr (.inl ⟨ρ, H0, c, l, by unfold iTup; rw [hf]; exact o⟩)
    | str ds => exact .inr (.inr ⟨ρ, H0, c, l, by unfold iStrs; rw [hf]; exact o⟩)
    | _ => exact o.elim
  | exc n ns vs r => exact .inl ⟨ρ, H0, c, l, by unfold iLst; unfold iAny at o; rw [hf] at o ⊢; exact o⟩
  | bad => exact .inl ⟨ρ, H0, c, l, by unfold iLst; unfold iAny at o; rw [hf] at o ⊢; exact o⟩
end
end Vm
set_option Elab.async false
set_option linter.all false
set_option maxRecDepth 100000
set_option maxHeartbeats 4000000
namespace Vm
open L2
/-! ### the readings, applied -/
section
variable {α : Type} (s0 : Sl) (r : En) (f fa fb : M D) (fs : M (List D)) (fi : M (List D)) (g g1 g2 gb : M Fl) (gt : D → M Fl) (o : D → D → Option D) (oa : List D → Option D) (os : D → Option Int → Option Int → Option D) (i : Nat) (m : Md) (d : D) (ds : List D)
/-- a number goes on -/
def onI (k : Int → M α) (d : D) : M α := fun r => match d with
  | .int i => k i r
  | _ => .bad
@[simp] theorem onI_int (k : Int → M α) (j : Int) : onI k (.int j) r = k j r := rfl
@[simp] theorem eC_ap : eC d (s0 :: r) = .ok d (s0 :: r) := rfl
def evS : Sl → M D
  | some (.z, d) => fun r => .ok d r
  | some (.o _, d) => fun r => if atom d = true then .ok d r else .bad
  | none => fun _ => .bad
def ebS : Sl → M D
  | some (.z, d) => fun r => .ok d r
  | some (.o (.all .z), d) => fun r => if lend d = true then .ok d r else .bad
  | _ => fun _ => .bad
theorem eVar_def : eVar i r = evS (getS r i) r := by
  unfold eVar evS
  cases getS r i with
  | none => rfl
  | some p =>
    obtain ⟨m, d⟩ := p
    cases m <;> rfl
theorem eBor_def : eBor i r = ebS (getS r i) r := by
  unfold eBor ebS
  cases getS r i with
  | none => rfl
  | some p =>
    obtain ⟨m, d⟩ := p
    cases m with
    | z => rfl
    | o k => cases k with
      | all m => cases m <;> rfl
      | one => rfl
@[simp] theorem eVar_ap : eVar i (s0 :: r) = evS (getS (s0 :: r) i) (s0 :: r) := eVar_def _ _
@[simp] theorem eBor_ap : eBor i (s0 :: r) = ebS (getS (s0 :: r) i) (s0 :: r) := eBor_def _ _
@[simp] theorem evS_z : evS (some (.z, d)) r = .ok d r := rfl
@[simp] theorem evS_o (k : Kd) : evS (some (.o k, d)) r = if atom d = true then .ok d r else .bad := rfl
@[simp] theorem ebS_z : ebS (some (.z, d)) r = .ok d r := rfl
@[simp] theorem ebS_o : ebS (some (.o (.all .z), d)) r = if lend d = true then .ok d r else .bad := rfl
@[simp] theorem lend_lst : lend (.lst ds) = true := rfl
@[simp] theorem fOp2_ap : fOp2 o fa fb (s0 :: r) = (fa (s0 :: r)).bind fun x r => (fb r).bind fun y r => rM (o x y) r := rfl
@[simp] theorem fNil_ap : fNil (s0 :: r) = .ok [] (s0 :: r) := rfl
@[simp] theorem fCons_ap : fCons f fs (s0 :: r) = (f (s0 :: r)).bind fun d r => (fs r).bind fun ds r => .ok (d :: ds) r := rfl
@[simp] theorem fLst_ap : fLst fs (s0 :: r) = (fs (s0 :: r)).bind fun ds r => .ok (.lst ds) r := rfl
@[simp] theorem fTup_ap : fTup fs (s0 :: r) = (fs (s0 :: r)).bind fun ds r => .ok (.tup ds) r := rfl
/-- a truth goes on -/
def onB (k : Bool → M α) (d : D) : M α := fun r => match d with
  | .bl b => k b r
  | _ => .bad
@[simp] theorem onB_bl (k : Bool → M α) (b : Bool) : onB k (.bl b) r = k b r := rfl
@[simp] theorem fB_ap : fB f (s0 :: r) = (f (s0 :: r)).bind fun d r => onB (fun b r => .ok (.bl b) r) d r := by
  unfold fB
  congr 1
@[simp] theorem fAnd_ap : fAnd fa fb (s0 :: r) = (fa (s0 :: r)).bind fun d r => onB (fun b r => if b = true then fb r else .ok (.bl false) r) d r := by
  unfold fAnd
  congr 1
  funext d r
  cases d with
  | bl b => cases b <;> rfl
  | _ => rfl
@[simp] theorem fOr_ap : fOr fa fb (s0 :: r) = (fa (s0 :: r)).bind fun d r => onB (fun b r => if b = true then .ok (.bl true) r else fb r) d r := by
  unfold fOr
  congr 1
  funext d r
  cases d with
  | bl b => cases b <;> rfl
  | _ => rfl
@[simp] theorem fNot_ap : fNot fa (s0 :: r) = (fa (s0 :: r)).bind fun d r => onB (fun b r => .ok (.bl !b) r) d r := by
  unfold fNot
  congr 1
@[simp] theorem fIf_ap (ft : M D) (ga gb : M α) : fIf ft ga gb (s0 :: r) = (ft (s0 :: r)).bind fun d r => onB (fun b r => if b = true then ga r else gb r) d r := by
  unfold fIf
  congr 1
  funext d r
  cases d with
  | bl b => cases b <;> rfl
  | _ => rfl
@[simp] theorem fNeg_ap : fNeg fa (s0 :: r) = (fa (s0 :: r)).bind fun d r => onI (fun i r => .ok (.int (-i)) r) d r := rfl
@[simp] theorem fA_ap : fA oa fs (s0 :: r) = (fs (s0 :: r)).bind fun ds r => rM (oa ds) r := rfl
@[simp] theorem fIsi_ap (T : PyT) : fIsi T f (s0 :: r) = (f (s0 :: r)).bind fun d r => rM ((isT T d).map .bl) r := rfl
@[simp] theorem fNoP_ap : fNoP (s0 :: r) = .ok none (s0 :: r) := rfl
@[simp] theorem fPart_ap : fPart f (s0 :: r) = (f (s0 :: r)).bind fun d r => onI (fun i r => .ok (some i) r) d r := rfl
@[simp] theorem fSl_ap (fl fh : M (Option Int)) : fSl os f fl fh (s0 :: r) = (f (s0 :: r)).bind fun d r => (fl r).bind fun lo r => (fh r).bind fun hi r => rM (os d lo hi) r := rfl
/-- a statement's end goes on -/
def onF (k : M Fl) (fl : Fl) : M Fl := fun r => match fl with
  | .nx => k r
  | .bk => .ok .bk r
  | .ct => .ok .ct r
  | .rt d => .ok (.rt d) r
@[simp] theorem onF_nx (k : M Fl) : onF k .nx r = k r := rfl
@[simp] theorem onF_bk (k : M Fl) : onF k .bk r = .ok .bk r := rfl
@[simp] theorem onF_ct (k : M Fl) : onF k .ct r = .ok .ct r := rfl
@[simp] theorem onF_rt (k : M Fl) : onF k (.rt d) r = .ok (.rt d) r := rfl
@[simp] theorem gSeq_ap : gSeq g1 g2 (s0 :: r) = (g1 (s0 :: r)).bind (onF g2) := rfl
@[simp] theorem gNx_ap : gNx (s0 :: r) = .ok .nx (s0 :: r) := rfl
@[simp] theorem gBk_ap : gBk (s0 :: r) = .ok .bk (s0 :: r) := rfl
@[simp] theorem gCt_ap : gCt (s0 :: r) = .ok .ct (s0 :: r) := rfl
@[simp] theorem gDo_ap : gDo f (s0 :: r) = (f (s0 :: r)).bind fun _ r => .ok .nx r := rfl
@[simp] theorem gRet_ap : gRet f (s0 :: r) = (f (s0 :: r)).bind fun d r => .ok (.rt d) r := rfl
@[simp] theorem gRetN_ap : gRetN (s0 :: r) = .ok (.rt .non) (s0 :: r) := rfl
@[simp] theorem gSet_ap : gSet i m f (s0 :: r) = (f (s0 :: r)).bind fun d r => .ok .nx (r.set i (some (m, d))) := rfl
@[simp] theorem gAsg_ap : gAsg gt f (s0 :: r) = (f (s0 :: r)).bind gt := rfl
@[simp] theorem tName_ap : tName i d (s0 :: r) = .ok .nx ((s0 :: r).set i (some (.z, d))) := rfl
@[simp] theorem tNil_ap : tNil [] (s0 :: r) = .ok .nx (s0 :: r) := rfl
@[simp] theorem tCon_ap (gs : List D → M Fl) : tCon gt gs (d :: ds) (s0 :: r) = (gt d (s0 :: r)).bind (onF (gs ds)) := rfl
@[simp] theorem tTupl_ap (n : Nat) (gs : List D → M Fl) : tTupl n gs (.tup ds) (s0 :: r) = if ds.length = n then gs ds (s0 :: r) else .bad := by
  show (if ds.length = n then gs ds else fun _ => Res.bad) (s0 :: r) = _
  split <;> rfl
@[simp] theorem gFor_ap : gFor fi gt gb (s0 :: r) = (fi (s0 :: r)).bind fun ds r => gLoop gt gb ds r := rfl
@[simp] theorem lpK_nx (k : M Fl) : lpK k .nx r = k r := rfl
@[simp] theorem lpK_ct (k : M Fl) : lpK k .ct r = k r := rfl
@[simp] theorem lpK_bk (k : M Fl) : lpK k .bk r = .ok .nx r := rfl
@[simp] theorem lpK_rt (k : M Fl) : lpK k (.rt d) r = .ok (.rt d) r := rfl
@[simp] theorem iAny_ap : iAny f (s0 :: r) = (f (s0 :: r)).bind fun d r => rM (anyL d) r := rfl
@[simp] theorem iLst_ap : iLst f (s0 :: r) = (f (s0 :: r)).bind fun d r => rM (asLst d) r := by
  unfold iLst
  congr 1
  funext d r
  cases d <;> rfl
@[simp] theorem iEnm_ap : iEnm f (s0 :: r) = (f (s0 :: r)).bind fun d r => rM ((asLst d).map (enumD 0)) r := rfl
@[simp] theorem iZp_ap : iZp fa fb (s0 :: r) = (fa (s0 :: r)).bind fun x r => (fb r).bind fun y r => rM ((asLst x).bind fun xs => (asLst y).map fun ys => zipD xs ys) r := rfl
@[simp] theorem iRevd_ap : iRevd f (s0 :: r) = (f (s0 :: r)).bind fun d r => rM ((asLst d).map List.reverse) r := rfl
@[simp] theorem iRng_ap : iRng f (s0 :: r) = (f (s0 :: r)).bind fun d r => onI (fun j r => if j ≤ 16777216 ∧ -4611686018427387904 ≤ j then .ok (rngD 0 j.toNat) r else .bad) d r := by
  unfold iRng
  congr 1
@[simp] theorem iRng2_ap : iRng2 fa fb (s0 :: r) = (fa (s0 :: r)).bind fun x r => (fb r).bind fun y r => onI (fun i r => onI (fun j r => if j - i ≤ 16777216 ∧ -2305843009213693952 ≤ i ∧ i ≤ 2305843009213693952 ∧ -2305843009213693952 ≤ j then .ok (rngD i (j - i).toNat) r else .bad) y r) x r := by
  unfold iRng2
  congr 1
  funext x r
  congr 1
  funext y r
  cases x <;> cases y <;> rfl
@[simp] theorem anyL_lst : anyL (.lst ds) = some ds := rfl
@[simp] theorem anyL_tup : anyL (.tup ds) = some ds := rfl
@[simp] theorem anyL_str (s : List Nat) : anyL (.str s) = some (s.map fun c => .str [c]) := rfl
@[simp] theorem anyL_scr (s : List Int) : anyL (.scr s) = some (s.map .int) := rfl
@[simp] theorem asLst_lst : asLst (.lst ds) = some ds := rfl
@[simp] theorem asLst_scr (s : List Int) : asLst (.scr s) = some (s.map .int) := rfl
@[simp] theorem fCall_ap (F : M D) (ls : List (Option Nat)) : fCall F ls fs (s0 :: r) = (fs (s0 :: r)).bind fun ds r => match F (mkArgs ls ds r) with
  | .ok d rp => .ok d (putBack ls rp r)
  | .exc n ns vs rp => .exc n ns vs (putBack ls rp r)
  | .bad => .bad := rfl
@[simp] theorem mkArgs_nil : mkArgs [] ds r = [] := rfl
@[simp] theorem mkArgs_z (ls : List (Option Nat)) : mkArgs (none :: ls) (d :: ds) r = some (.z, d) :: mkArgs ls ds r := rfl
@[simp] theorem mkArgs_l (ls : List (Option Nat)) : mkArgs (some i :: ls) ds r = getS r i :: mkArgs ls ds r := rfl
@[simp] theorem putBack_nil (rp : En) : putBack [] rp r = r := rfl
@[simp] theorem putBack_z (ls : List (Option Nat)) (rp : En) : putBack (none :: ls) rp r = putBack ls rp.tail r := rfl
@[simp] theorem putBack_l (ls : List (Option Nat)) (rp : En) : putBack (some i :: ls) rp r = putBack ls rp.tail (r.set i (getS rp 0)) := rfl
@[simp] theorem fLc_ap (own : List Nat) (ft fe : M D) : fLc own fi gt ft fe (s0 :: r) = (fi (s0 :: r)).bind fun ds r => (gLc own gt ft fe ds (wipeE own r)).bind fun ys r' => .ok (.lst ys) (restE r own r') := rfl
@[simp] theorem lcT_ap (own : List Nat) (fe : M D) (k : M (List D)) (b : Bool) : lcT own fe k (.bl b) r = if b = true then (noX (fe r)).bind fun y r => (k (wipeE own r)).bind fun ys r => .ok (y :: ys) r else k (wipeE own r) := by
  cases b <;> rfl
@[simp] theorem wipeE_nil : wipeE [] r = r := rfl
@[simp] theorem wipeE_cons (is : List Nat) : wipeE (i :: is) r = (wipeE is r).set i none := rfl
/-- what is given back -/
def bkS : Sl → Sl
  | some (.z, d) => some (.z, d)
  | _ => none
@[simp] theorem bkS_none : bkS none = none := rfl
@[simp] theorem bkS_z : bkS (some (.z, d)) = some (.z, d) := rfl
@[simp] theorem restE_nil (r0 : En) : restE r0 [] r = r := rfl
@[simp] theorem restE_cons (r0 : En) (is : List Nat) : restE r0 (i :: is) r = (restE r0 is r).set i (bkS (getS r0 i)) := by
  show (restE r0 is r).set i _ = _
  congr 1
/-- a def's end -/
def onR (io : List Bool) : Res Fl → Res D
  | .ok (.rt d) r => .ok d (ioEnd io 0 r)
  | .ok .nx r => .ok .non (ioEnd io 0 r)
  | .ok _ _ => .bad
  | .exc c ns vs r => .exc c ns vs (ioEnd io 0 r)
  | .bad => .bad
@[simp] theorem onR_rt (io : List Bool) : onR io (.ok (.rt d) r) = .ok d (ioEnd io 0 r) := rfl
@[simp] theorem onR_nx (io : List Bool) : onR io (.ok .nx r) = .ok .non (ioEnd io 0 r) := rfl
@[simp] theorem onR_bad (io : List Bool) : onR io .bad = .bad := rfl
@[simp] theorem onR_exc (io : List Bool) (c : PySem.Str) (ns : List PySem.Str) (vs : List D) : onR io (.exc c ns vs r) = .exc c ns vs (ioEnd io 0 r) := rfl
theorem fnRun_ap (io : List Bool) (n : Nat) : fnRun io n g r = onR io (g (r ++ List.replicate n none)) := by
  unfold fnRun
  cases g (r ++ List.replicate n none) with
  | ok fl r => cases fl <;> rfl
  | _ => rfl
end
/-! ### cases -/
section
variable {α β : Type} {x y : Res α} {d d' : D} {r r' : En} {fl fl' : Fl}
@[simp] theorem bind_ite {c : Prop} [Decidable c] {f : α → M β} : (if c then x else y).bind f = if c then x.bind f else y.bind f := by split <;> rfl
@[simp] theorem rM_ite {c : Prop} [Decidable c] {a b : Option α} : rM (if c then a else b) r = if c then rM a r else rM b r := by split <;> rfl
@[simp] theorem noX_ite {c : Prop} [Decidable c] : noX (if c then x else y) = if c then noX x else noX y := by split <;> rfl
end
/-! ### equality, by kinds -/
@[simp] theorem plain_non : plain .non = true := rfl
@[simp] theorem plain_bl (b : Bool) : plain (.bl b) = true := rfl
@[simp] theorem plain_int (b : Int) : plain (.int b) = true := rfl
@[simp] theorem plain_str (b : List Nat) : plain (.str b) = true := rfl
@[simp] theorem plain_tup (b : List D) : plain (.tup b) = plains b := rfl
@[simp] theorem plain_lst (b : List D) : plain (.lst b) = plains b := rfl
@[simp] theorem plain_dct (b c : List D) : plain (.dct b c) = false := rfl
@[simp] theorem plains_nil : plains [] = true := rfl
@[simp] theorem plains_cons (d : D) (ds : List D) : plains (d :: ds) = (plain d && plains ds) := rfl
@[simp] theorem dep_non : dep .non = 0 := rfl
@[simp] theorem dep_bl (b : Bool) : dep (.bl b) = 0 := rfl
@[simp] theorem dep_int (b : Int) : dep (.int b) = 0 := rfl
@[simp] theorem dep_str (b : List Nat) : dep (.str b) = 0 := rfl
@[simp] theorem dep_tup (b : List D) : dep (.tup b) = deps b + 1 := rfl
@[simp] theorem dep_lst (b : List D) : dep (.lst b) = deps b + 1 := rfl
@[simp] theorem deps_nil : deps [] = 0 := rfl
@[simp] theorem deps_cons (d : D) (ds : List D) : deps (d :: ds) = max (dep d) (deps ds) := rfl
@[simp] theorem eqD_int (i j : Int) : eqD (.int i) (.int j) = (i == j) := rfl
@[simp] theorem eqD_bl (i j : Bool) : eqD (.bl i) (.bl j) = (i == j) := rfl
@[simp] theorem eqD_str (i j : List Nat) : eqD (.str i) (.str j) = (i == j) := rfl
@[simp] theorem eqD_lst (i j : List D) : eqD (.lst i) (.lst j) = eqDs i j := rfl
@[simp] theorem eqD_tup (i j : List D) : eqD (.tup i) (.tup j) = eqDs i j := rfl
@[simp] theorem eqD_is (i : Int) (j : List Nat) : eqD (.int i) (.str j) = false := rfl
@[simp] theorem eqD_si (i : Int) (j : List Nat) : eqD (.str j) (.int i) = false := rfl
@[simp] theorem eqD_ls (i : List D) (j : List Nat) : eqD (.lst i) (.str j) = false := rfl
@[simp] theorem eqD_ts (i : List D) (j : List Nat) : eqD (.tup i) (.str j) = false := rfl
@[simp] theorem eqD_sl (i : List D) (j : List Nat) : eqD (.str j) (.lst i) = false := rfl
@[simp] theorem eqD_st (i : List D) (j : List Nat) : eqD (.str j) (.tup i) = false := rfl
@[simp] theorem eqDs_nil : eqDs [] [] = true := rfl
@[simp] theorem eqDs_nc (d : D) (ds : List D) : eqDs [] (d :: ds) = false := rfl
@[simp] theorem eqDs_cn (d : D) (ds : List D) : eqDs (d :: ds) [] = false := rfl
@[simp] theorem eqDs_cons (d e : D) (ds es : List D) : eqDs (d :: ds) (e :: es) = (eqD d e && eqDs ds es) := rfl
@[simp] theorem oEq_str (s t : List Nat) : oEq (.str s) (.str t) = some (.bl (s == t)) := rfl
@[simp] theorem oEq_int (s t : Int) : oEq (.int s) (.int t) = some (.bl (s == t)) := rfl
@[simp] theorem oEq_bl (s t : Bool) : oEq (.bl s) (.bl t) = some (.bl (s == t)) := rfl
@[simp] theorem oNe_str (s t : List Nat) : oNe (.str s) (.str t) = some (.bl (!(s == t))) := rfl
@[simp] theorem oNe_int (s t : Int) : oNe (.int s) (.int t) = some (.bl (!(s == t))) := rfl
@[simp] theorem oNe_bl (s t : Bool) : oNe (.bl s) (.bl t) = some (.bl (!(s == t))) := rfl
@[simp] theorem oLtI_int (i j : Int) : oLtI (.int i) (.int j) = some (.bl (decide (i < j))) := rfl
@[simp] theorem oLeI_int (i j : Int) : oLeI (.int i) (.int j) = some (.bl (decide (i ≤ j))) := rfl
@[simp] theorem oGtI_int (i j : Int) : oGtI (.int i) (.int j) = some (.bl (decide (j < i))) := rfl
@[simp] theorem oGeI_int (i j : Int) : oGeI (.int i) (.int j) = some (.bl (decide (j ≤ i))) := rfl
@[simp] theorem oSub_int (i j : Int) : oSub (.int i) (.int j) = some (.int (i - j)) := rfl
@[simp] theorem oAdd_int (i j : Int) : oAdd (.int i) (.int j) = some (.int (i + j)) := rfl
@[simp] theorem oAdd_str (i j : List Nat) : oAdd (.str i) (.str j) = if i.length + j.length ≤ 16777216 then some (.str (i ++ j)) else none := by simp [oAdd]
@[simp] theorem oAdd_lst (i j : List D) : oAdd (.lst i) (.lst j) = if i.length + j.length ≤ 16777216 then some (.lst (i ++ j)) else none := by simp [oAdd]
@[simp] theorem oAdd_tup (i j : List D) : oAdd (.tup i) (.tup j) = if i.length + j.length ≤ 16777216 then some (.tup (i ++ j)) else none := by simp [oAdd]
@[simp] theorem oFdiv_int (i j : Int) : oFdiv (.int i) (.int j) = if divOk i j = true then some (.int (i / j)) else none := rfl
@[simp] theorem oMod_int (i j : Int) : oMod (.int i) (.int j) = if 0 < j then some (.int (i % j)) else none := by simp [oMod, oI2, modOk]
@[simp] theorem oMul_int (i j : Int) : oMul (.int i) (.int j) = if mulOk i j = true then some (.int (i * j)) else none := rfl
@[simp] theorem oLen_str (s : List Nat) : oLen [.str s] = some (.int s.length) := rfl
@[simp] theorem oLen_lst (s : List D) : oLen [.lst s] = some (.int s.length) := rfl
@[simp] theorem oLen_tup (s : List D) : oLen [.tup s] = some (.int s.length) := rfl
@[simp] theorem oLen_scr (s : List Int) : oLen [.scr s] = some (.int s.length) := rfl
@[simp] theorem oIx_lst (s : List D) (i : Int) : oIx (.lst s) (.int i) = atI s i := rfl
@[simp] theorem oIx_tup (s : List D) (i : Int) : oIx (.tup s) (.int i) = atI s i := rfl
@[simp] theorem oIx_str (s : List Nat) (i : Int) : oIx (.str s) (.int i) = (atI s i).map fun c => .str [c] := rfl
@[simp] theorem oIx_scr (s : List Int) (i : Int) : oIx (.scr s) (.int i) = (atI s i).map .int := rfl
@[simp] theorem oCut_str (s : List Nat) (lo hi : Option Int) : oCut (.str s) lo hi = some (.str (cutL s lo hi)) := rfl
@[simp] theorem oCut_lst (s : List D) (lo hi : Option Int) : oCut (.lst s) lo hi = some (.lst (cutL s lo hi)) := rfl
@[simp] theorem oCut_tup (s : List D) (lo hi : Option Int) : oCut (.tup s) lo hi = some (.tup (cutL s lo hi)) := rfl
@[simp] theorem oCut_scr (s : List Int) (lo hi : Option Int) : oCut (.scr s) lo hi = some (.lst (cutL (s.map .int) lo hi)) := rfl
@[simp] theorem oIn_tup (d : D) (cs : List D) : oIn d (.tup cs) = if inOk d cs = true then some (.bl (cs.any fun y => eqD y d)) else none := rfl
@[simp] theorem oIn_lst (d : D) (cs : List D) : oIn d (.lst cs) = if inOk d cs = true then some (.bl (cs.any fun y => eqD y d)) else none := rfl
@[simp] theorem oIn_str (c : Nat) (s : List Nat) : oIn (.str [c]) (.str s) = some (.bl (decide (c ∈ s))) := rfl
@[simp] theorem oNotIn_tup (d : D) (cs : List D) : oNotIn d (.tup cs) = if inOk d cs = true then some (.bl (!(cs.any fun y => eqD y d))) else none := by
  unfold oNotIn
  rw [oIn_tup]
  by_cases h : inOk d cs = true
  · rw [if_pos h, if_pos h]
  · rw [if_neg h, if_neg h]
@[simp] theorem oNotIn_lst (d : D) (cs : List D) : oNotIn d (.lst cs) = if inOk d cs = true then some (.bl (!(cs.any fun y => eqD y d))) else none := by
  unfold oNotIn
  rw [oIn_lst]
  by_cases h : inOk d cs = true
  · rw [if_pos h, if_pos h]
  · rw [if_neg h, if_neg h]
@[simp] theorem oNotIn_str (c : Nat) (s : List Nat) : oNotIn (.str [c]) (.str s) = some (.bl (!decide (c ∈ s))) := rfl
/-- texts of one sign, atoms: they may be compared -/
theorem plains_of {ds : List D} (h : ∀ d ∈ ds, plain d = true) : plains ds = true := by
  induction ds with
  | nil => rfl
  | cons d ds ih => rw [plains_cons, h d List.mem_cons_self, ih fun e he => h e (List.mem_cons_of_mem _ he)]; rfl
theorem deps_of {ds : List D} {n : Nat} (h : ∀ d ∈ ds, dep d ≤ n) : deps ds ≤ n := by
  induction ds with
  | nil => exact Nat.zero_le _
  | cons d ds ih => rw [deps_cons]; exact Nat.max_le.mpr ⟨h d List.mem_cons_self, ih fun e he => h e (List.mem_cons_of_mem _ he)⟩
theorem eqDs_empty (ds : List D) : eqDs ds [] = ds.isEmpty := by cases ds <;> rfl
theorem oEq_nil {ds : List D} (h : plains ds = true) : oEq (.lst ds) (.lst []) = some (.bl ds.isEmpty) := by
  unfold oEq eqOk
  simp [h, eqDs_empty]
@[simp] theorem bls_map (f : D → Bool) : ∀ ds : List D, bls (ds.map fun d => .bl (f d)) = some (ds.map f)
  | [] => rfl
  | d :: ds => by rw [List.map_cons, List.map_cons, bls, bls_map f ds]; rfl
theorem cutL_len {α : Type} (xs : List α) (lo hi : Option Int) : (cutL xs lo hi).length ≤ xs.length := by
  unfold cutL
  rw [List.length_take, List.length_drop]
  omega
theorem repS_length (s : List Nat) (n : Nat) : (repS s n).length = n * s.length := repS_len s n
@[simp] theorem oMul_str (s : List Nat) (n : Int) : oMul (.str s) (.int n) = if 0 ≤ n ∧ n ≤ 1000 ∧ s.length ≤ 1000 then some (.str (repS s n.toNat)) else none := by
  simp [oMul, and_assoc]
@[simp] theorem divOk_s (i j : Int) (h : 0 < j) (h2 : j < 4611686018427387904) : divOk i j = true := by
  unfold divOk
  rw [decide_eq_true h, Bool.true_and]
  refine decide_eq_true ?_
  have h3 : j.natAbs ≠ 0 := by omega
  have : j.natAbs.log2 < 62 := (Nat.log2_lt h3).mpr (by omega)
  omega
@[simp] theorem mulOk_r (i j : Int) (h : j.natAbs < 18446744073709551616) : mulOk i j = true := by
  unfold mulOk
  rw [decide_eq_true h]; simp
@[simp] theorem mulOk_l (i j : Int) (h : i.natAbs < 18446744073709551616) : mulOk i j = true := by
  unfold mulOk
  rw [decide_eq_true h]; simp
theorem atI_of {α : Type} {xs : List α} {i : Int} (h0 : 0 ≤ i) (h1 : i < xs.length) : ∃ x, L2.atI xs i = some x ∧ x ∈ xs := by
  obtain ⟨n, rfl⟩ := Int.eq_ofNat_of_zero_le h0
  have hn : n < xs.length := by omega
  exact ⟨xs[n], L2.atI_nat (j := n) (List.getElem?_eq_getElem hn), List.getElem_mem hn⟩
@[simp] theorem gLoop_nil (gt : D → M Fl) (gb : M Fl) (r : En) : gLoop gt gb [] r = .ok .nx r := rfl
@[simp] theorem gLoop_cons (gt : D → M Fl) (gb : M Fl) (d : D) (ds : List D) (r : En) : gLoop gt gb (d :: ds) r = (gt d r).bind fun _ r => (gb r).bind (lpK (gLoop gt gb ds)) := rfl
@[simp] theorem gLc_nil (own : List Nat) (gt : D → M Fl) (ft fe : M D) (r : En) : gLc own gt ft fe [] r = .ok [] r := rfl
@[simp] theorem gLc_cons (own : List Nat) (gt : D → M Fl) (ft fe : M D) (d : D) (ds : List D) (r : En) : gLc own gt ft fe (d :: ds) r = (noX (gt d r)).bind fun _ r => (noX (ft r)).bind (lcT own fe (gLc own gt ft fe ds)) := rfl
@[simp] theorem isT_bb (b : Bool) : isT .bool (.bl b) = some true := rfl
@[simp] theorem oIs_bb (a b : Bool) : oIs (.bl a) (.bl b) = some (.bl (decide (a = b))) := rfl
/-! ### loops by an invariant -/
theorem gLoop_inv {gt : D → M Fl} {gb : M Fl} (I : Nat → En → Prop) : ∀ (ds : List D) (k : Nat), (∀ i d r, ds[i]? = some d → I (k + i) r → ∃ r', (gt d r).bind (fun _ r => gb r) = .ok .nx r' ∧ I (k + i + 1) r') → ∀ r, I k r → ∃ r', gLoop gt gb ds r = .ok .nx r' ∧ I (k + ds.length) r'
  | [], k, _, r, h => ⟨r, rfl, h⟩
  | d :: ds, k, st, r, h => by
    obtain ⟨r1, e1, h1⟩ := st 0 d r rfl h
    obtain ⟨r2, e2, h2⟩ := gLoop_inv I ds (k + 1) (fun i d' r' hd hi => by
      have := st (i + 1) d' r' (by simpa using hd) (by rw [show k + (i + 1) = k + 1 + i by omega]; exact hi)
      rw [show k + (i + 1) = k + 1 + i by omega] at this
      exact this) r1 h1
    refine ⟨r2, ?_, by rw [List.length_cons, show k + (ds.length + 1) = k + 1 + ds.length by omega]; exact h2⟩
    have e0 : gLoop gt gb (d :: ds) r = ((gt d r).bind fun _ r => gb r).bind (lpK (gLoop gt gb ds)) := by
      show (gt d r).bind (fun _ r => (gb r).bind (lpK (gLoop gt gb ds))) = _
      cases gt d r <;> rfl
    rw [e0, e1]
    exact e2
/-- gathered: each one tested and told by plain functions -/
theorem gLc_map {own : List Nat} {gt : D → M Fl} {ft fe : M D} {p : D → Bool} {h : D → D} (W : En → Prop) : ∀ (ds : List D), (∀ d ∈ ds, ∀ r, W r → ∃ r1 r2, (noX (gt d r)) = .ok .nx r1 ∧ noX (ft r1) = .ok (.bl (p d)) r2 ∧ (p d = false → W (wipeE own r2)) ∧ (p d = true → ∃ r3, noX (fe r2) = .ok (h d) r3 ∧ W (wipeE own r3))) →
    ∀ r, W r → ∃ r', gLc own gt ft fe ds r = .ok ((ds.filter p).map h) r' ∧ W r'
  | [], _, r, w => ⟨r, rfl, w⟩
  | d :: ds, st, r, w => by
    obtain ⟨r1, r2, e1, e2, hf, ht⟩ := st d List.mem_cons_self r w
    have ih := gLc_map W ds (fun d' hd => st d' (List.mem_cons_of_mem _ hd))
    have e0 : gLc own gt ft fe (d :: ds) r = lcT own fe (gLc own gt ft fe ds) (.bl (p d)) r2 := by
      show (noX (gt d r)).bind (fun _ r => (noX (ft r)).bind (lcT own fe (gLc own gt ft fe ds))) = _
      rw [e1, bind_ok, e2, bind_ok]
    rw [e0, lcT_ap]
    cases hp : p d with
    | false =>
      rw [if_neg Bool.false_ne_true]
      obtain ⟨r', e3, w'⟩ := ih _ (hf hp)
      exact ⟨r', by rw [e3, List.filter_cons, hp]; rfl, w'⟩
    | true =>
      rw [if_pos rfl]
      obtain ⟨r3, e3, w3⟩ := ht hp
      obtain ⟨r', e4, w'⟩ := ih _ w3
      exact ⟨r', by rw [e3, bind_ok, e4, bind_ok, List.filter_cons, hp]; rfl, w'⟩
end Vm
set_option Elab.async false
set_option linter.all false
set_option maxRecDepth 100000
set_option maxHeartbeats 4000000
namespace Vm
open PySem PySem.Spec PyProof.Rows L2

/-! ### changed in place -/
mutual
def mdEq : Md → Md → Bool
  | .z, .z => true
  | .o a, .o b => kdEq a b
  | _, _ => false
def kdEq : Kd → Kd → Bool
  | .all a, .all b => mdEq a b
  | .one a k, .one b l => mdEq a b && kdEq k l
  | _, _ => false
end
mutual
theorem mdEq_ok : ∀ {a b : Md}, mdEq a b = true → a = b
  | .z, .z, _ => rfl
  | .o a, .o b, h => by rw [kdEq_ok (a := a) (b := b) h]
  | .z, .o _, h => by cases h
  | .o _, .z, h => by cases h
theorem kdEq_ok : ∀ {a b : Kd}, kdEq a b = true → a = b
  | .all a, .all b, h => by rw [mdEq_ok (a := a) (b := b) h]
  | .one a k, .one b l, h => by
    obtain ⟨h1, h2⟩ := Bool.and_eq_true_iff.mp (show (mdEq a b && kdEq k l) = true from h)
    rw [mdEq_ok h1, kdEq_ok h2]
  | .all _, .one _ _, h => by cases h
  | .one _ _, .all _, h => by cases h
end
section
variable {K : PySem.W.Frag} {mg : Str → Option Value} {ms : Ms} {H0 H H0' H' : Hp} {c c' : Co} {σ : L2.St} {ρ : En} {d d' : D} {m m' : Md} {v : V} {i : Nat} {fp : List Addr}
/-- nodes of the slot i change, new ones are laid: the slot is given up -/
theorem Lies.chg (l : Lies K mg H0 H c σ ρ) (ch : ∀ a, H' a ≠ H a → c a = some i ∨ (c a = none ∧ H0 a = none)) (th : ∀ a o, H a = some o → ∃ o', H' a = some o') : Lies K mg H0 H' c σ (ρ.set i none) := by
  have k0 : ∀ a o, H0 a = some o → H' a = H a := fun a o e => Classical.byContradiction fun n => by
    rcases ch a n with z | ⟨_, z⟩
    · rw [l.apart a i z] at e; cases e
    · rw [z] at e; cases e
  refine ⟨fun a o e => by rw [k0 a o e]; exact l.sub a o e, l.apart, fun a j e => ?_, by rw [List.length_set]; exact l.len, fun j m d e => ?_⟩
  · obtain ⟨o, q⟩ := l.there a j e
    exact th a o q
  · by_cases h : i = j
    · subst h
      by_cases hi : i < ρ.length
      · rw [getS_set_eq hi] at e; cases e
      · have : getS (ρ.set i none) i = none := by simp [getS, List.getD_eq_getElem?_getD, hi]
        rw [this] at e; cases e
    · rw [getS_set_ne h] at e
      obtain ⟨w, g, e1, o', nd', hc⟩ := l.slot j m d e
      refine ⟨w, g, e1, Ow.mono (Same.refl _) d m w g (fun a ha => Classical.byContradiction fun n => ?_) o', nd', hc⟩
      rcases ch a n with z | ⟨z, _⟩
      · rw [hc a ha] at z; exact h (Option.some.inj z).symm
      · rw [hc a ha] at z; cases z
theorem set_same {α : Type} {l : List α} {i : Nat} {x : α} (h : l[i]? = some x) : l.set i x = l := by
  apply List.ext_getElem?
  intro j
  by_cases e : i = j
  · subst e
    obtain ⟨hi, _⟩ := List.getElem?_eq_some_iff.mp h
    rw [List.getElem?_set_self hi, h]
  · rw [List.getElem?_set_ne e]
theorem Lies.modify (l : Lies K mg H0 H c σ ρ) (hs : σ[i]? = some (some v)) (ch : ∀ a, H' a ≠ H a → c a = some i ∨ (c a = none ∧ H0 a = none)) (th : ∀ a o, H a = some o → ∃ o', H' a = some o') (ow : Ow K mg H0 H' d' m' v fp) (nd : fp.Nodup)
    (nc : ∀ a ∈ fp, c a = none ∨ c a = some i) (n0 : ∀ a ∈ fp, H0 a = none) (ht : ∀ a ∈ fp, ∃ o, H' a = some o) : Lies K mg H0 H' (coSet c i fp) σ (ρ.set i (some (m', d'))) := by
  have l1 := (l.chg ch th).set ow nd nc n0 ht
  rw [set_same hs, List.set_set] at l1
  exact l1
theorem Step.modify {H1 : Hp} (s : Step ms H0 H c H0' H1 c') (hi : ms i = true) (ch : ∀ a, H' a ≠ H1 a → c' a = some i ∨ H a = none) (hf : ∀ a ∈ fp, c' a = some i ∨ H a = none ∨ ∃ j, c a = some j ∧ ms j = true) : Step ms H0 H c H0' H' (coSet c' i fp) := by
  have no : ∀ a o, H a = some o → (∀ j, c a = some j → ms j = false) → c' a ≠ some i := fun a o e k z => by
    rw [s.col a o e k] at z
    rw [k i z] at hi; cases hi
  refine ⟨fun a o e k => ?_, fun a o e k => ?_, s.grow, s.new0, fun a j e => ?_⟩
  · have e1 := s.keep a o e k
    rw [← e1]
    refine Classical.byContradiction fun n => ?_
    rcases ch a n with z | z
    · exact no a o e k z
    · rw [e] at z; cases z
  · have e2 := s.col a o e k
    have n1 := no a o e k
    have hn : a ∉ fp := fun z => by
      rcases hf a z with w | w | ⟨j, w, q⟩
      · exact n1 w
      · rw [e] at w; cases w
      · rw [k j w] at q; cases q
    unfold coSet
    rw [if_neg hn, if_neg n1, e2]
  · by_cases h : a ∈ fp
    · have ej : j = i := by rw [coSet_in h] at e; exact (Option.some.inj e).symm
      subst ej
      rcases hf a h with w | w | w
      · exact s.newc a _ w
      · exact .inr ⟨hi, .inl w⟩
      · exact .inr ⟨hi, .inr w⟩
    · exact s.newc a j (coSet_out h e).1
end
/-- the slot i holds a list -/
def isLs : D → Bool
  | .lst _ => true
  | _ => false
def rcvS : Sl → Bool
  | some (.o _, d) => isLs d
  | _ => false
def rcv {α : Type} (i : Nat) (k : M α) : M α := fun r => if rcvS (getS r i) = true then k r else .bad
/-- a list of one's own, its items at mode me -/
def lsS (me : Md) : Sl → Option (List D)
  | some (.o (.all m), .lst ds) => if mdEq m me = true then some ds else none
  | _ => none
theorem lsS_ok {me : Md} {s : Sl} {ds : List D} (h : lsS me s = some ds) : s = some (.o (.all me), .lst ds) := by
  unfold lsS at h
  split at h
  · split at h
    · rename_i q
      cases h
      rw [mdEq_ok q]
    · cases h
  · cases h
/-- a list of one's own is changed by what comes -/
def gMt (i : Nat) (me : Md) (g : D → List D → Option (List D)) (f : M D) : M Fl := rcv i fun r => (f r).bind fun d r => (rM (lsS me (getS r i)) r).bind fun ds r => (rM (g d ds) r).bind fun ds' r => .ok .nx (r.set i (some (.o (.all me), .lst ds')))
section
variable {G : GC} {N : List Str} {S : SC} {bs bs1 bs2 ms ms1 ms2 ms3 as as1 as2 : Ms} {m me rm : Md} {k : Kd} {e a b : Expr} {es : List Expr} {f fa fb : M D} {fs : M (List D)} {pos p apos : Pos} {i : Nat} {x : Str}
theorem rcv_at {K : PySem.W.Frag} {mg : Str → Option Value} {H0 H : Hp} {c : Co} {σ : L2.St} {ρ : En} (l : Lies K mg H0 H c σ ρ) (h : rcvS (getS ρ i) = true) : ∃ q vs, σ[i]? = some (some (.ref q)) ∧ H q = some (.lst vs) ∧ c q = some i := by
  cases es : getS ρ i with
  | none => rw [es] at h; cases h
  | some md =>
    obtain ⟨m, d⟩ := md
    rw [es] at h
    cases m with
    | z => cases h
    | o k =>
      cases d <;> first | cases h | skip
      obtain ⟨v, fp, e1, ⟨q, vs, g, e, k1, ef, r⟩, nd, hc⟩ := l.slot i _ _ es
      subst e
      exact ⟨q, vs, e1, k1, hc q (by rw [ef]; exact List.mem_cons_self)⟩
theorem ls_at {K : PySem.W.Frag} {mg : Str → Option Value} {H0 H : Hp} {c : Co} {σ : L2.St} {ρ : En} {ds : List D} {q : Addr} (l : Lies K mg H0 H c σ ρ) (h : lsS me (getS ρ i) = some ds) (hq : σ[i]? = some (some (.ref q))) :
    ∃ vs g, H q = some (.lst vs) ∧ Ows K mg H0 H ds (.all me) vs g ∧ (q :: g).Nodup ∧ ∀ b ∈ q :: g, c b = some i := by
  obtain ⟨v, fp, e1, ⟨q', vs, g, e, k1, ef, r⟩, nd, hc⟩ := l.slot i _ _ (lsS_ok h)
  subst e
  rw [e1] at hq
  cases hq
  subst ef
  exact ⟨vs, g, k1, r, nd, hc⟩
/-- the list in slot i is rewritten: what is dropped of its nodes is no one's -/
theorem ls_write {K : PySem.W.Frag} {mg : Str → Option Value} {H0 H H01 H1 : Hp} {c c1 : Co} {σ : L2.St} {ρ1 : En} {ds' : List D} {q : Addr} {vs vs' : List V} {g g' : List Addr} (l : Lies K mg H01 H1 c1 σ ρ1) (s : Step ms H0 H c H01 H1 c1) (hi : ms i = true) (hq : σ[i]? = some (some (.ref q)))
    (hH : H1 q = some (.lst vs)) (nd : (q :: g).Nodup) (hc : ∀ b ∈ q :: g, c1 b = some i) (ow : Ows K mg H01 H1 ds' (.all me) vs' g') (nd' : g'.Nodup) (hg : ∀ b ∈ g', b ∈ g ∨ (c1 b = none ∧ H01 b = none ∧ (∃ o, H1 b = some o) ∧ (H b = none ∨ ∃ j, c b = some j ∧ ms j = true))) :
    Step ms H0 H c H01 (upd H1 q (.lst vs')) (coSet c1 i (q :: g')) ∧ Lies K mg H01 (upd H1 q (.lst vs')) (coSet c1 i (q :: g')) σ (ρ1.set i (some (.o (.all me), .lst ds'))) := by
  have cq : c1 q = some i := hc q List.mem_cons_self
  have nq : q ∉ g' := fun z => by
    rcases hg q z with w | ⟨w, _⟩
    · exact (List.nodup_cons.mp nd).1 w
    · rw [cq] at w; cases w
  have ch : ∀ b, (upd H1 q (.lst vs')) b ≠ H1 b → b = q := fun b n => Classical.byContradiction fun z => n (upd_ne z)
  have cc : ∀ b ∈ q :: g', c1 b = none ∨ c1 b = some i := fun b hb => by
    rcases List.mem_cons.mp hb with z | z
    · rw [z]; exact .inr cq
    · rcases hg b z with w | w
      · exact .inr (hc b (List.mem_cons_of_mem _ w))
      · exact .inl w.1
  refine ⟨s.modify hi (fun b n => by rw [ch b n]; exact .inl cq) fun b hb => ?_, l.modify hq (fun b n => by rw [ch b n]; exact .inl cq) (fun b o e => ?_) ⟨q, vs', g', rfl, upd_same, rfl, Ows.mono (Same.refl _) ds' _ vs' g' (fun b hb => upd_ne fun z => nq (z ▸ hb)) ow⟩ (List.nodup_cons.mpr ⟨nq, nd'⟩) cc (fun b hb => ?_) fun b hb => ?_⟩
  · rcases List.mem_cons.mp hb with z | z
    · rw [z]; exact .inl cq
    · rcases hg b z with w | w
      · exact .inl (hc b (List.mem_cons_of_mem _ w))
      · exact .inr w.2.2.2
  · by_cases z : b = q
    · rw [z]; exact ⟨_, upd_same⟩
    · rw [upd_ne z]; exact ⟨o, e⟩
  · rcases cc b hb with w | w
    · rcases List.mem_cons.mp hb with z | z
      · rw [z, cq] at w; cases w
      · rcases hg b z with u | u
        · rw [hc b (List.mem_cons_of_mem _ u)] at w; cases w
        · exact u.2.1
    · exact l.apart b i w
  · by_cases z : b = q
    · rw [z]; exact ⟨_, upd_same⟩
    · rw [upd_ne z]
      rcases List.mem_cons.mp hb with w | w
      · exact absurd w z
      · rcases hg b w with u | u
        · exact l.there b i (hc b (List.mem_cons_of_mem _ u))
        · exact u.2.2.1
/-- a statement x.m(e) on the list of slot i -/
theorem VS.meth {id : String} {nm : Str} {r : V → List V → Hp → VK → Prop} {g : D → List D → Option (List D)} (slot : Slot "list" nm id) (hty : typeOf (.builtin id) = pure (.type "method_descriptor")) (hmt : ∀ X, MtR X id r) (he : VO G N S me ms e f)
    (hr : ∀ (q : Addr) (vs : List V) (d : D) (ds ds' : List D) (v : V) (H0 H : Hp) (fp h : List Addr) (Q : VK), H q = some (.lst vs) → Ow G.K G.mg H0 H d me v fp → Ows G.K G.mg H0 H ds (.all me) vs h → g d ds = some ds' → Same H0 H → fp.Nodup → h.Nodup → (∀ b ∈ fp, b ∉ h) →
      ∃ vs' h', Ows G.K G.mg H0 H ds' (.all me) vs' h' ∧ h'.Nodup ∧ (∀ b ∈ h', b ∈ h ∨ b ∈ fp) ∧ (Q .non (upd H q (.lst vs')) → r (.ref q) [v] H Q))
    (hN : N[i]? = some x := by rfl) (hv : Vis S.sc x := by first | exact Or.inl rfl | exact Or.inr (Or.inl rfl) | exact Or.inr (Or.inr rfl)) (hd : (x == ("__debug__" : Str)) = false := by decide) (hcd : (x == ("__classdict__" : Str)) = false := by decide)
    (hbase : ∀ env, attributeBase (.Name x p) nm env (eval (.Name x p) env) = eval (.Name x p) env := by intro _; rfl)
    (hfew : ∀ env, ((backTo pos (starEach [e] env)).all (fun x => !x.1) && (backToKw pos (keywordEach [] env)).all (fun x => x.1.isSome) && decide (([e] : List Expr).length + ([] : List Keyword).length + (if ([] : List Keyword).isEmpty then 0 else 1) < 30)) = true := by intro _; rfl)
    (hline : (apos.endLine == pos.line) = true := by rfl) (hst : ∀ env, starEach [e] env = [(false, eval e env)] := by intro _; rfl) {spos : Pos} (hs : ∀ env, swapsWith (.Call (.Attribute (.Name x p) nm apos) [e] [] pos) none spos.line env = pure false := by intro _; rfl) :
    VS G N S rm ms0 (.Expr (.Call (.Attribute (.Name x p) nm apos) [e] [] pos) spos) (gMt i me g f) := by
  refine fun R a W t => (ps_expr (pe_bm PySem.F.plainAttrs_list slot hty (hmt _) (pe_var (i := i) hN (a.vis hv) hd hcd) (pa_cons (he R a W t) pa_nil (hst _)) (hbase _) (hfew _) hline ((hst _).trans rfl) rfl) (hs _)).imp fun D σ H ⟨ρ, H0, c, l, o⟩ => ?_
  unfold gMt rcv at o
  by_cases hr0 : rcvS (getS ρ i) = true
  · rw [if_pos hr0] at o
    obtain ⟨q, vs0, hq, hH0, _⟩ := rcv_at l hr0
    refine ⟨.ref q, hq, .inl ⟨rfl, vs0, .of hH0⟩, ρ, H0, c, l, (OutS.expr (F := FO G.K G.mg me ms) o).imp fun v H1 ⟨d, H01, c1, ρ1, e1, s1, l1, ⟨fp, ow, fr⟩, o1⟩ => ?_⟩
    clear o1
    have o : OutS G.K G.mg W rm msA ms0 H0 H c σ ((f ρ).bind fun d r => (rM (lsS me (getS r i)) r).bind fun ds r => (rM (g d ds) r).bind fun ds' r => .ok .nx (r.set i (some (.o (.all me), .lst ds')))) D := o
    rw [e1, bind_ok] at o
    cases hl : lsS me (getS ρ1 i) with
    | none => rw [hl] at o; exact o.elim
    | some ds =>
      rw [hl, rM_some, bind_ok] at o
      obtain ⟨vs, h, hH, ows, nd, hc⟩ := ls_at l1 hl hq
      cases hg : g d ds with
      | none => rw [hg] at o; exact o.elim
      | some ds' =>
        rw [hg, rM_some, bind_ok] at o
        have dj : ∀ b ∈ fp, b ∉ h := fun b hb hh => by
          have := fr.nc b hb
          rw [hc b (List.mem_cons_of_mem _ hh)] at this; cases this
        obtain ⟨vs', h', ows', nd', hm, run⟩ := hr q vs d ds ds' v H01 H1 fp h (fun _ H3 => D.nx σ H3) hH ow ows hg l1.sub fr.nd (List.nodup_cons.mp nd).2 dj
        obtain ⟨st, li⟩ := ls_write l1 (s1.mono (ms' := msA) fun _ _ => rfl) rfl hq hH nd hc ows' nd' fun b hb => (hm b hb).imp (fun z => z) fun w => ⟨fr.nc b w, fr.n0 b w, fr.there b w, (fr.new b w).imp (fun z => z) fun ⟨j, z, _⟩ => ⟨j, z, rfl⟩⟩
        exact run (o σ H01 _ _ st li .refl)
  · rw [if_neg hr0] at o
    exact o.elim
def appO (d : D) (ds : List D) : Option (List D) := if ds.length < 16777216 then some (ds ++ [d]) else none
/-- xs.append(e) -/
theorem VS.app (he : VO G N S me ms e f)
    (hN : N[i]? = some x := by rfl) (hv : Vis S.sc x := by first | exact Or.inl rfl | exact Or.inr (Or.inl rfl) | exact Or.inr (Or.inr rfl)) (hd : (x == ("__debug__" : Str)) = false := by decide) (hcd : (x == ("__classdict__" : Str)) = false := by decide)
    (hline : (apos.endLine == pos.line) = true := by rfl) (hst : ∀ env, starEach [e] env = [(false, eval e env)] := by intro _; rfl) 
    (hbase : ∀ env, attributeBase (.Name x p) "append" env (eval (.Name x p) env) = eval (.Name x p) env := by intro _; rfl)
    (hfew : ∀ env, ((backTo pos (starEach [e] env)).all (fun x => !x.1) && (backToKw pos (keywordEach [] env)).all (fun x => x.1.isSome) && decide (([e] : List Expr).length + ([] : List Keyword).length + (if ([] : List Keyword).isEmpty then 0 else 1) < 30)) = true := by intro _; rfl)
    {spos : Pos} (hs : ∀ env, swapsWith (.Call (.Attribute (.Name x p) "append" apos) [e] [] pos) none spos.line env = pure false := by intro _; rfl) :
    VS G N S rm ms0 (.Expr (.Call (.Attribute (.Name x p) "append" apos) [e] [] pos) spos) (gMt i me appO f) := by
  refine VS.meth PySem.F.slot_list_append PySem.F.type_list_append (fun X => mt_append) he (fun q vs d ds ds' v H0 H fp h Q hH ow ows hg _ ndf ndh dj => ?_) hN hv hd hcd hbase hfew hline hst hs
  unfold appO at hg
  split at hg
  · rename_i hlt
    cases hg
    refine ⟨vs ++ [v], h ++ fp, Ows.snoc ows ow, List.nodup_append.mpr ⟨ndh, ndf, fun b hb b' hb' e => dj b' hb' (e ▸ hb)⟩, fun b hb => List.mem_append.mp hb, fun z => ⟨q, vs, v, rfl, rfl, hH, ?_, z⟩⟩
    rw [ows.length, sizeLine_eq]; exact hlt
  · cases hg
/-- xs.extend(e), e a list -/
def extO (d : D) (ds : List D) : Option (List D) := match d with
  | .lst es => if ds.length + es.length ≤ 16777216 then some (ds ++ es) else none
  | _ => none
theorem VS.ext (he : VO G N S .z ms e f)
    (hN : N[i]? = some x := by rfl) (hv : Vis S.sc x := by first | exact Or.inl rfl | exact Or.inr (Or.inl rfl) | exact Or.inr (Or.inr rfl)) (hd : (x == ("__debug__" : Str)) = false := by decide) (hcd : (x == ("__classdict__" : Str)) = false := by decide)
    (hline : (apos.endLine == pos.line) = true := by rfl) (hst : ∀ env, starEach [e] env = [(false, eval e env)] := by intro _; rfl) 
    (hbase : ∀ env, attributeBase (.Name x p) "extend" env (eval (.Name x p) env) = eval (.Name x p) env := by intro _; rfl)
    (hfew : ∀ env, ((backTo pos (starEach [e] env)).all (fun x => !x.1) && (backToKw pos (keywordEach [] env)).all (fun x => x.1.isSome) && decide (([e] : List Expr).length + ([] : List Keyword).length + (if ([] : List Keyword).isEmpty then 0 else 1) < 30)) = true := by intro _; rfl)
    {spos : Pos} (hs : ∀ env, swapsWith (.Call (.Attribute (.Name x p) "extend" apos) [e] [] pos) none spos.line env = pure false := by intro _; rfl) :
    VS G N S rm ms0 (.Expr (.Call (.Attribute (.Name x p) "extend" apos) [e] [] pos) spos) (gMt i .z extO f) := by
  refine VS.meth PySem.F.slot_list_extend PySem.F.type_list_extend (fun X => mt_extend) he (fun q vs d ds ds' v H0 H fp h Q hH ow ows hg s0 ndf ndh dj => ?_) hN hv hd hcd hbase hfew hline hst hs
  obtain ⟨e1, fz⟩ := Ow.zero.mp ow
  obtain ⟨e2, fzs⟩ := Ows.all_z.mp ows
  cases d <;> first | cases hg | skip
  rename_i es
  unfold extO at hg
  dsimp only at hg
  split at hg
  · rename_i hlt
    cases hg
    obtain ⟨b, ws, eb, k, fw⟩ := fz
    refine ⟨vs ++ ws, [], Ows.all_z.mpr ⟨rfl, fzs.append fw⟩, List.nodup_nil, by simp, fun z => ⟨q, b, vs, ws, rfl, by rw [eb], hH, s0 _ _ k, ?_, z⟩⟩
    rw [fzs.length, fw.length, sizeLine_eq]; exact hlt
  · cases hg
/-- x[e] = v -/
def gPut (i : Nat) (fv fi : M D) : M Fl := fun r => (fv r).bind fun d r => rcv i (fun r => (fi r).bind fun j r => (rM (lsS .z (getS r i)) r).bind fun ds r => onI (fun z r => (rM (ixN ds.length z) r).bind fun n r => .ok .nx (r.set i (some (.o (.all .z), .lst (ds.set n d))))) j r) r
theorem Fzs.set {K : PySem.W.Frag} {mg : Str → Option Value} {H : Hp} : ∀ {ds : List D} {vs : List V} {d : D} {v : V} (n : Nat), Fzs K mg H ds vs → Fz K mg H d v → Fzs K mg H (ds.set n d) (vs.set n v)
  | [], _, _, _, n, h, _ => by rw [show _ = [] from h]; rfl
  | x :: ds, _, d, v, 0, ⟨w, r, e, h, t⟩, k => by subst e; exact ⟨v, r, rfl, k, t⟩
  | x :: ds, _, d, v, n + 1, ⟨w, r, e, h, t⟩, k => by subst e; exact ⟨w, r.set n v, rfl, h, Fzs.set n t k⟩
theorem VS.put {tpos spos : Pos} (he : VO G N S .z ms1 a fa) (hi : VO G N S .z ms2 b fb)
    (hN : N[i]? = some x := by rfl) (hv : Vis S.sc x := by first | exact Or.inl rfl | exact Or.inr (Or.inl rfl) | exact Or.inr (Or.inr rfl)) (hd : (x == ("__debug__" : Str)) = false := by decide) (hcd : (x == ("__classdict__" : Str)) = false := by decide)
    (hs : ∀ env, swapsWithSole [.Subscript (.Name x p) b tpos] a spos.line env = pure false := by intro _; rfl) (hw : ∀ env, swappedStores [.Subscript (.Name x p) b tpos] a env = pure none := by intro _; rfl)
    (h1 : ∀ env, (assignEach [.Subscript (.Name x p) b tpos] env).map (·.2) = [assign (.Subscript (.Name x p) b tpos) env] := by intro _; rfl)
    (ha : ∀ env v, assign (.Subscript (.Name x p) b tpos) env v = (do
      let ov ← holding [v] (eval (.Name x p) env)
      let iv ← holding [v, ov] (eval b env)
      standAt tpos
      holding [v, ov, iv] (setItem ov iv v)
      release [v, ov, iv] []) := by intro _ _; rfl) :
    VS G N S rm ms0 (.Assign [.Subscript (.Name x p) b tpos] a spos) (gPut i fa fb) := by
  refine fun R at_ W t => (ps_asg (he R at_ W t) (pg_sub (pe_var (i := i) hN (at_.vis hv) hd hcd) (hi R at_ W t) set_list (ha _)) (hs _) (hw _) (h1 _)).imp fun D σ H ⟨ρ, H0, c, l, o⟩ => ?_
  refine ⟨ρ, H0, c, l, (OutS.expr (F := FO G.K G.mg .z ms1) o).imp fun v H1 ⟨d, H01, c1, ρ1, e1, s1, l1, ⟨fp, ow, fr⟩, o1⟩ => ?_⟩
  have fz := (Ow.zero.mp ow).2
  unfold rcv at o1
  by_cases hr0 : rcvS (getS ρ1 i) = true
  · rw [if_pos hr0] at o1
    obtain ⟨q, vs0, hq, hH0, _⟩ := rcv_at l1 hr0
    refine ⟨.ref q, hq, ρ1, H01, c1, l1, (OutS.expr (F := FO G.K G.mg .z ms2) o1).imp fun v2 H2 ⟨d2, H02, c2, ρ2, e2, s2, l2, ⟨fp2, ow2, fr2⟩, o2⟩ => ?_⟩
    cases hl : lsS .z (getS ρ2 i) with
    | none => rw [hl] at o2; exact o2.elim
    | some ds =>
      rw [hl, rM_some, bind_ok] at o2
      obtain ⟨vs, h, hH, ows, nd, hc⟩ := ls_at l2 hl hq
      obtain ⟨eh, fzs⟩ := Ows.all_z.mp ows
      subst eh
      cases d2 <;> first | exact o2.elim | skip
      rename_i j
      have ez : v2 = .int j := (Ow.zero.mp ow2).2
      subst ez
      rw [onI_int] at o2
      cases hn : ixN ds.length j with
      | none => rw [hn] at o2; exact o2.elim
      | some n =>
        rw [hn, rM_some, bind_ok] at o2
        obtain ⟨st, li⟩ := ls_write (me := .z) (g' := []) (ds' := ds.set n d) (vs' := vs.set n v) l2 (.refl (ms := msA)) rfl hq hH nd hc (Ows.all_z.mpr ⟨rfl, Fzs.set n fzs (Fz.mono s2.grow d v fz)⟩) List.nodup_nil (by simp)
        exact ⟨q, vs, j, n, rfl, rfl, hH, by rw [fzs.length]; exact hn, o2 σ H02 _ _ st li .refl⟩
  · rw [if_neg hr0] at o1
    exact o1.elim
/-- xs.m() -/
def gMt0 (i : Nat) (g : List D → Option (List D)) : M Fl := fun r => (rM (lsS .z (getS r i)) r).bind fun ds r => (rM (g ds) r).bind fun ds' r => .ok .nx (r.set i (some (.o (.all .z), .lst ds')))
theorem VS.meth0 {id : String} {nm : Str} {r : V → List V → Hp → VK → Prop} {g : List D → Option (List D)} (slot : Slot "list" nm id) (hty : typeOf (.builtin id) = pure (.type "method_descriptor")) (hmt : ∀ X, MtR X id r)
    (hr : ∀ (q : Addr) (vs : List V) (ds ds' : List D) (H0 H : Hp) (Q : VK), H q = some (.lst vs) → Fzs G.K G.mg H0 ds vs → g ds = some ds' → ∃ vs', Fzs G.K G.mg H0 ds' vs' ∧ ((∀ y, Q y (upd H q (.lst vs'))) → r (.ref q) [] H Q))
    (hN : N[i]? = some x := by rfl) (hv : Vis S.sc x := by first | exact Or.inl rfl | exact Or.inr (Or.inl rfl) | exact Or.inr (Or.inr rfl)) (hd : (x == ("__debug__" : Str)) = false := by decide) (hcd : (x == ("__classdict__" : Str)) = false := by decide)
    (hbase : ∀ env, attributeBase (.Name x p) nm env (eval (.Name x p) env) = eval (.Name x p) env := by intro _; rfl)
    (hline : (apos.endLine == pos.line) = true := by rfl) {spos : Pos} (hs : ∀ env, swapsWith (.Call (.Attribute (.Name x p) nm apos) [] [] pos) none spos.line env = pure false := by intro _; rfl) :
    VS G N S rm ms0 (.Expr (.Call (.Attribute (.Name x p) nm apos) [] [] pos) spos) (gMt0 i g) := by
  refine fun R a W t => (ps_expr (pe_bm0 PySem.F.plainAttrs_list slot hty (hmt _) (pe_var (i := i) hN (a.vis hv) hd hcd) (hbase _) hline) (hs _)).imp fun D σ H ⟨ρ, H0, c, l, o⟩ => ?_
  unfold gMt0 at o
  cases hl : lsS .z (getS ρ i) with
  | none => rw [hl] at o; exact o.elim
  | some ds =>
    rw [hl, rM_some, bind_ok] at o
    obtain ⟨w, fp, hq, ⟨q, vs, h, ew, hH, ef, ows⟩, nd, hc⟩ := l.slot i _ _ (lsS_ok hl)
    subst ew ef
    obtain ⟨eh, fzs⟩ := Ows.all_z.mp ows
    subst eh
    cases hg : g ds with
    | none => rw [hg] at o; exact o.elim
    | some ds' =>
      rw [hg, rM_some, bind_ok] at o
      obtain ⟨vs', fz', run⟩ := hr q vs ds ds' H0 H (fun _ H3 => D.nx σ H3) hH fzs hg
      obtain ⟨st, li⟩ := ls_write (me := .z) (g' := []) (ds' := ds') (vs' := vs') l (.refl (ms := msA)) rfl hq hH nd hc (Ows.all_z.mpr ⟨rfl, fz'⟩) List.nodup_nil (by simp)
      exact ⟨.ref q, hq, .inl ⟨rfl, vs, .of hH⟩, run fun y => o σ H0 _ _ st li .refl⟩
theorem Fzs.reverse {K : PySem.W.Frag} {mg : Str → Option Value} {H : Hp} : ∀ {ds : List D} {vs : List V}, Fzs K mg H ds vs → Fzs K mg H ds.reverse vs.reverse
  | [], _, h => by rw [show _ = [] from h]; rfl
  | d :: ds, _, ⟨w, r, e, h, t⟩ => by
    subst e
    rw [List.reverse_cons, List.reverse_cons]
    exact (Fzs.reverse t).append ⟨w, [], rfl, h, rfl⟩
theorem VS.rev (hN : N[i]? = some x := by rfl) (hv : Vis S.sc x := by first | exact Or.inl rfl | exact Or.inr (Or.inl rfl) | exact Or.inr (Or.inr rfl)) (hd : (x == ("__debug__" : Str)) = false := by decide) (hcd : (x == ("__classdict__" : Str)) = false := by decide)
    (hbase : ∀ env, attributeBase (.Name x p) "reverse" env (eval (.Name x p) env) = eval (.Name x p) env := by intro _; rfl)
    (hline : (apos.endLine == pos.line) = true := by rfl) {spos : Pos} (hs : ∀ env, swapsWith (.Call (.Attribute (.Name x p) "reverse" apos) [] [] pos) none spos.line env = pure false := by intro _; rfl) :
    VS G N S rm ms0 (.Expr (.Call (.Attribute (.Name x p) "reverse" apos) [] [] pos) spos) (gMt0 i fun ds => some ds.reverse) :=
  VS.meth0 PySem.F.slot_list_reverse PySem.F.type_list_reverse (fun X => mt_reverse) (fun q vs ds ds' H0 H Q hH fz hg => by
    cases hg
    exact ⟨vs.reverse, fz.reverse, fun z => ⟨q, vs, rfl, rfl, hH, z _⟩⟩) hN hv hd hcd hbase hline hs
theorem VS.clr (hN : N[i]? = some x := by rfl) (hv : Vis S.sc x := by first | exact Or.inl rfl | exact Or.inr (Or.inl rfl) | exact Or.inr (Or.inr rfl)) (hd : (x == ("__debug__" : Str)) = false := by decide) (hcd : (x == ("__classdict__" : Str)) = false := by decide)
    (hbase : ∀ env, attributeBase (.Name x p) "clear" env (eval (.Name x p) env) = eval (.Name x p) env := by intro _; rfl)
    (hline : (apos.endLine == pos.line) = true := by rfl) {spos : Pos} (hs : ∀ env, swapsWith (.Call (.Attribute (.Name x p) "clear" apos) [] [] pos) none spos.line env = pure false := by intro _; rfl) :
    VS G N S rm ms0 (.Expr (.Call (.Attribute (.Name x p) "clear" apos) [] [] pos) spos) (gMt0 i fun _ => some []) :=
  VS.meth0 PySem.F.slot_list_clear PySem.F.type_list_clear (fun X => mt_clear) (fun q vs ds ds' H0 H Q hH fz hg => by
    cases hg
    exact ⟨[], rfl, fun z => ⟨q, vs, rfl, rfl, hH, z _⟩⟩) hN hv hd hcd hbase hline hs
theorem Fzs.dropLast {K : PySem.W.Frag} {mg : Str → Option Value} {H : Hp} {ds : List D} {vs : List V} (h : Fzs K mg H ds vs) : Fzs K mg H ds.dropLast vs.dropLast := by
  rw [List.dropLast_eq_take, List.dropLast_eq_take, h.length]
  exact Fzs.take _ h
theorem VS.pop (hN : N[i]? = some x := by rfl) (hv : Vis S.sc x := by first | exact Or.inl rfl | exact Or.inr (Or.inl rfl) | exact Or.inr (Or.inr rfl)) (hd : (x == ("__debug__" : Str)) = false := by decide) (hcd : (x == ("__classdict__" : Str)) = false := by decide)
    (hbase : ∀ env, attributeBase (.Name x p) "pop" env (eval (.Name x p) env) = eval (.Name x p) env := by intro _; rfl)
    (hline : (apos.endLine == pos.line) = true := by rfl) {spos : Pos} (hs : ∀ env, swapsWith (.Call (.Attribute (.Name x p) "pop" apos) [] [] pos) none spos.line env = pure false := by intro _; rfl) :
    VS G N S rm ms0 (.Expr (.Call (.Attribute (.Name x p) "pop" apos) [] [] pos) spos) (gMt0 i fun ds => if ds = [] then none else some ds.dropLast) :=
  VS.meth0 PySem.F.slot_list_pop PySem.F.type_list_pop (fun X => mt_pop) (fun q vs ds ds' H0 H Q hH fz hg => by
    split at hg
    · cases hg
    · rename_i hne
      cases hg
      have hl := fz.length
      have : 0 < ds.length := List.length_pos_iff.mpr hne
      obtain ⟨y, hy⟩ : ∃ y, vs[vs.length - 1]? = some y := ⟨vs[vs.length - 1], List.getElem?_eq_getElem (by omega)⟩
      exact ⟨vs.dropLast, fz.dropLast, fun z => ⟨q, vs, y, rfl, rfl, hH, hy, z _⟩⟩) hN hv hd hcd hbase hline hs
end
/-! ### applied -/
section
variable {α : Type} (s0 : Sl) (r : En) (i : Nat) (me : Md) (d : D) (ds es : List D) (f fv fi : M D)
@[simp] theorem mdEq_z : mdEq .z .z = true := rfl
@[simp] theorem mdEq_1 : mdEq m1 m1 = true := rfl
@[simp] theorem lsS_z : lsS .z (some (.o (.all .z), .lst ds)) = some ds := rfl
@[simp] theorem lsS_1 : lsS m1 (some (.o (.all (.o (.all .z))), .lst ds)) = some ds := rfl
@[simp] theorem rcvS_o (k : Kd) : rcvS (some (.o k, .lst ds)) = true := rfl
@[simp] theorem rcv_ap (k : M α) : rcv i k (s0 :: r) = if rcvS (getS (s0 :: r) i) = true then k (s0 :: r) else .bad := rfl
@[simp] theorem gMt_ap (g : D → List D → Option (List D)) : gMt i me g f (s0 :: r) = rcv i (fun r => (f r).bind fun d r => (rM (lsS me (getS r i)) r).bind fun ds r => (rM (g d ds) r).bind fun ds' r => .ok .nx (r.set i (some (.o (.all me), .lst ds')))) (s0 :: r) := rfl
@[simp] theorem gMt0_ap (g : List D → Option (List D)) : gMt0 i g (s0 :: r) = (rM (lsS .z (getS (s0 :: r) i)) (s0 :: r)).bind fun ds r => (rM (g ds) r).bind fun ds' r => .ok .nx (r.set i (some (.o (.all .z), .lst ds'))) := rfl
@[simp] theorem gPut_ap : gPut i fv fi (s0 :: r) = (fv (s0 :: r)).bind fun d r => rcv i (fun r => (fi r).bind fun j r => (rM (lsS .z (getS r i)) r).bind fun ds r => onI (fun z r => (rM (ixN ds.length z) r).bind fun n r => .ok .nx (r.set i (some (.o (.all .z), .lst (ds.set n d))))) j r) r := rfl
@[simp] theorem appO_ap : appO d ds = if ds.length < 16777216 then some (ds ++ [d]) else none := rfl
@[simp] theorem extO_ap : extO (.lst es) ds = if ds.length + es.length ≤ 16777216 then some (ds ++ es) else none := rfl
end
end Vm
set_option Elab.async false
set_option linter.all false
set_option maxRecDepth 100000
set_option maxHeartbeats 4000000
namespace Vm
open PySem PySem.Spec PyProof.Rows L2

/-! ### order -/
def ltD (d e : D) : Bool := PySem.W.dataLt (toPy d) (toPy e)
def leD (d e : D) : Bool := !ltD e d
def alD (d e : D) : Bool := PySem.W.alike (toPy d) (toPy e)
def notNon : D → Bool
  | .non => false
  | _ => true
def ltOk (d e : D) : Bool := plain d && (plain e && (alD d e && (notNon d && (decide (dep d ≤ 60) && decide (dep e ≤ 60)))))
theorem notNon_py {d : D} (h : notNon d = true) (p : plain d = true) : toPy d ≠ .none := by
  intro e
  cases d <;> first | (cases e; done) | exact absurd h Bool.false_ne_true
theorem ltOk_of {d e : D} (h : ltOk d e = true) : plain d = true ∧ plain e = true ∧ PySem.W.alike (toPy d) (toPy e) = true ∧ toPy d ≠ .none ∧ min (toPy d).depth (toPy e).depth ≤ 64 := by
  unfold ltOk at h
  simp only [Bool.and_eq_true, decide_eq_true_eq] at h
  obtain ⟨h1, h2, h3, h4, h5, h6⟩ := h
  have := dep_py d
  exact ⟨h1, h2, h3, notNon_py h4 h1, by omega⟩
section
variable {G : GC} {N : List Str} {S : SC} {X : Cx}
abbrev rLtV (K : PySem.W.Frag) (f : PyData → PyData → Bool) : R2 := fun x y H Q => ∃ d e, Dp K H x d ∧ Dp K H y e ∧ PySem.W.alike d e = true ∧ d ≠ .none ∧ min d.depth e.depth ≤ 64 ∧ Q (.bl (f d e)) H
theorem op_ltD (hu : X.A.units + 100 < cLine) : OpR X (compareOp .Lt) (rLtV X.K fun d e => PySem.W.dataLt d e) := by
  intro pins s σ H x y v u Q I rx ry ⟨d, e, hd, he, al, nn, hm, q⟩
  obtain ⟨as, r1⟩ := Dp.reads I d x v hd rx
  obtain ⟨bs, r2⟩ := Dp.reads I e y u he ry
  exact PySem.W.lt_data r1 r2 al nn (by omega) ⟨.bl _, H, I, rfl, q⟩
theorem op_gtD (hu : X.A.units + 100 < cLine) : OpR X (compareOp .Gt) (rLtV X.K fun d e => PySem.W.dataLt e d) := by
  intro pins s σ H x y v u Q I rx ry ⟨d, e, hd, he, al, nn, hm, q⟩
  obtain ⟨as, r1⟩ := Dp.reads I d x v hd rx
  obtain ⟨bs, r2⟩ := Dp.reads I e y u he ry
  exact PySem.W.gt_data r1 r2 al nn (by omega) ⟨.bl _, H, I, rfl, q⟩
theorem op_leD (hu : X.A.units + 100 < cLine) : OpR X (compareOp .LtE) (rLtV X.K fun d e => !PySem.W.dataLt e d) := by
  intro pins s σ H x y v u Q I rx ry ⟨d, e, hd, he, al, nn, hm, q⟩
  obtain ⟨as, r1⟩ := Dp.reads I d x v hd rx
  obtain ⟨bs, r2⟩ := Dp.reads I e y u he ry
  exact PySem.W.le_data r1 r2 al nn (by omega) ⟨.bl _, H, I, rfl, q⟩
theorem op_geD (hu : X.A.units + 100 < cLine) : OpR X (compareOp .GtE) (rLtV X.K fun d e => !PySem.W.dataLt d e) := by
  intro pins s σ H x y v u Q I rx ry ⟨d, e, hd, he, al, nn, hm, q⟩
  obtain ⟨as, r1⟩ := Dp.reads I d x v hd rx
  obtain ⟨bs, r2⟩ := Dp.reads I e y u he ry
  exact PySem.W.ge_data r1 r2 al nn (by omega) ⟨.bl _, H, I, rfl, q⟩
def oCmp (f : D → D → Bool) (d e : D) : Option D := if ltOk d e = true then some (.bl (f d e)) else none
theorem ru_cmp {f : D → D → Bool} {g : PyData → PyData → Bool} (hg : ∀ d e, f d e = g (toPy d) (toPy e)) : Ru2 G (rLtV G.K g) .z (oCmp f) := by
  intro H0 H d1 d2 x y d Q s h1 h2 ho fi
  unfold oCmp at ho
  split at ho
  · rename_i hk
    obtain ⟨p1, p2, p3, p4, p5⟩ := ltOk_of hk
    cases ho
    refine ⟨toPy d1, toPy d2, Fz.dp d1 x (h1.fz s) p1, Fz.dp d2 y (h2.fz s) p2, p3, p4, p5, ?_⟩
    rw [← hg]
    exact fi.frz s rfl
  · cases ho
def oLt := oCmp ltD
def oLe := oCmp leD
def oGt := oCmp fun d e => ltD e d
def oGe := oCmp fun d e => leD e d
theorem Cm.lt' (hc : S.cm = true := by rfl) : Cm G N S .Lt oLt := ⟨_, fun _ a => op_ltD (a.u100 hc), ru_cmp fun _ _ => rfl⟩
theorem Cm.le' (hc : S.cm = true := by rfl) : Cm G N S .LtE oLe := ⟨_, fun _ a => op_leD (a.u100 hc), ru_cmp fun _ _ => rfl⟩
theorem Cm.gt' (hc : S.cm = true := by rfl) : Cm G N S .Gt oGt := ⟨_, fun _ a => op_gtD (a.u100 hc), ru_cmp fun _ _ => rfl⟩
theorem Cm.ge' (hc : S.cm = true := by rfl) : Cm G N S .GtE oGe := ⟨_, fun _ a => op_geD (a.u100 hc), ru_cmp fun _ _ => rfl⟩
/-! ### sorted -/
/-- they may be sorted: alike, all tuples that are not empty or none of them one -/
def tupNE : D → Bool
  | .tup (_ :: _) => true
  | _ => false
def notTup : D → Bool
  | .tup _ => false
  | .non => false
  | _ => true
def sortOk (ds : List D) : Bool := plains ds && (decide (deps ds ≤ 60) && ((ds.all tupNE || ds.all notTup) && ds.all fun d => ds.all fun e => alD d e))
def sortD (ds : List D) : List D := ds.mergeSort leD
def oSorted : List D → Option D
  | [.lst ds] => if sortOk ds = true then some (.lst (sortD ds)) else none
  | _ => none
theorem plains_mem : ∀ {ds : List D}, plains ds = true → ∀ d ∈ ds, plain d = true
  | d :: ds, h, e, he => by
    obtain ⟨h1, h2⟩ := Bool.and_eq_true_iff.mp (show (plain d && plains ds) = true from h)
    rcases List.mem_cons.mp he with z | z
    · rw [z]; exact h1
    · exact plains_mem h2 e z
theorem deps_mem : ∀ {ds : List D} {n : Nat}, deps ds ≤ n → ∀ d ∈ ds, dep d ≤ n
  | d :: ds, n, h, e, he => by
    have h' : max (dep d) (deps ds) ≤ n := h
    rcases List.mem_cons.mp he with z | z
    · rw [z]; omega
    · exact deps_mem (by omega) e z
theorem tupNE_py {d : D} (h : tupNE d = true) : ∃ x r, toPy d = .tuple (x :: r) := by
  cases d <;> first | exact absurd h Bool.false_ne_true | skip
  rename_i xs
  cases xs with
  | nil => exact absurd h Bool.false_ne_true
  | cons x r => exact ⟨_, _, rfl⟩
theorem notTup_py {d : D} (h : notTup d = true) (p : plain d = true) : toPy d ≠ .none ∧ ∀ xs, toPy d ≠ .tuple xs := by
  cases d <;> first | exact absurd h Bool.false_ne_true | exact ⟨fun e => (by cases e), fun xs e => (by cases e)⟩
theorem sortOk_of {ds : List D} (h : sortOk ds = true) : plains ds = true ∧ (∀ d ∈ ds, dep d ≤ 60) ∧ PySem.W.AllAlike (ds.map toPy) ∧ PySem.W.Sortable (ds.map toPy) := by
  unfold sortOk at h
  simp only [Bool.and_eq_true, decide_eq_true_eq, Bool.or_eq_true, List.all_eq_true] at h
  obtain ⟨h1, h2, h3, h4⟩ := h
  refine ⟨h1, deps_mem h2, fun a ha b hb => ?_, ?_⟩
  · obtain ⟨d, hd, rfl⟩ := List.mem_map.mp ha
    obtain ⟨e, he, rfl⟩ := List.mem_map.mp hb
    exact h4 d hd e he
  · rcases h3 with h3 | h3
    · refine .inl fun a ha => ?_
      obtain ⟨d, hd, rfl⟩ := List.mem_map.mp ha
      exact tupNE_py (h3 d hd)
    · refine .inr fun a ha => ?_
      obtain ⟨d, hd, rfl⟩ := List.mem_map.mp ha
      exact notTup_py (h3 d hd) (plains_mem h1 d hd)
/-- pairs of a value and its data -/
abbrev VD := V × D
theorem each_vd {K : PySem.W.Frag} {mg : Str → Option Value} {pins : List (Addr × Obj)} {σ : L2.St} {H : Hp} {s : Shared} (I : Inv X pins σ H s) (hK : X.K = K) : ∀ {ds : List D} {vs : List V} {us : List Value}, Fzs K mg H ds vs → plains ds = true → Vals vs us →
    PySem.W.EachIs (fun u (b : VD) => RelV b.1 u) us (vs.zip ds) ∧ PySem.W.EachIs (fun u (b : VD) => ∃ as, Reads s.heap u (toPy b.2) as) us (vs.zip ds)
  | [], vs, us, h, _, r => by
    rw [show vs = [] from h] at r
    cases r
    exact ⟨by rw [show vs = [] from h]; exact .nil, by rw [show vs = [] from h]; exact .nil⟩
  | d :: ds, _, us, ⟨v, w, e, h, t⟩, p, r => by
    subst e
    cases r with
    | cons r1 rr =>
      obtain ⟨p1, p2⟩ := Bool.and_eq_true_iff.mp (show (plain d && plains ds) = true from p)
      obtain ⟨i1, i2⟩ := each_vd I hK t p2 rr
      subst hK
      exact ⟨.cons r1 i1, .cons (Dp.reads I _ _ _ (Fz.dp d v h p1) r1) i2⟩
theorem each_vals : ∀ {us : List Value} {bs : List VD}, PySem.W.EachIs (fun u (b : VD) => RelV b.1 u) us bs → Vals (bs.map (·.1)) us
  | _, _, .nil => .nil
  | _, _, .cons h t => .cons h (each_vals t)
def rSortD (K : PySem.W.Frag) (mg : Str → Option Value) : List V → Hp → VK → Prop := fun xs H Q => ∃ (a : Addr) (vs : List V) (ds : List D), xs = [.ref a] ∧ SqL K H a vs ∧ Fzs K mg H ds vs ∧ sortOk ds = true ∧
  ∀ p, H p = none → Q (.ref p) (upd H p (.lst (((vs.zip ds).mergeSort (PySem.W.dataLe false fun b : VD => toPy b.2)).map (·.1))))
theorem cr_sortD (hu : X.A.units + 100 < cLine) : CallR X (.builtin "sorted") (rSortD X.K X.mg) := by
  intro pins s σ H xs us Q I r ⟨a, vs, ds, ex, hs, hf, ok, q⟩
  subst ex
  obtain ⟨its, rv, hl, hz⟩ := I.list hs
  obtain ⟨u, rfl, ru⟩ := vals1 r
  obtain rfl : u = Value.ref a := ru
  obtain ⟨p1, p2, p3, p4⟩ := sortOk_of ok
  obtain ⟨e1, e2⟩ := each_vd I rfl hf p1 rv
  have hlen := hf.length
  have em : (vs.zip ds).map (fun b : VD => toPy b.2) = ds.map toPy := by
    show (vs.zip ds).map (toPy ∘ Prod.snd) = _
    rw [← List.map_map, List.map_snd_zip (by omega)]
  have hzl : (vs.zip ds).length = vs.length := by rw [List.length_zip]; omega
  refine PySem.W.sorted_data (enc := fun b : VD => toPy b.2) hl.isList e1 e2 (by rw [em]; exact p3) (by rw [em]; exact p4) (by rw [hzl]; exact hz) (fun b hb => ?_) fun out ho hout => ?_
  · have := p2 b.2 (List.of_mem_zip hb).2
    have := dep_py b.2
    omega
  · have rel := each_vals hout
    obtain ⟨n, hn⟩ := sortedAll_at s.heap its out.toArray
    refine ⟨.ref _, upd H (s.heap.objs.size + 1) (.lst _), I.laid (t' := s.toks) (fun b o e => sortedAll_old e) (Nat.le_succ _) ⟨?_, out, n, rel, hn⟩, rfl, q _ (I.hok.fresh (Nat.le_succ _))⟩
    rw [List.length_map, List.length_mergeSort, hzl]
    exact hz
theorem fzs_zip {K : PySem.W.Frag} {mg : Str → Option Value} {H : Hp} : ∀ {ds : List D} {vs : List V}, Fzs K mg H ds vs → ∀ b ∈ vs.zip ds, Fz K mg H b.2 b.1
  | [], vs, h, b, hb => by rw [show vs = [] from h] at hb; cases hb
  | d :: ds, _, ⟨v, w, e, h, t⟩, b, hb => by
    subst e
    rcases List.mem_cons.mp hb with z | z
    · rw [z]; exact h
    · exact fzs_zip t b z
theorem fzs_of_zip {K : PySem.W.Frag} {mg : Str → Option Value} {H : Hp} : ∀ {bs : List VD}, (∀ b ∈ bs, Fz K mg H b.2 b.1) → Fzs K mg H (bs.map (·.2)) (bs.map (·.1))
  | [], _ => rfl
  | b :: bs, h => ⟨_, _, rfl, h b List.mem_cons_self, fzs_of_zip fun c hc => h c (List.mem_cons_of_mem _ hc)⟩
theorem zip_sort {ds : List D} {vs : List V} (hl : vs.length = ds.length) : ((vs.zip ds).mergeSort (PySem.W.dataLe false fun b : VD => toPy b.2)).map (·.2) = sortD ds := by
  have e : ((vs.zip ds).mergeSort (PySem.W.dataLe false fun b : VD => toPy b.2)).map Prod.snd = ((vs.zip ds).map Prod.snd).mergeSort leD := List.map_mergeSort fun a _ b _ => rfl
  rw [List.map_snd_zip (by omega)] at e
  exact e
theorem ru_sorted {m : Md} (hm : ZO m) : RuA G (rSortD G.K G.mg) m oSorted := by
  intro H0 H ds xs d Q s h ho f
  unfold oSorted at ho
  split at ho
  · split at ho
    · rename_i es ok
      cases ho
      obtain ⟨x, e, a, vs, e1, k, g⟩ := shs_one h
      refine ⟨a, vs, es, by rw [e, e1], .of k, Fzs.mono s es vs g, ok, fun p hp => ?_⟩
      have z : Fzs G.K G.mg H0 (sortD es) (((vs.zip es).mergeSort (PySem.W.dataLe false fun b : VD => toPy b.2)).map (·.1)) := by
        rw [← zip_sort g.length]
        exact fzs_of_zip fun b hb => fzs_zip g b (List.mem_mergeSort.mp hb)
      exact f.lst hm s z hp
    · cases ho
  · cases ho
end
section
variable {G : GC} {N : List Str} {S : SC} {bs bs1 bs2 ms ms1 ms2 ms3 as : Ms} {m : Md} {k : Kd} {e a b : Expr} {es : List Expr} {f fa fb : M D} {fs : M (List D)} {pos p : Pos}
theorem VO.sorted (hm : G.mg "sorted" = none) (ha : VA G N S bs ms (e :: es) fs) (hc : S.cm = true := by rfl) (hg : Glb S "sorted" := by rfl) (he : ∀ env, starEach (e :: es) env = (false, eval e env) :: starEach es env := by intro _; rfl) (hpl : ∀ env, (backTo pos (starEach es env)).any (·.1) = false := by intro _; rfl) :
    VO G N S m1 ms (.Call (.Name "sorted" p) (e :: es) [] pos) (fA oSorted fs) := .callB (fun _ a => cr_sortD (a.u100 hc)) (ru_sorted (.inr rfl)) hm (by decide +kernel) ha hg (by decide) (by decide) he hpl
end
end Vm
set_option Elab.async false
set_option linter.all false
set_option maxRecDepth 100000
set_option maxHeartbeats 4000000
namespace Vm
open PySem PySem.Spec PyProof.Rows L2
/-! ### the greater, the least -/
section
open PySem.W
variable {prog : Program} {w : World} {A : Around} {E : Value → Shared → Prop} {s : Shared}
/-- max(a, b), min(a, b) by what their items' data are -/
theorem max2_go {a b : Value} {Q : Value → Shared → Prop} (h : wpAny (model prog w) A.in1 (pyIter (.ref s.heap.objs.size)) (fun it t => ∃ I fp wr F n P St H bt, it = .ref I ∧ WalksS prog w A.in1 I fp wr F n P St ∧ St 0 t ∧ (∀ c ∈ fp, c < t.heap.objs.size) ∧ 0 < n ∧ (∀ c o, H.get? c = some o → c ∉ wr) ∧ (∀ c o, H.get? c = some o → t.heap.get? c = some o) ∧ CmpIn prog w A.in1 .Gt H P bt ∧ ∀ v t', P (argBest bt (n - 1)) v → Moved wr F t t' → Q v t') E { s with heap := s.heap.push { cls := .type "tuple", data := .seq #[a, b] } }) :
    wpAny (model prog w) A (call (.builtin "max") [a, b]) Q E s := by
  have nm : (toString "max" ++ toString ".loop" : String) = "max.loop" := by decide
  refine call_function_tree F.kind_max F.plain_max F.entry_max (F.args_max2 _ _) ?_; show wpAny _ A.in1 (Builtin.Builtins.bindParams "max" ["key", "default"] 0 ⟨[], []⟩ >>= _) _ _ s
  refine wpAny_bind (wpAny_of_eq (show Builtin.Builtins.bindParams "max" ["key", "default"] 0 ⟨[], []⟩ = pure [none, none] from rfl) ?_); show wpAny _ A.in1 (newTuple [a, b] >>= _) _ _ s
  refine wpAny_bind (wpAny_newObj_type (wpAny_bind (wpAny_mono h (fun it t ht => ?_) fun _ _ e => e)))
  obtain ⟨I, fp, wr, G, n, P, St, H, bt, rfl, Wk, st, hfp, hn, hw, kp, cm, hQ⟩ := ht
  refine wpAny_bind (wpAny_newObj_type ?_)
  have nf : t.heap.objs.size ∉ fp := fun m => Nat.lt_irrefl _ (hfp _ m)
  rw [nm]
  refine wpAny_pure ⟨plainId_quiet F.plain_max_loop _, codeAny_max_loop_firstH Wk H hw bt cm t.heap.objs.size nf (fresh_in kp) _ hn (fun c o e => Heap.get?_push_of_some _ (kp c o e)) (Wk.frame 0 t _ t.toks st (Nat.le_refl _) fun c _ o e => Heap.get?_push_of_some _ e) (Heap.get?_push_size _ rfl) fun v t' hP hm => hQ v t' hP (Moved.drop_new (tk := t.toks) hm (Nat.le_refl _))⟩
theorem min2_go {a b : Value} {Q : Value → Shared → Prop} (h : wpAny (model prog w) A.in1 (pyIter (.ref s.heap.objs.size)) (fun it t => ∃ I fp wr F n P St H bt, it = .ref I ∧ WalksS prog w A.in1 I fp wr F n P St ∧ St 0 t ∧ (∀ c ∈ fp, c < t.heap.objs.size) ∧ 0 < n ∧ (∀ c o, H.get? c = some o → c ∉ wr) ∧ (∀ c o, H.get? c = some o → t.heap.get? c = some o) ∧ CmpIn prog w A.in1 .Lt H P bt ∧ ∀ v t', P (argBest bt (n - 1)) v → Moved wr F t t' → Q v t') E { s with heap := s.heap.push { cls := .type "tuple", data := .seq #[a, b] } }) :
    wpAny (model prog w) A (call (.builtin "min") [a, b]) Q E s := by
  have nm : (toString "min" ++ toString ".loop" : String) = "min.loop" := by decide
  refine call_function_tree F.kind_min F.plain_min F.entry_min (F.args_min2 _ _) ?_; show wpAny _ A.in1 (Builtin.Builtins.bindParams "min" ["key", "default"] 0 ⟨[], []⟩ >>= _) _ _ s
  refine wpAny_bind (wpAny_of_eq (show Builtin.Builtins.bindParams "min" ["key", "default"] 0 ⟨[], []⟩ = pure [none, none] from rfl) ?_); show wpAny _ A.in1 (newTuple [a, b] >>= _) _ _ s
  refine wpAny_bind (wpAny_newObj_type (wpAny_bind (wpAny_mono h (fun it t ht => ?_) fun _ _ e => e)))
  obtain ⟨I, fp, wr, G, n, P, St, H, bt, rfl, Wk, st, hfp, hn, hw, kp, cm, hQ⟩ := ht
  refine wpAny_bind (wpAny_newObj_type ?_)
  have nf : t.heap.objs.size ∉ fp := fun m => Nat.lt_irrefl _ (hfp _ m)
  rw [nm]
  refine wpAny_pure ⟨plainId_quiet F.plain_min_loop _, codeAny_min_loop_firstH Wk H hw bt cm t.heap.objs.size nf (fresh_in kp) _ hn (fun c o e => Heap.get?_push_of_some _ (kp c o e)) (Wk.frame 0 t _ t.toks st (Nat.le_refl _) fun c _ o e => Heap.get?_push_of_some _ e) (Heap.get?_push_size _ rfl) fun v t' hP hm => hQ v t' hP (Moved.drop_new (tk := t.toks) hm (Nat.le_refl _))⟩
theorem pair_pick {a b v : Value} {c : Bool} {bt : Nat → Nat → Bool} (h : (#[a, b] : Array Value)[argBest bt 1]? = some v) (e : bt 1 0 = c) : v = if c = true then b else a := by
  have e1 : argBest bt 1 = if c = true then 1 else 0 := by
    show (if bt 1 (argBest bt 0) = true then 1 else argBest bt 0) = _
    rw [show argBest bt 0 = 0 from rfl, e]
  rw [e1] at h
  cases c with
  | true => simpa using h.symm
  | false => simpa using h.symm
theorem max2_data {a b : Value} {x y : PyData} {as bs : List Addr} {Q : Value → Shared → Prop} (hh : A.handled = none) (ra : Reads s.heap a x as) (rb : Reads s.heap b y bs) (al : AlikeAll [x, y]) (hu : A.units + 1 + PyData.depthAll [x, y] < cLine)
    (h : ∀ h' tk, (∀ c o, s.heap.get? c = some o → h'.get? c = some o) → Q (if dataLt x y = true then b else a) { s with heap := h', toks := tk }) : wpAny (model prog w) A (call (.builtin "max") [a, b]) Q E s := by
  have hT : (s.heap.push { cls := .type "tuple", data := .seq #[a, b] }).IsTuple s.heap.objs.size #[a, b] := ⟨_, Heap.get?_push_size _ rfl, rfl, 0, rfl⟩
  have kp : ∀ c o, s.heap.get? c = some o → (s.heap.push { cls := .type "tuple", data := .seq #[a, b] }).get? c = some o := fun c o e => Heap.get?_push_of_some _ e
  have hr : ReadsAll (s.heap.push { cls := .type "tuple", data := .seq #[a, b] }) (#[a, b] : Array Value).toList [x, y] _ := .cons (reads_keeps kp ra) (.cons (reads_keeps kp rb) .nil)
  refine max2_go (iter_tupleW (A := A.in1) (s := { s with heap := s.heap.push { cls := .type "tuple", data := .seq #[a, b] } }) hh hT fun t e Wk st hfp hw hk => ⟨_, _, _, _, _, _, _, _, _, rfl, Wk, st, hfp, Nat.succ_pos _, hw, hk, cmpIn_gt (A := A.in1) (s := { s with heap := s.heap.push { cls := .type "tuple", data := .seq #[a, b] } }) hr al (by show A.units + 1 + _ < _; exact hu), fun v t' hP m => ?_⟩)
  obtain ⟨h', tk, rfl, hk'⟩ := moved_old e rfl m
  rw [pair_pick hP (c := dataLt x y) rfl]
  exact h h' tk fun c o e => hk' c o (kp c o e)
theorem min2_data {a b : Value} {x y : PyData} {as bs : List Addr} {Q : Value → Shared → Prop} (hh : A.handled = none) (ra : Reads s.heap a x as) (rb : Reads s.heap b y bs) (al : AlikeAll [x, y]) (hu : A.units + 1 + PyData.depthAll [x, y] < cLine)
    (h : ∀ h' tk, (∀ c o, s.heap.get? c = some o → h'.get? c = some o) → Q (if dataLt y x = true then b else a) { s with heap := h', toks := tk }) : wpAny (model prog w) A (call (.builtin "min") [a, b]) Q E s := by
  have hT : (s.heap.push { cls := .type "tuple", data := .seq #[a, b] }).IsTuple s.heap.objs.size #[a, b] := ⟨_, Heap.get?_push_size _ rfl, rfl, 0, rfl⟩
  have kp : ∀ c o, s.heap.get? c = some o → (s.heap.push { cls := .type "tuple", data := .seq #[a, b] }).get? c = some o := fun c o e => Heap.get?_push_of_some _ e
  have hr : ReadsAll (s.heap.push { cls := .type "tuple", data := .seq #[a, b] }) (#[a, b] : Array Value).toList [x, y] _ := .cons (reads_keeps kp ra) (.cons (reads_keeps kp rb) .nil)
  refine min2_go (iter_tupleW (A := A.in1) (s := { s with heap := s.heap.push { cls := .type "tuple", data := .seq #[a, b] } }) hh hT fun t e Wk st hfp hw hk => ⟨_, _, _, _, _, _, _, _, _, rfl, Wk, st, hfp, Nat.succ_pos _, hw, hk, cmpIn_lt (A := A.in1) (s := { s with heap := s.heap.push { cls := .type "tuple", data := .seq #[a, b] } }) hr al (by show A.units + 1 + _ < _; exact hu), fun v t' hP m => ?_⟩)
  obtain ⟨h', tk, rfl, hk'⟩ := moved_old e rfl m
  rw [pair_pick hP (c := dataLt y x) rfl]
  exact h h' tk fun c o e => hk' c o (kp c o e)
end
def maxOk (d e : D) : Bool := ltOk d e && (ltOk e d && (alD d d && alD e e))
def oMax2 : List D → Option D
  | [d, e] => if maxOk d e = true then some (if ltD d e = true then e else d) else none
  | _ => none
def oMin2 : List D → Option D
  | [d, e] => if maxOk d e = true then some (if ltD e d = true then e else d) else none
  | _ => none
theorem maxOk_of {d e : D} (h : maxOk d e = true) : plain d = true ∧ plain e = true ∧ PySem.W.AlikeAll [toPy d, toPy e] ∧ PyData.depthAll [toPy d, toPy e] ≤ 60 := by
  unfold maxOk at h
  simp only [Bool.and_eq_true] at h
  obtain ⟨h1, h2, h3, h4⟩ := h
  obtain ⟨p1, p2, p3, p4, _⟩ := ltOk_of h1
  obtain ⟨_, _, q3, q4, _⟩ := ltOk_of h2
  refine ⟨p1, p2, ⟨fun x hx y hy => ?_, fun x hx => ?_⟩, ?_⟩
  · rcases List.mem_cons.mp hx with rfl | hx
    · rcases List.mem_cons.mp hy with rfl | hy
      · exact h3
      · rw [List.mem_singleton.mp hy]; exact p3
    · rw [List.mem_singleton.mp hx]
      rcases List.mem_cons.mp hy with rfl | hy
      · exact q3
      · rw [List.mem_singleton.mp hy]; exact h4
  · rcases List.mem_cons.mp hx with rfl | hx
    · exact p4
    · rw [List.mem_singleton.mp hx]; exact q4
  · unfold ltOk at h1
    simp only [Bool.and_eq_true, decide_eq_true_eq] at h1
    have := dep_py d
    have := dep_py e
    simp only [PyData.depthAll]
    omega
section
variable {G : GC} {N : List Str} {S : SC} {X : Cx}
def rMaxD (K : PySem.W.Frag) (mg : Str → Option Value) (mx : Bool) : List V → Hp → VK → Prop := fun xs H Q => ∃ v1 v2 d1 d2, xs = [v1, v2] ∧ Fz K mg H d1 v1 ∧ Fz K mg H d2 v2 ∧ maxOk d1 d2 = true ∧ Q (if (if mx = true then ltD d1 d2 else ltD d2 d1) = true then v2 else v1) H
theorem cr_maxD (hu : X.A.units + 100 < cLine) (hc : X.calm = true) : CallR X (.builtin "max") (rMaxD X.K X.mg true) := by
  intro pins s σ H xs us Q I r ⟨v1, v2, d1, d2, ex, f1, f2, ok, q⟩
  subst ex
  obtain ⟨u1, u2, rfl, r1, r2⟩ := vals2 r
  obtain ⟨p1, p2, al, dp⟩ := maxOk_of ok
  obtain ⟨as, e1⟩ := Dp.reads I _ _ _ (Fz.dp d1 v1 f1 p1) r1
  obtain ⟨bs, e2⟩ := Dp.reads I _ _ _ (Fz.dp d2 v2 f2 p2) r2
  refine max2_data (I.ok.hd hc) e1 e2 al (by omega) fun h' tk kp => ⟨_, H, I.kept kp, ?_, q⟩
  show RelV (if ltD d1 d2 = true then v2 else v1) (if ltD d1 d2 = true then u2 else u1)
  split
  · exact r2
  · exact r1
theorem cr_minD (hu : X.A.units + 100 < cLine) (hc : X.calm = true) : CallR X (.builtin "min") (rMaxD X.K X.mg false) := by
  intro pins s σ H xs us Q I r ⟨v1, v2, d1, d2, ex, f1, f2, ok, q⟩
  subst ex
  obtain ⟨u1, u2, rfl, r1, r2⟩ := vals2 r
  obtain ⟨p1, p2, al, dp⟩ := maxOk_of ok
  obtain ⟨as, e1⟩ := Dp.reads I _ _ _ (Fz.dp d1 v1 f1 p1) r1
  obtain ⟨bs, e2⟩ := Dp.reads I _ _ _ (Fz.dp d2 v2 f2 p2) r2
  refine min2_data (I.ok.hd hc) e1 e2 al (by omega) fun h' tk kp => ⟨_, H, I.kept kp, ?_, q⟩
  show RelV (if ltD d2 d1 = true then v2 else v1) (if ltD d2 d1 = true then u2 else u1)
  split
  · exact r2
  · exact r1
/-- no list of one's own -/
def hard : D → Bool
  | .lst _ => false
  | .dct _ _ => false
  | .ins _ _ _ => false
  | .scr _ => false
  | _ => true
theorem sh_hard {K : PySem.W.Frag} {mg : Str → Option Value} {H0 H : Hp} {d : D} {v : V} (h : Sh K mg H0 H d v) (n : hard d = true) : Fz K mg H0 d v := by
  cases d <;> first | exact h | exact absurd n Bool.false_ne_true
def oMaxH (o : List D → Option D) : List D → Option D
  | [d, e] => if (hard d && hard e) = true then o [d, e] else none
  | _ => none
theorem ru_max2 : RuA G (rMaxD G.K G.mg true) .z (oMaxH oMax2) := by
  intro H0 H ds xs d Q s h ho f
  unfold oMaxH at ho
  split at ho
  · rename_i d1 d2
    split at ho
    · rename_i hh
      obtain ⟨n1, n2⟩ := Bool.and_eq_true_iff.mp hh
      obtain ⟨x, y, e, h1, h2⟩ := shs_two h
      unfold oMax2 at ho
      dsimp only at ho
      split at ho
      · rename_i ok
        cases ho
        refine ⟨x, y, d1, d2, e, h1.fz s, h2.fz s, ok, ?_⟩
        show Q (if ltD d1 d2 = true then y else x) H
        by_cases c : ltD d1 d2 = true
        · rw [if_pos c]; rw [if_pos c] at f; exact f.frz s (sh_hard h2 n2)
        · rw [if_neg c]; rw [if_neg c] at f; exact f.frz s (sh_hard h1 n1)
      · cases ho
    · cases ho
  · cases ho
theorem ru_min2 : RuA G (rMaxD G.K G.mg false) .z (oMaxH oMin2) := by
  intro H0 H ds xs d Q s h ho f
  unfold oMaxH at ho
  split at ho
  · rename_i d1 d2
    split at ho
    · rename_i hh
      obtain ⟨n1, n2⟩ := Bool.and_eq_true_iff.mp hh
      obtain ⟨x, y, e, h1, h2⟩ := shs_two h
      unfold oMin2 at ho
      dsimp only at ho
      split at ho
      · rename_i ok
        cases ho
        refine ⟨x, y, d1, d2, e, h1.fz s, h2.fz s, ok, ?_⟩
        show Q (if ltD d2 d1 = true then y else x) H
        by_cases c : ltD d2 d1 = true
        · rw [if_pos c]; rw [if_pos c] at f; exact f.frz s (sh_hard h2 n2)
        · rw [if_neg c]; rw [if_neg c] at f; exact f.frz s (sh_hard h1 n1)
      · cases ho
    · cases ho
  · cases ho
end
section
variable {G : GC} {N : List Str} {S : SC} {bs bs1 bs2 ms ms1 ms2 ms3 as : Ms} {m : Md} {k : Kd} {e a b : Expr} {es : List Expr} {f fa fb : M D} {fs : M (List D)} {pos p : Pos}
theorem VO.max2 (hm : G.mg "max" = none) (ha : VA G N S bs ms (e :: es) fs) (hc : S.cm = true := by rfl) (hg : Glb S "max" := by rfl) (he : ∀ env, starEach (e :: es) env = (false, eval e env) :: starEach es env := by intro _; rfl) (hpl : ∀ env, (backTo pos (starEach es env)).any (·.1) = false := by intro _; rfl) :
    VO G N S .z ms (.Call (.Name "max" p) (e :: es) [] pos) (fA (oMaxH oMax2) fs) := .callB (fun _ a => cr_maxD (a.u100 hc) (a.calm.trans hc)) ru_max2 hm (by decide +kernel) ha hg (by decide) (by decide) he hpl
theorem VO.min2 (hm : G.mg "min" = none) (ha : VA G N S bs ms (e :: es) fs) (hc : S.cm = true := by rfl) (hg : Glb S "min" := by rfl) (he : ∀ env, starEach (e :: es) env = (false, eval e env) :: starEach es env := by intro _; rfl) (hpl : ∀ env, (backTo pos (starEach es env)).any (·.1) = false := by intro _; rfl) :
    VO G N S .z ms (.Call (.Name "min" p) (e :: es) [] pos) (fA (oMaxH oMin2) fs) := .callB (fun _ a => cr_minD (a.u100 hc) (a.calm.trans hc)) ru_min2 hm (by decide +kernel) ha hg (by decide) (by decide) he hpl
end
/-! ### order, by kinds -/
@[simp] theorem ltD_int (i j : Int) : ltD (.int i) (.int j) = decide (i < j) := PySem.W.dataLt_int i j
@[simp] theorem leD_int (i j : Int) : leD (.int i) (.int j) = decide (i ≤ j) := by
  show (!ltD (.int j) (.int i)) = _
  rw [ltD_int, ← decide_not]
  congr 1
  exact propext Int.not_lt
@[simp] theorem alD_int (i j : Int) : alD (.int i) (.int j) = true := rfl
@[simp] theorem alD_str (i j : List Nat) : alD (.str i) (.str j) = true := rfl
@[simp] theorem alD_bl (i j : Bool) : alD (.bl i) (.bl j) = true := rfl
@[simp] theorem oLt_int (i j : Int) : oLt (.int i) (.int j) = some (.bl (decide (i < j))) := by
  have e : oLt (.int i) (.int j) = some (.bl (ltD (.int i) (.int j))) := rfl
  rw [e, ltD_int]
@[simp] theorem oGt_int (i j : Int) : oGt (.int i) (.int j) = some (.bl (decide (j < i))) := by
  have e : oGt (.int i) (.int j) = some (.bl (ltD (.int j) (.int i))) := rfl
  rw [e, ltD_int]
@[simp] theorem oLe_int (i j : Int) : oLe (.int i) (.int j) = some (.bl (decide (i ≤ j))) := by
  have e : oLe (.int i) (.int j) = some (.bl (leD (.int i) (.int j))) := rfl
  rw [e, leD_int]
@[simp] theorem oGe_int (i j : Int) : oGe (.int i) (.int j) = some (.bl (decide (j ≤ i))) := by
  have e : oGe (.int i) (.int j) = some (.bl (leD (.int j) (.int i))) := rfl
  rw [e, leD_int]
end Vm
set_option Elab.async false
set_option linter.all false
set_option maxRecDepth 100000
set_option maxHeartbeats 4000000
namespace Vm
open PySem PySem.Spec PyProof.Rows L2
/-! ### a slot's value given away -/
def coDrop (c : Co) (fp : List Addr) : Co := fun a => if a ∈ fp then none else c a
section
variable {K : PySem.W.Frag} {mg : Str → Option Value} {ms : Ms} {H0 H : Hp} {c : Co} {σ : L2.St} {ρ : En} {d : D} {m : Md} {v : V} {i : Nat} {fp : List Addr}
theorem coDrop_some {a : Addr} {j : Nat} (h : coDrop c fp a = some j) : a ∉ fp ∧ c a = some j := by
  unfold coDrop at h
  split at h
  · cases h
  · exact ⟨by assumption, h⟩
theorem Step.drop (hc : ∀ a ∈ fp, c a = some i) (hi : ms i = true) : Step ms H0 H c H0 H (coDrop c fp) := by
  refine ⟨fun a o e _ => e, fun a o e k => ?_, Same.refl _, fun a o e => .inl ⟨o, e⟩, fun a j e => .inl (coDrop_some e).2⟩
  unfold coDrop
  rw [if_neg fun z => by rw [k i (hc a z)] at hi; cases hi]
theorem Lies.drop (l : Lies K mg H0 H c σ ρ) (hc : ∀ a ∈ fp, c a = some i) : Lies K mg H0 H (coDrop c fp) σ (ρ.set i none) := by
  refine ⟨l.sub, fun a j e => l.apart a j (coDrop_some e).2, fun a j e => l.there a j (coDrop_some e).2, by rw [List.length_set]; exact l.len, fun j m d e => ?_⟩
  by_cases h : i = j
  · subst h
    by_cases hi : i < ρ.length
    · rw [getS_set_eq hi] at e; cases e
    · have : getS (ρ.set i none) i = none := by simp [getS, List.getD_eq_getElem?_getD, hi]
      rw [this] at e; cases e
  · rw [getS_set_ne h] at e
    obtain ⟨w, g, e1, o, nd, hg⟩ := l.slot j m d e
    refine ⟨w, g, e1, o, nd, fun a ha => ?_⟩
    have z := hg a ha
    unfold coDrop
    rw [if_neg fun y => by rw [hc a y] at z; exact h (Option.some.inj z)]
    exact z
end
/-- the value moves out, owned -/
def eMv (i : Nat) (m : Md) : M D := fun r => match getS r i with
  | some (m', d) => if mdEq m' m = true then .ok d (r.set i none) else .bad
  | none => .bad
section
variable {G : GC} {N : List Str} {S : SC} {bs ms : Ms} {m : Md} {pos : Pos} {x : Str} {i : Nat}
theorem VO.mv (hN : N[i]? = some x := by rfl) (hv : Vis S.sc x := by first | exact Or.inl rfl | exact Or.inr (Or.inl rfl) | exact Or.inr (Or.inr rfl))
    (hd : (x == ("__debug__" : Str)) = false := by decide) (hcd : (x == ("__classdict__" : Str)) = false := by decide) : VO G N S m (msO i) (.Name x pos) (eMv i m) := by
  refine fun R a W t => (pe_var (i := i) hN (a.vis hv) hd hcd).imp fun σ H Q ⟨ρ, H0, c, l, o⟩ => ?_
  unfold eMv at o
  cases es : getS ρ i with
  | none => rw [es] at o; exact o.elim
  | some md =>
    obtain ⟨m', d⟩ := md
    obtain ⟨v, fp, e1, ow, nd, hc⟩ := l.slot i m' d es
    refine ⟨v, e1, ?_⟩
    rw [es] at o
    dsimp only at o
    split at o
    · rename_i q
      rw [mdEq_ok q] at ow
      exact o v H0 H (coDrop c fp) (.drop hc (by simp)) (l.drop hc) ⟨fp, ow, nd, fun a ha => by unfold coDrop; rw [if_pos ha], fun a ha => l.apart a i (hc a ha), fun a ha => l.there a i (hc a ha), fun a ha => .inr ⟨i, hc a ha, by simp⟩⟩
    · exact o.elim
/-- the value is frozen; the slot keeps it -/
theorem VO.fz (hN : N[i]? = some x := by rfl) (hv : Vis S.sc x := by first | exact Or.inl rfl | exact Or.inr (Or.inl rfl) | exact Or.inr (Or.inr rfl))
    (hd : (x == ("__debug__" : Str)) = false := by decide) (hcd : (x == ("__classdict__" : Str)) = false := by decide) : VO G N S .z (msO i) (.Name x pos) (eFrz i) := by
  refine fun R a W t => (pe_var (i := i) hN (a.vis hv) hd hcd).imp fun σ H Q ⟨ρ, H0, c, l, o⟩ => ?_
  unfold eFrz at o
  cases es : getS ρ i with
  | none => rw [es] at o; exact o.elim
  | some md =>
    obtain ⟨m', d⟩ := md
    obtain ⟨v, fp, e1, ow, nd, hc⟩ := l.slot i m' d es
    refine ⟨v, e1, ?_⟩
    rw [es] at o
    have l1 := l.drop hc
    have nc : ∀ a ∈ fp, coDrop c fp a = none := fun a ha => by unfold coDrop; rw [if_pos ha]
    have l2 := l1.take nc
    have fz : Fz G.K G.mg (ext H0 H fp) d v := Ow.frz l.sub d m' v fp ow
    have fr : Fresh (msO i) H c H0 H (coDrop c fp) fp := ⟨nd, nc, fun a ha => l.apart a i (hc a ha), fun a ha => l.there a i (hc a ha), fun a ha => .inr ⟨i, hc a ha, by simp⟩⟩
    have st : Step (msO i) H0 H c (ext H0 H fp) H (coDrop c fp) := Step.take (.drop hc (by simp)) l.sub fr
    have l3 := l2.set (i := i) (m := .z) (d := d) (v := v) (fp := []) (Ow.zero.mpr ⟨rfl, fz⟩) List.nodup_nil (by simp) (by simp) (by simp)
    rw [set_same e1, List.set_set] at l3
    have st2 : Step (msO i) H0 H c (ext H0 H fp) H (coSet (coDrop c fp) i []) := Step.store (K := G.K) (mg := G.mg) st .nil
    exact o v (ext H0 H fp) H _ st2 l3 (ow_zero_fo fz)
end
section
variable (s0 : Sl) (r : En) (i : Nat) (m : Md) (d : D)
def mvS (m : Md) : Sl → Option D
  | some (m', d) => if mdEq m' m = true then some d else none
  | none => none
@[simp] theorem eMv_ap : eMv i m (s0 :: r) = (rM (mvS m (getS (s0 :: r) i)) (s0 :: r)).bind fun d r => .ok d (r.set i none) := by
  unfold eMv mvS
  cases getS (s0 :: r) i with
  | none => rfl
  | some p =>
    obtain ⟨m', d⟩ := p
    dsimp only
    split <;> rfl
@[simp] theorem mvS_z : mvS .z (some (.z, d)) = some d := rfl
@[simp] theorem mvS_1 : mvS m1 (some (.o (.all .z), d)) = some d := rfl
def fzS : Sl → Option D
  | some (_, d) => some d
  | none => none
@[simp] theorem eFrz_ap : eFrz i (s0 :: r) = (rM (fzS (getS (s0 :: r) i)) (s0 :: r)).bind fun d r => .ok d (r.set i (some (.z, d))) := by
  unfold eFrz fzS
  cases getS (s0 :: r) i <;> rfl
@[simp] theorem fzS_some : fzS (some (m, d)) = some d := rfl
end
end Vm
set_option Elab.async false
set_option linter.all false
set_option maxRecDepth 100000
set_option maxHeartbeats 4000000
/-! list(reversed(xs)) -/
namespace VmRev
open PySem
theorem nolen : typeLookup (.type "list_reverseiterator") "__len__" = pure none := by rw [typeLookup_type, builtinLookup_eq_fast]; kernel_rfl
theorem hint : typeLookup (.type "list_reverseiterator") "__length_hint__" = pure (some (.builtin "list_reverseiterator.__length_hint__")) := by rw [typeLookup_type, builtinLookup_eq_fast]; kernel_rfl
section
variable {prog : Program} {w : World} {A : Around} {E : Value → Shared → Prop} {s : Shared}
theorem ext_rev {R : Result → Shared → Prop} {it l S : Addr} {items : Array Value} (hh : A.in1.handled = none) (hit : s.heap.IsRevIter it l ((items.size : Int) - 1)) (hl : s.heap.IsList l items) (hli : l ≠ it) (c₀ : Nat) (hS : s.heap.get? S = some { cls := .type "list", data := .seq #[] c₀ }) (hSi : S ≠ it) (hSl : S ≠ l) (hn : items.size ≤ sizeLine)
    (hR : ∀ h' tk acc c', (∀ b o, b ≠ S → b ≠ it → s.heap.get? b = some o → h'.get? b = some o) → h'.get? S = some { cls := .type "list", data := .seq acc c' } → ItemsOf (fun i v => items[items.size - 1 - i]? = some v) acc items.size → R (.ok (.ret .none)) { s with heap := h', toks := tk }) :
    wpAny (model prog w) A.in1 (Builtin.List.listExtendWith (.ref S) (.ref it) .none) (fun fin s' => match fin with | .done f => R (.ok f) s' | .again c' => c'.quiet = true ∧ codeAny (model prog w) A c' R s') (fun e s' => R (.error e) s') s := by
  have W := (Walks.listRev (prog := prog) (w := w) (A := A.in1) hh it l hli items).toS
  have hSf : S ∉ [it, l] := fun hm => by
    rcases List.mem_cons.mp hm with e | hm
    · exact hSi e
    · exact hSl (List.mem_singleton.mp hm)
  have hT : s.TypeIs (.ref it) "list_reverseiterator" := hit.typeIs
  have e0 : (items.size : Int) - 1 - ((0 : Nat) : Int) = (items.size : Int) - 1 := by simp
  have st0 : ∀ h : Heap, h.IsRevIter it l ((items.size : Int) - 1) → h.IsList l items → (0 ≤ items.size ∧ h.IsRevIter it l ((items.size : Int) - 1 - ((0 : Nat) : Int)) ∧ h.IsList l items) := fun h a b => ⟨Nat.zero_le _, by rw [e0]; exact a, b⟩
  unfold Builtin.List.listExtendWith
  refine wpAny_bind (wpAny_typeOf hT ?_)
  rw [if_neg (by rw [show Builtin.List.listSameRef (.ref S) (.ref it) = false from by simp [Builtin.List.listSameRef, hSi]]; decide)]
  refine wpAny_bind (wpAny_pyIter_revIter hit ?_)
  refine wpAny_bind (wpAny_holding ?_)
  unfold Builtin.List.listLengthHint
  refine wpAny_bind (wpAny_specialOf hT nolen ?_)
  show wpAny _ A.in1 (specialOf (Value.ref it) (Str.ofString "__length_hint__") >>= _) _ _ _
  refine wpAny_bind (wpAny_specialOf hT hint ?_)
  generalize hid : ("list_reverseiterator.__length_hint__" : String) = id0; (fail_if_success (clear hid id0)); wp_delta; rw [show splitId id0 = some ("list_reverseiterator", "__length_hint__") from by subst hid; decide +kernel]; subst hid
  refine wpAny_bind (wpAny_isInstance (b := true) hT (by rw [isSubtype_type]; kernel_rfl) ?_)
  refine wpAny_pure ?_
  rw [if_neg (by decide)]
  refine wpAny_pure ⟨plainId_quiet F.plain_extend_loop _, codeAny_extend_loopS W hn _ hSf _ items.size 0 _ _ _ rfl (Nat.zero_le _) (st0 _ hit hl) hS (ItemsOf.nil _) fun s' acc' c' hm hS' hacc => ?_⟩
  rw [Moved.eq_with hm]
  refine hR s'.heap s'.toks acc' c' (fun b o h1 h2 e => hm.heap b o (fun hmem => ?_) e) hS' hacc
  rcases List.mem_cons.mp hmem with z | hmem
  · exact h1 z
  · exact h2 (List.mem_singleton.mp hmem)
theorem init_rev {R : Result → Shared → Prop} {it l S : Addr} {items : Array Value} (hh : A.in1.handled = none) (hit : s.heap.IsRevIter it l ((items.size : Int) - 1)) (hl : s.heap.IsList l items) (hli : l ≠ it) (hS : s.heap.get? S = some { cls := .type "list", data := .seq #[] }) (hSi : S ≠ it) (hSl : S ≠ l) (hn : items.size ≤ sizeLine)
    (hR : ∀ h' tk acc c', (∀ b o, b ≠ S → b ≠ it → s.heap.get? b = some o → h'.get? b = some o) → h'.get? S = some { cls := .type "list", data := .seq acc c' } → ItemsOf (fun i v => items[items.size - 1 - i]? = some v) acc items.size → R (.ok (.ret .none)) { s with heap := h', toks := tk }) :
    wpAny (model prog w) A.in1 (Builtin.«list.__init__» ⟨[.ref S, .ref it], []⟩) (fun fin s' => match fin with | .done f => R (.ok f) s' | .again c' => c'.quiet = true ∧ codeAny (model prog w) A c' R s') (fun e s' => R (.error e) s') s := by
  show wpAny _ _ (do let old ← Builtin.List.listItems (.ref S); Builtin.List.listUpdate (.ref S) (fun _ => #[]); letGo old.toList.reverse; Builtin.List.listExtendWith (.ref S) (.ref it) .none) _ _ s
  refine wpAny_bind ?_
  unfold Builtin.List.listItems
  refine wpAny_bind (wpAny_seqItems hS rfl (wpAny_pure ?_))
  show wpAny _ _ (updateSeq S (fun _ => #[]) >>= fun _ => letGo (#[] : Array Value).toList.reverse >>= fun _ => Builtin.List.listExtendWith (.ref S) (.ref it) .none) _ _ s
  refine wpAny_bind (wpAny_updateSeq hS rfl (wpAny_bind (wpAny_letGo ?_)))
  have h2 := Heap.get?_update_self (Obj.mapSeq (fun _ => (#[] : Array Value))) hS rfl
  have oth : ∀ b o, b ≠ S → s.heap.get? b = some o → (s.heap.update S (Obj.mapSeq (fun _ => (#[] : Array Value)))).get? b = some o := fun b o hb e => (Heap.get?_update_other _ _ (Ne.symm hb)).trans e
  refine ext_rev (s := { s with heap := s.heap.update S (Obj.mapSeq (fun _ => (#[] : Array Value))) }) hh (hit.at fun o e => oth it o (Ne.symm hSi) e) (hl.at fun o e => oth l o (Ne.symm hSl) e) hli _ h2 hSi hSl hn fun h' tk acc c' hk hS' hacc => ?_
  exact hR h' tk acc c' (fun b o h1 h3 e => hk b o h1 h3 (oth b o h1 e)) hS' hacc
theorem list_rev {Q : Value → Shared → Prop} {it l : Addr} {items : Array Value} (hh : A.in1.in1.handled = none) (hit : s.heap.IsRevIter it l ((items.size : Int) - 1)) (hl : s.heap.IsList l items) (hli : l ≠ it) (hn : items.size ≤ sizeLine)
    (hQ : ∀ h' tk acc c', (∀ b o, b ≠ it → s.heap.get? b = some o → h'.get? b = some o) → h'.get? s.heap.objs.size = some { cls := .type "list", data := .seq acc c' } → ItemsOf (fun i v => items[items.size - 1 - i]? = some v) acc items.size → Q (.ref s.heap.objs.size) { s with heap := h', toks := tk }) :
    wpAny (model prog w) A (call (.type "list") [.ref it]) Q E s := by
  obtain ⟨oi, ei, _⟩ := id hit
  obtain ⟨ol, el, _⟩ := id hl
  have lti := Heap.lt_size ei
  have ltl := Heap.lt_size el
  refine callType_codes (Q₁ := fun obj s₁ => obj = .ref s.heap.objs.size ∧ s₁ = { s with heap := s.heap.push { cls := .type "list", data := .seq #[] } }) F.called_list (F.typeCall_list_1 _) F.entry_list_init (code_list_new _ ⟨rfl, rfl⟩) fun obj s₁ h₁ => ?_
  obtain ⟨rfl, rfl⟩ := h₁
  have hS : (s.heap.push { cls := .type "list", data := .seq #[] }).get? s.heap.objs.size = some { cls := .type "list", data := .seq #[] } := Heap.get?_push_size _ rfl
  refine ⟨⟨_, hS, rfl⟩, F.args_list_init_2 _ _, init_rev (A := A.in1) (s := { s with heap := s.heap.push { cls := .type "list", data := .seq #[] } }) hh (hit.at fun o e => Heap.get?_push_of_some _ e) (hl.push _) hli hS (Nat.ne_of_gt lti) (Nat.ne_of_gt ltl) hn fun h' tk acc c' hk hS' hacc => ?_⟩
  exact ⟨rfl, hQ h' tk acc c' (fun b o hb e => hk b o (Nat.ne_of_lt (Heap.lt_size e)) hb (Heap.get?_push_of_some _ e)) hS' hacc⟩
end
end VmRev
namespace Vm
open PySem PySem.Spec PyProof.Rows L2
section
variable {X : Cx}
def tListRev (K : PySem.W.Frag) (te : TE) : TE := fun σ H Q => te σ H fun v H1 => ∃ (a : Addr) (xs : List V), v = .ref a ∧ SqL K H1 a xs ∧ ∀ q, H1 q = none → Q (.ref q) (upd H1 q (.lst xs.reverse))
theorem pe_listRev {e : Expr} {te : TE} {p p2 pos pos2 : Pos} (hc : X.calm = true) (hg : Gl X "list") (hm : X.mg "list" = none) (hg2 : Gl X "reversed") (hm2 : X.mg "reversed" = none) (he : PE X e te)
    (hs : starEach [e] X.env = (false, eval e X.env) :: starEach [] X.env := by rfl)
    (hs2 : starEach [.Call (.Name "reversed" p2) [e] [] pos2] X.env = (false, eval (.Call (.Name "reversed" p2) [e] [] pos2) X.env) :: starEach [] X.env := by rfl) :
    PE X (.Call (.Name "list" p) [.Call (.Name "reversed" p2) [e] [] pos2] [] pos) (tListRev X.K te) := by
  refine ⟨fun pins s σ H Q I h => ?_⟩
  refine Call_ (ld_blt I hg hm (show bootBuiltins (Str.ofString "list") = some (.type "list") by decide +kernel) (PyProof.Rows.callWith_type1 (args_cons (Call_ (ld_blt I hg2 hm2 PyProof.Rows.boot_reversed (PyProof.Rows.callWith_type1 (args_cons (thn (he.run pins s σ H _ I h) fun u s1 ⟨v, H1, I1, r1, q1⟩ => args_nil ?_) hs) hs rfl))) hs2) hs2 rfl))
  obtain ⟨a, xs, ev, hq, q⟩ := q1; subst ev
  obtain rfl : u = Value.ref a := r1
  obtain ⟨its, rv, p', hz⟩ := I1.list hq
  refine call_reversed_list p'.isList (args_nil ?_)
  have hl := p'.isList
  obtain ⟨ol, hol, _⟩ := id hl
  have hne : a ≠ s1.heap.objs.size := Nat.ne_of_lt (Heap.lt_size hol)
  have hn : its.toArray.size ≤ sizeLine := by rw [List.size_toArray, ← rv.length]; exact hz
  have hcalm := I1.ok.hd hc
  refine VmRev.list_rev (s := { s1 with heap := s1.heap.push (revObj a ((its.toArray.size : Int) - 1)) }) hcalm ⟨_, Heap.get?_push_size _ rfl, rfl, rfl⟩ (hl.push _) hne hn fun h' tk acc c' hk hS hi => ?_
  have old : ∀ b o, s1.heap.get? b = some o → h'.get? b = some o := fun b o e => hk b o (Nat.ne_of_lt (Heap.lt_size e)) (Heap.get?_push_of_some _ e)
  have hsz : s1.heap.objs.size ≤ (s1.heap.push (revObj a ((its.toArray.size : Int) - 1))).objs.size := by rw [Heap.size_push]; exact Nat.le_succ _
  have I3 := I1.laid (t' := tk) (o := .lst xs.reverse) old hsz ⟨by rw [List.length_reverse]; exact hz, acc.toList, c', RT.vals_rev rv hi, by rw [Array.toArray_toList]; exact hS⟩
  exact ⟨.ref _, _, I3, rfl, q _ (I1.hok.fresh hsz)⟩
end
def oRevL : D → Option D
  | .lst ds => some (.lst ds.reverse)
  | .scr ns => some (.lst (ns.map D.int).reverse)
  | _ => none
def fRevL (f : M D) : M D := fun r => (f r).bind fun d => rM (oRevL d)
section
variable {G : GC} {N : List Str} {S : SC} {bs ms : Ms} {m : Md} {e : Expr} {f : M D} {pos p p2 pos2 : Pos}
theorem VO.listRev (hm : G.mg "list" = none) (hm2 : G.mg "reversed" = none) (h : VB G N S bs ms e f) (hc : S.cm = true := by rfl) (hg : Glb S "list" := by rfl) (hg2 : Glb S "reversed" := by rfl) (hs : ∀ env, starEach [e] env = (false, eval e env) :: starEach [] env := by intro _; rfl)
    (hs2 : ∀ env, starEach [.Call (.Name "reversed" p2) [e] [] pos2] env = (false, eval (.Call (.Name "reversed" p2) [e] [] pos2) env) :: starEach [] env := by intro _; rfl) :
    VO G N S m1 ms (.Call (.Name "list" p) [.Call (.Name "reversed" p2) [e] [] pos2] [] pos) (fRevL f) := by
  refine fun R a W t => (pe_listRev (a.calm.trans hc) (a.gl hg) hm (a.gl hg2) hm2 (h R a W t) (hs _) (hs2 _)).imp fun σ H Q ⟨ρ, H0, c, l, o⟩ => ?_
  refine ⟨ρ, H0, c, l, (Out.bind (G := FB G.K G.mg bs) (ms1 := ms) back_FO o fun i e => e).imp fun x H1 ⟨d, H01, c1, ρ1, e1, s1, l1, b1, h1⟩ => ?_⟩
  have sh := b1.sh l1.sub
  cases d <;> first | exact h1.elim | skip
  · rename_i ds
    obtain ⟨q, vs, ev, k, g⟩ := sh
    exact ⟨q, vs, ev, .of k, fun p hp => Fin.lst (.inr rfl) (Out.fin h1 l1) l1.sub g.reverse hp⟩
  · rename_i ns
    obtain ⟨q, ev, k⟩ := sh
    exact ⟨q, _, ev, k, fun p hp => Fin.lst (.inr rfl) (Out.fin h1 l1) l1.sub (fzs_ints ns).reverse hp⟩
@[simp] theorem fRevL_ap (s0 : Sl) (r : En) : fRevL f (s0 :: r) = (f (s0 :: r)).bind fun d r => rM (oRevL d) r := rfl
@[simp] theorem oRevL_lst (ds : List D) : oRevL (.lst ds) = some (.lst ds.reverse) := rfl
end
end Vm
set_option Elab.async false
set_option linter.all false
set_option maxRecDepth 100000
set_option maxHeartbeats 4000000
namespace Vm
open PySem PySem.Spec PyProof.Rows L2
/-! ### words of the printed texts -/
def lentA (i : Nat) (fs : M (List D)) : M (List D) := fun r => match getS r i with
  | some _ => fs r
  | none => .bad
def popO (ds : List D) : Option (List D) := if ds = [] then none else some ds.dropLast
section
variable (s0 : Sl) (r : En) (i : Nat) (fs : M (List D)) (p : Md × D)
def isBd : Sl → Bool
  | some _ => true
  | none => false
@[simp] theorem lentA_ap : lentA i fs (s0 :: r) = if isBd (getS (s0 :: r) i) = true then fs (s0 :: r) else .bad := by
  unfold lentA
  cases getS (s0 :: r) i <;> rfl
@[simp] theorem isBd_some : isBd (some p) = true := rfl
theorem oNe_nil {ds : List D} (h : plains ds = true) : oNe (.lst ds) (.lst []) = some (.bl !ds.isEmpty) := by
  unfold oNe eqOk
  simp [h, eqDs_empty]
theorem plains_app {ds es : List D} (h1 : plains ds = true) (h2 : plains es = true) : plains (ds ++ es) = true := by
  induction ds with
  | nil => exact h2
  | cons d ds ih =>
    obtain ⟨p1, p2⟩ := Bool.and_eq_true_iff.mp (show (plain d && plains ds) = true from h1)
    rw [List.cons_append, plains_cons, p1, ih p2]; rfl
theorem plains_map {α : Type} {f : α → D} {xs : List α} (h : ∀ x, plain (f x) = true) : plains (xs.map f) = true := plains_of fun d hd => by
  obtain ⟨x, _, e⟩ := List.mem_map.mp hd
  rw [← e]; exact h x
@[simp] theorem gRet_eC (d : D) (r : En) : gRet (eC d) r = .ok (.rt d) r := rfl
/-! ### items by a written place -/
section
variable {α : Type} (x y z u v : α) (xs : List α) (n : Nat)
@[simp] theorem atI_c0 : atI (x :: xs) 0 = some x := atI_nat (j := 0) rfl
@[simp] theorem atI_c1 : atI (x :: y :: xs) 1 = some y := atI_nat (j := 1) rfl
@[simp] theorem atI_c2 : atI (x :: y :: z :: xs) 2 = some z := atI_nat (j := 2) rfl
@[simp] theorem atI_c3 : atI (x :: y :: z :: u :: xs) 3 = some u := atI_nat (j := 3) rfl
@[simp] theorem atI_c4 : atI (x :: y :: z :: u :: v :: xs) 4 = some v := atI_nat (j := 4) rfl
@[simp] theorem ixN_c0 : ixN (n + 1) 0 = some 0 := by unfold ixN; simp
@[simp] theorem ixN_c1 : ixN (n + 2) 1 = some 1 := by unfold ixN; simp; omega
@[simp] theorem ixN_c2 : ixN (n + 3) 2 = some 2 := by unfold ixN; simp; omega
@[simp] theorem ixN_c3 : ixN (n + 4) 3 = some 3 := by unfold ixN; simp; omega
theorem ixN_last : ixN (n + 1) (-1) = some n := by unfold ixN; simp; omega
@[simp] theorem atI_snoc : atI (xs ++ [x]) (-1) = some x := by
  unfold atI
  rw [List.length_append, List.length_singleton, ixN_last]
  simp
@[simp] theorem ixN_lst : ixN (n + 1) (-1) = some n := ixN_last n
@[simp] theorem set_snoc : (xs ++ [x]).set xs.length y = xs ++ [y] := by
  induction xs with
  | nil => rfl
  | cons a xs ih => rw [List.cons_append, List.length_cons, List.set_cons_succ, ih]; rfl
@[simp] theorem set_map_snoc {β : Type} (f : β → α) (ys : List β) : (ys.map f ++ [x]).set ys.length y = ys.map f ++ [y] := by
  have := set_snoc x y (ys.map f)
  rw [List.length_map] at this
  exact this
theorem atI_at (i : Nat) (h : xs[i]? = some x) : atI xs (i : Int) = some x := atI_nat h
end
end
/-! ### the order of data -/
theorem ltD_nil (ys : List D) : ltD (.tup []) (.tup ys) = !ys.isEmpty := by
  cases ys with
  | nil => rfl
  | cons y ys => rfl
theorem ltD_cons_nil (x : D) (xs : List D) : ltD (.tup (x :: xs)) (.tup []) = false := rfl
theorem ltD_cons {x y : D} (h : alD x y = true) (xs ys : List D) : ltD (.tup (x :: xs)) (.tup (y :: ys)) = if eqD x y = true then ltD (.tup xs) (.tup ys) else ltD x y := by
  show PySem.W.dataLt (.tuple (toPy x :: toPys xs)) (.tuple (toPy y :: toPys ys)) = _
  rw [PySem.W.dataLt_tuple, PySem.W.dataLt_cons h, eqv_eqD, ← PySem.W.dataLt_tuple]
  rfl
@[simp] theorem alD_tup_nil (ys : List D) : alD (.tup []) (.tup ys) = true := by cases ys <;> rfl
@[simp] theorem alD_tup_nil' (ys : List D) : alD (.tup ys) (.tup []) = true := by cases ys <;> rfl
@[simp] theorem alD_tup_cons (x y : D) (xs ys : List D) : alD (.tup (x :: xs)) (.tup (y :: ys)) = (alD x y && alD (.tup xs) (.tup ys)) := rfl
theorem leD_trans {a b c : D} (h1 : leD a b = true) (h2 : leD b c = true) : leD a c = true := by
  have := (PySem.W.sortLe_total (PyProof.Rows.listOrd PyProof.Rows.itemOrd) false (fun d : D => PySem.W.keyToks (toPy d))).trans a b c h1 h2
  exact this
theorem leD_total (a b : D) : (leD a b || leD b a) = true := by
  rcases (PySem.W.sortLe_total (PyProof.Rows.listOrd PyProof.Rows.itemOrd) false (fun d : D => PySem.W.keyToks (toPy d))).total a b with h | h
  · rw [show leD a b = true from h]; rfl
  · rw [show leD b a = true from h, Bool.or_true]
theorem sortD_map {α : Type} (f : α → D) (xs : List α) : sortD (xs.map f) = (xs.mergeSort fun a b => leD (f a) (f b)).map f :=
  (List.map_mergeSort (f := f) (r := fun a b => leD (f a) (f b)) (s := leD) (l := xs) fun _ _ _ _ => rfl).symm
theorem sort_pair {α : Type} (f : α → D) (xs : List α) : (xs.mergeSort fun a b => leD (f a) (f b)).Pairwise fun a b => leD (f a) (f b) = true :=
  List.pairwise_mergeSort (le := fun a b => leD (f a) (f b)) (fun _ _ _ h1 h2 => leD_trans h1 h2) (fun a b => leD_total (f a) (f b)) xs
end Vm
set_option Elab.async false
set_option linter.all false
set_option maxRecDepth 100000
set_option maxHeartbeats 4000000
namespace Vm
open PySem PySem.Spec PyProof.Rows L2

/-! ### enumerate over a tuple -/
section
variable {prog : Program} {w : World} {A : Around} {E : Value → Shared → Prop} {s : Shared}
theorem next_tup_item {it t : Addr} {i : Nat} {items : Array Value} {x : Value} {Q : Value → Shared → Prop} (hit : s.heap.IsTupleIter it t i)
    (ht : s.heap.IsTuple t items) (hx : items[i]? = some x)
    (hQ : ∀ h', h'.IsTupleIter it t (i + 1) → Heap.SameBut it s.heap h' → Q x { s with heap := h' }) :
    wpAny (model prog w) A (Builtin.SmallTypes.nextOf (.ref it)) Q E s := by
  obtain ⟨o, ho, hc, hd⟩ := id hit
  obtain ⟨ol, hol, _, nl, hdl⟩ := ht
  unfold Builtin.SmallTypes.nextOf
  refine wpAny_bind (wpAny_callSpecial?_slot (name := Str.ofString "__next__") hit.typeIs F.slot_tuple_iterator_next
    (wpAny_call_entry F.slot_tuple_iterator_next hit.typeIs F.entry_tuple_iterator_next ?_ (F.args_tuple_iterator_next_1 _)))
  show wpAny _ _ (field (.ref it) 0 >>= _) _ _ s
  refine wpAny_bind (wpAny_field ho hd (x := .ref t) rfl ?_)
  show wpAny _ _ (if (Value.ref t == Value.none) = true then _ else _) _ _ s
  rw [if_neg (show ¬ ((Value.ref t == Value.none) = true) from Bool.false_ne_true)]
  show wpAny _ _ (field (.ref it) 1 >>= _) _ _ s
  refine wpAny_bind (wpAny_field ho hd (x := .int i 0) rfl ?_)
  show wpAny _ _ (seqItems? (.ref t) >>= _) _ _ s
  refine wpAny_bind (wpAny_seqItems hol hdl ?_)
  simp only [Int.toNat_natCast, hx]
  refine wpAny_bind (wpAny_setField ho hd (by simp) (wpAny_pure ⟨x, rfl, wpAny_pure (hQ _ ?_ (Heap.SameBut.update ..))⟩))
  exact ⟨_, Heap.get?_update_self _ ho (Obj.isFreed_of_fields (Obj.data_mapFields hd _)), (Obj.cls_mapFields ..).trans hc, by
    rw [Obj.data_mapFields hd]; simp [rawInt]⟩
theorem next_tup_end {it t : Addr} {i : Nat} {items : Array Value} {Q : Value → Shared → Prop} (hh : A.handled = none)
    (hit : s.heap.IsTupleIter it t i) (ht : s.heap.IsTuple t items) (hx : items[i]? = none)
    (hE : ∀ h' e, Heap.ExtBut it s.heap h' → (∃ o, h'.get? e = some o ∧ o.cls = .type "StopIteration") → E (.ref e) { s with heap := h' }) :
    wpAny (model prog w) A (Builtin.SmallTypes.nextOf (.ref it)) Q E s := by
  obtain ⟨o, ho, hc, hd⟩ := id hit
  obtain ⟨ol, hol, _, nl, hdl⟩ := ht
  unfold Builtin.SmallTypes.nextOf
  refine wpAny_bind (wpAny_callSpecial?_slot (name := Str.ofString "__next__") hit.typeIs F.slot_tuple_iterator_next
    (wpAny_call_entry F.slot_tuple_iterator_next hit.typeIs F.entry_tuple_iterator_next ?_ (F.args_tuple_iterator_next_1 _)))
  show wpAny _ _ (field (.ref it) 0 >>= _) _ _ s
  refine wpAny_bind (wpAny_field ho hd (x := .ref t) rfl ?_)
  show wpAny _ _ (if (Value.ref t == Value.none) = true then _ else _) _ _ s
  rw [if_neg (show ¬ ((Value.ref t == Value.none) = true) from Bool.false_ne_true)]
  show wpAny _ _ (field (.ref it) 1 >>= _) _ _ s
  refine wpAny_bind (wpAny_field ho hd (x := .int i 0) rfl ?_)
  show wpAny _ _ (seqItems? (.ref t) >>= _) _ _ s
  refine wpAny_bind (wpAny_seqItems hol hdl ?_)
  simp only [Int.toNat_natCast, hx]
  refine wpAny_bind (wpAny_rule (wpAny_bind (wpAny_setField ho hd (by simp) ?_)))
  show wpAny _ _ (newExc (.type "StopIteration") [] >>= _) _ _ _
  refine wpAny_bind ?_
  simp only [newExc, newTuple]
  refine wpAny_bind (wpAny_newObj_type ?_ (by size_fits))
  refine wpAny_bind (m := firstArgMember _ _) (wpAny_of_eq (a := Value.none) (by first | rfl | (simp only [firstArgMember]; rfl)) ?_)
  refine wpAny_newObj_type ?_ (by size_fits)
  simp only [raiseNew]
  refine wpAny_bind (wpAny_handled ?_)
  first | rw [show A.in1.handled = none from hh] | rw [hh]
  refine wpAny_bind (wpAny_pure (wpAny_throw ?_))
  exact hE _ _ (((Heap.SameBut.update ..).extBut.push _).push _) ⟨_, Heap.get?_push_size _ rfl, rfl⟩
end
theorem draws_tup {prog : Program} {w : World} {A : Around} (hh : A.handled = none) (it l : Addr) (hne : l ≠ it) (items : Array Value) :
    Draws prog w A it [it, l] items.size (fun i v => items[i]? = some v) (fun i h => h.IsTupleIter it l i ∧ h.IsTuple l items) where
  live := fun _ _ st => let ⟨o, ho, _⟩ := st.1; ⟨o, ho⟩
  frame := fun _ _ _ st hk => ⟨st.1.at fun o e => hk it (by simp) o e, let ⟨o, e, r⟩ := st.2; ⟨o, hk l (by simp) o e, r⟩⟩
  item := fun i s Q E hi st hQ => by
    refine next_tup_item st.1 st.2 (x := items[i]) (by simp [hi]) fun h' hit' hs' => ?_
    exact hQ _ h' s.toks (by simp [hi]) ⟨hit', st.2.extBut hs'.extBut hne⟩ hs'
  done := fun s Q E st hE => next_tup_end hh st.1 st.2 (by simp) hE
theorem meets_enum_newT (l : Addr) (items : Array Value) (n : Nat) (dct : Option Addr) (sl : Array (Option Value)) :
    Meets (Builtin.«enumerate.__new__» ⟨[.type "enumerate", .ref l], []⟩) (fun _ R s => s.heap.get? l = some { cls := .type "tuple", dict := dct, data := .seq items n, slots := sl } ∧
      R (.ok (.ret (.ref (s.heap.push { cls := .type "tuple_iterator", data := .fields #[.ref l, .int 0 0] }).objs.size)))
        { s with heap := (s.heap.push { cls := .type "tuple_iterator", data := .fields #[.ref l, .int 0 0] }).push { cls := .type "enumerate", data := .fields #[.none, .bool false, .ref s.heap.objs.size, rawInt 0, .none, .none] } }) :=
  .of_wp fun prog w A R s h => by
    obtain ⟨hp, g, d, tk, os⟩ := s; obtain ⟨hl, h⟩ := h
    have hsub := sub_enumerate
    have hL : Heap.IsTuple (Shared.heap ⟨hp, g, d, tk, os⟩) l items := ⟨_, hl, rfl, n, rfl⟩
    wp_walk using AutoSeq1.wpAny_loadPart' hl
    refine wpAny_stack_any fun st => wpAny_pure ?_
    split
    · rename_i c _ _ _ _ _
      cases (c == Value.type "enumerate")
      · wp_walk using AutoSeq1.wpAny_loadPart' hl, wpAny_pyIter_tuple hL
        exact ⟨_, rfl, h⟩
      · wp_walk using AutoSeq1.wpAny_loadPart' hl, wpAny_pyIter_tuple hL
        exact ⟨_, rfl, h⟩
    · wp_walk using AutoSeq1.wpAny_loadPart' hl, wpAny_pyIter_tuple hL
      exact ⟨_, rfl, h⟩
theorem call_enum_tup {prog : Program} {w : World} {A : Around} {E : Value → Shared → Prop} {s : Shared} {l : Addr} {items : Array Value} {Q : Value → Shared → Prop} (hL : s.heap.IsTuple l items)
    (h : ∀ h', IsEnum h' (s.heap.objs.size + 1) s.heap.objs.size 0 .none → h'.IsTupleIter s.heap.objs.size l 0 → h'.objs.size = s.heap.objs.size + 2 →
      (∀ b o, s.heap.get? b = some o → h'.get? b = some o) → Q (.ref (s.heap.objs.size + 1)) { s with heap := h' }) :
    wpAny (model prog w) A (call (.type "enumerate") [.ref l]) Q E s := by
  obtain ⟨⟨c, dct, dt, sl⟩, hl, hc, n, hd⟩ := hL
  replace hc : c = .type "tuple" := hc
  replace hd : dt = .seq items n := hd
  subst hc hd
  refine callType_new F.called_enumerate (by decide) (F.typeCall_enumerate_1 _) (F.newCall_enumerate_1 _) (fun obj => F.args_object_init_2 obj _) F.entry_enumerate_new
    (meets_enum_newT l items n dct sl) ⟨hl, ?_⟩
  have hz : (s.heap.push { cls := .type "tuple_iterator", data := .fields #[.ref l, .int 0 0] }).objs.size = s.heap.objs.size + 1 := Heap.size_push ..
  show _ ∧ _
  rw [hz]
  have he : IsEnum ((s.heap.push { cls := .type "tuple_iterator", data := .fields #[.ref l, .int 0 0] }).push
      { cls := .type "enumerate", data := .fields #[.none, .bool false, .ref s.heap.objs.size, rawInt 0, .none, .none] }) (s.heap.objs.size + 1) s.heap.objs.size 0 .none := by
    have := Heap.get?_push_size (s.heap.push { cls := .type "tuple_iterator", data := .fields #[.ref l, .int 0 0] })
      (o := { cls := .type "enumerate", data := .fields #[.none, .bool false, .ref s.heap.objs.size, rawInt 0, .none, .none] }) rfl
    rw [hz] at this; exact this
  refine ⟨⟨_, he, rfl⟩, h _ he ⟨_, Heap.get?_push_of_some _ (Heap.get?_push_size _ rfl), rfl, rfl⟩ (by rw [Heap.size_push, hz]) fun b o x => Heap.get?_push_of_some _ (Heap.get?_push_of_some _ x)⟩
def IteT (K : PySem.W.Frag) (a : Addr) : It :=
  ⟨fun i H => ∃ (xs : List V) (x : V), SqT K H a xs ∧ xs[i]? = some x, fun i H v H' => ∃ T x, v = .ref T ∧ H T = none ∧ H' = upd H T (.tup [.int (i : Nat), x]) ∧ ∀ xs, SqT K H a xs → xs[i]? = some x, fun i H => ∃ xs : List V, SqT K H a xs ∧ xs.length ≤ i⟩
theorem turn_enumT {P : Program} {w : World} {K : PySem.W.Frag} {elts : List Expr} {kk : Nat} {tpos : Pos} (a e it : Addr) :
    Turn P w K (.Tuple elts kk tpos) (IteT K a) [e, it] e (fun i h => (∃ old, IsEnum h e it ((i : Nat) : Int) old) ∧ h.IsTupleIter it a i ∧ e ≠ it) where
  mem := by simp
  obj := fun i h st b hb => by
    obtain ⟨⟨old, he⟩, ⟨o, ho, hc, hd⟩, _⟩ := st
    have e' : b = e ∨ b = it := by simpa using hb
    rcases e' with z | z
    · rw [z]; exact ⟨_, he, fun v q => nomatch q⟩
    · rw [z]; exact ⟨o, ho, fun v q => by rw [hd] at q; cases q⟩
  keep := fun i h h' st k => let ⟨⟨old, he⟩, hi, hne⟩ := st; ⟨⟨old, k e (by simp) _ he⟩, hi.at fun o q => k it (by simp) o q, hne⟩
  item := by
    intro X hP hw hK hc i pins s σ H E I hf st hg
    subst hP hw hK
    obtain ⟨⟨old, he⟩, hit, hne⟩ := st
    obtain ⟨xs, x, hq, hx⟩ := hg
    obtain ⟨its, rv, p, hz⟩ := I.tuple hq
    obtain ⟨u, hu, ru⟩ := rv.get hx
    have hel : e < s.heap.objs.size := Heap.lt_size he
    have hil : it < s.heap.objs.size := by obtain ⟨_, q, _⟩ := hit; exact Heap.lt_size q
    have pT : s.heap.IsTuple a its.toArray := p
    have hai : a ≠ it := fun z => by
      subst z
      obtain ⟨o1, q1, c1, _⟩ := hit
      obtain ⟨o2, q2, c2, _⟩ := pT
      rw [q1] at q2
      cases q2
      rw [c1] at c2
      exact absurd c2 (by simp)
    have hea : e ≠ a := fun z => by
      subst z
      obtain ⟨o2, q2, c2, _⟩ := pT
      have he' : s.heap.get? e = _ := he
      rw [he'] at q2
      cases q2
      exact absurd c2 (by simp)
    refine wpAny_pyNext_enum_itemD (draws_tup (show X.A.in1.handled = none from I.ok.hd hc) it a hai its.toArray) he ⟨hit, pT⟩ (by
      obtain ⟨h1, h2⟩ := List.getElem?_eq_some_iff.mp hu
      simpa using h1) hne (by simp [hne, hea]) fun x' h' tk hPx ho hit' hT hsz hk => ?_
    have ex : x' = u := by
      have hu' : its.toArray[i]? = some u := by simpa using hu
      rw [hu'] at hPx
      cases hPx
      rfl
    subst ex
    refine ⟨_, rfl, wpAny_letOwnedTupleGo_enum (s := { s with heap := h', toks := tk + 1 }) ho fun h'' he' sb => ?_⟩
    have hT2 : h''.get? s.heap.objs.size = some { cls := .type "tuple", data := .seq #[.int i tk, x'] } := (sb.2 _ (Nat.ne_of_gt hel)).trans hT
    have new : ObjOk X.prog X.w (upd H s.heap.objs.size (.tup [.int (i : Nat), x])) h'' s.heap.objs.size (.tup [.int (i : Nat), x]) :=
      ⟨by show 2 ≤ sizeLine; decide, [.int i tk, x'], .cons ⟨_, rfl⟩ (.cons ru .nil), ⟨_, hT2, rfl, _, rfl⟩⟩
    have I1 : Inv X pins σ (upd H s.heap.objs.size (.tup [.int (i : Nat), x])) { s with heap := h'', toks := tk + 1 } :=
      I.turnedNew (ch := [e, it]) (fun b ob hb q => (sb.2 b (fun z => hb (by simp [z]))).trans (hk b ob (fun z => hb (by simp [z])) (fun z => hb (by simp [z])) q)) hf (Nat.le_refl _) new
    refine ⟨.ref s.heap.objs.size, _, I1, rfl, ⟨_, x, rfl, I.hok.fresh (Nat.le_refl _), rfl, fun ys hy => by rw [I.tuple_inj hy hq]; exact hx⟩, ⟨⟨x', ?_⟩, hit'.1.at fun o q => (sb.2 it (Ne.symm hne)).trans q, hne⟩, fun b hb => ?_⟩
    · have e1 : ((i + 1 : Nat) : Int) = (i : Int) + 1 := by omega
      rw [e1]; exact he'
    · have hb' : b < s.heap.objs.size := by
        have e' : b = e ∨ b = it := by simpa using hb
        rcases e' with z | z
        · rw [z]; exact hel
        · rw [z]; exact hil
      rw [upd_ne (Nat.ne_of_lt hb')]
      exact (hf b hb).1
  done := by
    intro X hP hw hK hc i pins s σ H E I hf st hg
    subst hP hw hK
    obtain ⟨⟨old, he⟩, hit, hne⟩ := st
    obtain ⟨xs, hq, hx⟩ := hg
    obtain ⟨its, rv, p, hz⟩ := I.tuple hq
    obtain ⟨f0, f1, f2, f3, f4, f5⟩ := hf it (by simp)
    have hl := rv.length
    have hT : s.TypeIs (.ref e) "enumerate" := ⟨_, he, rfl⟩
    unfold pyNext
    refine wpAny_bind (wpAny_attempt (wpAny_callSpecial?_slot (name := Str.ofString "__next__") hT F.slot_enumerate_next
      (wpAny_call_entry F.slot_enumerate_next hT F.entry_enumerate_next ?_ (F.args_enumerate_next_1 _))))
    show wpAny _ _ (field (.ref e) 2 >>= _) _ _ _
    refine wpAny_bind (wpAny_field he rfl (x := .ref it) rfl ?_)
    refine wpAny_bind (next_tup_end (I.ok.hd hc) hit (show s.heap.IsTuple a its.toArray from p) (by simp; omega) fun h' x he' hx' => ?_)
    obtain ⟨o, ho, hc'⟩ := hx'
    refine wpAny_bind (wpAny_isInstance (T := "StopIteration") (b := true) ⟨o, ho, hc'⟩ isSubtype_stop ?_)
    exact wpAny_pure ⟨rfl, I.turned (t' := s.toks) (fun b o hb q => he' b o hb q) f0 f1 f3 f4 f5⟩
  self := fun A i s Q E st h => let ⟨⟨_, he⟩, _⟩ := st; wpAny_pyIter_enum he h
def iEnumT (K : PySem.W.Frag) (ta : TA) : TI := fun σ H R => ta σ H fun vs H1 => ∃ a xs, vs = [.ref a] ∧ SqT K H1 a xs ∧ R (IteT K a) H1
theorem pi_enumT {X : Cx} {e : Expr} {ta : TA} {p pos tpos : Pos} {elts : List Expr} {kk : Nat} (hg : Gl X "enumerate") (hm : X.mg "enumerate" = none) (ha : PA X [e] ta) (hs : starEach [e] X.env = [(false, eval e X.env)] := by rfl) :
    PI X (.Tuple elts kk tpos) (.Call (.Name "enumerate" p) [e] [] pos) (iEnumT X.K ta) := by
  refine ⟨fun pins s σ H R I h => ?_⟩
  refine Call_ (ld_blt I hg hm boot_enumerate (PyProof.Rows.callWith_type1 (thn (ha.run pos pins s σ H _ I h) fun us s1 ⟨vs, H1, I1, r1, q1⟩ => ?_) hs rfl))
  obtain ⟨a, xs, ex, hq, q⟩ := q1
  subst ex
  cases r1 with
  | cons r rr =>
    cases rr
    cases r
    obtain ⟨its, rv, p', hz⟩ := I1.tuple hq
    refine call_enum_tup (show s1.heap.IsTuple a its.toArray from p') fun h' he hit hsz hk => wpAny_pyIter_enum he ?_
    have I2 : Inv X pins σ H1 { s1 with heap := h' } := I1.kept (t' := s1.toks) hk
    refine ⟨s1.heap.objs.size + 1, [s1.heap.objs.size + 1, s1.heap.objs.size], _, _, H1, rfl, I2, turn_enumT a (s1.heap.objs.size + 1) s1.heap.objs.size, ⟨⟨.none, he⟩, hit, Nat.succ_ne_self _⟩, fun b hb => ?_, q⟩
    have e' : b = s1.heap.objs.size + 1 ∨ b = s1.heap.objs.size := by simpa using hb
    have hle : s1.heap.objs.size ≤ b := by
      rcases e' with z | z
      · rw [z]; exact Nat.le_add_right _ _
      · rw [z]; exact Nat.le_refl _
    exact I1.fpOk hle (I1.hok.fresh hle)
section
variable {G : GC} {N : List Str} {S : SC} {bs bs1 bs2 ms ms1 ms2 ms3 as : Ms} {m : Md} {k : Kd} {e a b : Expr} {es : List Expr} {f fa fb : M D} {fs : M (List D)} {pos : Pos} {tg : Expr}
def iEnmT (f : M D) : M (List D) := fun r => (f r).bind fun d => rM (match d with
  | .tup ds => some (enumD 0 ds)
  | _ => none)
theorem VI.enmT {p tpos : Pos} {elts : List Expr} {kk : Nat} (h : VO G N S .z ms e f) (hm : G.mg "enumerate" = none) (hg : Glb S "enumerate" := by rfl) (hs : ∀ env, starEach [e] env = [(false, eval e env)] := by intro _; rfl) :
    VI G N S ms0 ms (.Tuple elts kk tpos) (.Call (.Name "enumerate" p) [e] [] pos) (iEnmT f) := by
  refine fun R a W t => PI.imp (pi_enumT (a.gl hg) hm (pa_cons (pe_small (h R a W t)) pa_nil (hs _)) (hs _)) fun σ H Q ⟨ρ, H0, c, l, o⟩ => ?_
  refine ⟨ρ, H0, c, l, (Out.bind (G := FO G.K G.mg .z ms) (ms1 := ms) back_FI o fun i e => e).imp fun x H1 ⟨d, H01, c1, ρ1, e1, s1, l1, ⟨fp, o1, f1⟩, h1⟩ hs => ?_⟩
  have z := (Ow.zero.mp o1).2
  cases d with
  | tup ds =>
    obtain ⟨a, vs, e, k, g⟩ := z
    subst e
    have sq : SqT G.K H1 a vs := same_t l1.sub k
    have hl : ds.length ≤ LIM := by rw [← g.length]; exact hs a vs rfl (.inr sq)
    have h1' : Out G.K G.mg W (FI G.K G.mg ms0) ms H01 H1 c1 σ (.ok (enumD 0 ds) ρ1) Q := h1
    refine ⟨a, vs, rfl, sq, h1' _ H01 H1 c1 .refl l1 ⟨by rw [enumD_len]; exact hl, fun _ _ => True, trivial, .tt, fun H0' H c s1 s2 p => ?_⟩⟩
    have hq : SqT G.K H a vs := same_t s2 (same_t s1 k)
    refine ⟨fun i d e => ?_, ⟨vs, hq, by rw [g.length, enumD_len]; exact Nat.le_refl _⟩⟩
    obtain ⟨d', g1, g2⟩ := enumD_get ds 0 i d e
    obtain ⟨v, v1, v2⟩ := g.get g1
    refine ⟨⟨vs, v, hq, v1⟩, fun x H' ⟨T, x', k1, k2, k3, k4⟩ => ?_⟩
    have k5 := k4 vs hq
    rw [v1] at k5
    cases k5
    subst k1 k3 g2
    exact same_pair s2 k2 (by show V.int _ = V.int _; rw [Int.zero_add]) (Fz.mono s1 d' v v2)
  | _ => exact h1.elim
def iEnmA (f : M D) : M (List D) := fun r => (f r).bind fun d => rM (match d with
  | .tup ds => some (enumD 0 ds)
  | d => (asLst d).map (enumD 0))
theorem VI.enmA {p tpos : Pos} {elts : List Expr} {kk : Nat} (h : VO G N S .z ms e f) (hm : G.mg "enumerate" = none) (hg : Glb S "enumerate" := by rfl) (hs : ∀ env, starEach [e] env = [(false, eval e env)] := by intro _; rfl) :
    VI G N S ms0 ms (.Tuple elts kk tpos) (.Call (.Name "enumerate" p) [e] [] pos) (iEnmA f) := by
  refine fun R a W t => PI.imp (PI.or ((VI.enm (tpos := tpos) (elts := elts) (kk := kk) (p := p) (pos := pos) h.vb hm hg hs) R a W t) ((VI.enmT (tpos := tpos) (elts := elts) (kk := kk) (p := p) (pos := pos) h hm hg hs) R a W t)) fun σ H Q ⟨ρ, H0, c, l, o⟩ => ?_
  cases hf : f ρ with
  | ok d r =>
    have e1 : iEnmA f ρ = rM (match d with
      | .tup ds => some (enumD 0 ds)
      | d => (asLst d).map (enumD 0)) r := by unfold iEnmA; rw [hf]; rfl
    rw [e1] at o
    cases d with
    | lst ds => exact .inl ⟨ρ, H0, c, l, by unfold iEnm; rw [hf]; exact o⟩
    | scr ds => exact .inl ⟨ρ, H0, c, l, by unfold iEnm; rw [hf]; exact o⟩
    | tup ds => exact .inr ⟨ρ, H0, c, l, by unfold iEnmT; rw [hf]; exact o⟩
    | _ => exact o.elim
  | exc n ns vs r => exact .inl ⟨ρ, H0, c, l, by unfold iEnm; unfold iEnmA at o; rw [hf] at o ⊢; exact o⟩
  | bad => exact .inl ⟨ρ, H0, c, l, by unfold iEnm; unfold iEnmA at o; rw [hf] at o ⊢; exact o⟩
@[simp] theorem iEnmA_ap (s0 : Sl) (r : En) : iEnmA f (s0 :: r) = (f (s0 :: r)).bind fun d => rM (match d with
  | .tup ds => some (enumD 0 ds)
  | d => (asLst d).map (enumD 0)) := rfl
end
@[simp] theorem isT_int_non  : isT .int .non = some false := rfl
@[simp] theorem isT_int_bl (a : Bool) : isT .int (.bl a) = some true := rfl
@[simp] theorem isT_int_int (a : Int) : isT .int (.int a) = some true := rfl
@[simp] theorem isT_int_str (a : List Nat) : isT .int (.str a) = some false := rfl
@[simp] theorem isT_int_lst (a : List D) : isT .int (.lst a) = some false := rfl
@[simp] theorem isT_int_scr (a : List Int) : isT .int (.scr a) = some false := rfl
@[simp] theorem isT_int_tup (a : List D) : isT .int (.tup a) = some false := rfl
@[simp] theorem isT_bool_non  : isT .bool .non = some false := rfl
@[simp] theorem isT_bool_int (a : Int) : isT .bool (.int a) = some false := rfl
@[simp] theorem isT_bool_str (a : List Nat) : isT .bool (.str a) = some false := rfl
@[simp] theorem isT_bool_lst (a : List D) : isT .bool (.lst a) = some false := rfl
@[simp] theorem isT_bool_scr (a : List Int) : isT .bool (.scr a) = some false := rfl
@[simp] theorem isT_bool_tup (a : List D) : isT .bool (.tup a) = some false := rfl
@[simp] theorem isT_str_non  : isT .str .non = some false := rfl
@[simp] theorem isT_str_bl (a : Bool) : isT .str (.bl a) = some false := rfl
@[simp] theorem isT_str_int (a : Int) : isT .str (.int a) = some false := rfl
@[simp] theorem isT_str_str (a : List Nat) : isT .str (.str a) = some true := rfl
@[simp] theorem isT_str_lst (a : List D) : isT .str (.lst a) = some false := rfl
@[simp] theorem isT_str_scr (a : List Int) : isT .str (.scr a) = some false := rfl
@[simp] theorem isT_str_tup (a : List D) : isT .str (.tup a) = some false := rfl
@[simp] theorem isT_list_non  : isT .list .non = some false := rfl
@[simp] theorem isT_list_bl (a : Bool) : isT .list (.bl a) = some false := rfl
@[simp] theorem isT_list_int (a : Int) : isT .list (.int a) = some false := rfl
@[simp] theorem isT_list_str (a : List Nat) : isT .list (.str a) = some false := rfl
@[simp] theorem isT_list_lst (a : List D) : isT .list (.lst a) = some true := rfl
@[simp] theorem isT_list_scr (a : List Int) : isT .list (.scr a) = some true := rfl
@[simp] theorem isT_list_tup (a : List D) : isT .list (.tup a) = some false := rfl
@[simp] theorem isT_tuple_non  : isT .tuple .non = some false := rfl
@[simp] theorem isT_tuple_bl (a : Bool) : isT .tuple (.bl a) = some false := rfl
@[simp] theorem isT_tuple_int (a : Int) : isT .tuple (.int a) = some false := rfl
@[simp] theorem isT_tuple_str (a : List Nat) : isT .tuple (.str a) = some false := rfl
@[simp] theorem isT_tuple_lst (a : List D) : isT .tuple (.lst a) = some false := rfl
@[simp] theorem isT_tuple_scr (a : List Int) : isT .tuple (.scr a) = some false := rfl
@[simp] theorem isT_tuple_tup (a : List D) : isT .tuple (.tup a) = some true := rfl
@[simp] theorem isT_dict_non  : isT .dict .non = some false := rfl
@[simp] theorem isT_dict_bl (a : Bool) : isT .dict (.bl a) = some false := rfl
@[simp] theorem isT_dict_int (a : Int) : isT .dict (.int a) = some false := rfl
@[simp] theorem isT_dict_str (a : List Nat) : isT .dict (.str a) = some false := rfl
@[simp] theorem isT_dict_lst (a : List D) : isT .dict (.lst a) = some false := rfl
@[simp] theorem isT_dict_scr (a : List Int) : isT .dict (.scr a) = some false := rfl
@[simp] theorem isT_dict_tup (a : List D) : isT .dict (.tup a) = some false := rfl
end Vm
set_option Elab.async false
set_option linter.all false
set_option maxRecDepth 100000
set_option maxHeartbeats 4000000
namespace Vm
open PySem PySem.Spec PyProof.Rows L2

/-! ### what is never reached -/
def gBad : M Fl := fun _ => .bad
def fBad : M D := fun _ => .bad
@[simp] theorem gBad_ap (r : En) : gBad r = .bad := rfl
@[simp] theorem fBad_ap (r : En) : fBad r = .bad := rfl
section
variable {G : GC} {N : List Str} {S : SC} {bs bs1 bs2 ms ms1 ms2 ms3 as as1 as2 : Ms} {m rm : Md} {k : Kd} {e a b : Expr} {es : List Expr} {f fa fb : M D} {fs : M (List D)} {pos : Pos} {g g1 g2 : M Fl} {st : Stmt} {rest st1 st2 : List Stmt}
theorem VS.bad : VS G N S rm ms0 st gBad := fun R a W t => ⟨fun pins s σ H D I ⟨ρ, H0, c, l, o⟩ => o.elim⟩
theorem VO.bad : VO G N S m ms0 e fBad := fun R a W t => ⟨fun pins s σ H Q I ⟨ρ, H0, c, l, o⟩ => o.elim⟩

/-! ### while, as long as it takes -/
theorem lpK_mono {k k' : M Fl} (h : ∀ r, k r = .bad ∨ k r = k' r) (fl : Fl) (r : En) : lpK k fl r = .bad ∨ lpK k fl r = lpK k' fl r := by
  cases fl with
  | nx => exact h r
  | ct => exact h r
  | bk => exact .inr rfl
  | rt d => exact .inr rfl
theorem bind_mono {α β : Type} {x : Res α} {k k' : α → M β} (h : ∀ a r, k a r = .bad ∨ k a r = k' a r) : x.bind k = .bad ∨ x.bind k = x.bind k' := by
  cases x with
  | ok a r => exact h a r
  | exc n ns vs r => exact .inr rfl
  | bad => exact .inr rfl
theorem gWhile_mono (ft : M D) (gb : M Fl) : ∀ (n : Nat) (r : En), gWhile ft gb n r = .bad ∨ gWhile ft gb n r = gWhile ft gb (n + 1) r
  | 0, r => .inl rfl
  | n + 1, r => by
    have ih := gWhile_mono ft gb n
    show (ft r).bind _ = .bad ∨ (ft r).bind _ = (ft r).bind _
    refine bind_mono fun d r => ?_
    cases d with
    | bl b =>
      cases b with
      | true => exact bind_mono fun fl r => lpK_mono ih fl r
      | false => exact .inr rfl
    | _ => exact .inl rfl
theorem gWhile_le (ft : M D) (gb : M Fl) {n m : Nat} (h : n ≤ m) (r : En) : gWhile ft gb n r = .bad ∨ gWhile ft gb n r = gWhile ft gb m r := by
  induction h with
  | refl => exact .inr rfl
  | step _ ih =>
    rename_i m _
    rcases ih with z | z
    · exact .inl z
    · rcases gWhile_mono ft gb m r with y | y
      · exact .inl (z.trans y)
      · exact .inr (z.trans y)
open Classical in
noncomputable def gWh (ft : M D) (gb : M Fl) : M Fl := fun r => if h : ∃ n, gWhile ft gb n r ≠ .bad then gWhile ft gb (Classical.choose h) r else .bad
theorem gWh_of {ft : M D} {gb : M Fl} {r : En} {n : Nat} {x : Res Fl} (h : gWhile ft gb n r = x) (hx : x ≠ .bad) : gWh ft gb r = x := by
  have hn : gWhile ft gb n r ≠ .bad := fun z => hx (h.symm.trans z)
  have he : ∃ n, gWhile ft gb n r ≠ .bad := ⟨n, hn⟩
  unfold gWh
  rw [dif_pos he]
  have hc := Classical.choose_spec he
  generalize Classical.choose he = k at hc
  rcases Nat.le_total k n with q | q
  · rcases gWhile_le ft gb q r with z | z
    · exact absurd z hc
    · exact z.trans h
  · rcases gWhile_le ft gb q r with z | z
    · exact absurd z hn
    · exact z.symm.trans h
theorem gWh_cases (ft : M D) (gb : M Fl) (r : En) : gWh ft gb r = .bad ∨ ∃ n, gWh ft gb r = gWhile ft gb n r := by
  unfold gWh
  split
  · exact .inr ⟨_, rfl⟩
  · exact .inl rfl
def gWhS (ft : M D) (gb k : M Fl) : M Fl := fun r => (ft r).bind fun d r => match d with
    | .bl true => (gb r).bind (lpK k)
    | .bl false => .ok .nx r
    | _ => .bad
/-- one turn -/
theorem gWh_eq (ft : M D) (gb : M Fl) (r : En) {x : Res Fl} (h : gWhS ft gb (gWh ft gb) r = x) (hx : x ≠ .bad) : gWh ft gb r = x := by
  have key : ∃ n, gWhS ft gb (gWhile ft gb n) r = x := by
    unfold gWhS at h ⊢
    cases hf : ft r with
    | bad => rw [hf] at h; exact absurd h.symm hx
    | exc n ns vs r2 => exact ⟨0, by rw [hf] at h; exact h⟩
    | ok d r2 =>
      rw [hf] at h
      rw [bind_ok] at h
      cases d with
      | bl b =>
        cases b with
        | false => exact ⟨0, h⟩
        | true =>
          cases hg : gb r2 with
          | bad => simp only [hg, bind_bad] at h; exact absurd h.symm hx
          | exc n ns vs r3 => exact ⟨0, by simp only [hg] at h; rw [bind_ok]; simp only [hg]; exact h⟩
          | ok fl r3 =>
            simp only [hg, bind_ok] at h
            have go : ∀ r3, gWh ft gb r3 = x → ∃ n, gWhile ft gb n r3 = x := fun r3 h => by
              rcases gWh_cases ft gb r3 with z | ⟨n, z⟩
              · exact absurd (h.symm.trans z) hx
              · exact ⟨n, z.symm.trans h⟩
            cases fl with
            | nx =>
              obtain ⟨n, z⟩ := go r3 h
              exact ⟨n, by rw [bind_ok]; simp only [hg, bind_ok]; exact z⟩
            | ct =>
              obtain ⟨n, z⟩ := go r3 h
              exact ⟨n, by rw [bind_ok]; simp only [hg, bind_ok]; exact z⟩
            | bk => exact ⟨0, by rw [bind_ok]; simp only [hg, bind_ok]; exact h⟩
            | rt d => exact ⟨0, by rw [bind_ok]; simp only [hg, bind_ok]; exact h⟩
      | _ => exact absurd h.symm hx
  obtain ⟨n, z⟩ := key
  exact gWh_of (n := n + 1) z hx
theorem VS.wh {t : Expr} {body : List Stmt} {ft : M D} {gb : M Fl} (ht : VT G N S ms t ft) (hb : VSs G N S rm as body gb) : VS G N S rm as (.While t body [] pos) (gWh ft gb) := by
  refine fun R a W tk => ⟨fun pins s σ H D I ⟨ρ, H0, c, l, o⟩ => ?_⟩
  rcases gWh_cases ft gb ρ with z | ⟨n, z⟩
  · rw [z] at o; exact o.elim
  · rw [z] at o
    exact ((VS.while_ (pos := pos) n ht hb) R a W tk).run pins s σ H D I ⟨ρ, H0, c, l, o⟩
end
end Vm
set_option Elab.async false
set_option linter.all false
set_option maxRecDepth 100000
set_option maxHeartbeats 4000000
namespace Vm
open PySem PySem.Spec PyProof.Rows L2

/-! ### dictionaries by ints and texts -/
def keyD : D → Option Key
  | .int i => some (.inl i)
  | .str s => some (.inr ⟨s.toArray⟩)
  | _ => none
theorem keyD_kD (k : Key) : keyD (kD k) = some k := by
  cases k with
  | inl i => rfl
  | inr x => obtain ⟨c⟩ := x; simp [kD, keyD]
theorem kD_of {d : D} {k : Key} (h : keyD d = some k) : d = kD k := by
  cases d <;> simp [keyD] at h
  · subst h; rfl
  · subst h; simp [kD]
theorem kD_inj {k k' : Key} (h : kD k = kD k') : k = k' := by
  have := congrArg keyD h
  rw [keyD_kD, keyD_kD] at this
  exact Option.some.inj this
def dLook (k : Key) : List D → List D → Option D
  | x :: ks, v :: vs => if keyD x = some k then some v else dLook k ks vs
  | _, _ => none
def oDGet (d e : D) : Option D := match d with
  | .dct ks vs => (keyD e).bind fun k => dLook k ks vs
  | _ => none
def oDIn (e d : D) : Option D := match d with
  | .dct ks vs => (keyD e).map fun k => .bl (dLook k ks vs).isSome
  | _ => none
def oDNotIn (e d : D) : Option D := match d with
  | .dct ks vs => (keyD e).map fun k => .bl !(dLook k ks vs).isSome
  | _ => none
theorem dLook_val {K : PySem.W.Frag} {mg : Str → Option Value} {H : Hp} (k : Key) : ∀ (kvs : List (Key × V)) (ds : List D), Fzs K mg H ds (kvs.map (·.2)) →
    (dLook k (kvs.map fun p => kD p.1) ds).isSome = (valV kvs k).isSome ∧ ∀ d, dLook k (kvs.map fun p => kD p.1) ds = some d → ∃ v, valV kvs k = some v ∧ Fz K mg H d v
  | [], ds, h => by
    cases ds with
    | nil => exact ⟨rfl, fun d q => by cases q⟩
    | cons d ds => obtain ⟨v, r, e, _⟩ := h; cases e
  | p :: kvs, [], h => by cases (show List.map (·.2) (p :: kvs) = [] from h)
  | p :: kvs, d :: ds, ⟨v, r, e, hv, hr⟩ => by
    cases e
    obtain ⟨i1, i2⟩ := dLook_val (K := K) (mg := mg) (H := H) k kvs ds hr
    by_cases z : p.1 = k
    · have z' : keyD (kD p.1) = some k := by rw [keyD_kD, z]
      rw [List.map_cons, dLook, if_pos z', valV_pos z]
      exact ⟨rfl, fun d' q => by cases q; exact ⟨_, rfl, hv⟩⟩
    · have z' : ¬ keyD (kD p.1) = some k := by rw [keyD_kD]; exact fun q => z (Option.some.inj q)
      rw [List.map_cons, dLook, if_neg z', valV_neg z]
      exact ⟨i1, i2⟩
theorem key_v {K : PySem.W.Frag} {mg : Str → Option Value} {H0 H : Hp} {d : D} {v : V} {k : Key} (h : Sh K mg H0 H d v) (e : keyD d = some k) : v = kV k := by
  cases d <;> simp [keyD] at e
  · subst e; exact h
  · subst e; exact h.1
def rDGet : R2 := fun x y H Q => ∃ a v, x = .ref a ∧ DGet H a y (some v) ∧ Q v H
def rDIn : R2 := fun y x H Q => ∃ a o, x = .ref a ∧ DGet H a y o ∧ Q (.bl o.isSome) H
def rDNotIn : R2 := fun y x H Q => ∃ a o, x = .ref a ∧ DGet H a y o ∧ Q (.bl (!o.isSome)) H
section
variable {G : GC} {N : List Str} {S : SC} {bs bs1 bs2 ms ms1 ms2 ms3 : Ms} {m : Md} {e a b : Expr} {es : List Expr} {f fa fb : M D} {pos : Pos}
theorem ru_dget : Ru2 G rDGet .z oDGet := by
  intro H0 H d1 d2 x y d Q s h1 h2 ho f
  cases d1 <;> try (cases ho; done)
  rename_i ks ds
  obtain ⟨k, hk, hl⟩ := Option.bind_eq_some_iff.mp (show (keyD d2).bind (fun k => dLook k ks ds) = some d from ho)
  obtain ⟨a, vs, e, ⟨kvs, hd, hz, e1, e2⟩, g⟩ := h1
  subst e e1 e2
  obtain ⟨v, hv, fz⟩ := (dLook_val k kvs ds g).2 d hl
  exact ⟨a, v, rfl, .inl ⟨kvs, k, hd, key_v h2 hk, hv.symm⟩, f.frz s fz⟩
theorem ru_din : Ru2 G rDIn .z oDIn := by
  intro H0 H d1 d2 x y d Q s h1 h2 ho f
  cases d2 <;> simp [oDIn] at ho
  rename_i ks ds
  obtain ⟨k, hk, hl⟩ := ho
  obtain ⟨a, vs, e, ⟨kvs, hd, hz, e1, e2⟩, g⟩ := h2
  subst e e1 e2 hl
  exact ⟨a, _, rfl, .inl ⟨kvs, k, hd, key_v h1 hk, rfl⟩, f.frz s (by show V.bl _ = V.bl _; rw [(dLook_val k kvs ds g).1])⟩
theorem ru_dnin : Ru2 G rDNotIn .z oDNotIn := by
  intro H0 H d1 d2 x y d Q s h1 h2 ho f
  cases d2 <;> try (cases ho; done)
  rename_i ks ds
  obtain ⟨k, hk, hl⟩ := Option.map_eq_some_iff.mp (show (keyD d1).map (fun k => D.bl !(dLook k ks ds).isSome) = some d from ho)
  obtain ⟨a, vs, e, ⟨kvs, hd, hz, e1, e2⟩, g⟩ := h2
  subst e e1 e2 hl
  exact ⟨a, _, rfl, .inl ⟨kvs, k, hd, key_v h1 hk, rfl⟩, f.frz s (by show V.bl _ = V.bl _; rw [(dLook_val k kvs ds g).1])⟩
theorem op_din {X : Cx} (hu : X.A.units + 1 < cLine) : OpR X (compareOp .In) rDIn := by
  intro pins s σ H x y v u Q I rx ry ⟨a, o, e, g, q⟩
  subst e
  obtain rfl : u = Value.ref a := ry
  exact d_in hu I g rx fun s3 I3 => ⟨.bl o.isSome, H, I3, rfl, q⟩
theorem op_dnin {X : Cx} (hu : X.A.units + 1 < cLine) : OpR X (compareOp .NotIn) rDNotIn := by
  intro pins s σ H x y v u Q I rx ry ⟨a, o, e, g, q⟩
  subst e
  obtain rfl : u = Value.ref a := ry
  exact d_notIn hu I g rx fun s3 I3 => ⟨.bl (!o.isSome), H, I3, rfl, q⟩
theorem op_or {X : Cx} {f : Value → Value → Sem Value} {r r' : R2} (h : OpR X f r) (h' : OpR X f r') : OpR X f (rOr r r') :=
  fun pins s σ H x y v u Q I rx ry w => w.elim (h pins s σ H x y v u Q I rx ry) (h' pins s σ H x y v u Q I rx ry)
def isDct : D → Bool
  | .dct _ _ => true
  | _ => false
def oInA (e d : D) : Option D := if isDct d = true then oDIn e d else oIn e d
def oNotInA (e d : D) : Option D := if isDct d = true then oDNotIn e d else oNotIn e d
def oIxA (d e : D) : Option D := if isDct d = true then oDGet d e else oIx d e
theorem Cm.inA (hc : S.cm = true := by rfl) : Cm G N S .In oInA := ⟨_, fun _ a => op_or (op_din (by have := a.u100 hc; omega)) (op_inV (a.u100 hc)), fun H0 H d1 d2 x y d Q s h1 h2 ho f => by
  unfold oInA at ho
  split at ho
  · exact .inl (ru_din H0 H d1 d2 x y d Q s h1 h2 ho f)
  · exact .inr (ru_in H0 H d1 d2 x y d Q s h1 h2 ho f)⟩
theorem Cm.ninA (hc : S.cm = true := by rfl) : Cm G N S .NotIn oNotInA := ⟨_, fun _ a => op_or (op_dnin (by have := a.u100 hc; omega)) (op_notInV (a.u100 hc)), fun H0 H d1 d2 x y d Q s h1 h2 ho f => by
  unfold oNotInA at ho
  split at ho
  · exact .inl (ru_dnin H0 H d1 d2 x y d Q s h1 h2 ho f)
  · exact .inr (ru_notIn H0 H d1 d2 x y d Q s h1 h2 ho f)⟩
theorem PE.or {X : Cx} {e : Expr} {t t' : TE} (h : PE X e t) (h' : PE X e t') : PE X e fun σ H Q => t σ H Q ∨ t' σ H Q :=
  ⟨fun pins s σ H Q I w => w.elim (h.run pins s σ H Q I) (h'.run pins s σ H Q I)⟩
theorem VO.dget (ha : VB G N S bs1 ms1 a fa) (hb : VB G N S bs2 ms2 b fb) (dj : Dj bs1 ms2 := by intro i h; first | rfl | exact absurd h Bool.false_ne_true | (simp [lentM] at h ⊢ <;> omega)) (hc : S.cm = true := by rfl) (hs : NoSl b := by exact fun _ _ => rfl) : VO G N S .z (msU ms1 ms2) (.Subscript a b pos) (fOp2 oDGet fa fb) :=
  fun R at_ W t => (pe_dget (by have := at_.u100 hc; omega) (ha R at_ W t) (hb R at_ W t) hs).imp fun σ H Q h => VE.bin (r := rDGet) rfl rfl ru_dget dj h
end
section
variable {G : GC} {N : List Str} {S : SC} {bs bs1 bs2 ms ms1 ms2 ms3 : Ms} {m : Md} {e a b : Expr} {es : List Expr} {f fa fb : M D} {pos : Pos}
/-- which road a reading takes is seen by its first part -/
theorem VO.itemA (ha : VB G N S bs1 ms1 a fa) (hb : VB G N S bs2 ms2 b fb) (dj : Dj bs1 ms2 := by intro i h; first | rfl | exact absurd h Bool.false_ne_true | (simp [lentM] at h ⊢ <;> omega)) (hc : S.cm = true := by rfl) (hs : NoSl b := by exact fun _ _ => rfl) (hp : PlainIx b := by exact fun _ _ => rfl) : VO G N S .z (msU ms1 ms2) (.Subscript a b pos) (fOp2 oIxA fa fb) := by
  refine fun R at_ W t => (PE.or ((VO.dget (pos := pos) ha hb dj hc hs) R at_ W t) ((VO.item (pos := pos) ha hb dj hp) R at_ W t)).imp fun σ H Q ⟨ρ, H0, c, l, o⟩ => ?_
  cases hf : fa ρ with
  | ok d r =>
    have e1 : ∀ o' : D → D → Option D, fOp2 o' fa fb ρ = (fb r).bind fun y => rM (o' d y) := fun o' => by unfold fOp2; rw [hf]; rfl
    by_cases hd : isDct d = true
    · refine .inl ⟨ρ, H0, c, l, ?_⟩
      have : fOp2 oIxA fa fb ρ = fOp2 oDGet fa fb ρ := by
        rw [e1, e1]
        congr 1
        funext y
        unfold oIxA
        rw [if_pos hd]
      rw [← this]; exact o
    · refine .inr ⟨ρ, H0, c, l, ?_⟩
      have : fOp2 oIxA fa fb ρ = fOp2 oIx fa fb ρ := by
        rw [e1, e1]
        congr 1
        funext y
        unfold oIxA
        rw [if_neg hd]
      rw [← this]; exact o
  | exc n ns vs r => exact .inr ⟨ρ, H0, c, l, by unfold fOp2 at o ⊢; rw [hf] at o ⊢; exact o⟩
  | bad => exact .inr ⟨ρ, H0, c, l, by unfold fOp2 at o ⊢; rw [hf] at o ⊢; exact o⟩
end
end Vm
set_option Elab.async false
set_option linter.all false
set_option maxRecDepth 100000
set_option maxHeartbeats 4000000
namespace Vm
open PySem PySem.Spec PyProof.Rows L2

/-! ### d[k] = v on a dictionary of one's own -/
def hasK (k : Key) (ks : List D) : Bool := ks.any fun x => decide (keyD x = some k)
def putKs (k : Key) (ks : List D) : List D := if hasK k ks = true then ks else ks ++ [kD k]
def repV (k : Key) (d : D) : List D → List D → List D
  | x :: ks, v :: vs => (if keyD x = some k then d else v) :: repV k d ks vs
  | _, _ => []
def putVs (k : Key) (d : D) (ks vs : List D) : List D := if hasK k ks = true then repV k d ks vs else vs ++ [d]
theorem any_hasK (k : Key) (kvs : List (Key × V)) : hasK k (kvs.map fun p => kD p.1) = kvs.any fun kv => decide (kv.1 = k) := by
  unfold hasK
  rw [List.any_map]
  congr 1
  funext p
  simp [keyD_kD]
theorem putKs_kvs (k : Key) (v : V) (kvs : List (Key × V)) : (putK kvs k v).map (fun p => kD p.1) = putKs k (kvs.map fun p => kD p.1) := by
  unfold putK putKs
  rw [any_hasK]
  split
  · rw [List.map_map]
    congr 1
    funext p
    simp only [Function.comp]
    split <;> rfl
  · simp
theorem repV_fz {K : PySem.W.Frag} {mg : Str → Option Value} {H : Hp} {k : Key} {d : D} {v : V} (hd : Fz K mg H d v) : ∀ (kvs : List (Key × V)) (ds : List D), Fzs K mg H ds (kvs.map (·.2)) →
    Fzs K mg H (repV k d (kvs.map fun p => kD p.1) ds) ((kvs.map fun kv => if kv.1 = k then (kv.1, v) else kv).map (·.2))
  | [], ds, h => by
    cases ds with
    | nil => rfl
    | cons x ds => obtain ⟨_, _, e, _⟩ := h; cases e
  | p :: kvs, [], h => by cases (show List.map (·.2) (p :: kvs) = [] from h)
  | p :: kvs, x :: ds, ⟨w, r, e, hw, hr⟩ => by
    cases e
    have ih := repV_fz (k := k) hd kvs ds hr
    by_cases z : p.1 = k
    · have z' : keyD (kD p.1) = some k := by rw [keyD_kD, z]
      simp only [List.map_cons, repV, if_pos z', if_pos z]
      exact ⟨v, _, rfl, hd, ih⟩
    · have z' : ¬ keyD (kD p.1) = some k := by rw [keyD_kD]; exact fun q => z (Option.some.inj q)
      simp only [List.map_cons, repV, if_neg z', if_neg z]
      exact ⟨_, _, rfl, hw, ih⟩
theorem putVs_fz {K : PySem.W.Frag} {mg : Str → Option Value} {H : Hp} {k : Key} {d : D} {v : V} (hd : Fz K mg H d v) (kvs : List (Key × V)) (ds : List D) (h : Fzs K mg H ds (kvs.map (·.2))) :
    Fzs K mg H (putVs k d (kvs.map fun p => kD p.1) ds) ((putK kvs k v).map (·.2)) := by
  unfold putVs putK
  rw [any_hasK]
  split
  · exact repV_fz hd kvs ds h
  · rw [List.map_append]
    exact h.append ⟨v, [], rfl, hd, rfl⟩
def dcS : Sl → Option (List D × List D)
  | some (.o (.all m), .dct ks vs) => if mdEq m .z = true then some (ks, vs) else none
  | _ => none
theorem dcS_ok {s : Sl} {ks vs : List D} (h : dcS s = some (ks, vs)) : s = some (m1, .dct ks vs) := by
  unfold dcS at h
  split at h
  · split at h
    · rename_i q
      cases h
      rw [mdEq_ok q]
    · cases h
  · cases h
def dPutO (k d : D) (p : List D × List D) : Option (List D × List D) := (keyD k).bind fun k => if p.1.length < 16777216 ∧ kOk k = true then some (putKs k p.1, putVs k d p.1 p.2) else none
section
variable {K : PySem.W.Frag} {mg : Str → Option Value} {ms : Ms} {H0 H H01 H1 : Hp} {c c1 : Co} {σ : L2.St} {ρ1 : En} {ks ds ks' ds' : List D} {q : Addr} {i : Nat}
theorem dc_at {ρ : En} (l : Lies K mg H0 H c σ ρ) (h : dcS (getS ρ i) = some (ks, ds)) : ∃ q kvs, σ[i]? = some (some (.ref q)) ∧ H q = some (.dK kvs) ∧ (kvs.all fun p => kOk p.1) = true ∧ ks = kvs.map (fun p => kD p.1) ∧ Fzs K mg H0 ds (kvs.map (·.2)) ∧ c q = some i := by
  obtain ⟨v, fp, e1, ⟨q, vs, g, e, ef, ⟨kvs, k1, hk, hks, hvs⟩, r⟩, nd, hc⟩ := l.slot i _ _ (dcS_ok h)
  subst e hvs
  exact ⟨q, kvs, e1, k1, hk, hks, (Ows.all_z.mp r).2, hc q (by rw [ef]; exact List.mem_cons_self)⟩
theorem dc_write {kvs : List (Key × V)} (l : Lies K mg H01 H1 c1 σ ρ1) (s : Step ms H0 H c H01 H1 c1) (hi : ms i = true) (hq : σ[i]? = some (some (.ref q))) (hH : ∃ o, H1 q = some o) (hc : c1 q = some i)
    (hk : (kvs.all fun p => kOk p.1) = true) (fz : Fzs K mg H01 ds' (kvs.map (·.2))) :
    Step ms H0 H c H01 (upd H1 q (.dK kvs)) (coSet c1 i [q]) ∧ Lies K mg H01 (upd H1 q (.dK kvs)) (coSet c1 i [q]) σ (ρ1.set i (some (m1, .dct (kvs.map fun p => kD p.1) ds'))) := by
  have ch : ∀ b, (upd H1 q (.dK kvs)) b ≠ H1 b → b = q := fun b n => Classical.byContradiction fun z => n (upd_ne z)
  have in1 : ∀ b ∈ [q], b = q := fun b hb => by simpa using hb
  refine ⟨s.modify hi (fun b n => by rw [ch b n]; exact .inl hc) fun b hb => by rw [in1 b hb]; exact .inl hc, l.modify hq (fun b n => by rw [ch b n]; exact .inl hc) (fun b o e => ?_) ⟨q, _, [], rfl, rfl, ⟨kvs, upd_same, hk, rfl, rfl⟩, Ows.all_z.mpr ⟨rfl, fz⟩⟩ (by simp) (fun b hb => by rw [in1 b hb]; exact .inr hc) (fun b hb => by rw [in1 b hb]; exact l.apart q i hc) fun b hb => by rw [in1 b hb]; exact ⟨_, upd_same⟩⟩
  by_cases z : b = q
  · rw [z]; exact ⟨_, upd_same⟩
  · rw [upd_ne z]; exact ⟨o, e⟩
end
def rSetD : V → V → V → Hp → (Hp → Prop) → Prop := fun o i v H Q => ∃ a H', o = .ref a ∧ DPut H a i v H' ∧ Q H'
theorem set_dict {X : Cx} (hu : X.A.units + 1 < cLine) : PSet X rSetD := by
  intro pins s σ H o i v ov iv u Q I ro ri rv h
  obtain ⟨a, H', e, g, q⟩ := h
  subst e
  cases ro
  exact d_setItem hu I g ri rv fun s' I' => ⟨H', I', q⟩
section
variable {G : GC} {N : List Str} {S : SC} {bs bs1 bs2 ms ms1 ms2 ms3 as as1 as2 : Ms} {m rm : Md} {e a b : Expr} {es : List Expr} {f fa fb : M D} {pos p : Pos} {i : Nat} {x : Str}
/-- x[e] = v, x a dictionary -/
def gDPut (i : Nat) (fv fi : M D) : M Fl := fun r => (fv r).bind fun d r => (rM (dcS (getS r i)) r).bind fun _ r => (fi r).bind fun j r => (rM (dcS (getS r i)) r).bind fun p r => (rM (dPutO j d p) r).bind fun p' r => .ok .nx (r.set i (some (m1, .dct p'.1 p'.2)))
theorem VS.dput {tpos spos : Pos} (he : VO G N S .z ms1 a fa) (hi : VO G N S .z ms2 b fb) (hcm : S.cm = true := by rfl)
    (hN : N[i]? = some x := by rfl) (hv : Vis S.sc x := by first | exact Or.inl rfl | exact Or.inr (Or.inl rfl) | exact Or.inr (Or.inr rfl)) (hd : (x == ("__debug__" : Str)) = false := by decide) (hcd : (x == ("__classdict__" : Str)) = false := by decide)
    (hs : ∀ env, swapsWithSole [.Subscript (.Name x p) b tpos] a spos.line env = pure false := by intro _; rfl) (hw : ∀ env, swappedStores [.Subscript (.Name x p) b tpos] a env = pure none := by intro _; rfl)
    (h1 : ∀ env, (assignEach [.Subscript (.Name x p) b tpos] env).map (·.2) = [assign (.Subscript (.Name x p) b tpos) env] := by intro _; rfl)
    (ha : ∀ env v, assign (.Subscript (.Name x p) b tpos) env v = (do
      let ov ← holding [v] (eval (.Name x p) env)
      let iv ← holding [v, ov] (eval b env)
      standAt tpos
      holding [v, ov, iv] (setItem ov iv v)
      release [v, ov, iv] []) := by intro _ _; rfl) :
    VS G N S rm ms0 (.Assign [.Subscript (.Name x p) b tpos] a spos) (gDPut i fa fb) := by
  refine fun R at_ W t => (ps_asg (he R at_ W t) (pg_sub (pe_var (i := i) hN (at_.vis hv) hd hcd) (hi R at_ W t) (set_dict (by have := at_.u100 hcm; omega)) (ha _)) (hs _) (hw _) (h1 _)).imp fun D σ H ⟨ρ, H0, c, l, o⟩ => ?_
  refine ⟨ρ, H0, c, l, (OutS.expr (F := FO G.K G.mg .z ms1) o).imp fun v H1 ⟨d, H01, c1, ρ1, e1, s1, l1, ⟨fp, ow, fr⟩, o1⟩ => ?_⟩
  have fz := (Ow.zero.mp ow).2
  cases hp0 : dcS (getS ρ1 i) with
  | none => rw [hp0] at o1; exact o1.elim
  | some p0 =>
    obtain ⟨ks0, ds0⟩ := p0
    rw [hp0, rM_some, bind_ok] at o1
    obtain ⟨q, kvs0, hq, hH0, _⟩ := dc_at l1 hp0
    refine ⟨.ref q, hq, ρ1, H01, c1, l1, (OutS.expr (F := FO G.K G.mg .z ms2) o1).imp fun v2 H2 ⟨d2, H02, c2, ρ2, e2, s2, l2, ⟨fp2, ow2, fr2⟩, o2⟩ => ?_⟩
    have fz2 := (Ow.zero.mp ow2).2
    cases hp : dcS (getS ρ2 i) with
    | none => rw [hp] at o2; exact o2.elim
    | some p1 =>
      obtain ⟨ks, ds⟩ := p1
      rw [hp, rM_some, bind_ok] at o2
      obtain ⟨q', kvs, hq', hH, hk, hks, fds, hc⟩ := dc_at l2 hp
      rw [hq] at hq'
      cases hq'
      subst hks
      cases hr : dPutO d2 d (kvs.map (fun p => kD p.1), ds) with
      | none => rw [hr] at o2; exact o2.elim
      | some p' =>
        rw [hr, rM_some, bind_ok] at o2
        obtain ⟨k, hk2, hr2⟩ := Option.bind_eq_some_iff.mp hr
        split at hr2
        · rename_i hlt
          cases hr2
          obtain ⟨hlt, hkk⟩ := hlt
          rw [List.length_map] at hlt
          have ek : v2 = kV k := by
            have : Fz G.K G.mg H02 d2 v2 := fz2
            cases d2 <;> simp [keyD] at hk2
            · subst hk2; exact this
            · subst hk2; exact this.1
          have hk' : ((putK kvs k v).all fun p => kOk p.1) = true := by
            unfold putK
            split
            · rw [List.all_map]
              rw [List.all_eq_true] at hk ⊢
              intro y hy
              have := hk y hy
              simp only [Function.comp]
              split <;> exact this
            · rw [List.all_append, hk]
              simp [hkk]
          obtain ⟨st, li⟩ := dc_write (kvs := putK kvs k v) (ds' := putVs k d (kvs.map fun p => kD p.1) ds) l2 (.refl (ms := msA)) rfl hq ⟨_, hH⟩ hc hk' (putVs_fz (Fz.mono s2.grow d v fz) kvs ds fds)
          rw [putKs_kvs] at li
          exact ⟨q, _, rfl, .inl ⟨kvs, k, hH, ek, by rw [sizeLine_eq]; exact hlt, rfl⟩, o2 σ H02 _ _ st li .refl⟩
        · cases hr2
end
end Vm
set_option Elab.async false
set_option linter.all false
set_option maxRecDepth 100000
set_option maxHeartbeats 4000000
namespace Vm
open PySem PySem.Spec PyProof.Rows L2

/-! ### instances: an attribute is read -/
/-- a class of the module, plain; none of its classes has the name f -/
structure ClsX (G : GC) (c : Str) : Prop where
  ex : ∃ C, G.mg c = some (.ref C) ∧ Cls G.K C
structure AtrX (G : GC) (c f : Str) : Prop where
  ex : ∃ C, G.mg c = some (.ref C) ∧ Cls G.K C ∧ NoAttr G.K C f
section
variable {fa : List He.Fa} {fn : List He.DefD} {cs : List (Str × D)} {G : GC}
theorem Ye.atr (Y : Ye fa fn cs G) (i j k : Nat) {c f : Str} (h1 : fa[i]? = some (.glo c) := by rfl) (h2 : fa[j]? = some (.cls c) := by rfl) (h3 : fa[k]? = some (.noat c f) := by rfl) : AtrX G c f := by
  obtain ⟨h, X, N⟩ := Y.h
  exact ⟨_, He.glo_ok X N (Y.fact i h1), He.cls_ok (Y.fact j h2), He.noat_ok (Y.fact k h3)⟩
end
def lkD (f : Str) : List Str → List D → Option D
  | x :: ns, v :: vs => if x = f then some v else lkD f ns vs
  | _, _ => none
def atrD (c f : Str) : D → Option D
  | .ins c' ns vs => if c' = c then lkD f ns vs else none
  | _ => none
theorem lkD_ok {K : PySem.W.Frag} {mg : Str → Option Value} {H : Hp} {f : Str} : ∀ {ns : List Str} {ds : List D} {vs : List V} {d : D}, Fzs K mg H ds vs → lkD f ns ds = some d → ∃ v, (ns.zip vs).lookup f = some v ∧ Fz K mg H d v
  | [], ds, vs, d, h, e => by cases ds <;> cases e
  | x :: ns, [], vs, d, h, e => by cases e
  | x :: ns, y :: ds, vs, d, ⟨w, r, e1, hw, hr⟩, e => by
    subst e1
    by_cases z : x = f
    · rw [lkD, if_pos z] at e
      cases e
      subst z
      exact ⟨w, by simp [List.lookup], hw⟩
    · rw [lkD, if_neg z] at e
      obtain ⟨v, h1, h2⟩ := lkD_ok (ns := ns) hr e
      refine ⟨v, ?_, h2⟩
      have : (f == x) = false := by simpa using fun q => z q.symm
      simp [List.lookup, this, h1]
def fFld (c f : Str) (fe : M D) : M D := fun r => (fe r).bind fun d => rM (atrD c f d)
section
variable {G : GC} {N : List Str} {S : SC} {bs ms : Ms} {e : Expr} {fe : M D} {pos : Pos} {c f : Str}
theorem VO.fld (A : AtrX G c f) (h : VB G N S bs ms e fe) (hb : ∀ env, attributeBase e f env (eval e env) = eval e env := by intro _; rfl) : VO G N S .z ms (.Attribute e f pos) (fFld c f fe) := by
  refine fun R a W t => (pe_fld (h R a W t) (hb _)).imp fun σ H Q ⟨ρ, H0, cc, l, o⟩ => ?_
  refine ⟨ρ, H0, cc, l, (Out.bind (G := FB G.K G.mg bs) (ms1 := ms) back_FO o fun i e => e).imp fun x H1 ⟨d, H01, c1, ρ1, e1, s1, l1, b1, h1⟩ => ?_⟩
  cases hd : atrD c f d with
  | none => rw [hd] at h1; exact h1.elim
  | some y =>
    rw [hd] at h1
    have sh := b1.sh l1.sub
    cases d <;> try (cases hd; done)
    rename_i c' ns ds
    have hd' : (if c' = c then lkD f ns ds else none) = some y := hd
    by_cases ec : c' = c
    · rw [if_pos ec] at hd'
      obtain ⟨q, C, dx, vs, e2, hm, hH, hl, fz⟩ := sh
      obtain ⟨C', hm', cl, na⟩ := A.ex
      rw [ec, hm'] at hm
      cases hm
      obtain ⟨v, hv, fv⟩ := lkD_ok fz hd'
      exact ⟨q, _, dx, _, v, e2, hH, cl, na, hv, h1.here l1 fv⟩
    · rw [if_neg ec] at hd'
      cases hd'
@[simp] theorem fFld_ap (s0 : Sl) (r : En) : fFld c f fe (s0 :: r) = (fe (s0 :: r)).bind fun d => rM (atrD c f d) := rfl
end
end Vm
set_option Elab.async false
set_option linter.all false
set_option maxRecDepth 100000
set_option maxHeartbeats 4000000
namespace Vm
open PySem PySem.Spec PyProof.Rows L2

/-! ### methods of instances -/
structure MetX (G : GC) (c m : Str) (k : Nat) (ps : List Str) (rm : Md) (F : M D) : Prop where
  ex : ∃ C f fd, G.mg c = some (.ref C) ∧ Cls G.K C ∧ Meth G.K C m f ∧ Binds G.K fd ps [] ∧ FnV G k f fd ps rm F
def isIns (c m : Str) : D → Bool
  | .ins c' ns _ => decide (c' = c) && !ns.contains m
  | _ => false
def fMeth (c m : Str) (fo : M D) (fs : M (List D)) : M (List D) := fun r => (fo r).bind fun d r => if isIns c m d = true then (fs r).bind fun ds r => .ok (d :: ds) r else .bad
theorem zip_none {m : Str} : ∀ {ns : List Str} {vs : List V}, ns.contains m = false → (ns.zip vs).lookup m = none
  | [], _, _ => rfl
  | x :: ns, [], _ => rfl
  | x :: ns, v :: vs, h => by
    have h' : (m == x || ns.contains m) = false := by simpa [List.contains_cons] using h
    rw [Bool.or_eq_false_iff] at h'
    simp [List.lookup, h'.1, zip_none h'.2]
section
variable {G : GC} {N : List Str} {S : SC} {bs ms ms1 ms2 : Ms} {o e : Expr} {es : List Expr} {fo : M D} {fs : M (List D)} {pos apos : Pos} {c m : Str} {k : Nat} {ps : List Str} {rm : Md} {F : M D} {ls : List (Option Nat)}
theorem pe_metS {X : Cx} {CX : CXT} {k : Nat} {f C : Addr} {fd : FuncData} {ps : List Str} {sp : Sp} {E : L2.St → XK} {m : Str} {pos apos : Pos} {o e : Expr} {es : List Expr} {ta : TE} {t : TA} {pl : Sem Bool} (he : PE X o ta) (c : Cls X.K C) (hm : Meth X.K C m f) (F : FnOk X.prog X.w X.K X.mg X.base CX k f fd ps sp) (hr : Room k X.A) (hb : Binds X.K fd ps []) (hx : ∀ σ, PassesAt CX X σ (E σ)) (ha : PA X (e :: es) t)
    (hst : starEach (e :: es) X.env = (false, eval e X.env) :: starEach es X.env) (hpl : (backTo pos (starEach es X.env)).any (·.1) = false)
    (ht : eval (.Call (.Attribute o m apos) (e :: es) [] pos) X.env = (do
      let ov ← eval o X.env
      standAt apos.atName
      let (f, first) ← holding [ov] (getMethod ov m pl)
      callWith pos f first (backTo pos (starEach (e :: es) X.env)) (backToKw pos (keywordEach [] X.env)))) :
    PE X (.Call (.Attribute o m apos) (e :: es) [] pos) (fun σ H Q => ta σ H fun x H1 => ∃ a dx fs, x = .ref a ∧ H1 a = some (.ins C dx fs) ∧ fs.lookup m = none ∧ t σ H1 fun vs H2 => sp (x :: vs) H2 Q (E σ)) := by
  refine ⟨fun pins s σ H Q I h => ?_⟩
  refine PySem.W.methodCall_KW (pl := pl) (thn (he.run pins s σ H _ I h) fun u s1 ⟨x, H1, I1, rx, a, dx, fs, ex, ea, l, q⟩ => ?_) ht
  subst ex
  obtain rfl : u = Value.ref a := rx
  refine getmeth_ok I1 ea c hm l ?_
  refine PySem.W.callWith_K (first := [.ref a]) (h₀ := X.base) I.ok.mod.kin hm.kp (thn (ha.run pos pins s1 σ H1 _ I1 q) fun us s2 ⟨vs, H2, I2, r, q2⟩ => ⟨I2.kIn, ?_⟩) hst hpl
  exact run_fnS (us := .ref a :: us) (vs := .ref a :: vs) F hr hb (hx σ) I2 (.cons rfl r) q2
theorem pe_metS0 {X : Cx} {CX : CXT} {k : Nat} {f C : Addr} {fd : FuncData} {ps : List Str} {sp : Sp} {E : L2.St → XK} {m : Str} {pos apos : Pos} {o : Expr} {ta : TE} {pl : Sem Bool} (he : PE X o ta) (c : Cls X.K C) (hm : Meth X.K C m f) (F : FnOk X.prog X.w X.K X.mg X.base CX k f fd ps sp) (hr : Room k X.A) (hb : Binds X.K fd ps []) (hx : ∀ σ, PassesAt CX X σ (E σ))
    (ht : eval (.Call (.Attribute o m apos) [] [] pos) X.env = (do
      let ov ← eval o X.env
      standAt apos.atName
      let (f, first) ← holding [ov] (getMethod ov m pl)
      callWith pos f first (backTo pos (starEach [] X.env)) (backToKw pos (keywordEach [] X.env)))) :
    PE X (.Call (.Attribute o m apos) [] [] pos) (fun σ H Q => ta σ H fun x H1 => ∃ a dx fs, x = .ref a ∧ H1 a = some (.ins C dx fs) ∧ fs.lookup m = none ∧ sp [x] H1 Q (E σ)) := by
  refine ⟨fun pins s σ H Q I h => ?_⟩
  refine PySem.W.methodCall_KW (pl := pl) (thn (he.run pins s σ H _ I h) fun u s1 ⟨x, H1, I1, rx, a, dx, fs, ex, ea, l, q⟩ => ?_) ht
  subst ex
  obtain rfl : u = Value.ref a := rx
  refine getmeth_ok I1 ea c hm l ?_
  exact PySem.W.callWith_K0 (first := [.ref a]) I1.kIn hm.kp (run_fnS (us := [.ref a]) (vs := [.ref a]) F hr hb (hx σ) I1 (.cons rfl .nil) q)
theorem met_core {W : WX} {σ : L2.St} {H : Hp} {Q : VK}  (nd : (ls.filterMap id).Nodup) (hl : (none :: ls : List (Option Nat)).length = ps.length) {C : Addr} (hc : G.mg c = some (.ref C))
    (h : tR G.K G.mg W (FO G.K G.mg rm (msU (msU ms1 ms2) (lentM (none :: ls)))) (msU (msU ms1 ms2) (lentM (none :: ls))) (fCall F (none :: ls) (fMeth c m fo fs)) σ H Q) :
    tR G.K G.mg W (FO G.K G.mg .z ms1) ms1 fo σ H fun x H1 => ∃ a dx fs', x = .ref a ∧ H1 a = some (.ins C dx fs') ∧ fs'.lookup m = none ∧ tAM G.K G.mg W ls ms2 fs σ H1 fun vs H2 => spV G F ps.length rm (x :: vs) H2 Q (WE W σ) := by
  obtain ⟨ρ, H0, cc, l, o⟩ := call_core (ms := msU ms1 ms2) (show ((none :: ls).filterMap id).Nodup from nd) hl h
  refine ⟨ρ, H0, cc, l, (Out.bind (G := FO G.K G.mg .z ms1) (ms1 := ms1) back_FAM o fun i e => or_l e).imp fun x H1 ⟨d, H01, c1, ρ1, e1, s1, l1, ⟨fp, ow, _⟩, o1⟩ => ?_⟩
  have fz := (Ow.zero.mp ow).2
  by_cases hi : isIns c m d = true
  · rw [if_pos hi] at o1
    cases d <;> try (cases hi; done)
    rename_i c' ns ds
    obtain ⟨h1, h2⟩ := Bool.and_eq_true_iff.mp (show (decide (c' = c) && !ns.contains m) = true from hi)
    have ec : c' = c := of_decide_eq_true h1
    subst ec
    have hn : ns.contains m = false := by simpa using h2
    obtain ⟨a, C', dx, vs, e, hm, hH, hl', fz'⟩ := fz
    rw [hc] at hm
    cases hm
    refine ⟨a, dx, _, e, l1.sub _ _ hH, zip_none hn, ρ1, H01, c1, l1, ?_⟩
    cases hf : fs ρ1 with
    | ok ds' r =>
      rw [hf] at o1
      intro w H0' H' c2 s l' q
      exact o1 (x :: w) H0' H' c2 (s.mono fun i e => or_r e) l' ⟨_, ds', x, w, rfl, rfl, Fz.mono s.grow _ _ ⟨a, _, dx, vs, e, hc, hH, hl', fz'⟩, q⟩
    | exc n ns' vs' r =>
      rw [hf] at o1
      exact fun cls dx H0' H' c2 s l' e => o1 cls dx H0' H' c2 (s.mono fun i e => or_r e) l' e
    | bad => rw [hf] at o1; exact o1.elim
  · rw [if_neg hi] at o1
    exact o1.elim
theorem VO.meth (M : MetX G c m k ps rm F) (ho : VO G N S .z ms1 o fo) (ha : VM G N S ls ms2 (e :: es) fs) {pl : Sem Bool} (hk' : k ≤ S.k := by decide) (hcm : S.cm = true := by rfl) (nd : (ls.filterMap id).Nodup := by decide) (hl : (none :: ls : List (Option Nat)).length = ps.length := by rfl)
    (hst : ∀ env, starEach (e :: es) env = (false, eval e env) :: starEach es env := by intro _; rfl) (hpl : ∀ env, (backTo pos (starEach es env)).any (·.1) = false := by intro _; rfl)
    (ht : ∀ env, eval (.Call (.Attribute o m apos) (e :: es) [] pos) env = (do
      let ov ← eval o env
      standAt apos.atName
      let (f, first) ← holding [ov] (getMethod ov m pl)
      callWith pos f first (backTo pos (starEach (e :: es) env)) (backToKw pos (keywordEach [] env))) := by intro _; rfl) :
    VO G N S rm (msU (msU ms1 ms2) (lentM (none :: ls))) (.Call (.Attribute o m apos) (e :: es) [] pos) (fCall F (none :: ls) (fMeth c m fo fs)) := by
  obtain ⟨C, f, fd, hC, cl, hm, hb, hF⟩ := M.ex
  exact fun R a W t => (pe_metS (ho R a W t) cl hm hF ((a.room hcm).mono hk') hb (fun σ => passAt t σ) (ha R a W t) (hst _) (hpl _) (ht _)).imp fun σ H Q h => met_core nd hl hC h
theorem VO.meth0 (M : MetX G c m k ps rm F) (ho : VO G N S .z ms1 o fo) {pl : Sem Bool} (hk' : k ≤ S.k := by decide) (hcm : S.cm = true := by rfl) (hl : 1 = ps.length := by rfl)
    (ht : ∀ env, eval (.Call (.Attribute o m apos) [] [] pos) env = (do
      let ov ← eval o env
      standAt apos.atName
      let (f, first) ← holding [ov] (getMethod ov m pl)
      callWith pos f first (backTo pos (starEach [] env)) (backToKw pos (keywordEach [] env))) := by intro _; rfl) :
    VO G N S rm (msU (msU ms1 ms0) (lentM [none])) (.Call (.Attribute o m apos) [] [] pos) (fCall F [none] (fMeth c m fo fNil)) := by
  obtain ⟨C, f, fd, hC, cl, hm, hb, hF⟩ := M.ex
  refine fun R a W t => (pe_metS0 (ho R a W t) cl hm hF ((a.room hcm).mono hk') hb (fun σ => passAt t σ) (ht _)).imp fun σ H Q h => ?_
  have z := met_core (ls := []) (ms2 := ms0) (fs := fNil) (by decide) hl hC h
  obtain ⟨ρ, H0, cc, l, o1⟩ := z
  refine ⟨ρ, H0, cc, l, o1.imp fun x H1 ⟨a, dx, fs', e1, e2, e3, ρ', H0', c', l', o2⟩ => ⟨a, dx, fs', e1, e2, e3, ?_⟩⟩
  exact o2 [] H0' H1 c' .refl l' ⟨rfl, rfl⟩
end
end Vm
set_option Elab.async false
set_option linter.all false
set_option maxRecDepth 100000
set_option maxHeartbeats 4000000
/-! sets of texts: made of a list or a tuple, their number, their texts in order -/
namespace Vm
open PySem PySem.Spec PyProof.Rows L2
def tKey (e : Int × Value) : Str := match e.2 with
  | .str x _ => x
  | _ => Str.empty
def TGood (w : World) (e : Int × Value) : Prop := ∃ x tk, e.2 = Value.str x tk ∧ e.1 = hashStr w x
/-- the set of the texts xs at a -/
def TSet (w : World) (hp : Heap) (a : Addr) (xs : List Str) : Prop :=
  ∃ ob es ep tb, hp.get? a = some ob ∧ ob.ExactSet ∧ ob.data = .set es ep tb ∧ (∀ e ∈ es.toList, TGood w e) ∧ (es.toList.map tKey).Perm xs ∧ xs.Nodup ∧ tb.fits es.size = true ∧
    Ris tb.place.toList ∧ (w.params.followText "set-order" = true ∨ tb.led = true)
def addT (xs : List Str) (x : Str) : List Str := if x ∈ xs then xs else xs ++ [x]
section
variable {P : Program} {w : World} {hp hp' : Heap} {a : Addr} {xs : List Str}
theorem TSet.at (R : TSet w hp a xs) (k : ∀ o, hp.get? a = some o → hp'.get? a = some o) : TSet w hp' a xs := by
  obtain ⟨o, es, ep, t, ho, r⟩ := R
  exact ⟨o, es, ep, t, k o ho, r⟩
theorem tgood_elems {l : List (Int × Value)} (g : ∀ e ∈ l, TGood w e) : ElemsOf (PySem.strKind P w) l := fun e he => by
  obtain ⟨x, tk, h1, h2⟩ := g e he
  exact ⟨⟨x, by rw [h1]; exact strKind_is P w x tk, h2⟩, by rw [h1] <;> rfl⟩
theorem tgood_is {e : Int × Value} (g : TGood w e) (x : Str) : (PySem.strKind P w).is x e.2 = true ↔ tKey e = x := by
  obtain ⟨y, tk, h1, _⟩ := g
  unfold tKey
  rw [h1]
  show ((y == x) = true) ↔ y = x
  exact beq_iff_eq
theorem tgood_mem {l : List (Int × Value)} (g : ∀ e ∈ l, TGood w e) (x : Str) : x ∈ l.map tKey ↔ ∃ e ∈ l, (PySem.strKind P w).is x e.2 = true := by
  rw [List.mem_map]
  exact ⟨fun ⟨e, he, q⟩ => ⟨e, he, (tgood_is (g e he) x).2 q⟩, fun ⟨e, he, q⟩ => ⟨e, he, (tgood_is (g e he) x).1 q⟩⟩
end
section
variable {P : Program} {w : World} {A : Around} {E : Value → Shared → Prop} {s : Shared} {a : Addr} {xs : List Str}
theorem tset_tail {gv : Bool → Sem Unit} (hgv : ∀ (b : Bool) (s1 : Shared) (Z : Unit → Shared → Prop), Z () s1 → wpAny (model P w) A (gv b) Z E s1)
    {ob : Obj} {es : Array (Int × Value)} {ep : Nat} {tb : SetTable} (ho : s.heap.get? a = some ob) (hex : ob.ExactSet) (hd : ob.data = .set es ep tb)
    {en : Array (Int × Value)} {tn : SetTable} {ys : List Str} (gn : ∀ e ∈ en.toList, TGood w e) (pn : (en.toList.map tKey).Perm ys) (nd : ys.Nodup) (hb : en.size < scanBound)
    (hf : tn.fits en.size = true) (hr : Ris tn.place.toList) (hl : w.params.followText "set-order" = true ∨ tn.led = true) {wd : Bool} {R : Option Bool → Shared → Prop}
    (hR : ∀ h', Heap.SameBut a s.heap h' → TSet w h' a ys → R (some true) { s with heap := h' }) :
    wpAny (model P w) A (do storeSet a en tn; if (!wd && tn.tooFull) = true then (do gv (relayAll tn en (SetTable.grown en.size)).2.2; storeSet a (relayAll tn en (SetTable.grown en.size)).1 (relayAll tn en (SetTable.grown en.size)).2.1; pure (some true)) else pure (some true)) R E s := by
  refine wpAny_bind (wpAny_storeSet_of ho hd ?_ (fits_of_scanBound hb))
  have o1 := store_at (es' := en) (t' := tn) ho hd
  have b1 := Heap.SameBut.update s.heap a (Obj.putSet en tn)
  split
  · have q1 := relayAll_perm tn en (SetTable.grown en.size)
    have q2 := relayAll_fits tn en (SetTable.grown en.size)
    have q3 := relayAll_ris tn en (SetTable.grown en.size)
    have q4 := relayAll_led tn en (SetTable.grown en.size)
    generalize relayAll tn en (SetTable.grown en.size) = Y at q1 q2 q3 q4 ⊢
    obtain ⟨e2, t3, gave⟩ := Y
    dsimp only at q1 q2 q3 q4 ⊢
    have hz : e2.size = en.size := by rw [← Array.length_toList, q1.length_eq, Array.length_toList]
    refine wpAny_bind (hgv _ _ _ ?_)
    refine wpAny_bind (wpAny_storeSet_of o1 rfl ?_ (fits_of_scanBound (by rw [hz]; exact hb)))
    have o2 := store_at (es' := e2) (t' := t3) o1 rfl
    exact wpAny_pure (hR _ (b1.trans (Heap.SameBut.update _ a _)) ⟨_, e2, _, t3, o2, hex, rfl, fun e he => gn e (q1.mem_iff.mp he), (q1.map tKey).trans pn, nd, q2, q3, hl.imp id fun z => by rw [q4]; exact z⟩)
  · exact wpAny_pure (hR _ b1 ⟨_, en, _, tn, o1, hex, rfl, gn, pn, nd, hf, hr, hl⟩)
theorem tset_add {x : Str} {tk : Tok} {Q : Bool → Shared → Prop} (R : TSet w s.heap a xs) (room : xs.length + 1 < scanBound)
    (hQ : ∀ h', Heap.SameBut a s.heap h' → TSet w h' a (addT xs x) → Q (!decide (x ∈ xs)) { s with heap := h' }) :
    wpAny (model P w) A (setAddHashed a (.str x tk) ((PySem.strKind P w).hash x)) Q E s := by
  have R0 := R
  obtain ⟨ob, es, ep, tb, ho, hex, hd, g, pm, nd, hf, hr, hl⟩ := R
  have hn : es.size = xs.length := by rw [← pm.length_eq, List.length_map, Array.length_toList]
  have hb : es.size < scanBound := by omega
  have hkey : (PySem.strKind P w).is x (.str x tk) = true := strKind_is P w x tk
  have hsc : (Value.str x tk).scannable = true := rfl
  have hel : ElemsOf (PySem.strKind P w) es.toList := tgood_elems g
  unfold setAddHashed setAddHashedIn
  refine wpAny_holding (wpAny_bind (wpAny_setState_of ho hd hf ?_))
  dsimp only
  rw [byScan_of hsc hb hel]
  simp only [↓reduceIte]
  unfold setAddByScan
  refine wpAny_bind ?_
  refine wpAny_bind (wpAny_rule ?_)
  refine wpAny_bind (wpAny_setScan_of hkey ho hd hf hel ?_)
  cases hfi : List.findIdx? (fun e => (PySem.strKind P w).is x e.2) es.toList with
  | some j =>
    dsimp only
    obtain ⟨hj, pj, _⟩ := List.findIdx?_eq_some_iff_getElem.mp hfi
    have hm : x ∈ xs := pm.mem_iff.mp ((tgood_mem (P := P) g x).2 ⟨es.toList[j], List.getElem_mem hj, pj⟩)
    refine wpAny_pure (wpAny_pure ?_)
    have q := hQ s.heap (Heap.SameBut.refl a s.heap) (by unfold addT; rw [if_pos hm]; exact R0)
    rw [decide_eq_true hm] at q
    exact q
  | none =>
    dsimp only
    have hnm : x ∉ es.toList.map tKey := fun z => by
      obtain ⟨e, he, q⟩ := (tgood_mem (P := P) g x).1 z
      rw [List.findIdx?_eq_none_iff.mp hfi e he] at q
      cases q
    have hnx : x ∉ xs := fun z => hnm (pm.mem_iff.mpr z)
    have hgv : ∀ (b : Bool) {s1 : Shared} {Z : Unit → Shared → Prop}, Z () s1 → wpAny (model P w) A (match b with | true => rule "set.scan.the-table-gave-way" | false => pure ()) Z E s1 :=
      fun b s1 Z q => by cases b <;> first | exact wpAny_pure q | exact wpAny_rule q
    have q1 := layNew_perm tb es ((PySem.strKind P w).hash x) (.str x tk)
    have q2 := layNew_fits tb es ((PySem.strKind P w).hash x) (.str x tk)
    have q3 := layNew_ris tb es ((PySem.strKind P w).hash x) (.str x tk) hr
    have q4 := layNew_led tb es ((PySem.strKind P w).hash x) (.str x tk)
    generalize layNew tb es ((PySem.strKind P w).hash x) (.str x tk) = Y at q1 q2 q3 q4 ⊢
    obtain ⟨en, tn, wd, gave⟩ := Y
    dsimp only at q1 q2 q3 q4 ⊢
    rw [Array.toList_push] at q1
    have pc : en.toList.Perm (((PySem.strKind P w).hash x, Value.str x tk) :: es.toList) := q1.trans (List.perm_append_singleton _ _)
    have pk : (en.toList.map tKey).Perm (xs ++ [x]) := (pc.map tKey).trans (((List.Perm.cons x pm)).trans (List.perm_append_singleton _ _).symm)
    have gn : ∀ e ∈ en.toList, TGood w e := fun e he => by
      rcases List.mem_cons.mp (pc.mem_iff.mp he) with z | z
      · rw [z]; exact ⟨x, tk, rfl, rfl⟩
      · exact g e z
    have nd1 : (xs ++ [x]).Nodup := (List.perm_append_singleton _ _).symm.nodup_iff.mp (List.nodup_cons.mpr ⟨hnx, nd⟩)
    have hz : en.size = xs.length + 1 := by rw [← Array.length_toList, pc.length_eq, List.length_cons, Array.length_toList, hn]
    have hb1 : en.size < scanBound := by rw [hz]; exact room
    have hl1 : w.params.followText "set-order" = true ∨ tn.led = true := hl.imp id fun z => by rw [q4]; exact z
    have fin : ∀ h', Heap.SameBut a s.heap h' → TSet w h' a (xs ++ [x]) → Q true { s with heap := h' } := fun h' sb r => by
      have q := hQ h' sb (by unfold addT; rw [if_neg hnx]; exact r)
      rw [decide_eq_false hnx] at q
      exact q
    refine wpAny_bind (hgv _ ?_)
    split
    · refine wpAny_bind ?_
      rw [hashByValue_scannable 8 hsc]
      refine wpAny_pure ?_
      refine tset_tail ?_ ho hex hd gn pk nd1 hb1 ?_ ?_ ?_ ?_
      · intro b s1 Z q; cases b <;> first | exact wpAny_pure q | exact wpAny_rule q
      · first | (split <;> first | exact q2 | exact SetTable.fits_plain_off q2) | exact q2
      · first | (split <;> exact q3) | exact q3
      · first | (split <;> exact hl1) | exact hl1
      · intro h' sb r; dsimp only; exact wpAny_pure (fin h' sb r)
    · refine wpAny_bind (wpAny_pure ?_)
      simp only [↓reduceIte]
      refine tset_tail ?_ ho hex hd gn pk nd1 hb1 q2 q3 hl1 ?_
      · intro b s1 Z q; cases b <;> first | exact wpAny_pure q | exact wpAny_rule q
      · intro h' sb r; dsimp only; exact wpAny_pure (fin h' sb r)
theorem addT_len {xs : List Str} {x : Str} : (addT xs x).length ≤ xs.length + 1 := by unfold addT; split <;> simp
end
/-- the texts in the order of their first coming -/
def dedT (xs : List Str) : List Str := xs.foldl addT []
theorem foldl_addT_len (xs ys : List Str) : (xs.foldl addT ys).length ≤ ys.length + xs.length := by
  induction xs generalizing ys with
  | nil => simp
  | cons x xs ih =>
    have := ih (addT ys x)
    have := addT_len (xs := ys) (x := x)
    simp only [List.foldl_cons, List.length_cons]
    omega
section
variable {P : Program} {w : World} {A : Around} {R : Result → Shared → Prop} {I : Addr} {fp wr : List Addr} {G : Array GenState → Array GenState → Prop} {n : Nat} {Pv : Nat → Value → Prop} {St : Nat → Shared → Prop}
theorem tset_loop (W : WalksS P w A.in1 I fp wr G n Pv St) (S : Addr) (hS : S ∉ fp) (xs : List Str) (hz : xs.length = n) (hb : n + 1 < scanBound) (hv : ∀ i v, Pv i v → ∃ t, v = .str (xs.getD i Str.empty) t) :
    ∀ (k i : Nat) (s : Shared), n - i = k → i ≤ n → St i s → TSet w s.heap S (dedT (xs.take i)) → (∀ s', Moved (S :: wr) G s s' → TSet w s'.heap S (dedT xs) → R (.ok (.ret .none)) s') →
      codeAny (model P w) A (.builtin "set.update.loop" ⟨[.ref S, .ref I], []⟩) R s := by
  have hSw : S ∉ wr := fun h => hS (W.sub _ h)
  have hsub : ∀ b ∈ wr, b ∈ S :: wr := fun b hb => List.mem_cons_of_mem _ hb
  intro k
  induction k with
  | zero =>
    intro i s hk hi hst hT hR
    have hin : i = n := by omega
    subst hin
    rw [List.take_of_length_le (by omega)] at hT
    refine codeAny_builtin F.entry_set_update_loop ?_
    rw [Around.under_plainId F.plain_set_update_loop _]
    show wpAny _ A.in1 (pyNext (.ref I) >>= _) _ _ s
    refine wpAny_bind (W.done s _ _ hst fun s' hm => ?_)
    show wpAny _ A.in1 (ret Value.none) _ _ s'
    exact wpAny_pure (hR s' (hm.mono hsub) (hT.at fun o e => hm.heap S _ hSw e))
  | succ k ih =>
    intro i s hk hi hst hT hR
    have hlt : i < n := by omega
    refine codeAny_builtin F.entry_set_update_loop ?_
    rw [Around.under_plainId F.plain_set_update_loop _]
    show wpAny _ A.in1 (pyNext (.ref I) >>= _) _ _ s
    refine wpAny_bind (W.item i s _ _ hlt hst fun v s1 hP hst1 hm => ?_)
    obtain ⟨t, rfl⟩ := hv i v hP
    have hT1 : TSet w s1.heap S (dedT (xs.take i)) := hT.at fun o e => hm.heap S _ hSw e
    show wpAny _ A.in1 (holding [Value.str (xs.getD i Str.empty) t] (setAdd S (.str (xs.getD i Str.empty) t)) >>= _) _ _ s1
    refine wpAny_bind (wpAny_holding ?_)
    unfold setAdd
    refine wpAny_holding ?_
    refine wpAny_bind ((PySem.strKind P w).pyHash (k := xs.getD i Str.empty) (strKind_is _ _ _ _) ?_)
    have hl : (dedT (xs.take i)).length ≤ n := by
      have := foldl_addT_len (xs.take i) []
      rw [List.length_take, List.length_nil] at this
      unfold dedT
      omega
    refine tset_add (s := { s1 with toks := s1.toks + 1 }) hT1 (by omega) fun h' hsb hT2 => ?_
    have hT3 : TSet w h' S (dedT (xs.take (i + 1))) := by
      have e : xs.take (i + 1) = xs.take i ++ [xs.getD i Str.empty] := by
        have hi' : i < xs.length := by omega
        rw [List.take_succ, List.getD_eq_getElem?_getD, List.getElem?_eq_getElem hi'] <;> rfl
      unfold dedT
      rw [e, List.foldl_append]
      exact hT2
    refine wpAny_pure ⟨plainId_quiet F.plain_set_update_loop _, ih (i + 1) _ (by omega) hlt (W.frame _ s1 _ _ hst1 (Nat.le_succ _) fun b hb o e => ?_) hT3 fun s2 hm2 hT4 => ?_⟩
    · rw [hsb.2 b (fun h : b = S => hS (by rw [← h]; exact hb))]; exact e
    · refine hR s2 (Moved.trans W.gtrans ((hm.mono hsub).then_heap (Nat.le_succ _) fun b o hb e => ?_) hm2) hT4
      rw [hsb.2 b (fun h : b = S => hb (by rw [h]; exact List.mem_cons_self))]; exact e
end
section
variable {P : Program} {w : World} {A : Around} {E : Value → Shared → Prop} {s : Shared}
/-- an empty set -/
abbrev emptyS (w : World) : Obj := { cls := .type "set", dict := none, data := .set #[] 0 (.fresh 0 0 (!w.params.followText "set-order")) }
theorem tset_new1 (v : Value) {Z : Value → Shared → Prop} (h : Z (.ref s.heap.objs.size) { s with heap := s.heap.push (emptyS w) }) :
    codeAny (model P w) A (.call (.builtin "set.__new__") ⟨[.type "set", v], []⟩) (wants Z E) s := by
  refine codeAny_of_tree ?_
  show wpAny _ A.in1 (do checkBuiltinCall "set.__new__" ⟨[.type "set", v], []⟩; again (.builtin "set.__new__" ⟨[.type "set", v], []⟩)) _ _ s
  refine wpAny_bind (wpAny_of_eq (PySem.F.newCall_set_1 v) (wpAny_pure ⟨plainId_quiet F.plain_set_new _, codeAny_builtin F.entry_set_new ?_⟩))
  rw [Around.under_plainId F.plain_set_new _]
  unfold Builtin.«set.__new__» Builtin.Frozenset.newClass
  have hsub := sub_set_self
  obtain ⟨hp, g, d, tk, os⟩ := s
  dsimp only
  wp_walk
  refine wpAny_askSetting (wpAny_pure ?_)
  dsimp only
  simp only [newObj]
  refine wpAny_bind (wpAny_alloc (wpAny_pure ?_))
  exact wpAny_pure h
theorem tset_empty (w : World) (hp : Heap) : TSet w (hp.push (emptyS w)) hp.objs.size [] :=
  ⟨_, #[], 0, _, Heap.get?_push_size _ rfl, ⟨rfl, rfl, rfl⟩, rfl, (fun e he => by simp at he), List.Perm.refl _, List.nodup_nil, rfl, List.Pairwise.nil, by
    show _ ∨ (!w.params.followText "set-order") = true
    cases w.params.followText "set-order"
    · exact .inr rfl
    · exact .inl rfl⟩
set_option maxHeartbeats 6400000 in
/-- set(x), x a list or a tuple of texts -/
theorem tset_made {l : Addr} {items : Array Value} {xs : List Str} {Q : Value → Shared → Prop} (hh : A.handled = none) (hl : s.heap.IsList l items ∨ s.heap.IsTuple l items) (hi : StrsAre items.toList xs) (hb : xs.length + 1 < scanBound)
    (hQ : ∀ (h' : Heap) (tk : Nat), TSet w h' s.heap.objs.size (dedT xs) → s.heap.objs.size < h'.objs.size → (∀ b o, b < s.heap.objs.size → s.heap.get? b = some o → h'.get? b = some o) → Q (.ref s.heap.objs.size) { s with heap := h', toks := tk }) :
    wpAny (model P w) A (call (.type "set") [.ref l]) Q E s := by
  obtain ⟨c, tl, hmro⟩ := PySem.F.called_set.mro
  have hmade := PySem.F.called_set.made
  have hsub := PySem.F.called_set.sub
  refine wpAny_call (codeAny_of_tree ?_)
  show wpAny _ _ (callAny (.type "set") _) _ _ _
  refine wpAny_pure ⟨Code.quiet_builtin _ (by decide +kernel), codeAny_builtin PySem.F.entry_type_call ?_⟩
  rw [Around.under_plain (weight_type_call_type "set" [.ref l] []) rfl]
  have h1 := PySem.F.called_set.notType
  have h2 := PySem.F.called_set.canCreate
  have hct := PySem.F.typeCall_set_1 (.ref l)
  repeat (any_goals (first | assumption | wp_step))
  refine codeAny_mono (tset_new1 (.ref l) (E := E) (Z := fun ob s1 => ob = .ref s.heap.objs.size ∧ s1 = { s with heap := s.heap.push (emptyS w) }) ⟨rfl, rfl⟩) fun r s1 hr => ?_
  cases r with
  | error e => exact hr
  | ok fl =>
    cases fl with
    | ret obj =>
      obtain ⟨rfl, rfl⟩ := hr
      have gS : (s.heap.push (emptyS w)).get? s.heap.objs.size = some (emptyS w) := Heap.get?_push_size _ rfl
      have hT : Shared.TypeIs { s with heap := s.heap.push (emptyS w) } (.ref s.heap.objs.size) "set" := ⟨_, gS, rfl⟩
      have hli := PySem.F.called_set.init.lookup
      have hbi := PySem.F.called_set.init.bind (.ref s.heap.objs.size)
      repeat (any_goals (first | assumption | wp_step))
      refine codeAny_mono (codeAny_call_builtin (R := wants (fun r s2 => r = .none ∧ ∃ h' tk, s2 = { s with heap := h', toks := tk } ∧ TSet w h' s.heap.objs.size (dedT xs) ∧ (s.heap.objs.size < h'.objs.size ∧ ∀ b o, b < s.heap.objs.size → s.heap.get? b = some o → h'.get? b = some o)) E) PySem.F.called_set.init.plain PySem.F.entry_set_init (check_set_init_1 hT ?_)) fun r2 s2 hr2 => ?_
      · have hz : xs.length = items.size := by rw [← StrsAre.len_eq hi, Array.length_toList]
        have hv : ∀ (i : Nat) (v : Value), items[i]? = some v → ∃ t, v = .str (xs.getD i Str.empty) t := fun i v hv => SS.strs_at hi i v (by rw [Array.getElem?_toList]; exact hv)
        have hh3 : A.in1.in1.in1.handled = none := by simp [hh]
        have last : ∀ (I : Addr) (s1 s' : Shared), Moved (s.heap.objs.size :: [I]) (fun a b => b = a) s1 s' → I = s.heap.objs.size + 1 → s1.gens = s.gens → s1.drawn = s.drawn → s1.os = s.os → (∀ b o, b < s.heap.objs.size → s.heap.get? b = some o → s1.heap.get? b = some o) →
            TSet w s'.heap s.heap.objs.size (dedT xs) → (Value.none = Value.none ∧ ∃ h' tk, s' = { s with heap := h', toks := tk } ∧ TSet w h' s.heap.objs.size (dedT xs) ∧ (s.heap.objs.size < h'.objs.size ∧ ∀ b o, b < s.heap.objs.size → s.heap.get? b = some o → h'.get? b = some o)) := by
          intro I s1 s' hm hI g1 g2 g3 g4 hT'
          obtain ⟨h', g', d', tk', os'⟩ := s'
          have eg : g' = s.gens := Eq.trans hm.gens g1
          have ed : d' = s.drawn := Eq.trans hm.drawn g2
          have eo : os' = s.os := Eq.trans hm.os g3
          subst eg; subst ed; subst eo
          have hlt : s.heap.objs.size < h'.objs.size := by
            obtain ⟨o, _, _, _, ho, _⟩ := hT'
            exact Heap.lt_size ho
          refine ⟨rfl, h', tk', rfl, hT', hlt, fun b o hb e => ?_⟩
          refine hm.heap b o (fun z => ?_) (g4 b o hb e)
          rcases List.mem_cons.mp z with z | z
          · exact Nat.ne_of_lt hb z
          · have z := List.mem_singleton.mp z
            rw [z, hI] at hb
            exact absurd hb (Nat.not_lt_of_le (Nat.le_succ _))
        have sz1 : (s.heap.push (emptyS w)).objs.size = s.heap.objs.size + 1 := size_push' _ _
        rcases hl with hl | hl
        · obtain ⟨ol, hol, hcl, nl, hdl⟩ := hl
          obtain ⟨ocls, odict, odata, oslots⟩ := ol
          simp only at hcl hdl
          subst hcl; subst hdl
          have hol' : (s.heap.push (emptyS w)).get? l = some { cls := .type "list", dict := odict, data := .seq items nl, slots := oslots } := Heap.get?_push_of_some _ hol
          have f1 := PySem.F.sub_list_set
          have f2 := PySem.F.sub_list_frozenset
          have f3 : (Value.type "list" == Value.type "dict") = false := by decide
          have hl1 : (s.heap.push (emptyS w)).IsList l items := ⟨_, hol', rfl, nl, rfl⟩
          unfold Builtin.«set.__init__» noKeywords Builtin.Frozenset.updateFrom
          generalize hPI : pyIter = PI
          wp_walk
          subst hPI
          refine wpAny_pyIter_list hl1 ?_
          refine wpAny_bind (wpAny_runValue ?_)
          have hlS : l < s.heap.objs.size := Heap.lt_size hol
          have hneI : l ≠ (s.heap.push (emptyS w)).objs.size := by rw [sz1]; exact Nat.ne_of_lt (Nat.lt_succ_of_lt hlS)
          have hSf : s.heap.objs.size ∉ [(s.heap.push (emptyS w)).objs.size, l] := by
            rw [sz1]
            intro z
            rcases List.mem_cons.mp z with z | z
            · exact Nat.ne_of_lt (Nat.lt_succ_self _) z
            · exact Nat.ne_of_gt hlS (List.mem_singleton.mp z)
          refine tset_loop ((Walks.list hh3 _ l hneI items).toS) s.heap.objs.size hSf xs hz (by omega) hv (items.size - 0) 0 _ (by omega) (Nat.zero_le _) ⟨⟨_, Heap.get?_push_size _ rfl, rfl, rfl⟩, (hl1.push _)⟩ ?_ fun s' hm hT' => ?_
          · exact (tset_empty w s.heap).at fun o e => Heap.get?_push_of_some _ e
          · show wpAny _ _ _ _ _ _
            refine wpAny_pure ?_
            show wpAny _ _ (ret Value.none) _ _ _
            exact wpAny_pure (last _ _ s' hm sz1 rfl rfl rfl (fun b o hb e => Heap.get?_push_of_some _ (Heap.get?_push_of_some _ e)) hT')
        · obtain ⟨ol, hol, hcl, nl, hdl⟩ := hl
          obtain ⟨ocls, odict, odata, oslots⟩ := ol
          simp only at hcl hdl
          subst hcl; subst hdl
          have hol' : (s.heap.push (emptyS w)).get? l = some { cls := .type "tuple", dict := odict, data := .seq items nl, slots := oslots } := Heap.get?_push_of_some _ hol
          have f1 := PySem.F.sub_tuple_set
          have f2 := PySem.F.sub_tuple_frozenset
          have f3 : (Value.type "tuple" == Value.type "dict") = false := by decide
          have hl1 : (s.heap.push (emptyS w)).IsTuple l items := ⟨_, hol', rfl, nl, rfl⟩
          unfold Builtin.«set.__init__» noKeywords Builtin.Frozenset.updateFrom
          generalize hPI : pyIter = PI
          wp_walk
          subst hPI
          refine wpAny_pyIter_tuple hl1 ?_
          refine wpAny_bind (wpAny_runValue ?_)
          have hlS : l < s.heap.objs.size := Heap.lt_size hol
          have hneI : l ≠ (s.heap.push (emptyS w)).objs.size := by rw [sz1]; exact Nat.ne_of_lt (Nat.lt_succ_of_lt hlS)
          have hSf : s.heap.objs.size ∉ [(s.heap.push (emptyS w)).objs.size, l] := by
            rw [sz1]
            intro z
            rcases List.mem_cons.mp z with z | z
            · exact Nat.ne_of_lt (Nat.lt_succ_self _) z
            · exact Nat.ne_of_gt hlS (List.mem_singleton.mp z)
          refine tset_loop ((Walks.tuple hh3 _ l hneI items).toS) s.heap.objs.size hSf xs hz (by omega) hv (items.size - 0) 0 _ (by omega) (Nat.zero_le _) ⟨⟨_, Heap.get?_push_size _ rfl, rfl, rfl⟩, (hl1.push _)⟩ ?_ fun s' hm hT' => ?_
          · exact (tset_empty w s.heap).at fun o e => Heap.get?_push_of_some _ e
          · show wpAny _ _ _ _ _ _
            refine wpAny_pure ?_
            show wpAny _ _ (ret Value.none) _ _ _
            exact wpAny_pure (last _ _ s' hm sz1 rfl rfl rfl (fun b o hb e => Heap.get?_push_of_some _ (Heap.get?_push_of_some _ e)) hT')
      · cases r2 with
        | error e => exact hr2
        | ok fl2 =>
          cases fl2 with
          | ret r =>
            obtain ⟨rfl, h', tk, rfl, hT', hk1, hk2⟩ := hr2
            repeat (any_goals (first | assumption | wp_step))
            exact hQ _ _ hT' hk1 hk2
          | _ => exact hr2.elim
    | _ => exact hr.elim
end
end Vm
set_option Elab.async false
set_option linter.all false
set_option maxRecDepth 100000
set_option maxHeartbeats 4000000
/-! len(set(x)) and sorted(set(x)), x texts -/
namespace Vm
open PySem PySem.Spec PyProof.Rows L2
abbrev TSO (w : World) (a : Addr) (xs : List Str) : HO := .ext fun h => TSet w h a xs
abbrev tle (x y : Str) : Prop := PySem.W.dataLe false PyData.str x y = true
def rSetT (w : World) (K : PySem.W.Frag) : List V → Hp → VK → Prop := fun xs H Q => ∃ l, ∃ ls : List Str, xs = [.ref l] ∧ (SqL K H l (ls.map V.str) ∨ SqT K H l (ls.map V.str)) ∧ ls.length ≤ 60 ∧
  ∀ p, H p = none → Q (.ref p) (upd H p (TSO w p (dedT ls)))
def rLenT (w : World) : List V → Hp → VK → Prop := fun xs H Q => ∃ a, ∃ ls : List Str, xs = [.ref a] ∧ H a = some (TSO w a ls) ∧ ls.length ≤ 60 ∧ Q (.int ls.length) H
def rSortT (w : World) : List V → Hp → VK → Prop := fun xs H Q => ∃ a, ∃ ls : List Str, xs = [.ref a] ∧ H a = some (TSO w a ls) ∧ ls.length ≤ 60 ∧
  ∀ (ms : List Str) p, ms.Perm ls → ms.Pairwise tle → H p = none → Q (.ref p) (upd H p (.lst (ms.map V.str)))
section
variable {X : Cx}
theorem tso_ok {P : Program} {w : World} {H : Hp} {h : Heap} {a : Addr} {xs : List Str} (R : TSet w h a xs) : ObjOk P w H h a (TSO w a xs) := by
  have ⟨o, _, _, _, ho, _⟩ := R
  exact ⟨R, ⟨o, ho⟩, fun h1 h2 p k => TSet.at p k⟩
theorem tso_get {pins : List (Addr × Obj)} {σ : L2.St} {H : Hp} {s : Shared} {a : Addr} {xs : List Str} (I : Inv X pins σ H s) (ha : H a = some (TSO X.w a xs)) : TSet X.w s.heap a xs := (I.hok a _ ha).1
theorem cr_setT (hc : X.calm = true) : CallR X (.type "set") (rSetT X.w X.K) := by
  intro pins s σ H xs us Q I r ⟨l, ls, ex, hq, hb, q⟩
  subst ex
  rw [Vals.ref1 r]
  have fin : ∀ its : List Value, Vals (ls.map V.str) its → (s.heap.IsList l its.toArray ∨ s.heap.IsTuple l its.toArray) → wpAny (model X.prog X.w) X.A (call (.type "set") [.ref l]) (EP X pins σ Q) X.xe s := by
    intro its rv hl
    refine tset_made (I.ok.hd hc) hl (by simpa using strsAre_of rv) (by show _ < 4096; omega) fun h' tk hT hz hk => ?_
    exact ⟨.ref _, upd H s.heap.objs.size (TSO X.w s.heap.objs.size (dedT ls)), I.laid (t' := tk) (fun b u e => hk b u (Heap.lt_size e) e) (Nat.le_refl _) (tso_ok hT), rfl, q _ (I.hok.fresh (Nat.le_refl _))⟩
  rcases hq with hq | hq
  · obtain ⟨its, rv, pl, hz⟩ := I.list hq
    exact fin its rv (.inl pl.isList)
  · obtain ⟨its, rv, pl, hz⟩ := I.tuple hq
    exact fin its rv (.inr pl)
theorem cr_lenT : CallR X (.builtin "len") (rLenT X.w) := by
  intro pins s σ H xs us Q I r ⟨a, ls, ex, ha, hb, q⟩
  subst ex
  rw [Vals.ref1 r]
  obtain ⟨o, es, ep, t, ho, hex, hd, g, pm, nd, hf, _⟩ := tso_get I ha
  have hn : es.size = ls.length := by rw [← pm.length_eq, List.length_map, Array.length_toList]
  refine call_len_set ho hex hd hf (by rw [hn]; omega) ⟨.int ls.length, H, (I.tok _), ⟨_, by rw [hn]⟩, q⟩
def vtx : Value → Str
  | .str x _ => x
  | _ => Str.empty
theorem each_txt : ∀ {vs : List Value}, (∀ v ∈ vs, ∃ x t, v = Value.str x t) → PySem.W.EachIs (fun v (x : Str) => ∃ t, v = Value.str x t) vs (vs.map vtx)
  | [], _ => .nil
  | v :: vs, h => by
    obtain ⟨x, t, rfl⟩ := h v List.mem_cons_self
    exact .cons ⟨t, rfl⟩ (each_txt fun u hu => h u (List.mem_cons_of_mem _ hu))
theorem vals_txt : ∀ {vs : List Value} {xs : List Str}, PySem.W.EachIs (fun v (x : Str) => ∃ t, v = Value.str x t) vs xs → Vals (xs.map V.str) vs
  | _, _, .nil => .nil
  | _, _, .cons h t => .cons h (vals_txt t)
theorem cr_sortT (hc : X.calm = true) (hu : X.A.units + 100 < cLine) : CallR X (.builtin "sorted") (rSortT X.w) := by
  intro pins s σ H xs us Q I r ⟨a, ls, ex, ha, hb, q⟩
  subst ex
  rw [Vals.ref1 r]
  obtain ⟨o, es, ep, t, ho, hex, hd, g, pm, nd, hf, hr, hl⟩ := tso_get I ha
  have hn : es.size = ls.length := by rw [← pm.length_eq, List.length_map, Array.length_toList]
  have h4 : es.size < scanBound := by show _ < 4096; omega
  refine Calls.call_function_entry kind_sorted plain_sorted entry_sorted (args_sorted1 _) ?_
  unfold Builtin.«sorted»
  refine wpAny_bind (m := checkCount "sorted" 1 1 _) (wpAny_pure ?_)
  refine wpAny_bind (collect_set (A := X.A.in1) (I.ok.hd hc) ⟨o, ho, hex.1, hd⟩ hf h4 hr hl fun s1 vs k1 hz g1 o1 pv => ?_)
  have hvl : vs.length = ls.length := by rw [pv.length_eq, List.length_map, Array.length_toList, hn]
  have ht : ∀ v ∈ vs, ∃ x t, v = Value.str x t := fun v hv => by
    obtain ⟨e, he, e2⟩ := List.mem_map.mp (pv.mem_iff.mp hv)
    obtain ⟨x, tk, e3, _⟩ := g e he
    exact ⟨x, tk, by rw [← e2]; exact e3⟩
  have py : (vs.map vtx).Perm ls := by
    have e1 := pv.map vtx
    rw [List.map_map] at e1
    exact e1.trans pm
  have each := each_txt ht
  refine wpAny_bind (wpAny_newList ?_ (by rw [hvl, sizeLine_eq]; omega))
  have hoL : (s1.heap.push (seqObj "list" vs.toArray 0)).get? s1.heap.objs.size = some (seqObj "list" vs.toArray 0) := Heap.get?_push_size _ rfl
  refine wpAny_bind (wpAny_holding (PySem.W.list_sort_data (enc := PyData.str) hoL each (each.mono fun v x ⟨t, e⟩ => ⟨[], by rw [e]; exact .str _ _, by simp⟩) (PySem.W.AllAlike.of fun _ _ => rfl) (PySem.W.Sortable.others fun _ => ⟨fun e => (by cases e), fun xs e => (by cases e)⟩) (by rw [List.length_map, hvl, sizeLine_eq]; omega)
    (fun b _ => by show X.A.in1.units + 1 + 0 < cLine; have : X.A.in1.units = X.A.units + 1 := rfl; omega) fun out ho2 hout => ?_))
  obtain ⟨c, hc2⟩ := sortedHeap_at (vs := vs) (out := out.toArray) hoL
  have rel := vals_txt hout
  have hp : s.heap.objs.size ≤ s1.heap.objs.size := hz
  have hnp : H s1.heap.objs.size = none := I.hok.fresh hp
  have k : ∀ b u, s.heap.get? b = some u → (sortedHeap (s1.heap.push (seqObj "list" vs.toArray 0)) s1.heap.objs.size vs out.toArray).get? b = some u := fun b u e => by
    have q1 := k1 b u e
    have hlt := Heap.lt_size q1
    rw [sortedHeap_old (Nat.ne_of_lt hlt) (by rw [size_push']; exact Nat.lt_succ_of_lt hlt)]
    exact Heap.get?_push_of_some _ q1
  have hlen : (((vs.map vtx).mergeSort (PySem.W.dataLe false PyData.str)).map V.str).length ≤ sizeLine := by rw [List.length_map, List.length_mergeSort, List.length_map, hvl, sizeLine_eq]; omega
  have pw : ((vs.map vtx).mergeSort (PySem.W.dataLe false PyData.str)).Pairwise tle := List.pairwise_mergeSort
    (fun a b c h1 h2 => (PySem.W.sortLe_total (PyProof.Rows.listOrd PyProof.Rows.itemOrd) false (fun d : Str => PySem.W.keyToks (PyData.str d))).trans a b c h1 h2)
    (fun a b => by
      rcases (PySem.W.sortLe_total (PyProof.Rows.listOrd PyProof.Rows.itemOrd) false (fun d : Str => PySem.W.keyToks (PyData.str d))).total a b with h | h
      · rw [h]; rfl
      · rw [h, Bool.or_true]) _
  have J : Inv X pins σ (upd H s1.heap.objs.size (.lst (((vs.map vtx).mergeSort (PySem.W.dataLe false PyData.str)).map V.str))) { s with heap := sortedHeap (s1.heap.push (seqObj "list" vs.toArray 0)) s1.heap.objs.size vs out.toArray, gens := s1.gens, drawn := s1.drawn, toks := s1.toks } :=
    I.call (ch := []) (Un.laid k hp hnp) (I.hok.laid k hp ⟨hlen, out, c, rel, hc2⟩) (by rw [g1]; exact I.bare) (fun _ z => nomatch z)
  have e : ({ s1 with heap := sortedHeap (s1.heap.push (seqObj "list" vs.toArray 0)) s1.heap.objs.size vs out.toArray } : Shared) = { s with heap := sortedHeap (s1.heap.push (seqObj "list" vs.toArray 0)) s1.heap.objs.size vs out.toArray, gens := s1.gens, drawn := s1.drawn, toks := s1.toks } := by
    cases s1
    cases s
    cases o1
    rfl
  refine wpAny_pure ⟨_, rfl, ?_⟩
  show EP X pins σ Q _ { s1 with heap := sortedHeap (s1.heap.push (seqObj "list" vs.toArray 0)) s1.heap.objs.size vs out.toArray }
  rw [e]
  exact ⟨.ref _, _, J, rfl, q _ _ ((List.mergeSort_perm _ _).trans py) pw hnp⟩
end
/-! ### by data -/
def txt : D → Option (List Nat)
  | .str s => some s
  | _ => none
def txts : List D → Option (List (List Nat))
  | [] => some []
  | d :: ds => (txt d).bind fun s => (txts ds).map (s :: ·)
abbrev toS (s : List Nat) : Str := ⟨s.toArray⟩
theorem toS_inj {s t : List Nat} (h : toS s = toS t) : s = t := by
  have := congrArg (fun x : Str => x.cps.toList) h
  simpa using this
theorem txts_eq : ∀ {ds : List D} {ls : List (List Nat)}, txts ds = some ls → ds = ls.map .str
  | [], ls, h => by cases h; rfl
  | d :: ds, ls, h => by
    cases d <;> first | (cases h; done) | skip
    rename_i s
    cases e : txts ds with
    | none => unfold txts at h; rw [e] at h; cases h
    | some r => unfold txts at h; rw [e] at h; cases h; rw [txts_eq e]; rfl
@[simp] theorem txts_map (ls : List (List Nat)) : txts (ls.map .str) = some ls := by
  induction ls with
  | nil => rfl
  | cons s ls ih => show (some s).bind (fun s => (txts (ls.map .str)).map (s :: ·)) = _; rw [ih]; rfl
def addL (acc : List (List Nat)) (x : List Nat) : List (List Nat) := if x ∈ acc then acc else acc ++ [x]
def dedL (ls : List (List Nat)) : List (List Nat) := ls.foldl addL []
theorem addT_map (acc : List (List Nat)) (x : List Nat) : addT (acc.map toS) (toS x) = (addL acc x).map toS := by
  unfold addT addL
  by_cases h : x ∈ acc
  · rw [if_pos h, if_pos (List.mem_map.mpr ⟨x, h, rfl⟩)]
  · rw [if_neg h, if_neg (fun z => h (by
      obtain ⟨y, hy, e⟩ := List.mem_map.mp z
      exact toS_inj e ▸ hy)), List.map_append]
    rfl
theorem dedT_map (ls : List (List Nat)) : dedT (ls.map toS) = (dedL ls).map toS := by
  unfold dedT dedL
  have : ∀ (ls acc : List (List Nat)), (ls.map toS).foldl addT (acc.map toS) = (ls.foldl addL acc).map toS := by
    intro ls
    induction ls with
    | nil => intro acc; rfl
    | cons x ls ih => intro acc; rw [List.map_cons, List.foldl_cons, addT_map, ih]; rfl
  exact this ls []
theorem mem_addL {acc : List (List Nat)} {x y : List Nat} : y ∈ addL acc x ↔ y ∈ acc ∨ y = x := by
  unfold addL
  split
  · exact ⟨.inl, fun h => h.elim id fun e => e ▸ by assumption⟩
  · rw [List.mem_append, List.mem_singleton]
theorem mem_foldL {y : List Nat} : ∀ (ls acc : List (List Nat)), y ∈ ls.foldl addL acc ↔ y ∈ acc ∨ y ∈ ls
  | [], acc => by simp
  | x :: ls, acc => by rw [List.foldl_cons, mem_foldL ls, mem_addL, List.mem_cons, or_assoc]
@[simp] theorem mem_dedL {y : List Nat} {ls : List (List Nat)} : y ∈ dedL ls ↔ y ∈ ls := by unfold dedL; rw [mem_foldL]; simp
theorem nodup_foldL : ∀ (ls acc : List (List Nat)), acc.Nodup → (ls.foldl addL acc).Nodup
  | [], acc, h => h
  | x :: ls, acc, h => by
    rw [List.foldl_cons]
    refine nodup_foldL ls _ ?_
    unfold addL
    split
    · exact h
    · rename_i n
      exact (List.perm_append_singleton _ _).symm.nodup_iff.mp (List.nodup_cons.mpr ⟨n, h⟩)
theorem dedL_nodup (ls : List (List Nat)) : (dedL ls).Nodup := nodup_foldL ls [] List.nodup_nil
theorem dedL_len (ls : List (List Nat)) : (dedL ls).length ≤ ls.length := by
  have h := foldl_addT_len (ls.map toS) []
  have e : (ls.map toS).foldl addT [] = (dedL ls).map toS := dedT_map ls
  rw [e] at h
  simpa using h
theorem fold_nodup : ∀ (ls acc : List (List Nat)), (acc ++ ls).Nodup → ls.foldl addL acc = acc ++ ls
  | [], acc, _ => by simp
  | x :: ls, acc, h => by
    have hx : x ∉ acc := fun z => by
      have := List.nodup_append.mp h
      exact this.2.2 x z x List.mem_cons_self rfl
    have e : addL acc x = acc ++ [x] := by unfold addL; rw [if_neg hx]
    rw [List.foldl_cons, e, fold_nodup ls (acc ++ [x]) (by rw [List.append_assoc]; exact h), List.append_assoc]
    rfl
theorem dedL_of_nodup {ls : List (List Nat)} (h : ls.Nodup) : dedL ls = ls := fold_nodup ls [] h
/-- the texts of a list, each once, in order -/
def sortT (ls : List (List Nat)) : List D := sortD ((dedL ls).map .str)
def sortSet (ds : List D) : Option D := match txts ds with
  | some ls => if ls.length ≤ 60 then some (.lst (sortT ls)) else none
  | none => none
def lenSet (ds : List D) : Option D := match txts ds with
  | some ls => if ls.length ≤ 60 then some (.int ((dedL ls).length : Nat)) else none
  | none => none
def oSortSet : List D → Option D
  | [.lst ds] => sortSet ds
  | [.tup ds] => sortSet ds
  | _ => none
def oLenSet : List D → Option D
  | [.lst ds] => lenSet ds
  | [.tup ds] => lenSet ds
  | _ => none
theorem fzs_txts {K : PySem.W.Frag} {mg : Str → Option Value} {H : Hp} : ∀ {ls : List (List Nat)} {vs : List V}, Fzs K mg H (ls.map .str) vs → vs = (ls.map toS).map V.str ∧ ∀ s ∈ ls, sOk s = true
  | [], vs, h => ⟨h, by simp⟩
  | s :: ls, vs, ⟨v, r, e, h1, h2⟩ => by
    obtain ⟨e2, h3⟩ := fzs_txts h2
    refine ⟨by rw [e, h1.1, e2]; rfl, fun t ht => ?_⟩
    rcases List.mem_cons.mp ht with z | z
    · rw [z]; exact h1.2
    · exact h3 t z
theorem fzs_strs {K : PySem.W.Frag} {mg : Str → Option Value} {H : Hp} : ∀ {ls : List (List Nat)}, (∀ s ∈ ls, sOk s = true) → Fzs K mg H (ls.map .str) ((ls.map toS).map V.str)
  | [], _ => rfl
  | s :: ls, h => ⟨_, _, rfl, ⟨rfl, h s List.mem_cons_self⟩, fzs_strs fun t ht => h t (List.mem_cons_of_mem _ ht)⟩
theorem tle_le (s t : List Nat) : tle (toS s) (toS t) ↔ leD (.str s) (.str t) = true := Iff.rfl
theorem leD_anti {s t : List Nat} (h1 : leD (.str s) (.str t) = true) (h2 : leD (.str t) (.str s) = true) : s = t := by
  have e : ∀ a b : List Nat, leD (.str a) (.str b) = true → (PyProof.Rows.listOrd PyProof.Rows.itemOrd).blt (PySem.W.keyToks (.str (toS b))) (PySem.W.keyToks (.str (toS a))) = false := fun a b h => by
    unfold leD ltD PySem.W.dataLt at h
    have h' := (Bool.not_eq_true' _).mp h
    exact h'
  have := (PyProof.Rows.listOrd PyProof.Rows.itemOrd).total _ _ (e t s h2) (e s t h1)
  have e2 : [(Sum.inr s : Int ⊕ List Nat)] = [Sum.inr t] := by
    simpa [PySem.W.keyToks] using this
  cases e2
  rfl
theorem eq_sorted {α : Type} {le : α → α → Prop} (anti : ∀ a b, le a b → le b a → a = b) : ∀ {xs ys : List α}, xs.Perm ys → xs.Pairwise le → ys.Pairwise le → xs = ys
  | [], ys, p, _, _ => (List.Perm.nil_eq p)
  | x :: xs, ys, p, h1, h2 => by
    cases ys with
    | nil => exact absurd p.symm.nil_eq (by simp)
    | cons y ys =>
      have e : x = y := by
        rcases List.mem_cons.mp (p.mem_iff.mp List.mem_cons_self) with z | z
        · exact z
        · rcases List.mem_cons.mp (p.mem_iff.mpr List.mem_cons_self) with z2 | z2
          · exact z2.symm
          · exact anti _ _ ((List.pairwise_cons.mp h1).1 y z2) ((List.pairwise_cons.mp h2).1 x z)
      subst e
      rw [eq_sorted anti (List.perm_cons x |>.mp p) (List.pairwise_cons.mp h1).2 (List.pairwise_cons.mp h2).2]
def leS (s t : List Nat) : Bool := leD (.str s) (.str t)
/-- each once, in order -/
def srt (ls : List (List Nat)) : List (List Nat) := (dedL ls).mergeSort leS
theorem sortT_srt (ls : List (List Nat)) : sortT ls = (srt ls).map .str := sortD_map D.str (dedL ls)
theorem srt_perm (ls : List (List Nat)) : (srt ls).Perm (dedL ls) := List.mergeSort_perm _ _
theorem srt_le (ls : List (List Nat)) : (srt ls).Pairwise fun s t => leS s t = true := sort_pair D.str (dedL ls)
@[simp] theorem mem_srt {ls : List (List Nat)} {y : List Nat} : y ∈ srt ls ↔ y ∈ ls := by rw [(srt_perm ls).mem_iff, mem_dedL]
theorem srt_nodup (ls : List (List Nat)) : (srt ls).Nodup := (srt_perm ls).nodup_iff.mpr (dedL_nodup ls)
theorem srt_eq {ls ms : List (List Nat)} (h : ∀ y, y ∈ ls ↔ y ∈ ms) : srt ls = srt ms := by
  refine eq_sorted (le := fun s t => leS s t = true) (fun a b => leD_anti) ?_ (srt_le ls) (srt_le ms)
  refine (List.perm_ext_iff_of_nodup (srt_nodup ls) (srt_nodup ms)).mpr fun a => ?_
  rw [mem_srt, mem_srt, h a]
theorem sorted_is {ls : List (List Nat)} {ms : List Str} (p : ms.Perm ((dedL ls).map toS)) (h : ms.Pairwise tle) : ms = (srt ls).map toS := by
  refine eq_sorted (le := tle) (fun a b h1 h2 => ?_) (p.trans ((srt_perm ls).symm.map toS)) h ?_
  · obtain ⟨⟨a⟩⟩ := a
    obtain ⟨⟨b⟩⟩ := b
    exact congrArg toS (leD_anti h1 h2)
  · exact List.pairwise_map.mpr (srt_le ls)
section
variable {G : GC} {N : List Str} {S : SC} {bs bs1 bs2 ms ms1 ms2 ms3 as : Ms} {m : Md} {k : Kd} {e a b : Expr} {es : List Expr} {f fa fb : M D} {fs : M (List D)} {pos p q : Pos}
theorem ru_lenSet {w : World} {m : Md} : RuA G (fun xs H Q => rSetT w G.K xs H fun x H1 => rLenT w [x] H1 Q) m oLenSet := by
  intro H0 H ds xs d Q s h ho f
  have main : ∀ (es : List D) (a : Addr) (vs : List V), xs = [.ref a] → (SqL G.K H a vs ∨ SqT G.K H a vs) → Fzs G.K G.mg H0 es vs → lenSet es = some d → rSetT w G.K xs H fun x H1 => rLenT w [x] H1 Q := by
    intro es a vs e1 hq g ho
    unfold lenSet at ho
    split at ho
    · rename_i ls et
      split at ho
      · rename_i hl
        cases ho
        have := txts_eq et
        subst this
        obtain ⟨e2, _⟩ := fzs_txts g
        subst e2
        refine ⟨a, ls.map toS, e1, hq, by rw [List.length_map]; exact hl, fun p hp => ⟨p, dedT (ls.map toS), rfl, upd_same, ?_, ?_⟩⟩
        · rw [dedT_map, List.length_map]
          exact Nat.le_trans (dedL_len ls) hl
        · rw [dedT_map, List.length_map]
          exact f (.int ((dedL ls).length : Nat)) H0 (upd H p _) [] (same_upd0 hp) (Same.refl _) (s.trans (same_upd0 hp)) (fun _ _ e => .inl ⟨_, e⟩) (ow_of_atom rfl rfl) List.nodup_nil (by simp)
      · cases ho
    · cases ho
  unfold oLenSet at ho
  split at ho
  · obtain ⟨x, e, a, vs, e1, k, g⟩ := shs_one h
    exact main _ a vs (by rw [e, e1]) (.inl (.of k)) g ho
  · obtain ⟨x, e, a, vs, e1, k, g⟩ := shs_one h
    exact main _ a vs (by rw [e, e1]) (.inr (same_t s k)) g ho
  · cases ho
theorem ru_sortSet {w : World} {m : Md} (hm : ZO m) : RuA G (fun xs H Q => rSetT w G.K xs H fun x H1 => rSortT w [x] H1 Q) m oSortSet := by
  intro H0 H ds xs d Q s h ho f
  have main : ∀ (es : List D) (a : Addr) (vs : List V), xs = [.ref a] → (SqL G.K H a vs ∨ SqT G.K H a vs) → Fzs G.K G.mg H0 es vs → sortSet es = some d → rSetT w G.K xs H fun x H1 => rSortT w [x] H1 Q := by
    intro es a vs e1 hq g ho
    unfold sortSet at ho
    split at ho
    · rename_i ls et
      split at ho
      · rename_i hl
        cases ho
        have := txts_eq et
        subst this
        obtain ⟨e2, hok⟩ := fzs_txts g
        subst e2
        refine ⟨a, ls.map toS, e1, hq, by rw [List.length_map]; exact hl, fun p hp => ⟨p, dedT (ls.map toS), rfl, upd_same, ?_, ?_⟩⟩
        · rw [dedT_map, List.length_map]
          exact Nat.le_trans (dedL_len ls) hl
        · intro ms p2 pm pw hp2
          rw [dedT_map] at pm
          have em := sorted_is pm pw
          subst em
          have s1 : Same H (upd H p (TSO w p (dedT (ls.map toS)))) := same_upd0 hp
          have fz : Fzs G.K G.mg H0 (sortT ls) (((srt ls).map toS).map V.str) := by
            rw [sortT_srt]
            exact fzs_strs fun t ht => hok t (mem_srt.mp ht)
          refine Fin.lst (H := upd H p (TSO w p (dedT (ls.map toS)))) (H0 := H0) (ds := sortT ls) hm (fun v H0' H' fp a1 a2 a3 a4 a5 a6 a7 => f v H0' H' fp (s1.trans a1) a2 a3 (fun b o e => (a4 b o e).imp id fun z => s1.free z) a5 a6 fun b hb => ⟨s1.free (a7 b hb).1, (a7 b hb).2⟩) (s.trans s1) fz hp2
      · cases ho
    · cases ho
  unfold oSortSet at ho
  split at ho
  · obtain ⟨x, e, a, vs, e1, k, g⟩ := shs_one h
    exact main _ a vs (by rw [e, e1]) (.inl (.of k)) g ho
  · obtain ⟨x, e, a, vs, e1, k, g⟩ := shs_one h
    exact main _ a vs (by rw [e, e1]) (.inr (same_t s k)) g ho
  · cases ho
theorem VO.lenSet (hm : G.mg "len" = none) (hm2 : G.mg "set" = none) (ha : VA G N S bs ms [a] fs) (hc : S.cm = true := by rfl) (hg : Glb S "len" := by rfl) (hg2 : Glb S "set" := by rfl)
    (he : ∀ env, starEach [a] env = (false, eval a env) :: starEach [] env := by intro _; rfl) (hpl : ∀ env, (backTo q (starEach [] env)).any (·.1) = false := by intro _; rfl)
    (he2 : ∀ env, starEach [.Call (.Name "set" p) [a] [] q] env = (false, eval (.Call (.Name "set" p) [a] [] q) env) :: starEach [] env := by intro _; rfl) (hpl2 : ∀ env, (backTo pos (starEach [] env)).any (·.1) = false := by intro _; rfl) {p2 : Pos} :
    VO G N S .z ms (.Call (.Name "len" p2) [.Call (.Name "set" p) [a] [] q] [] pos) (fA oLenSet fs) := fun R s W t =>
  (pe_callB cr_lenT (s.gl hg) hm boot_len (pa_cons (pe_callTy (cr_setT (s.calm.trans hc)) (s.gl hg2) hm2 boot_set (ha R s W t) (by decide) (by decide) (he _) (hpl _)) pa_nil (he2 _)) (by decide) (by decide) (he2 _) (hpl2 _)).imp fun σ H Q h =>
    show tR G.K G.mg W (FBs G.K G.mg bs) ms fs σ H fun xs H1 => rSetT G.w G.K xs H1 fun x H2 => rLenT G.w [x] H2 Q from VE.args (r := fun xs H Q => rSetT G.w G.K xs H fun x H1 => rLenT G.w [x] H1 Q) rfl rfl (ru_lenSet (w := G.w)) h
theorem VO.sortSet (hm : G.mg "sorted" = none) (hm2 : G.mg "set" = none) (ha : VA G N S bs ms [a] fs) (hc : S.cm = true := by rfl) (hg : Glb S "sorted" := by rfl) (hg2 : Glb S "set" := by rfl)
    (he : ∀ env, starEach [a] env = (false, eval a env) :: starEach [] env := by intro _; rfl) (hpl : ∀ env, (backTo q (starEach [] env)).any (·.1) = false := by intro _; rfl)
    (he2 : ∀ env, starEach [.Call (.Name "set" p) [a] [] q] env = (false, eval (.Call (.Name "set" p) [a] [] q) env) :: starEach [] env := by intro _; rfl) (hpl2 : ∀ env, (backTo pos (starEach [] env)).any (·.1) = false := by intro _; rfl) {p2 : Pos} :
    VO G N S m1 ms (.Call (.Name "sorted" p2) [.Call (.Name "set" p) [a] [] q] [] pos) (fA oSortSet fs) := fun R s W t =>
  (pe_callB (cr_sortT (s.calm.trans hc) (s.u100 hc)) (s.gl hg) hm (by decide +kernel) (pa_cons (pe_callTy (cr_setT (s.calm.trans hc)) (s.gl hg2) hm2 boot_set (ha R s W t) (by decide) (by decide) (he _) (hpl _)) pa_nil (he2 _)) (by decide) (by decide) (he2 _) (hpl2 _)).imp fun σ H Q h =>
    show tR G.K G.mg W (FBs G.K G.mg bs) ms fs σ H fun xs H1 => rSetT G.w G.K xs H1 fun x H2 => rSortT G.w [x] H2 Q from VE.args (r := fun xs H Q => rSetT G.w G.K xs H fun x H1 => rSortT G.w [x] H1 Q) rfl rfl (ru_sortSet (w := G.w) (.inr rfl)) h
end
end Vm
set_option Elab.async false
set_option linter.all false
set_option maxRecDepth 100000
set_option maxHeartbeats 4000000
/-! for over a dictionary: it is locked while the loop runs -/
namespace Vm
open PySem PySem.Spec PyProof.Rows L2
section
variable {K : PySem.W.Frag} {mg : Str → Option Value} {H H' H0 H0' : Hp} {d : Addr} {od : Obj} {kvs : List (Key × V)}
/-- the dictionary at d is locked in one of them, else they are alike -/
structure Swp (d : Addr) (od : Obj) (kvs : List (Key × V)) (H H' : Hp) : Prop where
  ne : ∀ a, a ≠ d → H' a = H a
  at_ : (H d = some (.dK kvs) ∧ H' d = some (.frz od (.dK kvs))) ∨ (H d = some (.frz od (.dK kvs)) ∧ H' d = some (.dK kvs))
theorem Swp.rd (s : Swp d od kvs H H') {a : Addr} {u : HO} (h : Rd H a u) (n : ∀ o x, u ≠ .frz o x) : Rd H' a u := by
  by_cases z : a = d
  · subst z
    rcases s.at_ with ⟨e1, e2⟩ | ⟨e1, e2⟩
    · rcases h with h | ⟨o, h⟩
      · rw [e1] at h; cases h; exact .inr ⟨od, e2⟩
      · rw [e1] at h; cases h
    · rcases h with h | ⟨o, h⟩
      · rw [e1] at h; cases h; exact absurd rfl (n _ _)
      · rw [e1] at h; cases h; exact .inl e2
  · unfold Rd; rw [s.ne a z]; exact h
theorem Swp.ob (s : Swp d od kvs H H') {a : Addr} {u : HO} (h : H a = some u) (n : ∀ o x, u ≠ .frz o x) (m : ∀ x, u ≠ .dK x) : H' a = some u := by
  by_cases z : a = d
  · subst z
    rcases s.at_ with ⟨e1, _⟩ | ⟨e1, _⟩
    · rw [e1] at h; cases h; exact absurd rfl (m _)
    · rw [e1] at h; cases h; exact absurd rfl (n _ _)
  · rw [s.ne a z]; exact h
theorem Swp.nn (s : Swp d od kvs H H') : H d ≠ none ∧ H' d ≠ none := by
  rcases s.at_ with ⟨e1, e2⟩ | ⟨e1, e2⟩ <;> rw [e1, e2] <;> exact ⟨fun z => (by cases z), fun z => (by cases z)⟩
theorem Swp.none (s : Swp d od kvs H H') {a : Addr} : H' a = none ↔ H a = none := by
  by_cases z : a = d
  · subst z; exact ⟨fun h => absurd h s.nn.2, fun h => absurd h s.nn.1⟩
  · rw [s.ne a z]
theorem Swp.symm (s : Swp d od kvs H H') : Swp d od kvs H' H := ⟨fun a z => (s.ne a z).symm, s.at_.elim (fun h => .inr ⟨h.2, h.1⟩) fun h => .inl ⟨h.2, h.1⟩⟩
theorem Swp.same (s0 : Swp d od kvs H0 H0') (s : Swp d od kvs H H') (k : Same H0 H) : Same H0' H' := fun a o e => by
  by_cases z : a = d
  · subst z
    have dk : ∀ (h1 : H0 a = some (.dK kvs)) (h2 : H a = some (.frz od (.dK kvs))), False := fun h1 h2 => by rw [k _ _ h1] at h2; cases h2
    have kd : ∀ (h1 : H0 a = some (.frz od (.dK kvs))) (h2 : H a = some (.dK kvs)), False := fun h1 h2 => by rw [k _ _ h1] at h2; cases h2
    rcases s0.at_ with ⟨e1, e2⟩ | ⟨e1, e2⟩
    · rcases s.at_ with ⟨f1, f2⟩ | ⟨f1, f2⟩
      · rw [e2] at e; rw [f2]; exact e
      · exact (dk e1 f1).elim
    · rcases s.at_ with ⟨f1, f2⟩ | ⟨f1, f2⟩
      · exact (kd e1 f1).elim
      · rw [e2] at e; rw [f2]; exact e
  · rw [s0.ne a z] at e; rw [s.ne a z]; exact k a o e
theorem Swp.sqt (s : Swp d od kvs H H') {a : Addr} {xs : List V} (h : SqT K H a xs) : SqT K H' a xs := h.imp (fun h => s.rd h fun _ _ => (by intro z; cases z)) id
theorem Swp.sql (s : Swp d od kvs H H') {a : Addr} {xs : List V} (h : SqL K H a xs) : SqL K H' a xs := h.imp (fun h => s.rd h fun _ _ => (by intro z; cases z)) id
mutual
theorem Fz.swp (s : Swp d od kvs H H') : ∀ (x : D) (v : V), Fz K mg H x v → Fz K mg H' x v
  | .non, _, h => h
  | .bl _, _, h => h
  | .int _, _, h => h
  | .str _, _, h => h
  | .tup ds, _, ⟨a, vs, e, h, r⟩ => ⟨a, vs, e, s.sqt h, Fzs.swp s ds vs r⟩
  | .lst ds, _, ⟨a, vs, e, h, r⟩ => ⟨a, vs, e, s.ob h (fun _ _ z => by cases z) (fun _ z => by cases z), Fzs.swp s ds vs r⟩
  | .scr ns, _, ⟨a, e, h⟩ => ⟨a, e, s.sql h⟩
  | .dct ks ds, _, ⟨a, vs, e, ⟨kw, h, q⟩, r⟩ => ⟨a, vs, e, ⟨kw, s.rd h (fun _ _ z => by cases z), q⟩, Fzs.swp s ds vs r⟩
  | .ins c ns ds, _, ⟨a, C, dx, vs, e, g, h, l, r⟩ => ⟨a, C, dx, vs, e, g, s.ob h (fun _ _ z => by cases z) (fun _ z => by cases z), l, Fzs.swp s ds vs r⟩
theorem Fzs.swp (s : Swp d od kvs H H') : ∀ (xs : List D) (vs : List V), Fzs K mg H xs vs → Fzs K mg H' xs vs
  | [], _, h => h
  | x :: xs, _, ⟨v, r, e, h, t⟩ => ⟨v, r, e, Fz.swp s x v h, Fzs.swp s xs r t⟩
end
mutual
theorem Ow.swp (s : Swp d od kvs H0 H0') : ∀ (x : D) (m : Md) (v : V) (fp : List Addr), (∀ a ∈ fp, H' a = H a) → Ow K mg H0 H x m v fp → Ow K mg H0' H' x m v fp
  | x, .z, v, fp, _, h => Ow.zero.mpr ⟨(Ow.zero.mp h).1, Fz.swp s x v (Ow.zero.mp h).2⟩
  | .non, .o _, _, _, _, h => h
  | .bl _, .o _, _, _, _, h => h
  | .int _, .o _, _, _, _, h => h
  | .str _, .o _, _, _, _, h => h
  | .scr _, .o _, _, _, _, h => h
  | .tup ds, .o k, _, _, q, ⟨a, vs, g, e, h, ef, r⟩ => by
    subst ef
    exact ⟨a, vs, g, e, by rw [q a List.mem_cons_self]; exact h, rfl, Ows.swp s ds k vs g (fun b hb => q b (List.mem_cons_of_mem _ hb)) r⟩
  | .lst ds, .o k, _, _, q, ⟨a, vs, g, e, h, ef, r⟩ => by
    subst ef
    exact ⟨a, vs, g, e, by rw [q a List.mem_cons_self]; exact h, rfl, Ows.swp s ds k vs g (fun b hb => q b (List.mem_cons_of_mem _ hb)) r⟩
  | .dct ks ds, .o k, _, _, q, ⟨a, vs, g, e, ef, h, r⟩ => by
    subst ef
    exact ⟨a, vs, g, e, rfl, h.eq (q a List.mem_cons_self), Ows.swp s ds k vs g (fun b hb => q b (List.mem_cons_of_mem _ hb)) r⟩
  | .ins c ns ds, .o k, _, _, q, ⟨a, C, dx, vs, g, e, ef, hm, h, l, r⟩ => by
    subst ef
    exact ⟨a, C, dx, vs, g, e, rfl, hm, by rw [q a List.mem_cons_self]; exact h, l, Ows.swp s ds k vs g (fun b hb => q b (List.mem_cons_of_mem _ hb)) r⟩
theorem Ows.swp (s : Swp d od kvs H0 H0') : ∀ (xs : List D) (k : Kd) (vs : List V) (fp : List Addr), (∀ a ∈ fp, H' a = H a) → Ows K mg H0 H xs k vs fp → Ows K mg H0' H' xs k vs fp
  | [], _, _, _, _, h => h
  | x :: xs, k, _, _, q, ⟨v, r, f, g, e, ef, h, t⟩ => by
    subst ef
    exact ⟨v, r, f, g, e, rfl, Ow.swp s x k.hd v f (fun a ha => q a (List.mem_append_left _ ha)) h, Ows.swp s xs k.tl r g (fun a ha => q a (List.mem_append_right _ ha)) t⟩
end
variable {c c' : Co} {σ : L2.St} {ρ : En} {ms : Ms} {Hl Hl' H0l H0l' : Hp} {fp : List Addr}
theorem Lies.swp (l : Lies K mg H0 H c σ ρ) (s0 : Swp d od kvs H0 H0') (s : Swp d od kvs H H') : Lies K mg H0' H' c σ ρ := by
  have ne : ∀ a i, c a = some i → a ≠ d := fun a i e z => s0.nn.1 (by rw [← z]; exact l.apart a i e)
  refine ⟨s0.same s l.sub, fun a i e => s0.none.mpr (l.apart a i e), fun a i e => ?_, l.len, fun i m x e => ?_⟩
  · rw [s.ne a (ne a i e)]; exact l.there a i e
  · obtain ⟨v, fp, e1, ow, nd, hc⟩ := l.slot i m x e
    exact ⟨v, fp, e1, Ow.swp s0 x m v fp (fun a ha => s.ne a (ne a i (hc a ha))) ow, nd, hc⟩
/-- both locked ahead, both unlocked behind -/
theorem Step.swp (t : Step ms H0l Hl c H0l' Hl' c') (cd : c d = none) (h0 : H0 d = some (.dK kvs)) (h : H d = some (.dK kvs)) (e0 : H0l = upd H0 d (.frz od (.dK kvs))) (e : Hl = upd H d (.frz od (.dK kvs))) :
    Step ms H0 H c (upd H0l' d (.dK kvs)) (upd Hl' d (.dK kvs)) c' := by
  subst e0 e
  have nc : ∀ i, c d = some i → ms i = false := fun i z => by rw [cd] at z; cases z
  refine ⟨fun a o ha k => ?_, fun a o ha k => ?_, fun a o ha => ?_, fun a o ha => ?_, fun a i ha => ?_⟩
  · by_cases z : a = d
    · subst z; rw [h] at ha; rw [upd_same]; exact ha
    · rw [upd_ne z]; exact t.keep a o (by rw [upd_ne z]; exact ha) k
  · by_cases z : a = d
    · subst z; exact t.col a _ upd_same nc
    · exact t.col a o (by rw [upd_ne z]; exact ha) k
  · by_cases z : a = d
    · subst z; rw [h0] at ha; rw [upd_same]; exact ha
    · rw [upd_ne z]; exact t.grow a o (by rw [upd_ne z]; exact ha)
  · by_cases z : a = d
    · subst z; exact .inl ⟨_, h0⟩
    · rw [upd_ne z] at ha
      have := t.new0 a o ha
      rw [upd_ne z, upd_ne z] at this
      exact this
  · have back : ∀ a, upd H d (.frz od (.dK kvs)) a = none → H a = none := fun a n => by
      by_cases z : a = d
      · subst z; rw [upd_same] at n; cases n
      · rw [upd_ne z] at n; exact n
    rcases t.newc a i ha with z | ⟨q, z | z⟩
    · exact .inl z
    · exact .inr ⟨q, .inl (back a z)⟩
    · exact .inr ⟨q, .inr z⟩
theorem Fresh.swp (f : Fresh ms Hl c H0l' Hl' c' fp) (h0 : H0l' d = some (.frz od (.dK kvs))) (h1 : Hl' d = some (.frz od (.dK kvs))) (e : Hl = upd H d (.frz od (.dK kvs))) :
    Fresh ms H c (upd H0l' d (.dK kvs)) (upd Hl' d (.dK kvs)) c' fp := by
  subst e
  have ne : ∀ a ∈ fp, a ≠ d := fun a ha z => by have := f.n0 a ha; rw [z, h0] at this; cases this
  refine ⟨f.nd, f.nc, fun a ha => by rw [upd_ne (ne a ha)]; exact f.n0 a ha, fun a ha => by rw [upd_ne (ne a ha)]; exact f.there a ha, fun a ha => ?_⟩
  have := f.new a ha
  rw [upd_ne (ne a ha)] at this
  exact this
variable {W : WX} {rm : Md} {as : Ms} {x : Res Fl} {E : Ends}
theorem swp_up (h : H d = some (.dK kvs)) : Swp d od kvs H (upd H d (.frz od (.dK kvs))) := ⟨fun a z => upd_ne z, .inl ⟨h, upd_same⟩⟩
theorem swp_down (h : H d = some (.frz od (.dK kvs))) : Swp d od kvs H (upd H d (.dK kvs)) := ⟨fun a z => upd_ne z, .inr ⟨h, upd_same⟩⟩
/-- no exception leaves -/
def noXc (x : Res Fl) : Res Fl := match x with
  | .exc _ _ _ _ => .bad
  | y => y
@[simp] theorem noXc_ok (f : Fl) (r : En) : noXc (.ok f r) = .ok f r := rfl
/-- from a state with the dictionary open to one with it locked -/
theorem OutS.lock (l : Lies K mg H0 H c σ ρ) (h0 : H0 d = some (.dK kvs)) (o : OutS K mg W rm msA as H0 H c σ (noXc x) E) :
    OutS K mg W rm msA as (upd H0 d (.frz od (.dK kvs))) (upd H d (.frz od (.dK kvs))) c σ x
      ⟨fun σ' H' => H' d = some (.frz od (.dK kvs)) ∧ E.nx σ' (upd H' d (.dK kvs)), fun v H' => H' d = some (.frz od (.dK kvs)) ∧ E.rt v (upd H' d (.dK kvs)), fun σ' H' => H' d = some (.frz od (.dK kvs)) ∧ E.bk σ' (upd H' d (.dK kvs)), fun σ' H' => H' d = some (.frz od (.dK kvs)) ∧ E.ct σ' (upd H' d (.dK kvs))⟩ := by
  have h := l.sub _ _ h0
  have cd : c d = none := by
    cases e : c d with
    | none => rfl
    | some i => have := l.apart d i e; rw [h0] at this; cases this
  have up : ∀ {H0l' Hl' : Hp} {c' : Co}, Step msA (upd H0 d (.frz od (.dK kvs))) (upd H d (.frz od (.dK kvs))) c H0l' Hl' c' → H0l' d = some (.frz od (.dK kvs)) ∧ Hl' d = some (.frz od (.dK kvs)) := fun t => ⟨t.grow d _ upd_same, t.keep d _ upd_same fun i z => by rw [cd] at z; cases z⟩
  cases x with
  | ok fl r =>
    cases fl with
    | nx => exact fun σ' H0l' Hl' c' t l' a' => ⟨(up t).2, o σ' _ _ c' (t.swp cd h0 h rfl rfl) (l'.swp (swp_down (up t).1) (swp_down (up t).2)) a'⟩
    | bk => exact fun σ' H0l' Hl' c' t l' a' => ⟨(up t).2, o σ' _ _ c' (t.swp cd h0 h rfl rfl) (l'.swp (swp_down (up t).1) (swp_down (up t).2)) a'⟩
    | ct => exact fun σ' H0l' Hl' c' t l' a' => ⟨(up t).2, o σ' _ _ c' (t.swp cd h0 h rfl rfl) (l'.swp (swp_down (up t).1) (swp_down (up t).2)) a'⟩
    | rt y => exact fun v σ' H0l' Hl' c' t l' a' ⟨fp, ow, fr⟩ => ⟨(up t).2, o v σ' _ _ c' (t.swp cd h0 h rfl rfl) (l'.swp (swp_down (up t).1) (swp_down (up t).2)) a'
        ⟨fp, Ow.swp (swp_down (up t).1) y rm v fp (fun a ha => upd_ne fun z => by have := fr.n0 a ha; rw [z, (up t).1] at this; cases this) ow, fr.swp (up t).1 (up t).2 rfl⟩⟩
  | exc n ns vs r => exact o.elim
  | bad => exact o.elim
end
section
variable {G : GC} {N : List Str} {S : SC} {bs ms as1 as2 : Ms} {m rm : Md} {e : Expr} {pos : Pos}
theorem for_core {gt : D → M Fl} {gb : M Fl} {J : It} {H01 H1 : Hp} {c1 : Co} {ds : List D} {P : Hp → Co → Prop} {σ : L2.St} {ρ1 : En} {W : WX} {E : Ends}
    (hJ : ItOk G.K G.mg J H01 ds P) (p1 : P H1 c1) (sP : ∀ H0 H c H0' H' c', P H c → Step msA H0 H c H0' H' c' → P H' c') (l1 : Lies G.K G.mg H01 H1 c1 σ ρ1) (o1 : OutS G.K G.mg W rm msA (msU as1 as2) H01 H1 c1 σ (gLoop gt gb ds ρ1) E) :
    tFor (fun σ H R => R J H) (tG G.K G.mg as1 gt) (tS G.K G.mg W rm as2 gb) E σ H1 := by
  refine ⟨fun i m σ H => m = ds.length - i ∧ i ≤ ds.length ∧ ∃ ρ H0 c, Lies G.K G.mg H0 H c σ ρ ∧ (Same H01 H0 ∧ P H c) ∧ OutS G.K G.mg W rm msA (msU as1 as2) H0 H c σ (gLoop gt gb (ds.drop i) ρ) E,
    ⟨ds.length, rfl, Nat.zero_le _, ρ1, H01, c1, l1, ⟨Same.refl _, p1⟩, o1⟩, fun i m σ H ⟨em, hi, ρ, H0, c, l, ⟨s, pH⟩, o⟩ => ?_⟩
  obtain ⟨hgo, hst⟩ := hJ H0 H c s l.sub pH
  by_cases hlt : i < ds.length
  · have ed : ds.drop i = ds[i] :: ds.drop (i + 1) := List.drop_eq_getElem_cons hlt
    rw [ed] at o
    obtain ⟨go, step⟩ := hgo i ds[i] (List.getElem?_eq_getElem hlt)
    refine .inr ⟨go, fun σ' H' => ∃ ρ H0 c, Lies G.K G.mg H0 H' c σ' ρ ∧ (Same H01 H0 ∧ P H' c) ∧ OutS G.K G.mg W rm msA (msU as1 as2) H0 H' c σ' (gLoop gt gb (ds.drop (i + 1)) ρ) E, fun σ' H' ⟨ρ, H0, c, l, s, o⟩ => ⟨ds.length - (i + 1), by omega, rfl, hlt, ρ, H0, c, l, s, o⟩, fun x H' hy => ?_⟩
    obtain ⟨H0', k1, k2, k3, k4, fz⟩ := step x H' hy
    have l' := l.grow k1 k2 k3 k4
    have gr : Step msA H0 H c H0' H' c := Step.growth k1 k2 k4
    have pH' : P H' c := sP _ _ _ _ _ _ pH gr
    have o' := o.on gr Agr.refl
    have e2 : OutS G.K G.mg W rm as1 as1 H0' H' c σ (gt ds[i] ρ) { E with nx := fun σ2 H2 => ∃ ρ2 H02 c2, Lies G.K G.mg H02 H2 c2 σ2 ρ2 ∧ (Same H01 H02 ∧ P H2 c2) ∧ OutS G.K G.mg W rm msA (msU as1 as2) H02 H2 c2 σ2 ((gb ρ2).bind (lpK (gLoop gt gb (ds.drop (i + 1))))) E, bk := fun _ _ => True, ct := fun _ _ => True, rt := fun _ _ => True } := by
      have o2 : OutS G.K G.mg W rm msA (msU as1 as2) H0' H' c σ ((gt ds[i] ρ).bind fun _ r => (gb r).bind (lpK (gLoop gt gb (ds.drop (i + 1))))) E := o'
      cases hh : gt ds[i] ρ with
      | ok fl r =>
        rw [hh, bind_ok] at o2
        cases fl with
        | nx => exact fun σ2 H02 H2 c2 t l2 a2 => ⟨r, H02, c2, l2, ⟨s.trans (k2.trans t.grow), sP _ _ _ _ _ _ pH' (t.mono fun _ _ => rfl)⟩, o2.on (t.mono fun _ _ => rfl) (a2.mono fun i e => or_l e)⟩
        | bk => exact fun _ _ _ _ _ _ _ => trivial
        | ct => exact fun _ _ _ _ _ _ _ => trivial
        | rt d => exact fun _ _ _ _ _ _ _ _ _ => trivial
      | exc n ns vs r =>
        rw [hh, bind_exc] at o2
        exact fun cls dx σ2 H02 H2 c2 t l2 a2 e => o2 cls dx σ2 H02 H2 c2 (t.mono fun _ _ => rfl) l2 (a2.mono fun i e => or_l e) e
      | bad => rw [hh, bind_bad] at o2; exact o2.elim
    refine ⟨W, _, rm, ρ, H0', c, ds[i], l', fz, e2, fun σ2 H2 ⟨ρ2, H02, c2, l2, ⟨s2, pH2⟩, o2⟩ => ?_⟩
    refine ⟨ρ2, H02, c2, l2, ?_⟩
    cases hh : gb ρ2 with
    | ok fl r =>
      rw [hh, bind_ok] at o2
      cases fl with
      | nx => exact fun σ3 H03 H3 c3 t l3 a3 => ⟨r, H03, c3, l3, ⟨s2.trans t.grow, sP _ _ _ _ _ _ pH2 t⟩, o2.on t (a3.mono fun i e => or_r e)⟩
      | ct => exact fun σ3 H03 H3 c3 t l3 a3 => ⟨r, H03, c3, l3, ⟨s2.trans t.grow, sP _ _ _ _ _ _ pH2 t⟩, o2.on t (a3.mono fun i e => or_r e)⟩
      | bk => exact fun σ3 H03 H3 c3 t l3 a3 => o2 σ3 H03 H3 c3 t l3 (a3.mono fun i e => or_r e)
      | rt d => exact fun v σ3 H03 H3 c3 t l3 a3 f => o2 v σ3 H03 H3 c3 t l3 (a3.mono fun i e => or_r e) f
    | exc n ns vs r =>
      rw [hh, bind_exc] at o2
      exact fun cls dx σ3 H03 H3 c3 t l3 a3 e => o2 cls dx σ3 H03 H3 c3 t l3 (a3.mono fun i e => or_r e) e
    | bad => rw [hh, bind_bad] at o2; exact o2.elim
  · have e : i = ds.length := by omega
    subst e
    rw [List.drop_length] at o
    exact .inl ⟨hst, o σ H0 H c .refl l .refl⟩
theorem kD_fz {K : PySem.W.Frag} {mg : Str → Option Value} {H : Hp} {k : Key} (h : kOk k = true) : Fz K mg H (kD k) (kV k) := by
  cases k with
  | inl i => rfl
  | inr x => exact ⟨rfl, h⟩
theorem ItOk.keys {K : PySem.W.Frag} {mg : Str → Option Value} {H0 : Hp} {d : Addr} {od : Obj} {kvs : List (Key × V)} (hk : (kvs.all fun p => kOk p.1) = true) :
    ItOk K mg (Itk d od kvs) H0 (kvs.map fun p => kD p.1) (fun H c => H d = some (.frz od (.dK kvs)) ∧ c d = none) := fun H0' H c s1 s2 p => by
  refine ⟨fun i x e => ?_, p.1, by rw [List.length_map]; exact Nat.le_refl _⟩
  rw [List.getElem?_map] at e
  cases g : kvs[i]? with
  | none => rw [g] at e; cases e
  | some kv =>
    rw [g] at e
    cases e
    refine ⟨⟨p.1, (List.getElem?_eq_some_iff.mp g).1⟩, fun y H' ⟨e1, k, v, e2, e3⟩ => ?_⟩
    rw [g] at e2
    cases e2
    subst e1 e3
    exact ⟨H0', Same.refl _, Same.refl _, s2, fun a o q => .inl ⟨o, q⟩, kD_fz (List.all_eq_true.mp hk _ (List.mem_of_getElem? g))⟩
theorem _root_.L2.PS.or {X : Cx} {st : Stmt} {t t' : TS} (h : PS X st t) (h' : PS X st t') : PS X st (fun E σ H => t E σ H ∨ t' E σ H) := ⟨fun pins s σ H E I w => w.elim (h.run pins s σ H E I) (h'.run pins s σ H E I)⟩
/-- the walk over a dictionary that is held -/
theorem keys_core {gt : D → M Fl} {gb : M Fl} {td : TE} {W : WX} {E : Ends} {σ : L2.St} {ρ : En} {H0 H : Hp} {c : Co} {a : Addr} {ks : List D} {vs : List V} (l : Lies G.K G.mg H0 H c σ ρ) (hd : DctAt H0 a ks vs)
    (htd : ∀ Hx : Hp, (∀ b u, H b = some u → b ≠ a → Hx b = some u) → ∀ Q, Q (.ref a) Hx → td σ Hx Q) (o : OutS G.K G.mg W rm msA (msU as1 as2) H0 H c σ (noXc (gLoop gt gb ks ρ)) E) :
    tFor (iKeys td) (tG G.K G.mg as1 gt) (tS G.K G.mg W rm as2 gb) E σ H ∨ tLock (tFor (iKeys td) (tG G.K G.mg as1 gt) (tS G.K G.mg W rm as2 gb)) E σ H := by
  obtain ⟨kvs, h, hk, e1, e2⟩ := hd
  subst e1
  have cd : ∀ u, H0 a = some u → c a = none := fun u q => by
    cases e : c a with
    | none => rfl
    | some i => have := l.apart a i e; rw [q] at this; cases this
  have st : ∀ (od : Obj) (H0 H : Hp) (c : Co) (H0' H' : Hp) (c' : Co), (H a = some (.frz od (.dK kvs)) ∧ c a = none) → Step msA H0 H c H0' H' c' → (H' a = some (.frz od (.dK kvs)) ∧ c' a = none) := fun od H0 H c H0' H' c' p s =>
    ⟨s.keep a _ p.1 (fun i z => (by rw [p.2] at z; cases z)), (s.col a _ p.1 (fun i z => (by rw [p.2] at z; cases z))).trans p.2⟩
  rcases h with h | ⟨od, h⟩
  · refine .inr ⟨a, .dK kvs, l.sub _ _ h, trivial, fun od => ?_⟩
    refine htd _ (fun b u e n => by rw [upd_ne n]; exact e) _ ⟨a, od, rfl, .inl ⟨kvs, upd_same, ?_⟩⟩
    exact for_core (ds := kvs.map fun p => kD p.1) (ItOk.keys hk) ⟨upd_same, cd _ h⟩ (st od) (l.swp (swp_up h) (swp_up (l.sub _ _ h))) (OutS.lock l h o)
  · refine .inl (htd H (fun b u e _ => e) _ ⟨a, od, rfl, .inl ⟨kvs, l.sub _ _ h, ?_⟩⟩)
    refine for_core (ds := kvs.map fun p => kD p.1) (ItOk.keys hk) ⟨l.sub _ _ h, cd _ h⟩ (st od) l ?_
    cases hx : gLoop gt gb (kvs.map fun p => kD p.1) ρ with
    | ok fl r => rw [hx] at o; exact o
    | exc n ns vs r => rw [hx] at o; exact o.elim
    | bad => rw [hx] at o; exact o.elim
/-- for x in d, d a name of a frozen dictionary -/
def gForK (i : Nat) (gt : D → M Fl) (gb : M Fl) : M Fl := fun r => match getS r i with
  | some (.z, .dct ks _) => noXc (gLoop gt gb ks r)
  | _ => .bad
theorem VS.forK {x : Str} {p : Pos} {i : Nat} {tg : Expr} {body : List Stmt} {gt : D → M Fl} {gb : M Fl} (hg : VG G N S as1 tg gt) (hb : VSs G N S rm as2 body gb) (hc : S.cm = true := by rfl) (hs : ∀ env y, foldedSetIterable (.Name x p) env y = pure y := by intro _ _; rfl)
    (hN : N[i]? = some x := by rfl) (hv : Vis S.sc x := by first | exact Or.inl rfl | exact Or.inr (Or.inl rfl) | exact Or.inr (Or.inr rfl)) (hd : (x == ("__debug__" : Str)) = false := by decide) (hcd : (x == ("__classdict__" : Str)) = false := by decide) :
    VS G N S rm (msU as1 as2) (.For tg (.Name x p) body [] pos) (gForK i gt gb) := by
  refine fun R a W t => ?_
  have ps := ps_for (pos := pos) a.po (a.calm.trans hc) (pi_keys (tg := tg) (pe_var (pos := p) (i := i) hN (a.vis hv) hd hcd)) (hg R a) (hb R a W t) (hs _)
  refine (ps.or (ps_lock ps)).imp fun E σ H ⟨ρ, H0, c, l, o⟩ => ?_
  unfold gForK at o
  split at o
  · rename_i ks ds es
    obtain ⟨v, fp, e1, ow, _⟩ := l.slot i _ _ es
    obtain ⟨q, vs, ev, hd, _⟩ := (Ow.zero.mp ow).2
    subst ev
    exact keys_core l hd (fun Hx _ Q hq => ⟨_, e1, hq⟩) o
  · exact o.elim
/-- for x in y.f, the dictionary an attribute of a name's instance -/
def gForKA (i : Nat) (c f : Str) (gt : D → M Fl) (gb : M Fl) : M Fl := fun r => match getS r i with
  | some (.z, d) => (match atrD c f d with
    | some (.dct ks _) => noXc (gLoop gt gb ks r)
    | _ => .bad)
  | _ => .bad
theorem VS.forKA {x f cn : Str} {p p2 : Pos} {i : Nat} {tg : Expr} {body : List Stmt} {gt : D → M Fl} {gb : M Fl} (A : AtrX G cn f) (hg : VG G N S as1 tg gt) (hb : VSs G N S rm as2 body gb) (hc : S.cm = true := by rfl)
    (hba : ∀ env, attributeBase (.Name x p) f env (eval (.Name x p) env) = eval (.Name x p) env := by intro _; rfl)
    (hs : ∀ env y, foldedSetIterable (.Attribute (.Name x p) f p2) env y = pure y := by intro _ _; rfl)
    (hN : N[i]? = some x := by rfl) (hv : Vis S.sc x := by first | exact Or.inl rfl | exact Or.inr (Or.inl rfl) | exact Or.inr (Or.inr rfl)) (hd : (x == ("__debug__" : Str)) = false := by decide) (hcd : (x == ("__classdict__" : Str)) = false := by decide) :
    VS G N S rm (msU as1 as2) (.For tg (.Attribute (.Name x p) f p2) body [] pos) (gForKA i cn f gt gb) := by
  refine fun R a W t => ?_
  have ps := ps_for (pos := pos) a.po (a.calm.trans hc) (pi_keys (tg := tg) (pe_fld (pos := p2) (pe_var (pos := p) (i := i) hN (a.vis hv) hd hcd) (hba _))) (hg R a) (hb R a W t) (hs _)
  refine (ps.or (ps_lock ps)).imp fun E σ H ⟨ρ, H0, c, l, o⟩ => ?_
  unfold gForKA at o
  split at o
  · rename_i d es
    split at o
    · rename_i ks ds eat
      obtain ⟨v, fp, e1, ow, _⟩ := l.slot i _ _ es
      have fz := (Ow.zero.mp ow).2
      cases d <;> try (cases eat; done)
      rename_i c' ns xs
      have eat' : (if c' = cn then lkD f ns xs else none) = some (.dct ks ds) := eat
      by_cases ec : c' = cn
      · rw [if_pos ec] at eat'
        obtain ⟨q, C, dx, vs, ev, hm, hH, hl, fzs⟩ := fz
        obtain ⟨C', hm', cl, na⟩ := A.ex
        rw [ec, hm'] at hm
        cases hm
        obtain ⟨w, hw, a2, ws, e3, hd, _⟩ := lkD_ok fzs eat'
        subst e3 ev
        have nq : q ≠ a2 := fun z => by
          obtain ⟨kvs, rd, _⟩ := hd
          rcases rd with rd | ⟨_, rd⟩ <;> (rw [← z, hH] at rd; cases rd)
        exact keys_core l hd (fun Hx hx Q hq => ⟨_, e1, q, _, dx, _, _, rfl, hx _ _ (l.sub _ _ hH) nq, cl, na, hw, hq⟩) o
      · rw [if_neg ec] at eat'; cases eat'
    · exact o.elim
  · exact o.elim
end
end Vm
set_option Elab.async false
set_option linter.all false
set_option maxRecDepth 100000
set_option maxHeartbeats 4000000
/-! list(d), len(d), dict(pairs), {k: v}, abs; insert, pop -/
namespace Vm
open PySem PySem.Spec PyProof.Rows L2
section
variable {X : Cx}
def rLenD : List V → Hp → VK → Prop := fun xs H Q => ∃ a, ∃ kvs : List (Key × V), xs = [.ref a] ∧ Rd H a (.dK kvs) ∧ Q (.int kvs.length) H
theorem cr_lenD : CallR X (.builtin "len") rLenD := by
  intro pins s σ H xs us Q I r ⟨a, kvs, ex, hd, q⟩
  subst ex
  rw [Vals.ref1 r]
  exact d_len I hd fun t s' I' => ⟨.int kvs.length, H, I', ⟨_, rfl⟩, q⟩
end
def rListD : List V → Hp → VK → Prop := fun xs H Q => ∃ (a : Addr) (kvs : List (Key × V)), xs = [.ref a] ∧ Rd H a (.dK kvs) ∧ ∀ p, H p = none → Q (.ref p) (upd H p (.lst (kvs.map fun kv => kV kv.1)))
def rDictP (K : PySem.W.Frag) : List V → Hp → VK → Prop := fun xs H Q => ∃ (a : Addr) (ps : List Addr) (kvs : List (Key × V)), xs = [.ref a] ∧ SqL K H a (ps.map V.ref) ∧ Paired (fun p kv => SqT K H p [kV kv.1, kv.2]) ps kvs ∧
    ∀ p, H p = none → Q (.ref p) (upd H p (.dK (mergeK [] kvs)))
def oLenA : List D → Option D
  | [.dct ks _] => some (.int ks.length)
  | ds => oLen ds
def oListA : List D → Option D
  | [.dct ks _] => some (.lst ks)
  | ds => oList ds
/-- pairs of a key and a thing -/
def pairsD : List D → Option (List (Key × D))
  | [] => some []
  | .tup [k, d] :: r => (keyD k).bind fun k => if kOk k = true then (pairsD r).map ((k, d) :: ·) else none
  | _ => none
def mergeD (p : List D × List D) (kd : Key × D) : List D × List D := (putKs kd.1 p.1, putVs kd.1 kd.2 p.1 p.2)
def dictD (ps : List (Key × D)) : D := .dct (ps.foldl mergeD ([], [])).1 (ps.foldl mergeD ([], [])).2
def oDictP : List D → Option D
  | [.lst ds] => (pairsD ds).map dictD
  | _ => none
section
variable {K : PySem.W.Frag} {mg : Str → Option Value} {H0 H : Hp} {d : D} {Q : VK} {p : Addr}
theorem keys_fz {kvs : List (Key × V)} (h : (kvs.all fun p => kOk p.1) = true) : Fzs K mg H (kvs.map fun p => kD p.1) (kvs.map fun p => kV p.1) := by
  induction kvs with
  | nil => rfl
  | cons x kvs ih =>
    obtain ⟨h1, h2⟩ := Bool.and_eq_true_iff.mp (show (kOk x.1 && kvs.all fun p => kOk p.1) = true from h)
    exact ⟨_, _, rfl, kD_fz h1, ih h2⟩
theorem putK_ok {kvs : List (Key × V)} {k : Key} {v : V} (hk : (kvs.all fun p => kOk p.1) = true) (h : kOk k = true) : ((putK kvs k v).all fun p => kOk p.1) = true := by
  unfold putK
  split
  · rw [List.all_map]
    rw [List.all_eq_true] at hk ⊢
    intro y hy
    have := hk y hy
    simp only [Function.comp]
    split <;> exact this
  · rw [List.all_append, hk]
    simp [h]
theorem Fin.dct {m : Md} {kvs : List (Key × V)} {ds : List D} (hm : ZO m) (h : Fin K mg m H0 H (.dct (kvs.map fun p => kD p.1) ds) Q) (s : Same H0 H) (hk : (kvs.all fun p => kOk p.1) = true) (f : Fzs K mg H0 ds (kvs.map (·.2))) (hp : H p = none) : Q (.ref p) (upd H p (.dK kvs)) := by
  rcases hm with rfl | rfl
  · exact h.newz s hp ⟨p, _, rfl, ⟨kvs, .inl upd_same, hk, rfl, rfl⟩, Fzs.mono (same_upd0 (s.free hp)) ds _ f⟩
  · exact h.newo s hp ⟨p, _, [], rfl, rfl, ⟨kvs, upd_same, hk, rfl, rfl⟩, Ows.all_z.mpr ⟨rfl, f⟩⟩
theorem key_of_fz {k : Key} {v : V} (h : Fz K mg H d v) (e : keyD d = some k) : v = kV k := by
  cases d <;> simp [keyD] at e
  · subst e; exact h
  · subst e; exact h.1
theorem pairs_fz (s : Same H0 H) : ∀ {ds : List D} {vs : List V} {ps : List (Key × D)}, Fzs K mg H0 ds vs → pairsD ds = some ps → ∃ (as : List Addr) (kvs : List (Key × V)), vs = as.map V.ref ∧ Paired (fun p kv => SqT K H p [kV kv.1, kv.2]) as kvs ∧
    kvs.map (·.1) = ps.map (·.1) ∧ Fzs K mg H0 (ps.map (·.2)) (kvs.map (·.2)) ∧ ((kvs.all fun p => kOk p.1) = true)
  | [], vs, ps, h, e => by
    cases e
    exact ⟨[], [], h, .nil, rfl, rfl, rfl⟩
  | d :: ds, vs, ps, ⟨v, r, ev, h1, h2⟩, e => by
    cases d <;> first | (cases e; done) | skip
    rename_i xs
    match xs, h1, e with
    | [], _, e => cases e
    | [_], _, e => cases e
    | _ :: _ :: _ :: _, _, e => cases e
    | [k, x], h1, e =>
      obtain ⟨k', hk, e⟩ := Option.bind_eq_some_iff.mp (show (keyD k).bind (fun k => if kOk k = true then (pairsD ds).map ((k, x) :: ·) else none) = some ps from e)
      split at e
      · rename_i ok
        obtain ⟨qs, eq, e⟩ := Option.map_eq_some_iff.mp e
        subst e
        obtain ⟨as, kvs, e1, e2, e3, e4, e5⟩ := pairs_fz s h2 eq
        obtain ⟨a, ws, e6, st, w1, w2, e7, f1, w3, w4, e8, f2, e9⟩ := h1
        subst ev e6 e7 e8 e1
        rw [show w4 = [] from e9] at st
        have := key_of_fz f1 hk
        subst this
        refine ⟨a :: as, (k', w3) :: kvs, rfl, .cons (same_t s st) e2, by rw [List.map_cons, List.map_cons, e3], ⟨w3, _, rfl, f2, e4⟩, ?_⟩
        show (kOk k' && _) = true
        rw [ok, e5]; rfl
      · cases e
theorem merge_fz : ∀ {ps : List (Key × D)} {kvs acc : List (Key × V)} {p0 : List D × List D}, kvs.map (·.1) = ps.map (·.1) → Fzs K mg H (ps.map (·.2)) (kvs.map (·.2)) → ((kvs.all fun p => kOk p.1) = true) → p0.1 = acc.map (fun p => kD p.1) → Fzs K mg H p0.2 (acc.map (·.2)) → ((acc.all fun p => kOk p.1) = true) →
    (ps.foldl mergeD p0).1 = (mergeK acc kvs).map (fun p => kD p.1) ∧ Fzs K mg H (ps.foldl mergeD p0).2 ((mergeK acc kvs).map (·.2)) ∧ (((mergeK acc kvs).all fun p => kOk p.1) = true)
  | [], kvs, acc, p0, e1, _, _, e4, e5, e6 => by
    cases kvs with
    | nil => exact ⟨e4, e5, e6⟩
    | cons => cases e1
  | x :: ps, kvs, acc, p0, e1, e2, e3, e4, e5, e6 => by
    cases kvs with
    | nil => cases e1
    | cons y kvs =>
      obtain ⟨v, r, ev, h1, h2⟩ := e2
      cases ev
      obtain ⟨k1, k2⟩ := Bool.and_eq_true_iff.mp (show (kOk y.1 && kvs.all fun p => kOk p.1) = true from e3)
      have ey : y.1 = x.1 := (List.cons.inj e1).1
      refine merge_fz (ps := ps) (kvs := kvs) (acc := putK acc y.1 y.2) (p0 := mergeD p0 x) (List.cons.inj e1).2 h2 k2 ?_ ?_ (putK_ok e6 k1)
      · show putKs x.1 p0.1 = _
        rw [e4, ← ey, putKs_kvs]
      · show Fzs K mg H (putVs x.1 x.2 p0.1 p0.2) _
        rw [e4, ← ey]
        exact putVs_fz h1 acc p0.2 e5
end
section
variable {G : GC} {N : List Str} {S : SC} {bs bs1 bs2 ms ms1 ms2 ms3 as : Ms} {m me rm : Md} {k : Kd} {e a b : Expr} {es : List Expr} {f fa fb : M D} {fs : M (List D)} {pos p apos spos : Pos} {i : Nat} {x : Str}
theorem ru_lenA {m : Md} : RuA G (fun xs H Q => rLenD xs H Q ∨ rLen G.K xs H Q) m oLenA := by
  intro H0 H ds xs d Q s h ho f
  unfold oLenA at ho
  split at ho
  · obtain ⟨x, e, a, vs, e1, ⟨kvs, rd, hk, e2, e3⟩, g⟩ := shs_one h
    cases ho
    exact .inl ⟨a, kvs, by rw [e, e1], rd, f.atom s (by rw [e2, List.length_map]; rfl) rfl⟩
  · exact .inr (ru_len H0 H ds xs d Q s h ho f)
theorem ru_listA {m : Md} (hm : ZO m) : RuA G (fun xs H Q => rListD xs H Q ∨ rListOf G.K xs H Q) m oListA := by
  intro H0 H ds xs d Q s h ho f
  unfold oListA at ho
  split at ho
  · obtain ⟨x, e, a, vs, e1, ⟨kvs, rd, hk, e2, e3⟩, g⟩ := shs_one h
    cases ho
    subst e2
    exact .inl ⟨a, kvs, by rw [e, e1], rd, fun p hp => f.lst hm s (keys_fz hk) hp⟩
  · exact .inr (ru_list hm H0 H ds xs d Q s h ho f)
theorem ru_dictP {m : Md} (hm : ZO m) : RuA G (rDictP G.K) m oDictP := by
  intro H0 H ds xs d Q s h ho f
  unfold oDictP at ho
  split at ho
  · obtain ⟨x, e, a, vs, e1, k, g⟩ := shs_one h
    obtain ⟨ps, eps, e2⟩ := Option.map_eq_some_iff.mp ho
    subst e2
    obtain ⟨as, kvs, q1, q2, q3, q4, q5⟩ := pairs_fz s (Fzs.mono (Same.refl _) _ _ g) eps
    subst q1
    obtain ⟨r1, r2, r3⟩ := merge_fz (acc := []) (p0 := ([], [])) q3 q4 q5 rfl rfl rfl
    refine ⟨a, as, kvs, by rw [e, e1], .of k, q2, fun p hp => ?_⟩
    unfold dictD at f
    rw [r1] at f
    exact f.dct hm s r3 r2 hp
  · cases ho
theorem VO.lenA (hm : G.mg "len" = none) (ha : VA G N S bs ms (e :: es) fs) (hg : Glb S "len" := by rfl) (he : ∀ env, starEach (e :: es) env = (false, eval e env) :: starEach es env := by intro _; rfl) (hpl : ∀ env, (backTo pos (starEach es env)).any (·.1) = false := by intro _; rfl) :
    VO G N S .z ms (.Call (.Name "len" p) (e :: es) [] pos) (fA oLenA fs) := .callB (fun _ _ => cr_lenD.or call_len) ru_lenA hm boot_len ha hg (by decide) (by decide) he hpl
theorem VO.listA (hm : G.mg "list" = none) (ha : VA G N S bs ms (e :: es) fs) (hc : S.cm = true := by rfl) (hg : Glb S "list" := by rfl) (he : ∀ env, starEach (e :: es) env = (false, eval e env) :: starEach es env := by intro _; rfl) (hpl : ∀ env, (backTo pos (starEach es env)).any (·.1) = false := by intro _; rfl) :
    VO G N S m1 ms (.Call (.Name "list" p) (e :: es) [] pos) (fA oListA fs) := .callTy (fun _ a => (call_listD (a.calm.trans hc)).or call_list_of) (ru_listA (.inr rfl)) hm (by decide +kernel) ha hg (by decide) (by decide) he hpl
theorem VO.dictP (hm : G.mg "dict" = none) (ha : VA G N S bs ms (e :: es) fs) (hc : S.cm = true := by rfl) (hg : Glb S "dict" := by rfl) (he : ∀ env, starEach (e :: es) env = (false, eval e env) :: starEach es env := by intro _; rfl) (hpl : ∀ env, (backTo pos (starEach es env)).any (·.1) = false := by intro _; rfl) :
    VO G N S m1 ms (.Call (.Name "dict" p) (e :: es) [] pos) (fA oDictP fs) := .callTy (fun _ a => call_dictP (a.calm.trans hc)) (ru_dictP (.inr rfl)) hm (by decide +kernel) ha hg (by decide) (by decide) he hpl
def oAbs : List D → Option D
  | [.int i] => some (.int (if i < 0 then -i else i))
  | _ => none
theorem VO.abs (hm : G.mg "abs" = none) (ha : VA G N S bs ms (e :: es) fs) (hg : Glb S "abs" := by rfl) (he : ∀ env, starEach (e :: es) env = (false, eval e env) :: starEach es env := by intro _; rfl) (hpl : ∀ env, (backTo pos (starEach es env)).any (·.1) = false := by intro _; rfl) :
    VO G N S .z ms (.Call (.Name "abs" p) (e :: es) [] pos) (fA oAbs fs) := .callB (fun _ _ => call_abs) (fun H0 H ds xs d Q s h ho f => by
      unfold oAbs at ho
      split at ho
      · obtain ⟨x, e, h1⟩ := shs_one h
        cases ho
        have h1 : x = V.int _ := h1
        exact ⟨_, by rw [e, h1], f.atom s rfl rfl⟩
      · cases ho) hm (by decide +kernel) ha hg (by decide) (by decide) he hpl
theorem Step.amid {ms : Ms} {H0 H H0' H' : Hp} {c c' : Co} {q : Addr} {o1 o2 : HO} (s : Step ms H0 (upd H q o1) c H0' H' c') (hq : H q = none) : Step ms H0 H c H0' (upd H' q o2) c' := by
  have ne : ∀ a o, H a = some o → a ≠ q := fun a o e => ne_of_none e hq
  have nn : ∀ a, upd H q o1 a = none → H a = none := fun a e => by
    by_cases z : a = q
    · rw [z]; exact hq
    · rw [upd_ne z] at e; exact e
  refine ⟨fun a o e k => ?_, fun a o e k => s.col a o (by rw [upd_ne (ne a o e)]; exact e) k, s.grow, fun a o e => ?_, fun a i e => ?_⟩
  · rw [upd_ne (ne a o e)]; exact s.keep a o (by rw [upd_ne (ne a o e)]; exact e) k
  · rcases s.new0 a o e with z | z | z
    · exact .inl z
    · exact .inr (.inl (nn a z))
    · exact .inr (.inr z)
  · rcases s.newc a i e with z | ⟨w, z | z⟩
    · exact .inl z
    · exact .inr ⟨w, .inl (nn a z)⟩
    · exact .inr ⟨w, .inr z⟩
/-- {k: v} -/
def fDisp1 (fa fb : M D) : M D := fun r => (fa r).bind fun k r => (fb r).bind fun d r => (rM (keyD k) r).bind fun k r => if kOk k = true then .ok (.dct [kD k] [d]) r else .bad
theorem VO.disp1 (ha : VO G N S .z ms1 a fa) (hb : VO G N S .z ms2 b fb) : VO G N S m1 (msU ms1 ms2) (.Dict [some a] [b] pos) (fDisp1 fa fb) := by
  refine fun R s W t => (pe_disp (pps_cons (ha R s W t) (hb R s W t) pps_nil) rfl rfl (by simp) (by show 1 ≤ 15; decide)).imp fun σ H Q ⟨ρ, H0, c, l, o⟩ => ?_
  intro q hq
  have n0 : H0 q = none := l.n0 hq
  have nc : c q = none := l.nc hq
  have l1 : Lies G.K G.mg H0 (upd H q (.dK [])) c σ ρ := l.upd_new hq
  have o1 := o.on back_FO (Step.new (ms := msU ms1 ms2) (o := .dK []) hq)
  refine ⟨ρ, H0, c, l1, (Out.bind (G := FO G.K G.mg .z ms1) (ms1 := ms1) back_FO o1 fun i e => or_l e).imp fun x H1 ⟨d1, H01, c1, ρ1, e1, s1, l1', ⟨fp1, b1, _⟩, h1⟩ => ?_⟩
  have k1 : H1 q = some (.dK []) := s1.keep q _ upd_same fun i z => (by rw [nc] at z; cases z)
  have kc1 : c1 q = none := (s1.col q _ upd_same fun i z => (by rw [nc] at z; cases z)).trans nc
  have k01 : H01 q = none := by
    cases e : H01 q with
    | none => rfl
    | some u =>
      rcases s1.new0 q u e with ⟨w, z⟩ | z | ⟨i, z, _⟩
      · rw [n0] at z; cases z
      · rw [upd_same] at z; cases z
      · rw [nc] at z; cases z
  refine ⟨ρ1, H01, c1, l1', (Out.bind (G := FO G.K G.mg .z ms2) (ms1 := ms2) back_FO h1 fun i e => or_r e).imp fun y H2 ⟨d2, H02, c2, ρ2, e2, s2, l2, ⟨fp2, b2, _⟩, h2⟩ => ?_⟩
  have k2 : H2 q = some (.dK []) := s2.keep q _ k1 fun i z => (by rw [kc1] at z; cases z)
  have kc2 : c2 q = none := (s2.col q _ k1 fun i z => (by rw [kc1] at z; cases z)).trans kc1
  have k02 : H02 q = none := by
    cases e : H02 q with
    | none => rfl
    | some u =>
      rcases s2.new0 q u e with ⟨w, z⟩ | z | ⟨i, z, _⟩
      · rw [k01] at z; cases z
      · rw [k1] at z; cases z
      · rw [kc1] at z; cases z
  have f1 := Fz.mono s2.grow d1 x (Ow.zero.mp b1).2
  have f2 := (Ow.zero.mp b2).2
  cases hk : keyD d1 with
  | none => rw [hk] at h2; exact h2.elim
  | some kk =>
    rw [hk, rM_some, bind_ok] at h2
    by_cases ok : kOk kk = true
    · rw [if_pos ok] at h2
      have ex := key_of_fz f1 hk
      subst ex
      refine ⟨k2, [(kk, y)], rfl, by show 1 ≤ 15; decide, ?_⟩
      have e : fDisp1 fa fb ρ = .ok (.dct [kD kk] [d2]) ρ2 := by unfold fDisp1; rw [e1, bind_ok, e2, bind_ok, hk, rM_some, bind_ok, if_pos ok]
      rw [e] at o
      have st := Step.amid (o2 := .dK (mergeK [] [(kk, y)])) ((s1.mono (ms' := msU ms1 ms2) fun i e => or_l e).trans (s2.mono fun i e => or_r e)) hq
      exact o (.ref q) H02 _ c2 st (l2.other kc2 k02) ⟨[q], ⟨q, [y], [], rfl, rfl, ⟨[(kk, y)], upd_same, by simp [ok], rfl, rfl⟩, Ows.all_z.mpr ⟨rfl, y, [], rfl, f2, rfl⟩⟩, by simp, fun b hb => (by rw [List.mem_singleton.mp hb]; exact kc2), fun b hb => (by rw [List.mem_singleton.mp hb]; exact k02), fun b hb => (by rw [List.mem_singleton.mp hb]; exact ⟨_, upd_same⟩), fun b hb => (by rw [List.mem_singleton.mp hb]; exact .inl hq)⟩
    · rw [if_neg ok] at h2
      exact h2.elim
end
end Vm
set_option Elab.async false
set_option linter.all false
set_option maxRecDepth 100000
set_option maxHeartbeats 4000000
/-! classes: methods from what the top wrote, instances made, attributes written -/
namespace Vm
open PySem PySem.Spec PyProof.Rows L2
structure MkX (G : GC) (c : Str) (k : Nat) (ps : List Str) (F : M D) : Prop where
  ex : ∃ C f fd, G.mg c = some (.ref C) ∧ Mk G.K C f ∧ Binds G.K fd ps [] ∧ FnV G k f fd ps .z F
section
variable {fa : List He.Fa} {fn : List He.DefD} {cs : List (Str × D)} {G : GC}
theorem MetX.mk' (Y : Ye fa fn cs G) (i jg jc jm : Nat) {d : He.DefD} {c m : Str} {k : Nat} {N ps : List Str} {rm : Md} {g : M Fl} {as : Ms} (io : List Bool) (n : Nat) (hb : VSs G N ⟨d.scope, fun _ => true, k, true⟩ rm as d.body g)
    (hbi : ∀ (kV doc pm : Value) (an : Option Addr) (cdv ct : Value) (us : List Value), us.length = ps.length → bindArgs (PySem.W.fnOf d.name d.qual d.params d.body d.scope .none kV doc pm an cdv ct) ⟨us, []⟩ = pure (ps.zip us))
    (Sc : FnScope N ps d.scope) (hd : fn[i]? = some d := by rfl) (hg : fa[jg]? = some (.glo c) := by rfl) (hc : fa[jc]? = some (.cls c) := by rfl) (hm : fa[jm]? = some (.meth c m) := by rfl) (hx : d.at_ = (c, some m) := by rfl) (h0 : d.dfl = [] := by rfl) (hio : io.length = ps.length := by rfl) (hn : N.length = ps.length + n := by rfl)
    (has : ∀ i, io.getD i false = true → as i = false := by intro i h; rcases i with _ | _ | _ | _ | _ | _ | i <;> first | rfl | (cases h)) : MetX G c m (k + 1) ps rm (fnRun io n g) := by
  obtain ⟨h, X, Nn⟩ := Y.h
  obtain ⟨fd, F⟩ := Y.s.d.def_ i hd
  have e0 : d.dvs G.K = [] := by unfold He.DefD.dvs; rw [h0]; rfl
  rw [e0] at F
  have ea : He.fAd G.K d.at_ = He.ma G.K (He.ga G.K c) m := by rw [hx]; rfl
  refine ⟨_, _, fd, He.glo_ok X Nn (Y.fact jg hg), He.cls_ok (Y.fact jc hc), He.meth_ok (Y.fact jm hm), ?_⟩
  rw [← ea]
  exact ⟨F.bindsN hbi, FnV.mk F Sc io n hb hio hn has⟩
theorem MkX.mk' (Y : Ye fa fn cs G) (i jg jm : Nat) {d : He.DefD} {c : Str} {k : Nat} {N ps : List Str} {g : M Fl} {as : Ms} (io : List Bool) (n : Nat) (hb : VSs G N ⟨d.scope, fun _ => true, k, true⟩ .z as d.body g)
    (hbi : ∀ (kV doc pm : Value) (an : Option Addr) (cdv ct : Value) (us : List Value), us.length = ps.length → bindArgs (PySem.W.fnOf d.name d.qual d.params d.body d.scope .none kV doc pm an cdv ct) ⟨us, []⟩ = pure (ps.zip us))
    (Sc : FnScope N ps d.scope) (hd : fn[i]? = some d := by rfl) (hg : fa[jg]? = some (.glo c) := by rfl) (hm : fa[jm]? = some (.mkr c) := by rfl) (hx : d.at_ = (c, some ("__init__" : Str)) := by rfl) (h0 : d.dfl = [] := by rfl) (hio : io.length = ps.length := by rfl) (hn : N.length = ps.length + n := by rfl)
    (has : ∀ i, io.getD i false = true → as i = false := by intro i h; rcases i with _ | _ | _ | _ | _ | _ | i <;> first | rfl | (cases h)) : MkX G c (k + 1) ps (fnRun io n g) := by
  obtain ⟨h, X, Nn⟩ := Y.h
  obtain ⟨fd, F⟩ := Y.s.d.def_ i hd
  have e0 : d.dvs G.K = [] := by unfold He.DefD.dvs; rw [h0]; rfl
  rw [e0] at F
  have ea : He.fAd G.K d.at_ = He.ma G.K (He.ga G.K c) "__init__" := by rw [hx]; rfl
  refine ⟨_, _, fd, He.glo_ok X Nn (Y.fact jg hg), He.mkr_ok (Y.fact jm hm), ?_⟩
  rw [← ea]
  exact ⟨F.bindsN hbi, FnV.mk F Sc io n hb hio hn has⟩
end
/-! ### an instance is made -/
section
variable {X : Cx} {CX : CXT} {k : Nat} {f C : Addr} {fd : FuncData} {ps : List Str} {sp : Sp} {E : L2.St → XK} {x : Str} {p pos : Pos} {e : Expr} {es : List Expr} {t : TA}
theorem run_makeS {pins : List (Addr × Obj)} {σ : L2.St} {H : Hp} {s : Shared} {Q : VK} {us : List Value} {vs : List V} (M : Mk X.K C f) (F : FnOk X.prog X.w X.K X.mg X.base CX k f fd ps sp) (hr : Room (k + 1) X.A) (hb : Binds X.K fd ps []) (hx : PassesAt CX X σ (E σ)) (I : Inv X pins σ H s) (r : Vals vs us)
    (h : ∀ a dx, H a = none → H dx = none → dx ≠ a → sp (.ref a :: vs) (upd (upd H dx (.own a)) a (.ins C dx [])) (fun v H2 => v = .non ∧ Q (.ref a) H2) (E σ)) :
    wpAny (model X.prog X.w) X.A (call (.ref C) us) (EP X pins σ Q) X.xe s := by
  have hq := h (s.heap.objs.size + 1) s.heap.objs.size (I.hok.fresh (Nat.le_succ _)) (I.hok.fresh (Nat.le_refl _)) (Nat.ne_of_lt (Nat.lt_succ_self _))
  have I2 := Inv.made (C := C) I
  have r2 : Vals (V.ref (s.heap.objs.size + 1) :: vs) (Value.ref (s.heap.objs.size + 1) :: us) := .cons rfl r
  have hl : (Value.ref (s.heap.objs.size + 1) :: us ++ []).length = ps.length := by
    rw [List.append_nil]
    have e := r2.length
    rw [F.len _ _ _ _ hq] at e
    exact e.symm
  have hbb := hb _ (Value.ref (s.heap.objs.size + 1) :: us) I2.kIn hl
  rw [List.append_nil] at hbb
  refine wpAny_call (make_map (f := f) I.kIn M.makes M.init (beq_iff_eq.mp M.fn) (codeAny_mono (F.run _ X.stack _ _ ⟨Value.ref (s.heap.objs.size + 1) :: us, []⟩ (Value.ref (s.heap.objs.size + 1) :: us) _ _ (E σ) (hr.make C us []) (I2.env0.make C us []) hbb r2 hq) fun r s' hq' => ?_))
  cases r with
  | error e => exact hx pins _ _ e s' I2 hq'
  | ok fl =>
    cases fl with
    | ret u =>
      obtain ⟨v, H', I3, rv, ev, q3⟩ := I2.after hq'
      subst ev
      exact ⟨rv, ⟨V.ref (s.heap.objs.size + 1), H', I3, rfl, q3⟩⟩
    | next => exact False.elim hq'
    | brk => exact False.elim hq'
    | cont => exact False.elim hq'
theorem pe_makeS (M : Mk X.K C f) (F : FnOk X.prog X.w X.K X.mg X.base CX k f fd ps sp) (hr : Room (k + 1) X.A) (hg : Gl X x) (hm : X.mg x = some (.ref C)) (hb : Binds X.K fd ps []) (hx : ∀ σ, PassesAt CX X σ (E σ)) (ha : PA X (e :: es) t)
    (hdb : (x == ("__debug__" : Str)) = false) (he : starEach (e :: es) X.env = (false, eval e X.env) :: starEach es X.env) (hpl : (backTo pos (starEach es X.env)).any (·.1) = false) :
    PE X (.Call (.Name x p) (e :: es) [] pos) (fun σ H Q => t σ H fun vs H1 => ∀ a dx, H1 a = none → H1 dx = none → dx ≠ a → sp (.ref a :: vs) (upd (upd H1 dx (.own a)) a (.ins C dx [])) (fun v H2 => v = .non ∧ Q (.ref a) H2) (E σ)) := by
  refine ⟨fun pins s σ H Q I h => ?_⟩
  refine wpAny_Call_Name_kw (ld_glob I hg hm ?_ hdb)
  refine PySem.W.callWith_K (h₀ := X.base) I.ok.mod.kin M.kp (thn (ha.run pos pins s σ H _ I h) fun us s1 ⟨vs, H1, I1, r, q⟩ => ⟨I1.kIn, ?_⟩) he hpl
  exact run_makeS M F hr hb (hx σ) I1 r q
end
/-- a new instance of c: what __init__ leaves in the slot of self -/
def fMake (c : Str) (F : M D) (ls : List (Option Nat)) (fs : M (List D)) : M D := fun r => (fs r).bind fun ds r => match F (some (.o (.all m1), .ins c [] []) :: mkArgs ls ds r) with
  | .ok .non (some (_, d) :: _) => .ok d r
  | .exc n ns vs _ => .exc n ns vs r
  | _ => .bad
section
variable {G : GC} {N : List Str} {S : SC} {bs ms ms1 ms2 : Ms} {e a b : Expr} {es : List Expr} {f fa fb fe : M D} {fs : M (List D)} {pos p : Pos} {c x : Str} {k : Nat} {ps : List Str} {F : M D} {ls : List (Option Nat)}
theorem make_core {W : WX} {σ : L2.St} {H : Hp} {Q : VK} (hn : ls.filterMap id = []) (hl : ls.length + 1 = ps.length) {C : Addr} (hc : G.mg c = some (.ref C)) (h : tR G.K G.mg W (FO G.K G.mg .z ms) ms (fMake c F ls fs) σ H Q) :
    tAM G.K G.mg W ls ms fs σ H fun vs H1 => ∀ a dx, H1 a = none → H1 dx = none → dx ≠ a → spV G F ps.length .z (.ref a :: vs) (upd (upd H1 dx (.own a)) a (.ins C dx [])) (fun v H2 => v = .non ∧ Q (.ref a) H2) (WE W σ) := by
  obtain ⟨ρ, H0, cc, l, o⟩ := h
  refine ⟨ρ, H0, cc, l, (Out.bind (G := FAM G.K G.mg σ ls) (ms1 := ms) back_FO o fun i e => e).imp fun vs H1 ⟨ds, H01, c1, ρ1, e1, s1, l1, am, o1⟩ => fun a dx ha hdx hne => ?_⟩
  obtain ⟨_, hv⟩ := mkArgs_len (r := ρ1) am
  have le := l1.enter (ls := ls) (by rw [hn]; exact List.nodup_nil) am
  have cn : ∀ b, coIn ls c1 b = none := fun b => by
    cases q : coIn ls c1 b with
    | none => rfl
    | some j =>
      obtain ⟨i, _, hj, _⟩ := coIn_some q
      have : i ∈ ls.filterMap id := List.mem_filterMap.mpr ⟨some i, List.mem_of_getElem? hj, rfl⟩
      rw [hn] at this; cases this
  let c2 : Co := fun b => if b = a then some 0 else none
  have c2a : c2 a = some 0 := if_pos rfl
  have c2n : ∀ b i, c2 b = some i → b = a ∧ i = 0 := fun b i q => by
    by_cases z : b = a
    · subst z; rw [c2a] at q; exact ⟨rfl, (Option.some.inj q).symm⟩
    · rw [show c2 b = none from if_neg z] at q; cases q
  have sm : Same H1 (upd (upd H1 dx (.own a)) a (.ins C dx [])) := fun b u q => by rw [upd_ne (ne_of_none q ha), upd_ne (ne_of_none q hdx)]; exact q
  have nn : ∀ b, upd (upd H1 dx (.own a)) a (.ins C dx []) b = none → H1 b = none := fun b q => by
    by_cases z : b = a
    · rw [z]; exact ha
    · rw [upd_ne z] at q
      by_cases w : b = dx
      · rw [w]; exact hdx
      · rw [upd_ne w] at q; exact q
  have l2 : Lies G.K G.mg H01 (upd (upd H1 dx (.own a)) a (.ins C dx [])) c2 (((.ref a :: vs : List V)).map some) (some (.o (.all m1), .ins c [] []) :: mkArgs ls ds ρ1) := by
    refine ⟨l1.sub.trans sm, fun b i q => ?_, fun b i q => ?_, ?_, fun i m d q => ?_⟩
    · rw [(c2n b i q).1]; exact l1.sub.free ha
    · rw [(c2n b i q).1]; exact ⟨_, upd_same⟩
    · have := le.len
      rw [List.length_map] at this
      rw [List.length_cons, this, List.length_map, List.length_cons]
    · cases i with
      | zero =>
        cases q
        exact ⟨.ref a, [a], rfl, ⟨a, C, dx, [], [], rfl, rfl, hc, upd_same, rfl, rfl, rfl⟩, by simp, fun b hb => by rw [List.mem_singleton.mp hb]; exact c2a⟩
      | succ i =>
        obtain ⟨v, fp, q1, ow, nd, hq⟩ := le.slot i m d (by simpa [getS] using q)
        have ef : fp = [] := by
          cases fp with
          | nil => rfl
          | cons b _ => have := hq b List.mem_cons_self; rw [cn b] at this; cases this
        subst ef
        exact ⟨v, [], by simpa using q1, Ow.mono (Same.refl _) d m v [] (by simp) ow, nd, by simp⟩
  refine ⟨by rw [List.length_cons, hv]; exact hl, _, H01, c2, l2, ?_⟩
  -- back at the caller
  have back : ∀ (H0' H' : Hp) (c' : Co) (fp : List Addr), Step msA H01 (upd (upd H1 dx (.own a)) a (.ins C dx [])) c2 H0' H' c' → Same H0' H' → (∀ b ∈ fp, c' b = some 0) → Step ms H01 H1 c1 (ext H0' H' fp) H' c1 ∧ Lies G.K G.mg (ext H0' H' fp) H' c1 σ ρ1 := by
    intro H0' H' c' fp s sub hfp
    have keep : ∀ b u, H1 b = some u → H' b = some u := fun b u q => s.keep b u (sm b u q) fun i z => absurd (c2n b i z).1 (ne_of_none q ha)
    have new0 : ∀ b u, H0' b = some u → (∃ w, H01 b = some w) ∨ H1 b = none := fun b u q => by
      rcases s.new0 b u q with z | z | ⟨i, z, _⟩
      · exact .inl z
      · exact .inr (nn b z)
      · rw [(c2n b i z).1]; exact .inr ha
    have newf : ∀ b ∈ fp, H1 b = none := fun b hb => by
      rcases s.newc b 0 (hfp b hb) with z | ⟨_, z | ⟨j, z, _⟩⟩
      · rw [(c2n b 0 z).1]; exact ha
      · exact nn b z
      · rw [(c2n b j z).1]; exact ha
    have gr : Same H01 (ext H0' H' fp) := s.grow.trans (same_ext sub)
    refine ⟨⟨fun b u q _ => keep b u q, fun _ _ _ _ => rfl, gr, fun b u q => ?_, fun _ _ q => .inl q⟩, ⟨ext_same sub, fun b i q => ?_, fun b i q => ?_, l1.len, fun i m d q => ?_⟩⟩
    · by_cases z : b ∈ fp
      · exact .inr (.inl (newf b z))
      · rw [ext_out z] at q
        exact (new0 b u q).imp id .inl
    · obtain ⟨u, hu⟩ := l1.there b i q
      have nf : b ∉ fp := fun z => by rw [newf b z] at hu; cases hu
      rw [ext_out nf]
      cases w : H0' b with
      | none => rfl
      | some y =>
        rcases new0 b y w with ⟨_, z⟩ | z
        · rw [l1.apart b i q] at z; cases z
        · rw [z] at hu; cases hu
    · obtain ⟨u, hu⟩ := l1.there b i q
      exact ⟨u, keep b u hu⟩
    · obtain ⟨v, g, q1, ow, nd, hq⟩ := l1.slot i m d q
      exact ⟨v, g, q1, Ow.mono gr d m v g (fun b hb => by
        obtain ⟨u, hu⟩ := l1.there b i (hq b hb)
        rw [hu, keep b u hu]) ow, nd, hq⟩
  have o2 : Out G.K G.mg W (FO G.K G.mg .z ms) ms H01 H1 c1 σ (match F (some (.o (.all m1), .ins c [] []) :: mkArgs ls ds ρ1) with
    | .ok .non (some (_, d) :: _) => .ok d ρ1
    | .exc n ns vs _ => .exc n ns vs ρ1
    | _ => .bad) Q := o1
  cases hF : F (some (.o (.all m1), .ins c [] []) :: mkArgs ls ds ρ1) with
  | ok d rp =>
    rw [hF] at o2
    cases d <;> first | exact o2.elim | skip
    cases rp with
    | nil => exact o2.elim
    | cons s0 rp =>
      cases s0 with
      | none => exact o2.elim
      | some md =>
        obtain ⟨m, d⟩ := md
        intro v H0' H' c' s l' ⟨fp, ow, fr⟩
        refine ⟨(Ow.zero.mp ow).2, ?_⟩
        obtain ⟨w, g, q1, ow', nd, hq⟩ := l'.slot 0 m d rfl
        have ew : w = .ref a := (Option.some.inj (Option.some.inj q1)).symm
        subst ew
        obtain ⟨st, li⟩ := back H0' H' c' g s l'.sub hq
        exact o2 (.ref a) (ext H0' H' g) H' c1 st li (ow_zero_fo (Ow.frz l'.sub d m _ g ow'))
  | exc n ns es rp =>
    rw [hF] at o2
    intro cls dx' H0' H' c' s l' ex
    obtain ⟨st, li⟩ := back H0' H' c' [] s l'.sub (by simp)
    rw [ext_nil] at st li
    exact o2 cls dx' H0' H' c1 st li ex
  | bad => rw [hF] at o2; exact o2.elim
theorem VO.make (M : MkX G c k ps F) (ha : VM G N S ls ms (e :: es) fs) (hk' : k + 1 ≤ S.k := by decide) (hcm : S.cm = true := by rfl) (hn : ls.filterMap id = [] := by rfl) (hl : ls.length + 1 = ps.length := by rfl) (hg : Glb S c := by rfl)
    (hdb : (c == ("__debug__" : Str)) = false := by decide) (he : ∀ env, starEach (e :: es) env = (false, eval e env) :: starEach es env := by intro _; rfl) (hpl : ∀ env, (backTo pos (starEach es env)).any (·.1) = false := by intro _; rfl) :
    VO G N S .z ms (.Call (.Name c p) (e :: es) [] pos) (fMake c F ls fs) := by
  obtain ⟨C, f, fd, hC, hM, hb, hF⟩ := M.ex
  exact fun R a W t => (pe_makeS hM hF ((a.room hcm).mono hk') (a.gl hg) hC hb (fun σ => passAt t σ) (ha R a W t) hdb (he _) (hpl _)).imp fun σ H Q h => make_core hn hl hC h
end
/-! ### attributes of an instance of one's own -/
/-- an instance of one's own, its attributes things of one's own -/
def inS (c : Str) : Sl → Option (List Str × List D)
  | some (.o (.all m), .ins c' ns vs) => if mdEq m m1 = true ∧ c' = c then some (ns, vs) else none
  | _ => none
theorem inS_ok {c : Str} {s : Sl} {ns : List Str} {vs : List D} (h : inS c s = some (ns, vs)) : s = some (.o (.all m1), .ins c ns vs) := by
  unfold inS at h
  split at h
  · split at h
    · rename_i q
      cases h
      rw [mdEq_ok q.1, q.2]
    · cases h
  · cases h
def setI (f : Str) (d : D) (p : List Str × List D) : Option (List Str × List D) := if p.1.contains f = false ∧ p.1.length < 900 then some (p.1 ++ [f], p.2 ++ [d]) else none
/-- x.f = e, a new attribute -/
def gISet (i : Nat) (c f : Str) (fe : M D) : M Fl := fun r => (fe r).bind fun d r => (rM (inS c (getS r i)) r).bind fun p r => (rM (setI f d p) r).bind fun p' r => .ok .nx (r.set i (some (.o (.all m1), .ins c p'.1 p'.2)))
theorem putF_new {f : Str} {y : V} : ∀ {ns : List Str} {vs : List V}, ns.contains f = false → ns.length = vs.length → putF f y (ns.zip vs) = (ns ++ [f]).zip (vs ++ [y])
  | [], [], _, _ => rfl
  | x :: ns, v :: vs, h, hl => by
    have h' : (f == x || ns.contains f) = false := by simpa [List.contains_cons] using h
    obtain ⟨h1, h2⟩ := Bool.or_eq_false_iff.mp h'
    have nx : ¬ x = f := fun e => by rw [e] at h1; simp at h1
    show (if x = f then _ else _) = _
    rw [if_neg nx]
    have ih := putF_new (f := f) (y := y) (ns := ns) (vs := vs) h2 (by simpa using hl)
    have ih' : putF f y (List.zipWith Prod.mk ns vs) = (ns ++ [f]).zip (vs ++ [y]) := ih
    rw [ih']
    rfl
  | [], _ :: _, _, hl => by cases hl
  | _ :: _, [], _, hl => by cases hl
theorem Ows.len {K : PySem.W.Frag} {mg : Str → Option Value} {H0 H : Hp} : ∀ {ds : List D} {k : Kd} {vs : List V} {fp : List Addr}, Ows K mg H0 H ds k vs fp → vs.length = ds.length
  | [], _, _, _, h => by rw [h.1]; rfl
  | _ :: _, _, _, _, ⟨v, r, f, g, e, _, _, t⟩ => by rw [e, List.length_cons, List.length_cons, Ows.len t]
section
variable {G : GC} {N : List Str} {S : SC} {bs ms ms1 ms2 : Ms} {m rm : Md} {e a b : Expr} {fa fb fe : M D} {pos p spos tpos : Pos} {c f x : Str} {i : Nat}
theorem VS.iset (A : AtrX G c f) (he : VO G N S m1 ms e fe)
    (hN : N[i]? = some x := by rfl) (hv : Vis S.sc x := by first | exact Or.inl rfl | exact Or.inr (Or.inl rfl) | exact Or.inr (Or.inr rfl)) (hd : (x == ("__debug__" : Str)) = false := by decide) (hcd : (x == ("__classdict__" : Str)) = false := by decide)
    (hs : ∀ env, swapsWith e (some (.Attribute (.Name x p) f tpos)) spos.line env = pure false := by intro _; rfl) :
    VS G N S rm ms0 (.Assign [.Attribute (.Name x p) f tpos] e spos) (gISet i c f fe) := by
  refine fun R at_ W t => (ps_fld (pe_var (i := i) hN (at_.vis hv) hd hcd) (he R at_ W t) (hs _)).imp fun D σ H ⟨ρ, H0, cc, l, o⟩ => ?_
  refine ⟨ρ, H0, cc, l, (OutS.expr (F := FO G.K G.mg m1 ms) o).imp fun v H1 ⟨d, H01, c1, ρ1, e1, s1, l1, ⟨fp, ow, fr⟩, o1⟩ => ?_⟩
  clear o1
  have o : OutS G.K G.mg W rm msA ms0 H0 H cc σ ((fe ρ).bind fun d r => (rM (inS c (getS r i)) r).bind fun p r => (rM (setI f d p) r).bind fun p' r => .ok .nx (r.set i (some (.o (.all m1), .ins c p'.1 p'.2)))) D := o
  rw [e1, bind_ok] at o
  cases hp : inS c (getS ρ1 i) with
  | none => rw [hp] at o; exact o.elim
  | some pr =>
    obtain ⟨ns, vs⟩ := pr
    rw [hp, rM_some, bind_ok] at o
    cases hq : setI f d (ns, vs) with
    | none => rw [hq] at o; exact o.elim
    | some pr' =>
      rw [hq, rM_some, bind_ok] at o
      unfold setI at hq
      split at hq
      · rename_i hh
        cases hq
        obtain ⟨w, g0, q1, ⟨q, C, dx, us, g, ew, ef, hm, hH, hlen, ows⟩, nd, hc⟩ := l1.slot i _ _ (inS_ok hp)
        subst ew ef
        obtain ⟨C', hm', cl, na⟩ := A.ex
        have eC : C = C' := by rw [hm'] at hm; exact (Value.ref.inj (Option.some.inj hm)).symm
        subst eC
        have hul := Ows.len ows
        have dj : ∀ b ∈ fp, b ∉ q :: g := fun b hb z => by have := fr.nc b hb; rw [hc b z] at this; cases this
        have nq : q ∉ g := (List.nodup_cons.mp nd).1
        have ch : ∀ b, (upd H1 q (.ins C dx (putF f v (ns.zip us)))) b ≠ H1 b → b = q := fun b n => Classical.byContradiction fun z => n (upd_ne z)
        have cq : c1 q = some i := hc q List.mem_cons_self
        refine ⟨.ref q, q1, q, C, dx, _, rfl, hH, cl, na, ?_, ?_⟩
        · have := hh.2; dsimp only at this; rw [List.length_zip]; omega
        · have ows' : Ows G.K G.mg H01 (upd H1 q (.ins C dx (putF f v (ns.zip us)))) (vs ++ [d]) (.all m1) (us ++ [v]) (g ++ fp) :=
            Ows.snoc (Ows.mono (Same.refl _) vs _ us g (fun b hb => upd_ne fun z => nq (z ▸ hb)) ows) (Ow.mono (Same.refl _) d m1 v fp (fun b hb => upd_ne fun z => dj b hb (by rw [z]; exact List.mem_cons_self)) ow)
          have nd' : (q :: (g ++ fp)).Nodup := by
            refine List.nodup_cons.mpr ⟨fun z => ?_, List.nodup_append.mpr ⟨(List.nodup_cons.mp nd).2, fr.nd, fun b hb b' hb' e => dj b' hb' (by rw [← e]; exact List.mem_cons_of_mem _ hb)⟩⟩
            rcases List.mem_append.mp z with z | z
            · exact nq z
            · exact dj q z List.mem_cons_self
          have mem : ∀ b ∈ q :: (g ++ fp), c1 b = some i ∨ b ∈ fp := fun b hb => by
            rcases List.mem_cons.mp hb with z | z
            · rw [z]; exact .inl cq
            · rcases List.mem_append.mp z with z | z
              · exact .inl (hc b (List.mem_cons_of_mem _ z))
              · exact .inr z
          refine o σ H01 _ (coSet c1 i (q :: (g ++ fp))) ((s1.mono (ms' := msA) fun _ _ => rfl).modify rfl (fun b n => by rw [ch b n]; exact .inl cq) fun b hb => ?_) (l1.modify q1 (fun b n => by rw [ch b n]; exact .inl cq) (fun b o e => ?_) ⟨q, C, dx, us ++ [v], g ++ fp, rfl, rfl, hm', by rw [upd_same, putF_new hh.1 (hlen.trans hul.symm)], by rw [List.length_append, List.length_append, hlen]; rfl, ows'⟩ nd' (fun b hb => ?_) (fun b hb => ?_) fun b hb => ?_) .refl
          · rcases mem b hb with z | z
            · exact .inl z
            · exact .inr ((fr.new b z).imp id fun ⟨j, w, _⟩ => ⟨j, w, rfl⟩)
          · by_cases z : b = q
            · rw [z]; exact ⟨_, upd_same⟩
            · rw [upd_ne z]; exact ⟨o, e⟩
          · rcases mem b hb with z | z
            · exact .inr z
            · exact .inl (fr.nc b z)
          · rcases mem b hb with z | z
            · exact l1.apart b i z
            · exact fr.n0 b z
          · by_cases z : b = q
            · rw [z]; exact ⟨_, upd_same⟩
            · rw [upd_ne z]
              rcases mem b hb with w | w
              · exact l1.there b i w
              · exact fr.there b w
      · cases hq
/-- an instance of one's own with one attribute, a dictionary -/
def idS (c f : Str) : Sl → Option (List D × List D)
  | some (.o (.all m), .ins c' [f'] [.dct ks vs]) => if mdEq m m1 = true ∧ c' = c ∧ f' = f then some (ks, vs) else none
  | _ => none
theorem idS_ok {c f : Str} {s : Sl} {ks vs : List D} (h : idS c f s = some (ks, vs)) : s = some (.o (.all m1), .ins c [f] [.dct ks vs]) := by
  unfold idS at h
  split at h
  · split at h
    · rename_i q
      cases h
      rw [mdEq_ok q.1, q.2.1, q.2.2]
    · cases h
  · cases h
/-- x.f[k] = e -/
def gIPut (i : Nat) (c f : Str) (fv fk : M D) : M Fl := fun r => (fv r).bind fun d r => (rM (idS c f (getS r i)) r).bind fun _ r => (fk r).bind fun j r => (rM (idS c f (getS r i)) r).bind fun p r => (rM (dPutO j d p) r).bind fun p' r => .ok .nx (r.set i (some (.o (.all m1), .ins c [f] [.dct p'.1 p'.2])))
theorem id_at {K : PySem.W.Frag} {mg : Str → Option Value} {H0 H : Hp} {cc : Co} {σ : L2.St} {ρ : En} {ks ds : List D} (l : Lies K mg H0 H cc σ ρ) (h : idS c f (getS ρ i) = some (ks, ds)) :
    ∃ a C dx q kvs, σ[i]? = some (some (.ref a)) ∧ mg c = some (.ref C) ∧ H a = some (.ins C dx [(f, .ref q)]) ∧ H q = some (.dK kvs) ∧ (kvs.all fun p => kOk p.1) = true ∧ ks = kvs.map (fun p => kD p.1) ∧ Fzs K mg H0 ds (kvs.map (·.2)) ∧ cc a = some i ∧ cc q = some i ∧ a ≠ q := by
  obtain ⟨v, fp, e1, ⟨a, C, dx, us, g, e2, e3, hm, hH, hl, v1, r1, f1, g1, e4, e5, ⟨q, ws, h1, e6, e7, ⟨kvs, k1, hk, hks, hvs⟩, hw⟩, er, eg⟩, nd, hc⟩ := l.slot i _ _ (idS_ok h)
  subst e2 e3 e4 e5 e6 e7 hvs er eg
  have nq : a ≠ q := fun z => (List.nodup_cons.mp nd).1 (by rw [z]; simp)
  exact ⟨a, C, dx, q, kvs, e1, hm, hH, k1, hk, hks, (Ows.all_z.mp hw).2, hc a List.mem_cons_self, hc q (by simp), nq⟩
theorem VS.iput (A : AtrX G c f) (he : VO G N S .z ms1 a fa) (hi : VO G N S .z ms2 b fb) (hcm : S.cm = true := by rfl) (hms : ms2 i = false := by rfl) {p2 : Pos}
    (hN : N[i]? = some x := by rfl) (hv : Vis S.sc x := by first | exact Or.inl rfl | exact Or.inr (Or.inl rfl) | exact Or.inr (Or.inr rfl)) (hd : (x == ("__debug__" : Str)) = false := by decide) (hcd : (x == ("__classdict__" : Str)) = false := by decide)
    (hba : ∀ env, attributeBase (.Name x p) f env (eval (.Name x p) env) = eval (.Name x p) env := by intro _; rfl)
    (hs : ∀ env, swapsWithSole [.Subscript (.Attribute (.Name x p) f p2) b tpos] a spos.line env = pure false := by intro _; rfl) (hw : ∀ env, swappedStores [.Subscript (.Attribute (.Name x p) f p2) b tpos] a env = pure none := by intro _; rfl)
    (h1 : ∀ env, (assignEach [.Subscript (.Attribute (.Name x p) f p2) b tpos] env).map (·.2) = [assign (.Subscript (.Attribute (.Name x p) f p2) b tpos) env] := by intro _; rfl)
    (ha : ∀ env v, assign (.Subscript (.Attribute (.Name x p) f p2) b tpos) env v = (do
      let ov ← holding [v] (eval (.Attribute (.Name x p) f p2) env)
      let iv ← holding [v, ov] (eval b env)
      standAt tpos
      holding [v, ov, iv] (setItem ov iv v)
      release [v, ov, iv] []) := by intro _ _; rfl) :
    VS G N S rm ms0 (.Assign [.Subscript (.Attribute (.Name x p) f p2) b tpos] a spos) (gIPut i c f fa fb) := by
  refine fun R at_ W t => (ps_asg (he R at_ W t) (pg_sub (pe_fld (pe_var (i := i) hN (at_.vis hv) hd hcd) (hba _)) (hi R at_ W t) (set_dict (by have := at_.u100 hcm; omega)) (ha _)) (hs _) (hw _) (h1 _)).imp fun D σ H ⟨ρ, H0, cc, l, o⟩ => ?_
  obtain ⟨C', hm', cl, na⟩ := A.ex
  refine ⟨ρ, H0, cc, l, (OutS.expr (F := FO G.K G.mg .z ms1) o).imp fun v H1 ⟨d, H01, c1, ρ1, e1, s1, l1, ⟨fp, ow, fr⟩, o1⟩ => ?_⟩
  have fz := (Ow.zero.mp ow).2
  cases hp0 : idS c f (getS ρ1 i) with
  | none => rw [hp0] at o1; exact o1.elim
  | some p0 =>
    obtain ⟨ks0, ds0⟩ := p0
    rw [hp0, rM_some, bind_ok] at o1
    obtain ⟨a0, C, dx, q, kvs0, hq, hm, hH0, _, _, _, _, hca0, _⟩ := id_at l1 hp0
    have eC : C = C' := by rw [hm'] at hm; exact (Value.ref.inj (Option.some.inj hm)).symm
    subst eC
    refine ⟨.ref a0, hq, a0, C, dx, _, .ref q, rfl, hH0, cl, na, by simp [List.lookup], ρ1, H01, c1, l1, (OutS.expr (F := FO G.K G.mg .z ms2) o1).imp fun v2 H2 ⟨d2, H02, c2, ρ2, e2, s2, l2, ⟨fp2, ow2, fr2⟩, o2⟩ => ?_⟩
    have fz2 := (Ow.zero.mp ow2).2
    cases hp : idS c f (getS ρ2 i) with
    | none => rw [hp] at o2; exact o2.elim
    | some p1 =>
      obtain ⟨ks, ds⟩ := p1
      rw [hp, rM_some, bind_ok] at o2
      obtain ⟨a1, C1, dx1, q', kvs, hq', hm1, hH, hHq, hk, hks, fds, hca, hcq, nq⟩ := id_at l2 hp
      rw [hq] at hq'
      cases hq'
      have eC : C1 = C := by rw [hm'] at hm1; exact (Value.ref.inj (Option.some.inj hm1)).symm
      subst eC
      have ka := s2.keep a0 _ hH0 fun j z => (by rw [hca0] at z; cases z; exact hms)
      rw [hH] at ka
      cases ka
      subst hks
      cases hr : dPutO d2 d (kvs.map (fun p => kD p.1), ds) with
      | none => rw [hr] at o2; exact o2.elim
      | some p' =>
        rw [hr, rM_some, bind_ok] at o2
        obtain ⟨kk, hk2, hr2⟩ := Option.bind_eq_some_iff.mp hr
        split at hr2
        · rename_i hlt
          cases hr2
          obtain ⟨hlt, hkk⟩ := hlt
          rw [List.length_map] at hlt
          have ek : v2 = kV kk := key_of_fz fz2 hk2
          have ch : ∀ b, (upd H2 q (.dK (putK kvs kk v))) b ≠ H2 b → b = q := fun b n => Classical.byContradiction fun z => n (upd_ne z)
          have fzn := putVs_fz (k := kk) (Fz.mono s2.grow d v fz) kvs ds fds
          have in2 : ∀ b ∈ [a0, q], c2 b = some i := fun b hb => by
            rcases List.mem_cons.mp hb with z | z
            · rw [z]; exact hca
            · rw [List.mem_singleton.mp z]; exact hcq
          have st : Step msA H02 H2 c2 H02 (upd H2 q (.dK (putK kvs kk v))) (coSet c2 i [a0, q]) := (Step.refl (ms := msA)).modify rfl (fun b n => by rw [ch b n]; exact .inl hcq) fun b hb => .inl (in2 b hb)
          have li : Lies G.K G.mg H02 (upd H2 q (.dK (putK kvs kk v))) (coSet c2 i [a0, q]) σ (ρ2.set i (some (.o (.all m1), .ins c [f] [.dct (putKs kk (kvs.map fun p => kD p.1)) (putVs kk d (kvs.map fun p => kD p.1) ds)]))) := by
            refine l2.modify hq (fun b n => by rw [ch b n]; exact .inl hcq) (fun b o e => ?_) ⟨a0, C1, dx, [.ref q], [q], rfl, rfl, hm', by rw [upd_ne nq]; exact hH, rfl, .ref q, [], [q], [], rfl, rfl, ⟨q, _, [], rfl, rfl, ⟨putK kvs kk v, upd_same, putK_ok hk hkk, (putKs_kvs kk v kvs).symm, rfl⟩, Ows.all_z.mpr ⟨rfl, fzn⟩⟩, rfl, rfl⟩ (by simp [nq]) (fun b hb => .inr (in2 b hb)) (fun b hb => l2.apart b i (in2 b hb)) fun b hb => ?_
            · by_cases z : b = q
              · rw [z]; exact ⟨_, upd_same⟩
              · rw [upd_ne z]; exact ⟨o, e⟩
            · by_cases z : b = q
              · rw [z]; exact ⟨_, upd_same⟩
              · rw [upd_ne z]; exact l2.there b i (in2 b hb)
          exact ⟨q, _, rfl, .inl ⟨kvs, kk, hHq, ek, by rw [sizeLine_eq]; exact hlt, rfl⟩, o2 σ H02 _ _ st li .refl⟩
        · cases hr2
end
end Vm
set_option Elab.async false
set_option linter.all false
set_option maxRecDepth 100000
set_option maxHeartbeats 4000000
/-! insert, pop as an expression, methods of what is not kept -/
namespace Vm
open PySem PySem.Spec PyProof.Rows L2
def insO (j d : D) (ds : List D) : Option (List D) := match j with
  | .int n => if 0 ≤ n ∧ n ≤ ds.length ∧ ds.length < 16777216 then some (ds.take n.toNat ++ [d] ++ ds.drop n.toNat) else none
  | _ => none
def gIns (i : Nat) (fa fb : M D) : M Fl := rcv i fun r => (fa r).bind fun j r => (fb r).bind fun d r => (rM (lsS .z (getS r i)) r).bind fun ds r => (rM (insO j d ds) r).bind fun ds' r => .ok .nx (r.set i (some (m1, .lst ds')))
def ePop (i : Nat) : M D := fun r => (rM (lsS .z (getS r i)) r).bind fun ds r => match ds.getLast? with
  | some d => .ok d (r.set i (some (m1, .lst ds.dropLast)))
  | none => .bad
/-- a list that is not kept is changed -/
def gTmp (f : M D) : M Fl := fun r => (f r).bind fun d r => match d with
  | .lst ds => if ds.length < 16777216 then .ok .nx r else .bad
  | _ => .bad
section
variable {G : GC} {N : List Str} {S : SC} {bs bs1 bs2 ms ms1 ms2 ms3 as as1 as2 : Ms} {m me rm : Md} {k : Kd} {e a b : Expr} {es : List Expr} {f fa fb : M D} {fs : M (List D)} {pos p apos spos : Pos} {i : Nat} {x : Str}
theorem VS.ins (ha : VO G N S .z ms1 a fa) (hb : VO G N S .z ms2 b fb)
    (hN : N[i]? = some x := by rfl) (hv : Vis S.sc x := by first | exact Or.inl rfl | exact Or.inr (Or.inl rfl) | exact Or.inr (Or.inr rfl)) (hd : (x == ("__debug__" : Str)) = false := by decide) (hcd : (x == ("__classdict__" : Str)) = false := by decide)
    (hline : (apos.endLine == pos.line) = true := by rfl) (hst : ∀ env, starEach [a, b] env = (false, eval a env) :: starEach [b] env := by intro _; rfl) (hst2 : ∀ env, starEach [b] env = (false, eval b env) :: starEach [] env := by intro _; rfl)
    (hpl : ∀ env, (backTo pos (starEach [b] env)).any (·.1) = false := by intro _; rfl)
    (hbase : ∀ env, attributeBase (.Name x p) "insert" env (eval (.Name x p) env) = eval (.Name x p) env := by intro _; rfl)
    (hfew : ∀ env, ((backTo pos (starEach [a, b] env)).all (fun x => !x.1) && (backToKw pos (keywordEach [] env)).all (fun x => x.1.isSome) && decide (([a, b] : List Expr).length + ([] : List Keyword).length + (if ([] : List Keyword).isEmpty then 0 else 1) < 30)) = true := by intro _; rfl)
    (hs : ∀ env, swapsWith (.Call (.Attribute (.Name x p) "insert" apos) [a, b] [] pos) none spos.line env = pure false := by intro _; rfl) :
    VS G N S rm ms0 (.Expr (.Call (.Attribute (.Name x p) "insert" apos) [a, b] [] pos) spos) (gIns i fa fb) := by
  refine fun R s_ W t => (ps_expr (pe_bm PySem.F.plainAttrs_list PySem.F.slot_list_insert PySem.F.type_list_insert mt_insert (pe_var (i := i) hN (s_.vis hv) hd hcd) (pa_cons (ha R s_ W t) (pa_cons (hb R s_ W t) pa_nil (hst2 _)) (hst _)) (hbase _) (hfew _) hline (hst _) (hpl _)) (hs _)).imp fun D σ H ⟨ρ, H0, c, l, o⟩ => ?_
  unfold gIns rcv at o
  by_cases hr0 : rcvS (getS ρ i) = true
  · rw [if_pos hr0] at o
    obtain ⟨q, vs0, hq, hH0, hcq⟩ := rcv_at l hr0
    refine ⟨.ref q, hq, .inl ⟨rfl, vs0, .of hH0⟩, ρ, H0, c, l, (OutS.expr (F := FO G.K G.mg .z ms1) o).imp fun v H1 ⟨d, H01, c1, ρ1, e1, s1, l1, ⟨fp, ow, fr⟩, o1⟩ => ?_⟩
    refine ⟨ρ1, H01, c1, l1, (OutS.expr (F := FO G.K G.mg .z ms2) o1).imp fun v2 H2 ⟨d2, H02, c2, ρ2, e2, s2, l2, ⟨fp2, ow2, fr2⟩, o2⟩ => ?_⟩
    have fz1 := Fz.mono s2.grow d v (Ow.zero.mp ow).2
    have fz2 := (Ow.zero.mp ow2).2
    cases hl : lsS .z (getS ρ2 i) with
    | none => rw [hl] at o2; exact o2.elim
    | some ds =>
      rw [hl, rM_some, bind_ok] at o2
      obtain ⟨vs, h, hH, ows, nd, hc⟩ := ls_at l2 hl hq
      obtain ⟨eh, fzs⟩ := Ows.all_z.mp ows
      subst eh
      cases hg : insO d d2 ds with
      | none => rw [hg] at o2; exact o2.elim
      | some ds' =>
        rw [hg, rM_some, bind_ok] at o2
        obtain ⟨n, en0⟩ : ∃ n, d = .int n := by cases d <;> first | (cases hg; done) | exact ⟨_, rfl⟩
        subst en0
        have en : v = V.int n := fz1
        subst en
        have hg' : (if 0 ≤ n ∧ n ≤ ds.length ∧ ds.length < 16777216 then some (ds.take n.toNat ++ [d2] ++ ds.drop n.toNat) else none) = some ds' := hg
        split at hg'
        · rename_i hh
          cases hg'
          have fz' : Fzs G.K G.mg H02 (ds.take n.toNat ++ [d2] ++ ds.drop n.toNat) (vs.take n.toNat ++ [v2] ++ vs.drop n.toNat) := ((fzs.take _).append (show Fzs G.K G.mg H02 [d2] [v2] from ⟨v2, [], rfl, fz2, rfl⟩)).append (fzs.drop _)
          obtain ⟨st, li⟩ := ls_write (me := .z) (g' := []) (ds' := _) (vs' := _) l2 (.refl (ms := msA)) rfl hq hH nd hc (Ows.all_z.mpr ⟨rfl, fz'⟩) List.nodup_nil (by simp)
          exact ⟨q, vs, n, v2, rfl, rfl, hH, by rw [fzs.length, sizeLine_eq]; exact hh.2.2, hh.1, by omega, o2 σ H02 _ _ st li .refl⟩
        · cases hg'
  · rw [if_neg hr0] at o
    exact o.elim
theorem VO.popE (hN : N[i]? = some x := by rfl) (hv : Vis S.sc x := by first | exact Or.inl rfl | exact Or.inr (Or.inl rfl) | exact Or.inr (Or.inr rfl)) (hd : (x == ("__debug__" : Str)) = false := by decide) (hcd : (x == ("__classdict__" : Str)) = false := by decide)
    (hbase : ∀ env, attributeBase (.Name x p) "pop" env (eval (.Name x p) env) = eval (.Name x p) env := by intro _; rfl) (hline : (apos.endLine == pos.line) = true := by rfl) :
    VO G N S .z (msO i) (.Call (.Attribute (.Name x p) "pop" apos) [] [] pos) (ePop i) := by
  refine fun R a W t => (pe_bm0 PySem.F.plainAttrs_list PySem.F.slot_list_pop PySem.F.type_list_pop mt_pop (pe_var (i := i) hN (a.vis hv) hd hcd) (hbase _) hline).imp fun σ H Q ⟨ρ, H0, c, l, o⟩ => ?_
  unfold ePop at o
  cases hl : lsS .z (getS ρ i) with
  | none => rw [hl] at o; exact o.elim
  | some ds =>
    rw [hl, rM_some, bind_ok] at o
    obtain ⟨w, fp, hq, ⟨q, vs, h, ew, hH, ef, ows⟩, nd, hc⟩ := l.slot i _ _ (lsS_ok hl)
    subst ew ef
    obtain ⟨eh, fzs⟩ := Ows.all_z.mp ows
    subst eh
    cases hg : ds.getLast? with
    | none => rw [hg] at o; exact o.elim
    | some d =>
      rw [hg] at o
      have hg2 : ds[ds.length - 1]? = some d := by rw [← List.getLast?_eq_getElem?]; exact hg
      obtain ⟨y, hy, fy⟩ := fzs.get hg2
      rw [← fzs.length] at hy
      obtain ⟨st, li⟩ := ls_write (me := .z) (g' := []) (ds' := ds.dropLast) (vs' := vs.dropLast) l (.refl (ms := msO i)) (by simp) hq hH nd hc (Ows.all_z.mpr ⟨rfl, fzs.dropLast⟩) List.nodup_nil (by simp)
      refine ⟨.ref q, hq, .inl ⟨rfl, vs, .of hH⟩, q, vs, y, rfl, rfl, hH, hy, ?_⟩
      exact o y H0 _ _ st li (ow_zero_fo fy)
theorem Step.tmp {ms : Ms} {H0 H H0' H' : Hp} {c c' : Co} {q : Addr} {o : HO} (s : Step ms H0 H c H0' H' c') (hq : H q = none ∨ ∃ i, c q = some i ∧ ms i = true) : Step ms H0 H c H0' (upd H' q o) c' := by
  refine ⟨fun a u e k => ?_, s.col, s.grow, s.new0, s.newc⟩
  rw [upd_ne fun z => by
    subst z
    rcases hq with z | ⟨i, z, w⟩
    · rw [e] at z; cases z
    · rw [k i z] at w; cases w]
  exact s.keep a u e k
/-- e.m(), what e tells is not kept -/
theorem VS.tmp0 {id : String} {nm : Str} {r : V → List V → Hp → VK → Prop} (slot : Slot "list" nm id) (hty : typeOf (.builtin id) = pure (.type "method_descriptor")) (hmt : ∀ X, MtR X id r)
    (hr : ∀ (q : Addr) (vs : List V) (H : Hp) (Q : VK), H q = some (.lst vs) → (∀ y vs', Q y (upd H q (.lst vs'))) → r (.ref q) [] H Q) (he : VO G N S m1 ms e f)
    (hbase : ∀ env, attributeBase e nm env (eval e env) = eval e env := by intro _; rfl) (hline : (apos.endLine == pos.line) = true := by rfl)
    (hs : ∀ env, swapsWith (.Call (.Attribute e nm apos) [] [] pos) none spos.line env = pure false := by intro _; rfl) :
    VS G N S rm ms0 (.Expr (.Call (.Attribute e nm apos) [] [] pos) spos) (gTmp f) := by
  refine fun R a W t => (ps_expr (pe_bm0 PySem.F.plainAttrs_list slot hty (hmt _) (he R a W t) (hbase _) hline) (hs _)).imp fun D σ H ⟨ρ, H0, c, l, o⟩ => ?_
  refine ⟨ρ, H0, c, l, (OutS.expr (F := FO G.K G.mg m1 ms) o).imp fun v H1 ⟨d, H01, c1, ρ1, e1, s1, l1, ⟨fp, ow, fr⟩, o1⟩ => ?_⟩
  unfold gTmp at o
  rw [e1, bind_ok] at o
  cases d <;> first | exact o.elim | skip
  rename_i ds
  dsimp only at o
  split at o
  · rename_i hlt
    obtain ⟨q, vs, g, ev, hH, ef, ows⟩ := ow
    subst ev ef
    refine ⟨.inl ⟨rfl, vs, .of hH⟩, hr q vs H1 _ hH fun y vs' => ?_⟩
    have mq : q ∈ q :: g := List.mem_cons_self
    exact o σ H01 _ c1 ((s1.mono (ms' := msA) fun _ _ => rfl).tmp ((fr.new q mq).imp (fun z => z) fun ⟨i, z, _⟩ => ⟨i, z, rfl⟩)) (l1.other (fr.nc q mq) (fr.n0 q mq)) .refl
  · exact o.elim
theorem VS.clrTmp (he : VO G N S m1 ms e f)
    (hbase : ∀ env, attributeBase e "clear" env (eval e env) = eval e env := by intro _; rfl) (hline : (apos.endLine == pos.line) = true := by rfl)
    (hs : ∀ env, swapsWith (.Call (.Attribute e "clear" apos) [] [] pos) none spos.line env = pure false := by intro _; rfl) :
    VS G N S rm ms0 (.Expr (.Call (.Attribute e "clear" apos) [] [] pos) spos) (gTmp f) :=
  VS.tmp0 PySem.F.slot_list_clear PySem.F.type_list_clear (fun X => mt_clear) (fun q vs H Q hH z => ⟨q, vs, rfl, rfl, hH, z _ _⟩) he hbase hline hs
/-- e.append(a), what e tells is not kept -/
theorem VS.appTmp (he : VO G N S m1 ms e f) (ha : VO G N S .z ms0 a (eC d)) 
    (hbase : ∀ env, attributeBase e "append" env (eval e env) = eval e env := by intro _; rfl) (hline : (apos.endLine == pos.line) = true := by rfl) (hst : ∀ env, starEach [a] env = [(false, eval a env)] := by intro _; rfl)
    (hfew : ∀ env, ((backTo pos (starEach [a] env)).all (fun x => !x.1) && (backToKw pos (keywordEach [] env)).all (fun x => x.1.isSome) && decide (([a] : List Expr).length + ([] : List Keyword).length + (if ([] : List Keyword).isEmpty then 0 else 1) < 30)) = true := by intro _; rfl)
    (hs : ∀ env, swapsWith (.Call (.Attribute e "append" apos) [a] [] pos) none spos.line env = pure false := by intro _; rfl) :
    VS G N S rm ms0 (.Expr (.Call (.Attribute e "append" apos) [a] [] pos) spos) (gTmp f) := by
  refine fun R s_ W t => (ps_expr (pe_bm PySem.F.plainAttrs_list PySem.F.slot_list_append PySem.F.type_list_append mt_append (he R s_ W t) (pa_cons (ha R s_ W t) pa_nil (hst _)) (hbase _) (hfew _) hline ((hst _).trans rfl) rfl) (hs _)).imp fun D σ H ⟨ρ, H0, c, l, o⟩ => ?_
  refine ⟨ρ, H0, c, l, (OutS.expr (F := FO G.K G.mg m1 ms) o).imp fun v H1 ⟨d, H01, c1, ρ1, e1, s1, l1, ⟨fp, ow, fr⟩, o1⟩ => ?_⟩
  unfold gTmp at o
  rw [e1, bind_ok] at o
  cases d <;> first | exact o.elim | skip
  rename_i ds
  dsimp only at o
  split at o
  · rename_i hlt
    have ow0 := ow
    obtain ⟨q, vs, g, ev, hH, ef, ows⟩ := ow
    subst ev
    refine ⟨.inl ⟨rfl, vs, .of hH⟩, ρ1, H01, c1, l1, fun v2 H02 H2 c2 s2 l2 ⟨fp2, ow2, fr2⟩ => ?_⟩
    obtain ⟨fr', hk⟩ := fr.on s2
    have mq : q ∈ fp := by rw [ef]; exact List.mem_cons_self
    have st := s1.trans (s2.mono (ms' := ms) fun i z => (by cases z))
    refine ⟨q, vs, v2, rfl, rfl, by rw [hk q mq]; exact hH, ?_, ?_⟩
    · rw [Ows.len ows, sizeLine_eq]; exact hlt
    · exact o σ H02 _ c2 ((st.mono (ms' := msA) fun _ _ => rfl).tmp ((fr'.new q mq).imp (fun z => z) fun ⟨i, z, _⟩ => ⟨i, z, rfl⟩)) (l2.other (fr'.nc q mq) (fr'.n0 q mq)) .refl
  · exact o.elim
end
end Vm
set_option Elab.async false
set_option linter.all false
set_option maxRecDepth 100000
set_option maxHeartbeats 4000000
/-! a call with a thing of its own handed over; int(truth) -/
namespace Vm
open PySem PySem.Spec PyProof.Rows L2
/-- F(e, ..): what e tells is the callee's own -/
def fCallO (F : M D) (m : Md) (ls : List (Option Nat)) (fe : M D) (fs : M (List D)) : M D := fun r => (fe r).bind fun d r => (fs r).bind fun ds r => match F (some (m, d) :: mkArgs ls ds r) with
  | .ok d' _ => .ok d' r
  | .exc n ns vs _ => .exc n ns vs r
  | .bad => .bad
section
variable {G : GC} {N : List Str} {S : SC} {bs ms ms1 ms2 : Ms} {m rm : Md} {e a b : Expr} {es : List Expr} {f fa fb fe : M D} {fs : M (List D)} {pos p : Pos} {c x : Str} {k : Nat} {ps : List Str} {F : M D} {ls : List (Option Nat)}
theorem callO_core {W : WX} {σ : L2.St} {H : Hp} {Q : VK} (hn : ls.filterMap id = []) (hl : ls.length + 1 = ps.length) (h : tR G.K G.mg W (FO G.K G.mg rm (msU ms1 ms2)) (msU ms1 ms2) (fCallO F m ls fe fs) σ H Q) :
    tR G.K G.mg W (FO G.K G.mg m ms1) ms1 fe σ H fun v H1 => tAM G.K G.mg W ls ms2 fs σ H1 fun vs H2 => spV G F ps.length rm (v :: vs) H2 Q (WE W σ) := by
  obtain ⟨ρ, H0, cc, l, o⟩ := h
  have o0 := o
  refine ⟨ρ, H0, cc, l, (Out.bind (G := FO G.K G.mg m ms1) (ms1 := ms1) back_FO o fun i e => or_l e).imp fun v H1 ⟨d, H01, c1, ρ1, e1, s1, l1, ⟨fp, ow, fr⟩, o1⟩ => ?_⟩
  refine ⟨ρ1, H01, c1, l1, (Out.bind (G := FAM G.K G.mg σ ls) (ms1 := ms2) back_FO o1 fun i e => or_r e).imp fun vs H2 ⟨ds, H02, c2, ρ2, e2, s2, l2, am, o2⟩ => ?_⟩
  clear o1 o2
  obtain ⟨fr2, hk⟩ := fr.on s2
  have s : Step (msU ms1 ms2) H0 H cc H02 H2 c2 := (s1.mono fun i e => or_l e).trans (s2.mono fun i e => or_r e)
  have ow2 := Ow.mono s2.grow d m v fp hk ow
  obtain ⟨_, hv⟩ := mkArgs_len (r := ρ2) am
  have le := l2.enter (ls := ls) (by rw [hn]; exact List.nodup_nil) am
  have cn : ∀ b, coIn ls c2 b = none := fun b => by
    cases q : coIn ls c2 b with
    | none => rfl
    | some j =>
      obtain ⟨i, _, hj, _⟩ := coIn_some q
      have : i ∈ ls.filterMap id := List.mem_filterMap.mpr ⟨some i, List.mem_of_getElem? hj, rfl⟩
      rw [hn] at this; cases this
  let c3 : Co := fun b => if b ∈ fp then some 0 else none
  have c3i : ∀ b ∈ fp, c3 b = some 0 := fun b hb => if_pos hb
  have c3n : ∀ b i, c3 b = some i → b ∈ fp := fun b i q => Classical.byContradiction fun z => by rw [show c3 b = none from if_neg z] at q; cases q
  have l3 : Lies G.K G.mg H02 H2 c3 ((v :: vs).map some) (some (m, d) :: mkArgs ls ds ρ2) := by
    refine ⟨l2.sub, fun b i q => fr2.n0 b (c3n b i q), fun b i q => fr2.there b (c3n b i q), ?_, fun i m' d' q => ?_⟩
    · have := le.len
      rw [List.length_map] at this
      rw [List.length_cons, this, List.length_map, List.length_cons]
    · cases i with
      | zero =>
        cases q
        exact ⟨v, fp, rfl, ow2, fr2.nd, c3i⟩
      | succ i =>
        obtain ⟨w, g, q1, ow', nd, hq⟩ := le.slot i m' d' (by simpa [getS] using q)
        have ef : g = [] := by
          cases g with
          | nil => rfl
          | cons b _ => have := hq b List.mem_cons_self; rw [cn b] at this; cases this
        subst ef
        exact ⟨w, [], by simpa using q1, ow', nd, by simp⟩
  refine ⟨by rw [List.length_cons, hv]; exact hl, _, H02, c3, l3, ?_⟩
  have newf : ∀ b ∈ fp, H b = none ∨ ∃ i, cc b = some i ∧ msU ms1 ms2 i = true := fun b hb => (fr2.new b hb).imp (fun z => z) fun ⟨i, z, w⟩ => ⟨i, z, or_l w⟩
  have back : ∀ (H0' H' : Hp) (c' : Co), Step msA H02 H2 c3 H0' H' c' → Same H0' H' → Step (msU ms1 ms2) H0 H cc H0' H' c2 ∧ Lies G.K G.mg H0' H' c2 σ ρ2 := by
    intro H0' H' c' t sub
    have keep : ∀ b u, H2 b = some u → b ∉ fp → H' b = some u := fun b u q n => t.keep b u q fun i z => absurd (c3n b i z) n
    have nfp : ∀ b i, c2 b = some i → b ∉ fp := fun b i q z => by rw [fr2.nc b z] at q; cases q
    refine ⟨⟨fun b u q z => ?_, fun b u q z => s.col b u q z, s.grow.trans t.grow, fun b u q => ?_, fun b i q => s.newc b i q⟩, ⟨sub, fun b i q => ?_, fun b i q => ?_, l2.len, fun i m' d' q => ?_⟩⟩
    · refine keep b u (s.keep b u q z) fun hb => ?_
      rcases newf b hb with w | ⟨i, w, y⟩
      · rw [q] at w; cases w
      · rw [z i w] at y; cases y
    · rcases t.new0 b u q with ⟨w, z⟩ | z | ⟨i, z, _⟩
      · exact s.new0 b w z
      · exact .inr (s.gone z)
      · exact .inr (newf b (c3n b i z))
    · obtain ⟨u, hu⟩ := l2.there b i q
      cases w : H0' b with
      | none => rfl
      | some y =>
        rcases t.new0 b y w with ⟨_, z⟩ | z | ⟨j, z, _⟩
        · rw [l2.apart b i q] at z; cases z
        · rw [hu] at z; cases z
        · exact absurd (c3n b j z) (nfp b i q)
    · obtain ⟨u, hu⟩ := l2.there b i q
      exact ⟨u, keep b u hu (nfp b i q)⟩
    · obtain ⟨w, g, q1, ow', nd, hq⟩ := l2.slot i m' d' q
      exact ⟨w, g, q1, Ow.mono t.grow d' m' w g (fun b hb => by
        obtain ⟨u, hu⟩ := l2.there b i (hq b hb)
        rw [hu, keep b u hu (nfp b i (hq b hb))]) ow', nd, hq⟩
  have eF : fCallO F m ls fe fs ρ = (match F (some (m, d) :: mkArgs ls ds ρ2) with
    | .ok d' _ => .ok d' ρ2
    | .exc n ns vs _ => .exc n ns vs ρ2
    | .bad => .bad) := by unfold fCallO; rw [e1, bind_ok, e2, bind_ok]
  rw [eF] at o0
  cases hF : F (some (m, d) :: mkArgs ls ds ρ2) with
  | ok d' rp =>
    rw [hF] at o0
    intro w H0' H' c' t l' ⟨g, owr, frr⟩
    obtain ⟨st, li⟩ := back H0' H' c' t l'.sub
    refine o0 w H0' H' c2 st li ⟨g, owr, frr.nd, fun b hb => ?_, frr.n0, frr.there, fun b hb => ?_⟩
    · cases q : c2 b with
      | none => rfl
      | some i =>
        rcases frr.new b hb with z | ⟨j, z, _⟩
        · obtain ⟨u, hu⟩ := l2.there b i q
          rw [z] at hu; cases hu
        · rw [fr2.nc b (c3n b j z)] at q; cases q
    · rcases frr.new b hb with z | ⟨j, z, _⟩
      · exact s.gone z
      · exact newf b (c3n b j z)
  | exc n ns es rp =>
    rw [hF] at o0
    intro cls dx H0' H' c' t l' ex
    obtain ⟨st, li⟩ := back H0' H' c' t l'.sub
    exact o0 cls dx H0' H' c2 st li ex
  | bad => rw [hF] at o0; exact o0.elim
theorem VO.callO (hF : Fx G k x ps rm F) (he : VO G N S m ms1 e fe) (ha : VM G N S ls ms2 es fs) (hk' : k ≤ S.k := by decide) (hc : S.cm = true := by rfl) (hn : ls.filterMap id = [] := by rfl) (hl : ls.length + 1 = ps.length := by rfl) (hg : Glb S x := by rfl)
    (hdb : (x == ("__debug__" : Str)) = false := by decide) (hs : ∀ env, starEach (e :: es) env = (false, eval e env) :: starEach es env := by intro _; rfl) (hpl : ∀ env, (backTo pos (starEach es env)).any (·.1) = false := by intro _; rfl) :
    VO G N S rm (msU ms1 ms2) (.Call (.Name x p) (e :: es) [] pos) (fCallO F m ls fe fs) := by
  obtain ⟨f, fd, h1, h2, h3, h4, _⟩ := hF.ex
  exact fun R a W t => (pe_callS h4 ((a.room hc).mono hk') (a.gl hg) h1 h2 h3 (fun σ => passAt t σ) (pa_cons (he R a W t) (ha R a W t) (hs _)) hdb (hs _) (hpl _)).imp fun σ H Q h => callO_core hn hl h
/-- int(e) -/
def oInt : List D → Option D
  | [.int i] => some (.int i)
  | [.bl b] => some (.int (if b then 1 else 0))
  | _ => none
theorem VO.intB (hm : G.mg "int" = none) {bs ms : Ms} (ha : VA G N S bs ms (e :: es) fs) (hg : Glb S "int" := by rfl) (he : ∀ env, starEach (e :: es) env = (false, eval e env) :: starEach es env := by intro _; rfl) (hpl : ∀ env, (backTo pos (starEach es env)).any (·.1) = false := by intro _; rfl) :
    VO G N S .z ms (.Call (.Name "int" p) (e :: es) [] pos) (fA oInt fs) := .callTy (fun _ _ => call_int1) (fun H0 H ds xs d Q s h ho f => by
      unfold oInt at ho
      split at ho
      · obtain ⟨x, e, h1⟩ := shs_one h
        cases ho
        exact .inl ⟨_, by rw [e, show x = V.int _ from h1], f.atom s rfl rfl⟩
      · obtain ⟨x, e, h1⟩ := shs_one h
        cases ho
        exact .inr ⟨_, by rw [e, show x = V.bl _ from h1], f.atom s rfl rfl⟩
      · cases ho) hm (by decide +kernel) ha hg (by decide) (by decide) he hpl
end
/-! ### simp rules -/
section
variable {ds es ks vs : List D} {d e : D}
@[simp] theorem oIxA_dct : oIxA (.dct ks vs) e = oDGet (.dct ks vs) e := rfl
@[simp] theorem oIxA_lst : oIxA (.lst ds) e = oIx (.lst ds) e := rfl
@[simp] theorem oIxA_tup : oIxA (.tup ds) e = oIx (.tup ds) e := rfl
@[simp] theorem oIxA_str (s : List Nat) : oIxA (.str s) e = oIx (.str s) e := rfl
@[simp] theorem oIxA_scr (s : List Int) : oIxA (.scr s) e = oIx (.scr s) e := rfl
@[simp] theorem oInA_dct : oInA e (.dct ks vs) = oDIn e (.dct ks vs) := rfl
@[simp] theorem oInA_lst : oInA e (.lst ds) = oIn e (.lst ds) := rfl
@[simp] theorem oInA_tup : oInA e (.tup ds) = oIn e (.tup ds) := rfl
@[simp] theorem oInA_str (s : List Nat) : oInA e (.str s) = oIn e (.str s) := rfl
@[simp] theorem oNotInA_dct : oNotInA e (.dct ks vs) = oDNotIn e (.dct ks vs) := rfl
@[simp] theorem oNotInA_lst : oNotInA e (.lst ds) = oNotIn e (.lst ds) := rfl
@[simp] theorem oNotInA_tup : oNotInA e (.tup ds) = oNotIn e (.tup ds) := rfl
@[simp] theorem oNotInA_str (s : List Nat) : oNotInA e (.str s) = oNotIn e (.str s) := rfl
@[simp] theorem oLenA_dct : oLenA [.dct ks vs] = some (.int ks.length) := rfl
@[simp] theorem oLenA_lst : oLenA [.lst ds] = some (.int ds.length) := rfl
@[simp] theorem oLenA_tup : oLenA [.tup ds] = some (.int ds.length) := rfl
@[simp] theorem oLenA_str (s : List Nat) : oLenA [.str s] = some (.int s.length) := rfl
@[simp] theorem oLenA_scr (s : List Int) : oLenA [.scr s] = some (.int s.length) := rfl
@[simp] theorem oListA_dct : oListA [.dct ks vs] = some (.lst ks) := rfl
@[simp] theorem oListA_lst : oListA [.lst ds] = some (.lst ds) := rfl
@[simp] theorem oListA_tup : oListA [.tup ds] = some (.lst ds) := rfl
end
end Vm
set_option Elab.async false
set_option linter.all false
set_option maxRecDepth 100000
set_option maxHeartbeats 4000000
namespace Vm
open PySem PySem.Spec PyProof.Rows L2
section
variable {G : GC} {N : List Str} {S : SC} {m : Md}
/-- None, at any mode -/
theorem VO.nonO {j pos} : VO G N S m ms0 (.Constant .none j pos) (eC .non) := fun R a W t => pe_non.imp fun σ H Q ⟨ρ, H0, c, l, o⟩ => o .non H0 H c .refl l ⟨[], ow_of_atom rfl rfl, .nil⟩
end
end Vm
set_option Elab.async false
set_option linter.all false
set_option maxRecDepth 100000
set_option maxHeartbeats 4000000
/-! the readings of dictionaries, instances and texts, applied -/
namespace Vm
open PySem PySem.Spec PyProof.Rows L2
section
variable {α : Type} (s0 : Sl) (r : En) (f fa fb fe fv fi fk fo : M D) (fs : M (List D)) (gt : D → M Fl) (gb : M Fl) (i : Nat) (m : Md) (c x : Str) (F : M D) (ls : List (Option Nat))
@[simp] theorem gIns_ap : gIns i fa fb (s0 :: r) = rcv i (fun r => (fa r).bind fun j r => (fb r).bind fun d r => (rM (lsS .z (getS r i)) r).bind fun ds r => (rM (insO j d ds) r).bind fun ds' r => .ok .nx (r.set i (some (m1, .lst ds')))) (s0 :: r) := rfl
/-- the last one -/
def popS (i : Nat) (ds : List D) : M D := fun r => match ds.getLast? with
  | some d => .ok d (r.set i (some (m1, .lst ds.dropLast)))
  | none => .bad
@[simp] theorem ePop_ap : ePop i (s0 :: r) = (rM (lsS .z (getS (s0 :: r) i)) (s0 :: r)).bind (popS i) := rfl
@[simp] theorem popS_snoc (ds : List D) (d : D) : popS i (ds ++ [d]) r = .ok d (r.set i (some (m1, .lst ds))) := by simp [popS]
def tmpS : D → M Fl := fun d r => match d with
  | .lst ds => if ds.length < 16777216 then .ok .nx r else .bad
  | _ => .bad
@[simp] theorem gTmp_ap : gTmp f (s0 :: r) = (f (s0 :: r)).bind tmpS := rfl
@[simp] theorem tmpS_lst (ds : List D) : tmpS (.lst ds) r = if ds.length < 16777216 then .ok .nx r else .bad := rfl
@[simp] theorem gISet_ap : gISet i c x fe (s0 :: r) = (fe (s0 :: r)).bind fun d r => (rM (inS c (getS r i)) r).bind fun p r => (rM (setI x d p) r).bind fun p' r => .ok .nx (r.set i (some (.o (.all m1), .ins c p'.1 p'.2))) := rfl
@[simp] theorem gIPut_ap : gIPut i c x fv fk (s0 :: r) = (fv (s0 :: r)).bind fun d r => (rM (idS c x (getS r i)) r).bind fun _ r => (fk r).bind fun j r => (rM (idS c x (getS r i)) r).bind fun p r => (rM (dPutO j d p) r).bind fun p' r => .ok .nx (r.set i (some (.o (.all m1), .ins c [x] [.dct p'.1 p'.2]))) := rfl
@[simp] theorem gDPut_ap : gDPut i fv fi (s0 :: r) = (fv (s0 :: r)).bind fun d r => (rM (dcS (getS r i)) r).bind fun _ r => (fi r).bind fun j r => (rM (dcS (getS r i)) r).bind fun p r => (rM (dPutO j d p) r).bind fun p' r => .ok .nx (r.set i (some (m1, .dct p'.1 p'.2))) := rfl
def fkS : Sl → Option (List D)
  | some (.z, .dct ks _) => some ks
  | _ => none
@[simp] theorem gForK_ap : gForK i gt gb (s0 :: r) = (rM (fkS (getS (s0 :: r) i)) (s0 :: r)).bind fun ks r => noXc (gLoop gt gb ks r) := by
  unfold gForK
  cases getS (s0 :: r) i with
  | none => rfl
  | some md =>
    obtain ⟨m, d⟩ := md
    cases m with
    | o k => rfl
    | z => cases d <;> rfl
@[simp] theorem fkS_dct (ks vs : List D) : fkS (some (.z, .dct ks vs)) = some ks := rfl
def fkD : Option D → Option (List D)
  | some (.dct ks _) => some ks
  | _ => none
def fkA (c x : Str) : Sl → Option (List D)
  | some (.z, d) => fkD (atrD c x d)
  | _ => none
@[simp] theorem fkA_z (d : D) : fkA c x (some (.z, d)) = fkD (atrD c x d) := rfl
@[simp] theorem gForKA_ap : gForKA i c x gt gb (s0 :: r) = (rM (fkA c x (getS (s0 :: r) i)) (s0 :: r)).bind fun ks r => noXc (gLoop gt gb ks r) := by
  unfold gForKA
  cases getS (s0 :: r) i with
  | none => rfl
  | some md =>
    obtain ⟨m, d⟩ := md
    cases m with
    | o k => rfl
    | z =>
      rw [fkA_z]
      dsimp only
      cases atrD c x d with
      | none => rfl
      | some e => cases e <;> rfl
@[simp] theorem fkD_dct (ks vs : List D) : fkD (some (.dct ks vs)) = some ks := rfl
/-- how an instance comes out of its __init__ -/
def mkR (r : En) : Res D → Res D
  | .ok .non (some (_, d) :: _) => .ok d r
  | .exc n ns vs _ => .exc n ns vs r
  | _ => .bad
@[simp] theorem fMake_ap : fMake c F ls fs (s0 :: r) = (fs (s0 :: r)).bind fun ds r => mkR r (F (some (.o (.all m1), .ins c [] []) :: mkArgs ls ds r)) := rfl
@[simp] theorem mkR_ok (m : Md) (d : D) (rp : En) : mkR r (.ok .non (some (m, d) :: rp)) = .ok d r := rfl
@[simp] theorem fMeth_ap : fMeth c x fo fs (s0 :: r) = (fo (s0 :: r)).bind fun d r => if isIns c x d = true then (fs r).bind fun ds r => .ok (d :: ds) r else .bad := rfl
@[simp] theorem fDisp1_ap : fDisp1 fa fb (s0 :: r) = (fa (s0 :: r)).bind fun k r => (fb r).bind fun d r => (rM (keyD k) r).bind fun k r => if kOk k = true then .ok (.dct [kD k] [d]) r else .bad := rfl
/-- what comes of a call whose callee leaves nothing -/
def toR (r : En) : Res D → Res D
  | .ok d _ => .ok d r
  | .exc n ns vs _ => .exc n ns vs r
  | .bad => .bad
@[simp] theorem fCallO_ap : fCallO F m ls fe fs (s0 :: r) = (fe (s0 :: r)).bind fun d r => (fs r).bind fun ds r => toR r (F (some (m, d) :: mkArgs ls ds r)) := by
  unfold fCallO
  congr 1
@[simp] theorem toR_ok (d : D) (rp : En) : toR r (.ok d rp) = .ok d r := rfl
@[simp] theorem lsS_m1 (ds : List D) : lsS .z (some (m1, .lst ds)) = some ds := rfl
@[simp] theorem rcvS_m1 (ds : List D) : rcvS (some (m1, .lst ds)) = true := rfl
@[simp] theorem dcS_m1 (ks vs : List D) : dcS (some (m1, .dct ks vs)) = some (ks, vs) := rfl
@[simp] theorem inS_0 (ns : List Str) (vs : List D) : inS c (some (.o (.all m1), .ins c ns vs)) = some (ns, vs) := (show (if mdEq m1 m1 = true ∧ c = c then some (ns, vs) else none) = _ from if_pos ⟨rfl, rfl⟩)
@[simp] theorem idS_0 (ks vs : List D) : idS c x (some (.o (.all m1), .ins c [x] [.dct ks vs])) = some (ks, vs) := (show (if mdEq m1 m1 = true ∧ c = c ∧ x = x then some (ks, vs) else none) = _ from if_pos ⟨rfl, rfl, rfl⟩)
@[simp] theorem noXc_bad : noXc .bad = .bad := rfl
@[simp] theorem keyD_str (s : List Nat) : keyD (.str s) = some (.inr (toS s)) := rfl
@[simp] theorem kD_str (s : List Nat) : kD (.inr (toS s)) = .str s := by simp [kD]
@[simp] theorem kOk_str (s : List Nat) : kOk (.inr (toS s)) = sOk s := by simp [kOk]
end
/-! ### lists of texts -/
section
variable {s t : List Nat} {ls ms : List (List Nat)}
theorem plains_strs (ls : List (List Nat)) : plains (ls.map .str) = true := plains_map fun _ => rfl
theorem deps_strs (ls : List (List Nat)) : deps (ls.map .str) = 0 := Nat.le_zero.mp (deps_of fun d h => by
  obtain ⟨x, _, e⟩ := List.mem_map.mp h
  rw [← e]; exact Nat.le_refl _)
theorem inOk_strs : inOk (.str s) (ls.map .str) = true := by
  unfold inOk
  rw [plains_strs, deps_strs]
  simp
theorem any_strs : ((ls.map D.str).any fun y => eqD y (.str s)) = decide (s ∈ ls) := by
  rw [List.any_map]
  induction ls with
  | nil => simp
  | cons x ls ih =>
    rw [List.any_cons, ih]
    by_cases h : x = s
    · subst h; simp
    · have : ¬ s = x := fun e => h e.symm
      simp [h, this]
@[simp high] theorem oIn_strs : oIn (.str s) (.lst (ls.map .str)) = some (.bl (decide (s ∈ ls))) := by
  rw [oIn_lst, if_pos inOk_strs, any_strs]
@[simp high] theorem oNotIn_strs : oNotIn (.str s) (.lst (ls.map .str)) = some (.bl (!decide (s ∈ ls))) := by
  rw [oNotIn_lst, if_pos inOk_strs, any_strs]
theorem eqDs_strs : ∀ (ls ms : List (List Nat)), eqDs (ls.map .str) (ms.map .str) = decide (ls = ms)
  | [], [] => rfl
  | [], _ :: _ => rfl
  | _ :: _, [] => rfl
  | x :: ls, y :: ms => by
    rw [List.map_cons, List.map_cons, eqDs_cons, eqD_str, eqDs_strs ls ms]
    by_cases h : x = y <;> simp [h]
theorem eqOk_strs : eqOk (.lst (ls.map .str)) (.lst (ms.map .str)) = true := by
  unfold eqOk
  simp [plains_strs, deps_strs]
@[simp] theorem oEq_strs : oEq (.lst (ls.map .str)) (.lst (ms.map .str)) = some (.bl (decide (ls = ms))) := by
  unfold oEq
  rw [if_pos eqOk_strs, eqD_lst, eqDs_strs]
@[simp] theorem oNe_strs : oNe (.lst (ls.map .str)) (.lst (ms.map .str)) = some (.bl (!decide (ls = ms))) := by
  unfold oNe
  rw [if_pos eqOk_strs, eqD_lst, eqDs_strs]
@[simp] theorem oEq_strs0 : oEq (.lst (ls.map .str)) (.lst []) = some (.bl (decide (ls = []))) := oEq_strs (ms := [])
@[simp] theorem oNe_strs0 : oNe (.lst (ls.map .str)) (.lst []) = some (.bl (!decide (ls = []))) := oNe_strs (ms := [])
theorem atI_strs {i : Nat} (h : ls[i]? = some s) : atI (ls.map D.str) (i : Int) = some (.str s) := atI_nat (by rw [List.getElem?_map, h]; rfl)
@[simp] theorem oSort_lst : oSortSet [.lst (ls.map .str)] = if ls.length ≤ 60 then some (.lst ((srt ls).map .str)) else none := by
  show sortSet (ls.map .str) = _
  unfold sortSet
  rw [txts_map, ← sortT_srt]
@[simp] theorem oSort_tup : oSortSet [.tup (ls.map .str)] = if ls.length ≤ 60 then some (.lst ((srt ls).map .str)) else none := by
  show sortSet (ls.map .str) = _
  unfold sortSet
  rw [txts_map, ← sortT_srt]
@[simp] theorem oLenSet_lst : oLenSet [.lst (ls.map .str)] = if ls.length ≤ 60 then some (.int ((dedL ls).length : Nat)) else none := by
  show lenSet (ls.map .str) = _
  unfold lenSet
  rw [txts_map]
end
/-! ### a dictionary of lists of texts -/
abbrev Tt := List (List Nat × List (List Nat))
def ov (T : Tt) (n : List Nat) : List (List Nat) := ((T.find? fun p => p.1 == n).map (·.2)).getD []
abbrev ky (T : Tt) : List (List Nat) := T.map (·.1)
def dcT (f : List (List Nat) → List (List Nat)) (T : Tt) : D := .dct (T.map fun p => .str p.1) (T.map fun p => .lst ((f p.2).map .str))
theorem look_str {n : List Nat} : ∀ (T : List (List Nat × D)), dLook (.inr (toS n)) (T.map fun p => .str p.1) (T.map fun p => p.2) = (T.find? fun p => p.1 == n).map (·.2)
  | [] => rfl
  | p :: T => by
    rw [List.map_cons, List.map_cons, dLook, keyD_str]
    by_cases h : p.1 = n
    · subst h; simp
    · have h2 : ¬ some (Sum.inr (toS p.1) : Key) = some (.inr (toS n)) := fun e => h (toS_inj (Sum.inr.inj (Option.some.inj e)))
      have h4 : (p.1 == n) = false := by simpa using h
      rw [if_neg h2, look_str T, List.find?_cons, h4]
theorem ov_mem {T : Tt} {n u : List Nat} (h : u ∈ ov T n) : ∃ p ∈ T, p.1 = n ∧ u ∈ p.2 := by
  unfold ov at h
  cases e : T.find? fun p => p.1 == n with
  | none => rw [e] at h; simp at h
  | some p =>
    rw [e] at h
    exact ⟨p, List.mem_of_find?_eq_some e, by simpa using List.find?_some e, h⟩
theorem find_ky {T : Tt} {n : List Nat} (h : n ∈ ky T) : ∃ p, T.find? (fun p => p.1 == n) = some p := by
  cases e : T.find? fun p => p.1 == n with
  | some p => exact ⟨p, rfl⟩
  | none =>
    obtain ⟨p, hp, e2⟩ := List.mem_map.mp h
    have := List.find?_eq_none.mp e p hp
    simp [e2] at this
theorem dget_dcT {f : List (List Nat) → List (List Nat)} {T : Tt} {n : List Nat} (h : n ∈ ky T) : oDGet (dcT f T) (.str n) = some (.lst ((f (ov T n)).map .str)) := by
  have e := look_str (n := n) (T.map fun p => (p.1, D.lst ((f p.2).map .str)))
  rw [List.map_map, List.map_map] at e
  show (some (Sum.inr (toS n) : Key)).bind (fun k => dLook k (T.map fun p => .str p.1) (T.map fun p => .lst ((f p.2).map .str))) = _
  rw [Option.bind_some]
  refine Eq.trans e ?_
  obtain ⟨p, hp⟩ := find_ky h
  rw [List.find?_map]
  unfold ov
  have hp' : List.find? ((fun p : List Nat × D => p.1 == n) ∘ fun p : List Nat × List (List Nat) => (p.1, D.lst ((f p.2).map .str))) T = some p := hp
  rw [hp', hp]
  rfl
theorem hasK_str {n : List Nat} : ∀ (ls : List (List Nat)), hasK (.inr (toS n)) (ls.map .str) = decide (n ∈ ls)
  | [] => by simp [hasK]
  | x :: ls => by
    have ih := hasK_str (n := n) ls
    unfold hasK at ih ⊢
    rw [List.map_cons, List.any_cons, ih, keyD_str]
    by_cases h : x = n
    · subst h; simp
    · have h2 : ¬ some (Sum.inr (toS x) : Key) = some (.inr (toS n)) := fun e => h (toS_inj (Sum.inr.inj (Option.some.inj e)))
      have h3 : ¬ n = x := fun e => h e.symm
      simp only [h2, decide_false, List.mem_cons, h3, false_or, Bool.false_or]
theorem dput_new {n : List Nat} {ls : List (List Nat)} {vs : List D} {d : D} (hn : n ∉ ls) (ok : sOk n = true) (hl : ls.length < 16777216) : dPutO (.str n) d (ls.map .str, vs) = some ((ls ++ [n]).map .str, vs ++ [d]) := by
  unfold dPutO
  rw [keyD_str, Option.bind_some]
  have h1 : hasK (.inr (toS n)) (ls.map .str) = false := by rw [hasK_str]; exact decide_eq_false hn
  rw [if_pos ⟨by simpa using hl, by rw [kOk_str]; exact ok⟩]
  unfold putKs putVs
  rw [h1]
  simp
theorem pairs_tD {ps : List (List Nat × D)} (ok : ∀ p ∈ ps, sOk p.1 = true) : pairsD (ps.map fun p => .tup [.str p.1, p.2]) = some (ps.map fun p => (.inr (toS p.1), p.2)) := by
  induction ps with
  | nil => rfl
  | cons p ps ih =>
    rw [List.map_cons, pairsD, keyD_str, Option.bind_some, kOk_str, if_pos (ok p List.mem_cons_self), ih fun q hq => ok q (List.mem_cons_of_mem _ hq)]
    rfl
theorem fold_merge {ps : List (List Nat × D)} : ∀ (ls : List (List Nat)) (vs : List D), (ls ++ ps.map (·.1)).Nodup → (ps.map fun p => ((.inr (toS p.1), p.2) : Key × D)).foldl mergeD (ls.map .str, vs) = ((ls ++ ps.map (·.1)).map .str, vs ++ ps.map (·.2)) := by
  induction ps with
  | nil => intro ls vs _; simp
  | cons p ps ih =>
    intro ls vs nd
    have hn : p.1 ∉ ls := fun z => (List.nodup_append.mp nd).2.2 p.1 z p.1 List.mem_cons_self rfl
    have h1 : hasK (.inr (toS p.1)) (ls.map .str) = false := by rw [hasK_str]; exact decide_eq_false hn
    have e : mergeD (ls.map .str, vs) (.inr (toS p.1), p.2) = ((ls ++ [p.1]).map .str, vs ++ [p.2]) := by
      unfold mergeD putKs putVs
      dsimp only
      rw [h1]
      simp
    rw [List.map_cons, List.foldl_cons, e, ih (ls ++ [p.1]) (vs ++ [p.2]) (by rw [List.append_assoc]; exact nd)]
    simp
theorem dict_tD {ps : List (List Nat × D)} (ok : ∀ p ∈ ps, sOk p.1 = true) (nd : (ps.map (·.1)).Nodup) : oDictP [.lst (ps.map fun p => .tup [.str p.1, p.2])] = some (.dct (ps.map fun p => .str p.1) (ps.map (·.2))) := by
  show (pairsD (ps.map fun p => .tup [.str p.1, p.2])).map dictD = _
  rw [pairs_tD ok]
  show some (dictD _) = _
  unfold dictD
  have e := fold_merge (ps := ps) [] [] (by simpa using nd)
  rw [List.map_nil] at e
  rw [e]
  simp
end Vm
set_option Elab.async false
set_option linter.all false
set_option maxRecDepth 100000
set_option maxHeartbeats 4000000
/-! loops, by what stays -/
namespace Vm
open PySem PySem.Spec PyProof.Rows L2
theorem gLoop_ex {gt : D → M Fl} {gb : M Fl} {ds : List D} {r : En} (I : Nat → En → Prop) (st : ∀ i d r, ds[i]? = some d → I i r → ∃ r', (gt d r).bind (fun _ r => gb r) = .ok .nx r' ∧ I (i + 1) r') (h : I 0 r) :
    ∃ r', gLoop gt gb ds r = .ok .nx r' ∧ I ds.length r' := by
  obtain ⟨r', e, i⟩ := gLoop_inv (gt := gt) (gb := gb) I ds 0 (fun i d r hd hi => by
    rw [Nat.zero_add] at hi ⊢
    exact st i d r hd hi) r h
  rw [Nat.zero_add] at i
  exact ⟨r', e, i⟩
/-- a loop whose turns may end it: all turns tell the same -/
theorem gLoop_go {gt : D → M Fl} {gb : M Fl} (I : En → Prop) : ∀ (ds : List D) (st : ∀ d ∈ ds, ∀ r, I r → ∃ r1 fl r2, gt d r = .ok .nx r1 ∧ gb r1 = .ok fl r2 ∧ (fl = .nx ∨ fl = .ct) ∧ I r2) (r : En), I r → ∃ r', gLoop gt gb ds r = .ok .nx r' ∧ I r'
  | [], _, r, h => ⟨r, rfl, h⟩
  | d :: ds, st, r, h => by
    obtain ⟨r1, fl, r2, e1, e2, e3, h2⟩ := st d List.mem_cons_self r h
    obtain ⟨r', e, h'⟩ := gLoop_go I ds (fun d' hd => st d' (List.mem_cons_of_mem _ hd)) r2 h2
    refine ⟨r', ?_, h'⟩
    rw [gLoop_cons, e1, bind_ok, e2, bind_ok]
    rcases e3 with rfl | rfl <;> exact e
theorem gWh_ex {ft : M D} {gb : M Fl} (I : En → Prop) (μ : En → Nat) (P : En → Prop) (st : ∀ r, I r → (∃ r1, ft r = .ok (.bl false) r1 ∧ P r1) ∨ ∃ r1 r2, ft r = .ok (.bl true) r1 ∧ gb r1 = .ok .nx r2 ∧ I r2 ∧ μ r2 < μ r) :
    ∀ (n : Nat) (r : En), μ r ≤ n → I r → ∃ r', gWh ft gb r = .ok .nx r' ∧ P r' := by
  intro n
  induction n with
  | zero =>
    intro r hm h
    rcases st r h with ⟨r1, e, p⟩ | ⟨r1, r2, e1, e2, h2, lt⟩
    · refine ⟨r1, gWh_eq ft gb r (x := .ok .nx r1) ?_ (fun z => by cases z), p⟩
      unfold gWhS
      rw [e, bind_ok]
    · omega
  | succ n ih =>
    intro r hm h
    rcases st r h with ⟨r1, e, p⟩ | ⟨r1, r2, e1, e2, h2, lt⟩
    · refine ⟨r1, gWh_eq ft gb r (x := .ok .nx r1) ?_ (fun z => by cases z), p⟩
      unfold gWhS
      rw [e, bind_ok]
    · obtain ⟨r', e, p⟩ := ih r2 (by omega) h2
      refine ⟨r', gWh_eq ft gb r (x := .ok .nx r') ?_ (fun z => by cases z), p⟩
      unfold gWhS
      rw [e1, bind_ok]
      show (gb r1).bind (lpK (gWh ft gb)) = _
      rw [e2, bind_ok]
      exact e
theorem gWh_use {ft : M D} {gb : M Fl} {r : En} (I : En → Prop) (μ : En → Nat) (P : En → Prop) (h : I r) (st : ∀ r, I r → (∃ r1, ft r = .ok (.bl false) r1 ∧ P r1) ∨ ∃ r1 r2, ft r = .ok (.bl true) r1 ∧ gb r1 = .ok .nx r2 ∧ I r2 ∧ μ r2 < μ r) :
    ∃ r', gWh ft gb r = .ok .nx r' ∧ P r' := gWh_ex I μ P st (μ r) r (Nat.le_refl _) h
theorem gLc_ex {own : List Nat} {gt : D → M Fl} {ft fe : M D} {ds : List D} {r : En} (p : D → Bool) (h : D → D) (W : En → Prop) (w : W r)
    (st : ∀ d ∈ ds, ∀ r, W r → ∃ r1 r2, noX (gt d r) = .ok .nx r1 ∧ noX (ft r1) = .ok (.bl (p d)) r2 ∧ (p d = false → W (wipeE own r2)) ∧ (p d = true → ∃ r3, noX (fe r2) = .ok (h d) r3 ∧ W (wipeE own r3))) :
    ∃ r', gLc own gt ft fe ds r = .ok ((ds.filter p).map h) r' ∧ W r' := gLc_map W ds st r w
end Vm
set_option Elab.async false
set_option linter.all false
set_option maxRecDepth 100000
set_option maxHeartbeats 4000000
/-! a name set to a list that is gathered; methods once more -/
namespace Vm
open PySem PySem.Spec PyProof.Rows L2
section
variable {G : GC} {N : List Str} {S : SC} {bs ms ms1 ms2 ms3 as : Ms} {m me rm : Md} {e : Expr} {pos spos p apos : Pos} {tg iter : Expr} {ifs : List Expr} {scope : Scope} {fi : M (List D)} {gt : D → M Fl} {ft fe fo : M D} {es : List Expr} {fs : M (List D)}
theorem lc_read {W : WX} {σ : L2.St} {H : Hp} {Q : VK} {ow : List Nat} (dj : Dj bs (msU as (msU ms2 ms3))) (ho : ∀ i, as i = true → i ∈ ow) (h : tR G.K G.mg W (FO G.K G.mg (.o (.all me)) (msU ms1 (msU as (msU ms2 ms3)))) (msU ms1 (msU as (msU ms2 ms3))) (fLc ow fi gt ft fe) σ H Q) :
    tLc (tR G.K G.mg W (FI G.K G.mg bs) ms1 fi) (tG G.K G.mg as gt) (tR G.K G.mg WNo FT ms2 ft) (tR G.K G.mg WNo (FO G.K G.mg me ms3) ms3 fe) ow σ H Q := by
  obtain ⟨ρ, H0, c, l, o⟩ := h
  generalize hL : msU ms1 (msU as (msU ms2 ms3)) = L at o
  have iL1 : ∀ i, ms1 i = true → L i = true := fun i e => by rw [← hL]; exact or_l e
  have iLa : ∀ i, as i = true → L i = true := fun i e => by rw [← hL]; exact or_r (or_l e)
  have iL2 : ∀ i, ms2 i = true → L i = true := fun i e => by rw [← hL]; exact or_r (or_r (or_l e))
  have iL3 : ∀ i, ms3 i = true → L i = true := fun i e => by rw [← hL]; exact or_r (or_r (or_r e))
  have dja : Dj bs as := fun i h => (Bool.or_eq_false_iff.mp (dj i h)).1
  have dj2 : Dj bs ms2 := fun i h => (Bool.or_eq_false_iff.mp (Bool.or_eq_false_iff.mp (dj i h)).2).1
  have dj3 : Dj bs ms3 := fun i h => (Bool.or_eq_false_iff.mp (Bool.or_eq_false_iff.mp (dj i h)).2).2
  have dj0 : Dj bs ms0 := fun i h => rfl
  refine ⟨ρ, H0, c, l, (Out.bind (G := FI G.K G.mg bs) (ms1 := ms1) back_FO o iL1).imp fun J H1 ⟨ds, H01, c1, ρ1, e1, s1, l1, ⟨hlen, P, p1, sP, hJ⟩, o1⟩ B hD => ?_⟩
  have f0 : LcF G.K G.mg me L P H01 H1 c1 B [] [] [] H01 (upd H1 B (.lst [])) c1 := ⟨.new hD, upd_same, l1.nc hD, l1.n0 hD, ⟨rfl, rfl⟩, .nil, by simp, sP.run ms0 H01 H1 c1 H01 _ c1 dj0 p1 (.new hD)⟩
  refine ⟨fun i n H => n = ds.length - i ∧ i ≤ ds.length ∧ ∃ ρ H0 c acc g done, Lies G.K G.mg H0 H c (L2.wipe σ ow) ρ ∧ LcF G.K G.mg me L P H01 H1 c1 B done acc g H0 H c ∧ done.length ≤ i ∧
      Out G.K G.mg W (FO G.K G.mg (.o (.all me)) L) L H01 H1 c1 σ ((gLc ow gt ft fe (ds.drop i) ρ).bind fun ys r => .ok (.lst (done ++ ys)) (restE ρ1 ow r)) Q,
    ⟨ds.length, rfl, Nat.zero_le _, wipeE ow ρ1, H01, c1, [], [], [], (l1.upd_new hD).wipe ow, f0, Nat.zero_le _, o1⟩, ?_⟩
  rintro i n H ⟨em, hi, ρ, H0, c, acc, g, done, l, F, dl, o⟩
  obtain ⟨hgo, hst⟩ := hJ H0 H c F.st.grow l.sub F.pH
  by_cases hlt : i < ds.length
  · have ed : ds.drop i = ds[i] :: ds.drop (i + 1) := List.drop_eq_getElem_cons hlt
    rw [ed] at o
    unfold gLc at o
    obtain ⟨go, step⟩ := hgo i ds[i] (List.getElem?_eq_getElem hlt)
    refine .inr ⟨go, fun H => ∃ ρ H0 c acc g done, Lies G.K G.mg H0 H c (L2.wipe σ ow) ρ ∧ LcF G.K G.mg me L P H01 H1 c1 B done acc g H0 H c ∧ done.length ≤ i + 1 ∧
      Out G.K G.mg W (FO G.K G.mg (.o (.all me)) L) L H01 H1 c1 σ ((gLc ow gt ft fe (ds.drop (i + 1)) ρ).bind fun ys r => .ok (.lst (done ++ ys)) (restE ρ1 ow r)) Q, fun H' h => ⟨ds.length - (i + 1), by omega, rfl, hlt, h⟩, fun x H' hy => ?_⟩
    obtain ⟨H0', k1, k2, k3, k4, fz⟩ := step x H' hy
    have l' := l.grow k1 k2 k3 k4
    have gr : Step ms0 H0 H c H0' H' c := Step.growth k1 k2 k4
    have F' := F.adv gr (fun i e => by cases e) dj0 sP
    refine ⟨WNo, { nx := fun σ2 H2 => ∃ ρ2 H02 c2, Lies G.K G.mg H02 H2 c2 σ2 ρ2 ∧ LcF G.K G.mg me L P H01 H1 c1 B done acc g H02 H2 c2 ∧ Agr as (L2.wipe σ ow) σ2 ∧  Out G.K G.mg W (FO G.K G.mg (.o (.all me)) L) L H01 H1 c1 σ (((Vm.noX (ft ρ2)).bind (lcT ow fe (gLc ow gt ft fe (ds.drop (i + 1))))).bind fun ys r => .ok (.lst (done ++ ys)) (restE ρ1 ow r)) Q, bk := fun _ _ => True, ct := fun _ _ => True, rt := fun _ _ => True }, .z, ρ, H0', c, ds[i], l', fz, ?_, ?_⟩
    · cases hh : gt ds[i] ρ with
      | ok fl r =>
        rw [hh, noX_ok, bind_ok] at o
        cases fl with
        | nx => exact fun σ2 H02 H2 c2 t l2 a2 => ⟨r, H02, c2, l2, F'.adv t iLa dja sP, a2, o⟩
        | bk => exact fun _ _ _ _ _ _ _ => trivial
        | ct => exact fun _ _ _ _ _ _ _ => trivial
        | rt d => exact fun _ _ _ _ _ _ _ _ _ => trivial
      | exc n ns vs r => rw [hh, noX_exc, bind_bad, bind_bad] at o; exact o.elim
      | bad => rw [hh, noX_bad, bind_bad, bind_bad] at o; exact o.elim
    · rintro σ2 H2 ⟨ρ2, H02, c2, l2, F2, a2, o2⟩
      have hw := wipe_agr a2 ho
      refine ⟨hw, ρ2, H02, c2, l2, ?_⟩
      cases hh : ft ρ2 with
      | exc n ns vs r => rw [hh, noX_exc, bind_bad, bind_bad] at o2; exact o2.elim
      | bad => rw [hh, noX_bad, bind_bad, bind_bad] at o2; exact o2.elim
      | ok d r =>
        rw [hh, noX_ok, bind_ok] at o2
        intro b H03 H3 c3 s3 l3 z
        have z : d = .bl b := z
        subst z
        have F3 := F2.adv s3 iL2 dj2 sP
        cases b with
        | false =>
          rw [if_neg Bool.false_ne_true]
          exact ⟨wipeE ow r, H03, c3, acc, g, done, by rw [← hw]; exact l3.wipe ow, F3, Nat.le_succ_of_le dl, o2⟩
        | true =>
          rw [if_pos rfl]
          refine ⟨r, H03, c3, l3, ?_⟩
          have o3 : Out G.K G.mg W (FO G.K G.mg (.o (.all me)) L) L H01 H1 c1 σ (((Vm.noX (fe r)).bind fun y r => (gLc ow gt ft fe (ds.drop (i + 1)) (wipeE ow r)).bind fun ys r => .ok (y :: ys) r).bind fun ys r => .ok (.lst (done ++ ys)) (restE ρ1 ow r)) Q := o2
          cases hh : fe r with
          | exc n ns vs r => rw [hh, noX_exc, bind_bad, bind_bad] at o3; exact o3.elim
          | bad => rw [hh, noX_bad, bind_bad, bind_bad] at o3; exact o3.elim
          | ok y r2 =>
            rw [hh, noX_ok, bind_ok] at o3
            intro v H04 H4 c4 s4 l4 ⟨fp, oy, fy⟩
            have F4 := F3.adv s4 iL3 dj3 sP
            have dfp : B ∉ fp := fun z => by
              rcases fy.new B z with w | ⟨j, w, _⟩
              · rw [F3.hD] at w; cases w
              · rw [F3.cD] at w; cases w
            refine ⟨acc, F4.hD, ?_, wipeE ow r2, H04, c4, acc ++ [v], g ++ fp, done ++ [y], ?_, ?_, ?_, ?_⟩
            · rw [F4.ow.length, sizeLine_eq]
              have : ds.length ≤ 16777216 := hlen
              omega
            · rw [← hw]; exact (l4.other F4.cD F4.D0).wipe ow
            · refine ⟨F4.st.other hD, upd_same, F4.cD, F4.D0, Ows.snoc (Ows.mono (Same.refl _) done _ acc g (fun b hb => upd_ne fun e => F4.dg (e ▸ hb)) F4.ow) (Ow.mono (Same.refl _) y me v fp (fun b hb => upd_ne fun e => dfp (e ▸ hb)) oy), ?_, ?_, ?_⟩
              · exact Fresh.other (Fresh.app F4.fr F3.fr.there F3.fr.nc fy (fun _ e => e) iL3 F3.st)
              · exact fun h => (List.mem_append.mp h).elim F4.dg dfp
              · exact sP.oth _ _ _ _ F4.cD F4.pH
            · rw [List.length_append]; exact Nat.succ_le_succ dl
            · cases hq : gLc ow gt ft fe (ds.drop (i + 1)) (wipeE ow r2) with
              | ok ys r3 =>
                rw [hq, bind_ok, bind_ok] at o3
                rw [bind_ok, List.append_assoc]
                exact o3
              | exc n ns vs r3 => rw [hq] at o3; exact o3
              | bad => rw [hq] at o3; exact o3
  · have e : i = ds.length := by omega
    subst e
    rw [List.drop_length] at o
    refine .inl ⟨hst, ?_⟩
    have o' : Out G.K G.mg W (FO G.K G.mg (.o (.all me)) L) L H01 H1 c1 σ (.ok (.lst (done ++ [])) (restE ρ1 ow ρ)) Q := o
    rw [List.append_nil] at o'
    refine o' (.ref B) H0 H c F.st (l1.rest l F.st.grow (wipe_length _ _) fun i hi v e => (wipe_some e).1) ⟨B :: g, ⟨B, acc, g, rfl, F.hD, rfl, F.ow⟩, ?_⟩
    refine ⟨List.nodup_cons.mpr ⟨F.dg, F.fr.nd⟩, ?_, ?_, ?_, ?_⟩ <;> intro b hb <;> rcases List.mem_cons.mp hb with z | hb
    · rw [z]; exact F.cD
    · exact F.fr.nc b hb
    · rw [z]; exact F.D0
    · exact F.fr.n0 b hb
    · rw [z]; exact ⟨_, F.hD⟩
    · exact F.fr.there b hb
    · rw [z]; exact .inl hD
    · exact F.fr.new b hb
/-- name = [..] -/
theorem VS.setLcG {x : Str} {i : Nat} (own : List (Str × Nat)) (m' : Md) (kf : ∀ {W : WX} {L : Ms} {H0 H : Hp} {c : Co} {σ : L2.St} {x : Res D} {Q : V → Hp → Prop}, Out G.K G.mg W (FO G.K G.mg m' L) L H0 H c σ x Q → Out G.K G.mg W (FO G.K G.mg (.o (.all me)) L) L H0 H c σ x Q) (hi : VI G N S bs ms1 tg iter fi) (hg : VG G N (blkS S scope) as tg gt) (ht : VTs G N (blkS S scope) ms2 ifs ft) (he : VO G N (blkS S scope) me ms3 e fe)
    (dj : Dj bs (msU as (msU ms2 ms3)) := by intro i h; first | rfl | exact absurd h Bool.false_ne_true | (simp [lentM] at h ⊢ <;> omega)) (hc : S.cm = true := by rfl) (hb : blkC N S.sc scope own = true := by decide +kernel) (ho : ∀ i, as i = true → i ∈ own.map (·.2) := by intro i h; simpa using h) (hs : ∀ env x, foldedSetIterable iter env x = pure x := by intro _ _; rfl)
    (hN : N[i]? = some x := by rfl) (hx : S.sc.names.lookup x = some .local := by rfl) (hk : S.sc.kind = .function := by rfl) (hl : (p.line == pos.line) = true := by rfl) (ha : (scope.names.any fun (n, k) => n == x && (k == .local || k == .cell)) = false := by rfl) :
    VS G N S rm (msO i) (.Assign [.Name x p] (.ListComp e [⟨tg, iter, ifs, 0⟩] scope pos) spos) (gSet i m' (fLc (own.map (·.2)) fi gt ft fe)) := by
  refine fun R a W t => ?_
  have ok : BlkOk (mkX G N R).N (mkX G N R).env.scope scope own := by
    rw [show (mkX G N R).env.scope = S.sc from a.sc]
    exact blkOk_by hb
  have hx' : (mkX G N R).env.scope.names.lookup x = some .local := by rw [show (mkX G N R).env.scope = S.sc from a.sc]; exact hx
  refine (ps_setLc (i := i) (own := own) (a.calm.trans hc) a.nd hN hx' (sw_true (by rw [show (mkX G N R).env.scope = S.sc from a.sc]; exact hk) hx' hl ha) (hi R a W t) ok (g := tG G.K G.mg as gt) (tt := tR G.K G.mg WNo FT ms2 ft) (te := tR G.K G.mg WNo (FO G.K G.mg me ms3) ms3 fe)
    (fun s H C cl fp => ?_) (fun s H C cl fp => ?_) (fun s H C cl fp => ?_) (hs _)).imp fun D σ H ⟨ρ, H0, c, l, o⟩ => ?_
  · obtain ⟨R', e1, a'⟩ := a.blk scope s H C cl fp
    rw [e1]; exact hg R' a'
  · obtain ⟨R', e1, a'⟩ := a.blk scope s H C cl fp
    rw [e1]; exact ht R' a' _ takes_no
  · obtain ⟨R', e1, a'⟩ := a.blk scope s H C cl fp
    rw [e1]; exact he R' a' _ takes_no
  refine lc_read (W := W) dj ho ⟨ρ, H0, c, l, ?_⟩
  refine kf ?_
  show Out _ _ _ _ _ _ _ _ _ _ fun x H1 => D.nx (σ.set i (some x)) H1
  unfold gSet at o
  cases e1 : fLc (own.map (·.2)) fi gt ft fe ρ with
  | ok d r =>
    rw [e1, bind_ok] at o
    refine fun v H0' H' c' s l' ⟨fp, ow, fr⟩ => ?_
    have s' := s.mono (ms' := msA) fun _ _ => rfl
    have fr' := fr.mono (ms2 := msA) fun _ _ => rfl
    exact o (σ.set i (some v)) H0' H' (coSet c' i fp) (Step.store (K := G.K) (mg := G.mg) s' fr') (l'.set ow fr.nd (fun a ha => .inl (fr.nc a ha)) fr.n0 fr.there) Agr.set
  | exc n ns vs r =>
    rw [e1] at o
    exact fun cls dx H0' H' c' s l' e => o cls dx σ H0' H' c' (s.mono fun _ _ => rfl) l' .refl e
  | bad => rw [e1] at o; exact o
/-- .. frozen at once -/
theorem VS.setLcZ {x : Str} {i : Nat} (own : List (Str × Nat)) (hi : VI G N S bs ms1 tg iter fi) (hg : VG G N (blkS S scope) as tg gt) (ht : VTs G N (blkS S scope) ms2 ifs ft) (he : VO G N (blkS S scope) me ms3 e fe)
    (dj : Dj bs (msU as (msU ms2 ms3)) := by intro i h; first | rfl | exact absurd h Bool.false_ne_true | (simp [lentM] at h ⊢ <;> omega)) (hc : S.cm = true := by rfl) (hb : blkC N S.sc scope own = true := by decide +kernel) (ho : ∀ i, as i = true → i ∈ own.map (·.2) := by intro i h; simpa using h) (hs : ∀ env x, foldedSetIterable iter env x = pure x := by intro _ _; rfl)
    (hN : N[i]? = some x := by rfl) (hx : S.sc.names.lookup x = some .local := by rfl) (hk : S.sc.kind = .function := by rfl) (hl : (p.line == pos.line) = true := by rfl) (ha : (scope.names.any fun (n, k) => n == x && (k == .local || k == .cell)) = false := by rfl) :
    VS G N S rm (msO i) (.Assign [.Name x p] (.ListComp e [⟨tg, iter, ifs, 0⟩] scope pos) spos) (gSet i .z (fLc (own.map (·.2)) fi gt ft fe)) := VS.setLcG own .z Out.frz hi hg ht he dj hc hb ho hs hN hx hk hl ha
/-- name = [..] -/
theorem VS.setLc {x : Str} {i : Nat} (own : List (Str × Nat)) (hi : VI G N S bs ms1 tg iter fi) (hg : VG G N (blkS S scope) as tg gt) (ht : VTs G N (blkS S scope) ms2 ifs ft) (he : VO G N (blkS S scope) me ms3 e fe)
    (dj : Dj bs (msU as (msU ms2 ms3)) := by intro i h; first | rfl | exact absurd h Bool.false_ne_true | (simp [lentM] at h ⊢ <;> omega)) (hc : S.cm = true := by rfl) (hb : blkC N S.sc scope own = true := by decide +kernel) (ho : ∀ i, as i = true → i ∈ own.map (·.2) := by intro i h; simpa using h) (hs : ∀ env x, foldedSetIterable iter env x = pure x := by intro _ _; rfl)
    (hN : N[i]? = some x := by rfl) (hx : S.sc.names.lookup x = some .local := by rfl) (hk : S.sc.kind = .function := by rfl) (hl : (p.line == pos.line) = true := by rfl) (ha : (scope.names.any fun (n, k) => n == x && (k == .local || k == .cell)) = false := by rfl) :
    VS G N S rm (msO i) (.Assign [.Name x p] (.ListComp e [⟨tg, iter, ifs, 0⟩] scope pos) spos) (gSet i (.o (.all me)) (fLc (own.map (·.2)) fi gt ft fe)) := VS.setLcG own _ (fun h => h) hi hg ht he dj hc hb ho hs hN hx hk hl ha
variable {m' : Md} {c n : Str} {k : Nat} {ps : List Str} {F : M D} {ls : List (Option Nat)} {o : Expr}
theorem VO.methE (M : MetX G c n k ps rm F) (ho : VO G N S .z ms1 o fo) (ha : VM G N S ls ms2 (e :: es) fs) {pl : Env → Sem Bool} (hk' : k ≤ S.k := by decide) (hcm : S.cm = true := by rfl) (nd : (ls.filterMap id).Nodup := by decide) (hl : (none :: ls : List (Option Nat)).length = ps.length := by rfl)
    (hst : ∀ env, starEach (e :: es) env = (false, eval e env) :: starEach es env := by intro _; rfl) (hpl : ∀ env, (backTo pos (starEach es env)).any (·.1) = false := by intro _; rfl)
    (ht : ∀ env, eval (.Call (.Attribute o n apos) (e :: es) [] pos) env = (do
      let ov ← eval o env
      standAt apos.atName
      let (f, first) ← holding [ov] (getMethod ov n (pl env))
      callWith pos f first (backTo pos (starEach (e :: es) env)) (backToKw pos (keywordEach [] env))) := by intro _; rfl) :
    VO G N S rm (msU (msU ms1 ms2) (lentM (none :: ls))) (.Call (.Attribute o n apos) (e :: es) [] pos) (fCall F (none :: ls) (fMeth c n fo fs)) := by
  obtain ⟨C, f, fd, hC, cl, hm, hb, hF⟩ := M.ex
  exact fun R a W t => (pe_metS (ho R a W t) cl hm hF ((a.room hcm).mono hk') hb (fun σ => passAt t σ) (ha R a W t) (hst _) (hpl _) (ht _)).imp fun σ H Q h => met_core nd hl hC h
theorem VO.meth0E (M : MetX G c n k ps rm F) (ho : VO G N S .z ms1 o fo) {pl : Env → Sem Bool} (hk' : k ≤ S.k := by decide) (hcm : S.cm = true := by rfl) (hl : 1 = ps.length := by rfl)
    (ht : ∀ env, eval (.Call (.Attribute o n apos) [] [] pos) env = (do
      let ov ← eval o env
      standAt apos.atName
      let (f, first) ← holding [ov] (getMethod ov n (pl env))
      callWith pos f first (backTo pos (starEach [] env)) (backToKw pos (keywordEach [] env))) := by intro _; rfl) :
    VO G N S rm (msU (msU ms1 ms0) (lentM [none])) (.Call (.Attribute o n apos) [] [] pos) (fCall F [none] (fMeth c n fo fNil)) := by
  obtain ⟨C, f, fd, hC, cl, hm, hb, hF⟩ := M.ex
  refine fun R a W t => (pe_metS0 (ho R a W t) cl hm hF ((a.room hcm).mono hk') hb (fun σ => passAt t σ) (ht _)).imp fun σ H Q h => ?_
  obtain ⟨ρ, H0, cc, l, o1⟩ := met_core (ls := []) (ms2 := ms0) (fs := fNil) (by decide) hl hC h
  exact ⟨ρ, H0, cc, l, o1.imp fun x H1 ⟨a, dx, fs', e1, e2, e3, ρ', H0', c', l', o2⟩ => ⟨a, dx, fs', e1, e2, e3, o2 [] H0' H1 c' .refl l' ⟨rfl, rfl⟩⟩⟩
end
end Vm
set_option Elab.async false
set_option linter.all false
set_option maxRecDepth 100000
set_option maxHeartbeats 4000000
namespace Vm
open PySem PySem.Spec PyProof.Rows L2
theorem sw_cell {elt : Expr} {gs : List Comprehension} {scope : Scope} {pos py : Pos} {y : Str} {l : Nat} {env : Env} (hy : env.scope.names.lookup y = some .cell) : swapsWith (.ListComp elt gs scope pos) (some (.Name y py)) l env = pure false := by
  have ky : env.kindOf y = some .cell := hy
  have e : (some NameKind.cell == some NameKind.local) = false := by decide
  unfold swapsWith
  dsimp only
  rw [ky, e, Bool.and_false, Bool.false_and, Bool.false_and]
section
variable {G : GC} {N : List Str} {S : SC} {ms : Ms} {m rm : Md} {e : Expr} {pos pos2 : Pos} {f : M D}
/-- x = [..], x a name that a block within reads -/
theorem VS.setC {i : Nat} {x : Str} {p : Pos} {gs : List Comprehension} {scope : Scope} (h : VO G N S m ms (.ListComp e gs scope pos2) f) (hi : N[i]? = some x := by rfl) (hx : Loc' S x := by exact Or.inr ⟨rfl, rfl⟩) (hk : S.sc.names.lookup x = some .cell := by rfl) :
    VS G N S rm (msO i) (.Assign [.Name x p] (.ListComp e gs scope pos2) pos) (gSet i m f) := by
  refine fun R a W t => (ps_set (i := i) a.nd hi (a.loc hx).1 (h R a W t) (sw_cell (by rw [show (mkX G N R).env.scope = S.sc from a.sc]; exact hk)) (a.loc hx).2).imp fun D σ H ⟨ρ, H0, c, l, o⟩ => ⟨ρ, H0, c, l, ?_⟩
  show Out _ _ _ _ _ _ _ _ _ _ fun x H1 => D.nx (σ.set i (some x)) H1
  unfold gSet at o
  cases e1 : f ρ with
  | ok d r =>
    rw [e1, bind_ok] at o
    refine fun v H0' H' c' s l' ⟨fp, ow, fr⟩ => ?_
    have s' := s.mono (ms' := msA) fun _ _ => rfl
    have fr' := fr.mono (ms2 := msA) fun _ _ => rfl
    exact o (σ.set i (some v)) H0' H' (coSet c' i fp) (Step.store (K := G.K) (mg := G.mg) s' fr') (l'.set ow fr.nd (fun a ha => .inl (fr.nc a ha)) fr.n0 fr.there) Agr.set
  | exc n ns vs r =>
    rw [e1] at o
    exact fun cls dx H0' H' c' s l' e => o cls dx σ H0' H' c' (s.mono fun _ _ => rfl) l' .refl e
  | bad => rw [e1] at o; exact o
end
end Vm
set_option Elab.async false
set_option linter.all false
set_option maxRecDepth 100000
set_option maxHeartbeats 4000000
/-! a bracket: a slot's tree is frozen for one statement, then it is one's own again -/
namespace Vm
open PySem PySem.Spec PyProof.Rows L2
mutual
/-- the data needs nothing of the frozen heap -/
def clean : D → Md → Bool
  | .non, _ => true
  | .bl _, _ => true
  | .int _, _ => true
  | .str _, _ => true
  | .scr _, _ => false
  | .lst ds, .o k => cleans ds k
  | .tup ds, .o k => cleans ds k
  | .dct _ ds, .o k => cleans ds k
  | .ins _ _ ds, .o k => cleans ds k
  | .lst _, .z => false
  | .tup _, .z => false
  | .dct _ _, .z => false
  | .ins _ _ _, .z => false
def cleans : List D → Kd → Bool
  | [], _ => true
  | d :: ds, k => clean d k.hd && cleans ds k.tl
end
section
variable {K : PySem.W.Frag} {mg : Str → Option Value} {H0 H H0' H' H0'' H'' : Hp} {c c' : Co} {σ σ' : L2.St} {ρ ρ' : En} {d : D} {m : Md} {v : V} {i : Nat} {fp : List Addr} {k : Kd} {as : Ms}
mutual
theorem Ow.clean : ∀ (d : D) (m : Md) (v : V) (fp : List Addr), clean d m = true → Ow K mg H0 H d m v fp → Ow K mg H0' H d m v fp
  | .non, .z, _, _, _, h => h
  | .bl _, .z, _, _, _, h => h
  | .int _, .z, _, _, _, h => h
  | .str _, .z, _, _, _, h => h
  | .non, .o _, _, _, _, h => h
  | .bl _, .o _, _, _, _, h => h
  | .int _, .o _, _, _, _, h => h
  | .str _, .o _, _, _, _, h => h
  | .scr _, _, _, _, q, _ => by simp [Vm.clean] at q
  | .lst ds, .o k, _, _, q, ⟨a, vs, g, e, h, ef, r⟩ => ⟨a, vs, g, e, h, ef, Ows.clean ds k vs g (by simpa [Vm.clean] using q) r⟩
  | .tup ds, .o k, _, _, q, ⟨a, vs, g, e, h, ef, r⟩ => ⟨a, vs, g, e, h, ef, Ows.clean ds k vs g (by simpa [Vm.clean] using q) r⟩
  | .dct ks ds, .o k, _, _, q, ⟨a, vs, g, e, ef, h, r⟩ => ⟨a, vs, g, e, ef, h, Ows.clean ds k vs g (by simpa [Vm.clean] using q) r⟩
  | .ins c ns ds, .o k, _, _, q, ⟨a, C, dx, vs, g, e, ef, hm, h, l, r⟩ => ⟨a, C, dx, vs, g, e, ef, hm, h, l, Ows.clean ds k vs g (by simpa [Vm.clean] using q) r⟩
  | .lst _, .z, _, _, q, _ => by simp [Vm.clean] at q
  | .tup _, .z, _, _, q, _ => by simp [Vm.clean] at q
  | .dct _ _, .z, _, _, q, _ => by simp [Vm.clean] at q
  | .ins _ _ _, .z, _, _, q, _ => by simp [Vm.clean] at q
theorem Ows.clean : ∀ (ds : List D) (k : Kd) (vs : List V) (fp : List Addr), cleans ds k = true → Ows K mg H0 H ds k vs fp → Ows K mg H0' H ds k vs fp
  | [], _, _, _, _, h => h
  | d :: ds, k, _, _, q, ⟨v, r, f, g, e, ef, h, t⟩ => by
    have q' : clean d k.hd = true ∧ cleans ds k.tl = true := by simpa [cleans] using q
    exact ⟨v, r, f, g, e, ef, Ow.clean d k.hd v f q'.1 h, Ows.clean ds k.tl r g q'.2 t⟩
end
theorem Fz.atom_any (h : Fz K mg H0 d v) (a : atom d = true) : Fz K mg H0' d v := by
  cases d <;> first | exact h | cases a
/-- the slots behind a bracket -/
def thS (as : Bool) (a b : Sl) : Sl := match b with
  | some (m, d) => if clean d m = true then some (m, d) else if as = true then none else (match a with | some (.z, d) => some (.z, d) | _ => none)
  | none => if as = true then none else (match a with | some (.z, d) => some (.z, d) | _ => none)
def thw (i : Nat) (s : Sl) (as : Ms) : Nat → En → En → En
  | _, [], _ => []
  | _, _ :: _, [] => []
  | j, a :: r, b :: r' => (if j = i then s else thS (as j) a b) :: thw i s as (j + 1) r r'
theorem thw_len {s : Sl} : ∀ {j : Nat} {r r' : En}, r'.length = r.length → (thw i s as j r r').length = r.length
  | _, [], [], _ => rfl
  | _, [], _ :: _, h => by cases h
  | _, _ :: _, [], h => by cases h
  | j, a :: r, b :: r', h => by
    show (thw i s as (j + 1) r r').length + 1 = r.length + 1
    rw [thw_len (by simpa using h)]
theorem thw_get {s : Sl} : ∀ {j : Nat} {r r' : En} {n : Nat}, r'.length = r.length → n < r.length → getS (thw i s as j r r') n = if j + n = i then s else thS (as (j + n)) (getS r n) (getS r' n)
  | _, [], _, n, _, h => by cases h
  | _, _ :: _, [], n, h, _ => by cases h
  | j, a :: r, b :: r', 0, h, _ => rfl
  | j, a :: r, b :: r', n + 1, h, hn => by
    have ih := thw_get (s := s) (j := j + 1) (r := r) (r' := r') (n := n) (by simpa using h) (by simpa using hn)
    rw [show j + 1 + n = j + (n + 1) by omega] at ih
    simpa [getS, thw] using ih
theorem thS_or {b : Bool} {x y : Sl} {md : Md × D} (h : thS b x y = some md) : (y = some md ∧ clean md.2 md.1 = true) ∨ (b = false ∧ x = some md ∧ md.1 = .z) := by
  have key : ∀ {x : Sl}, (if b = true then none else (match x with | some (.z, d) => some (Md.z, d) | _ => none) : Sl) = some md → b = false ∧ x = some md ∧ md.1 = .z := fun {x} h => by
    cases b with
    | true => cases h
    | false =>
      rw [if_neg Bool.false_ne_true] at h
      cases x with
      | none => cases h
      | some p =>
        obtain ⟨m, d⟩ := p
        cases m with
        | z => cases h; exact ⟨rfl, rfl, rfl⟩
        | o k => cases h
  unfold thS at h
  cases y with
  | none => exact .inr (key h)
  | some p =>
    obtain ⟨m, d⟩ := p
    dsimp only at h
    by_cases hc : clean d m = true
    · rw [if_pos hc] at h; cases h; exact .inl ⟨rfl, hc⟩
    · rw [if_neg hc] at h; exact .inr (key h)
abbrev coF (c : Co) (fp : List Addr) : Co := fun a => if a ∈ fp then none else c a
abbrev coT (c : Co) (i : Nat) (fp : List Addr) : Co := fun a => if a ∈ fp then some i else c a
abbrev hpT (H : Hp) (fp : List Addr) : Hp := fun a => if a ∈ fp then none else H a
/-- into the bracket -/
theorem Lies.brkIn (l : Lies K mg H0 H c σ ρ) (e : getS ρ i = some (m, d)) (e1 : σ[i]? = some (some v)) (ow : Ow K mg H0 H d m v fp) (hc : ∀ a ∈ fp, c a = some i) : Lies K mg (ext H0 H fp) H (coF c fp) σ (ρ.set i (some (.z, d))) := by
  refine ⟨ext_same l.sub, fun a j q => ?_, fun a j q => ?_, by rw [List.length_set]; exact l.len, fun j m' d' q => ?_⟩
  · by_cases h : a ∈ fp
    · rw [show coF c fp a = none from if_pos h] at q; cases q
    · rw [show coF c fp a = c a from if_neg h] at q
      rw [ext_out h]; exact l.apart a j q
  · by_cases h : a ∈ fp
    · rw [show coF c fp a = none from if_pos h] at q; cases q
    · rw [show coF c fp a = c a from if_neg h] at q
      exact l.there a j q
  · by_cases h : i = j
    · subst h
      by_cases hi : i < ρ.length
      · rw [getS_set_eq hi] at q
        cases q
        exact ⟨v, [], e1, Ow.zero.mpr ⟨rfl, Ow.frz l.sub d m v fp ow⟩, List.nodup_nil, by simp⟩
      · have : getS (ρ.set i (some (Md.z, d))) i = none := by simp [getS, List.getD_eq_getElem?_getD, hi]
        rw [this] at q; cases q
    · rw [getS_set_ne h] at q
      obtain ⟨w, g, e2, o', nd', hc'⟩ := l.slot j m' d' q
      refine ⟨w, g, e2, Ow.mono (same_ext l.sub) d' m' w g (fun _ _ => rfl) o', nd', fun a ha => ?_⟩
      have hn : a ∉ fp := fun z => by
        have := hc a z
        rw [hc' a ha] at this
        exact h (Option.some.inj this).symm
      rw [show coF c fp a = c a from if_neg hn]
      exact hc' a ha
/-- out of it -/
theorem Lies.brkOut (l : Lies K mg H0 H c σ ρ) (e : getS ρ i = some (m, d)) (e1 : σ[i]? = some (some v)) (ow : Ow K mg H0 H d m v fp) (nd : fp.Nodup) (hc : ∀ a ∈ fp, c a = some i) (hi : as i = false)
    (s : Step msA (ext H0 H fp) H (coF c fp) H0'' H'' c') (l' : Lies K mg H0'' H'' c' σ' ρ') (a' : Agr as σ σ') :
    Step msA H0 H c (hpT H0'' fp) H'' (coT c' i fp) ∧ Lies K mg (hpT H0'' fp) H'' (coT c' i fp) σ' (thw i (some (m, d)) as 0 ρ ρ') := by
  have hk : ∀ a ∈ fp, ∃ o, H a = some o ∧ H'' a = some o ∧ c' a = none := fun a ha => by
    obtain ⟨o, ho⟩ := l.there a i (hc a ha)
    have cn : ∀ j, coF c fp a = some j → msA j = false := fun j q => by rw [show coF c fp a = none from if_pos ha] at q; cases q
    exact ⟨o, ho, s.keep a o ho cn, (s.col a o ho cn).trans (if_pos ha)⟩
  have n0 : ∀ a ∈ fp, H0 a = none := fun a ha => l.apart a i (hc a ha)
  have gr : Same H0 (hpT H0'' fp) := fun a o q => by
    have hn : a ∉ fp := fun z => by rw [n0 a z] at q; cases q
    rw [show hpT H0'' fp a = H0'' a from if_neg hn]
    exact s.grow a o (by rw [ext_out hn]; exact q)
  have sub : Same (hpT H0'' fp) H'' := fun a o q => by
    by_cases h : a ∈ fp
    · rw [show hpT H0'' fp a = none from if_pos h] at q; cases q
    · rw [show hpT H0'' fp a = H0'' a from if_neg h] at q
      exact l'.sub a o q
  have hl : ρ'.length = ρ.length := by rw [l'.len, a'.1, l.len]
  refine ⟨⟨fun a o q k => ?_, fun a o q k => ?_, gr, fun a o q => ?_, fun a j q => ?_⟩, ⟨sub, fun a j q => ?_, fun a j q => ?_, ?_, fun j m' d' q => ?_⟩⟩
  · by_cases h : a ∈ fp
    · have := k i (hc a h); cases this
    · refine s.keep a o q fun j z => ?_
      rw [show coF c fp a = c a from if_neg h] at z
      exact k j z
  · by_cases h : a ∈ fp
    · have := k i (hc a h); cases this
    · rw [show coT c' i fp a = c' a from if_neg h]
      rw [s.col a o q fun j z => by
        rw [show coF c fp a = c a from if_neg h] at z
        exact k j z]
      exact if_neg h
  · by_cases h : a ∈ fp
    · rw [show hpT H0'' fp a = none from if_pos h] at q; cases q
    · rw [show hpT H0'' fp a = H0'' a from if_neg h] at q
      rcases s.new0 a o q with z | z | ⟨j, z, w⟩
      · rw [ext_out h] at z; exact .inl z
      · exact .inr (.inl z)
      · rw [show coF c fp a = c a from if_neg h] at z
        exact .inr (.inr ⟨j, z, w⟩)
  · by_cases h : a ∈ fp
    · rw [show coT c' i fp a = some i from if_pos h] at q
      cases q
      exact .inl (hc a h)
    · rw [show coT c' i fp a = c' a from if_neg h] at q
      rcases s.newc a j q with z | ⟨_, z | ⟨j', z, w⟩⟩
      · rw [show coF c fp a = c a from if_neg h] at z; exact .inl z
      · exact .inr ⟨rfl, .inl z⟩
      · rw [show coF c fp a = c a from if_neg h] at z
        exact .inr ⟨rfl, .inr ⟨j', z, w⟩⟩
  · by_cases h : a ∈ fp
    · exact if_pos h
    · rw [show coT c' i fp a = c' a from if_neg h] at q
      rw [show hpT H0'' fp a = H0'' a from if_neg h]
      exact l'.apart a j q
  · by_cases h : a ∈ fp
    · obtain ⟨o, _, q2, _⟩ := hk a h
      exact ⟨o, q2⟩
    · rw [show coT c' i fp a = c' a from if_neg h] at q
      exact l'.there a j q
  · rw [thw_len hl, a'.1]; exact l.len
  · have hj : j < ρ.length := by
      rcases Nat.lt_or_ge j ρ.length with h | h
      · exact h
      · rw [getS, List.getD_eq_getElem?_getD, List.getElem?_eq_none (by rw [thw_len hl]; exact h)] at q; cases q
    rw [thw_get hl hj, Nat.zero_add] at q
    by_cases hij : j = i
    · subst hij
      rw [if_pos rfl] at q
      cases q
      refine ⟨v, fp, by rw [a'.2 j hi]; exact e1, Ow.mono gr d m v fp (fun a ha => ?_) ow, nd, fun a ha => if_pos ha⟩
      obtain ⟨o, q1, q2, _⟩ := hk a ha
      rw [q1, q2]
    · rw [if_neg hij] at q
      rcases thS_or q with ⟨q1, q2⟩ | ⟨q1, q2, q3⟩
      · obtain ⟨w, g, e2, o', nd', hc'⟩ := l'.slot j m' d' q1
        refine ⟨w, g, e2, Ow.clean d' m' w g q2 o', nd', fun a ha => ?_⟩
        have hn : a ∉ fp := fun z => by
          obtain ⟨_, _, _, cn⟩ := hk a z
          rw [hc' a ha] at cn; cases cn
        rw [show coT c' i fp a = c' a from if_neg hn]
        exact hc' a ha
      · have q3 : m' = .z := q3
        subst q3
        obtain ⟨w, g, e2, o', nd', hc'⟩ := l.slot j .z d' q2
        obtain ⟨eg, fz⟩ := Ow.zero.mp o'
        exact ⟨w, [], by rw [a'.2 j q1]; exact e2, Ow.zero.mpr ⟨rfl, Fz.mono gr d' w fz⟩, List.nodup_nil, by simp⟩
end
/-- the slot's tree is frozen within g -/
def gBrk (i : Nat) (as : Ms) (g : M Fl) : M Fl := fun r => match getS r i with
  | some (m, d) => if as i = true then .bad else (match g (r.set i (some (.z, d))) with
    | .ok (.rt x) r' => if atom x = true then .ok (.rt x) (thw i (some (m, d)) as 0 r r') else .bad
    | .ok .nx r' => .ok .nx (thw i (some (m, d)) as 0 r r')
    | .ok .bk r' => .ok .bk (thw i (some (m, d)) as 0 r r')
    | .ok .ct r' => .ok .ct (thw i (some (m, d)) as 0 r r')
    | _ => .bad)
  | none => .bad
section
variable {G : GC} {N : List Str} {S : SC} {as : Ms} {rm : Md} {st : Stmt} {g : M Fl}
theorem VS.brkt (i : Nat) (h : VS G N S rm as st g) : VS G N S rm as st (gBrk i as g) := by
  refine fun R a W t => (h R a W t).imp fun D σ H ⟨ρ, H0, c, l, o⟩ => ?_
  unfold gBrk at o
  cases es : getS ρ i with
  | none => rw [es] at o; exact o.elim
  | some md =>
    obtain ⟨m, d⟩ := md
    rw [es] at o
    dsimp only at o
    cases hi : as i with
    | true => rw [hi, if_pos rfl] at o; exact o.elim
    | false =>
      rw [hi, if_neg Bool.false_ne_true] at o
      obtain ⟨v, fp, e1, ow, nd, hc⟩ := l.slot i m d es
      refine ⟨ρ.set i (some (.z, d)), Vm.ext H0 H fp, coF c fp, l.brkIn es e1 ow hc, ?_⟩
      cases hg : g (ρ.set i (some (.z, d))) with
      | ok fl r' =>
        rw [hg] at o
        cases fl with
        | nx => exact fun σ' H0' H' c' s l' a' => o σ' _ H' _ (l.brkOut es e1 ow nd hc hi s l' a').1 (l.brkOut es e1 ow nd hc hi s l' a').2 a'
        | bk => exact fun σ' H0' H' c' s l' a' => o σ' _ H' _ (l.brkOut es e1 ow nd hc hi s l' a').1 (l.brkOut es e1 ow nd hc hi s l' a').2 a'
        | ct => exact fun σ' H0' H' c' s l' a' => o σ' _ H' _ (l.brkOut es e1 ow nd hc hi s l' a').1 (l.brkOut es e1 ow nd hc hi s l' a').2 a'
        | rt x =>
          dsimp only at o
          by_cases hx : atom x = true
          · rw [if_pos hx] at o
            exact fun v' σ' H0' H' c' s l' a' ⟨g', ow', fr'⟩ => o v' σ' _ H' _ (l.brkOut es e1 ow nd hc hi s l' a').1 (l.brkOut es e1 ow nd hc hi s l' a').2 a' ⟨[], ow_of_atom (Fz.atom_any (ow_atom ow' hx) hx) hx, .nil⟩
          · rw [if_neg hx] at o; exact o.elim
      | exc n ns vs r' => rw [hg] at o; exact o.elim
      | bad => rw [hg] at o; exact o.elim
end
end Vm
set_option Elab.async false
set_option linter.all false
set_option maxRecDepth 100000
set_option maxHeartbeats 4000000
/-! instances with all that is within of one's own -/
namespace Vm
open PySem PySem.Spec PyProof.Rows L2
/-- an instance, its attributes dictionaries of lists, all of one's own -/
abbrev mD : Md := .o (.all m1)
abbrev mI : Md := .o (.all mD)


/-- a new instance of c: what __init__ leaves in the slot of self -/
def fMakeD (c : Str) (F : M D) (ls : List (Option Nat)) (fs : M (List D)) : M D := fun r => (fs r).bind fun ds r => match F (some (mI, .ins c [] []) :: mkArgs ls ds r) with
  | .ok .non (some (m, d) :: _) => if mdEq m mI = true then .ok d r else .bad
  | .exc n ns vs _ => .exc n ns vs r
  | _ => .bad
section
variable {G : GC} {N : List Str} {S : SC} {bs ms ms1 ms2 : Ms} {e a b : Expr} {es : List Expr} {f fa fb fe : M D} {fs : M (List D)} {pos p : Pos} {c x : Str} {k : Nat} {ps : List Str} {F : M D} {ls : List (Option Nat)}
theorem make_coreD {W : WX} {σ : L2.St} {H : Hp} {Q : VK} (hn : ls.filterMap id = []) (hl : ls.length + 1 = ps.length) {C : Addr} (hc : G.mg c = some (.ref C)) (h : tR G.K G.mg W (FO G.K G.mg mI ms) ms (fMakeD c F ls fs) σ H Q) :
    tAM G.K G.mg W ls ms fs σ H fun vs H1 => ∀ a dx, H1 a = none → H1 dx = none → dx ≠ a → spV G F ps.length .z (.ref a :: vs) (upd (upd H1 dx (.own a)) a (.ins C dx [])) (fun v H2 => v = .non ∧ Q (.ref a) H2) (WE W σ) := by
  obtain ⟨ρ, H0, cc, l, o⟩ := h
  refine ⟨ρ, H0, cc, l, (Out.bind (G := FAM G.K G.mg σ ls) (ms1 := ms) back_FO o fun i e => e).imp fun vs H1 ⟨ds, H01, c1, ρ1, e1, s1, l1, am, o1⟩ => fun a dx ha hdx hne => ?_⟩
  obtain ⟨_, hv⟩ := mkArgs_len (r := ρ1) am
  have le := l1.enter (ls := ls) (by rw [hn]; exact List.nodup_nil) am
  have cn : ∀ b, coIn ls c1 b = none := fun b => by
    cases q : coIn ls c1 b with
    | none => rfl
    | some j =>
      obtain ⟨i, _, hj, _⟩ := coIn_some q
      have : i ∈ ls.filterMap id := List.mem_filterMap.mpr ⟨some i, List.mem_of_getElem? hj, rfl⟩
      rw [hn] at this; cases this
  let c2 : Co := fun b => if b = a then some 0 else none
  have c2a : c2 a = some 0 := if_pos rfl
  have c2n : ∀ b i, c2 b = some i → b = a ∧ i = 0 := fun b i q => by
    by_cases z : b = a
    · subst z; rw [c2a] at q; exact ⟨rfl, (Option.some.inj q).symm⟩
    · rw [show c2 b = none from if_neg z] at q; cases q
  have sm : Same H1 (upd (upd H1 dx (.own a)) a (.ins C dx [])) := fun b u q => by rw [upd_ne (ne_of_none q ha), upd_ne (ne_of_none q hdx)]; exact q
  have nn : ∀ b, upd (upd H1 dx (.own a)) a (.ins C dx []) b = none → H1 b = none := fun b q => by
    by_cases z : b = a
    · rw [z]; exact ha
    · rw [upd_ne z] at q
      by_cases w : b = dx
      · rw [w]; exact hdx
      · rw [upd_ne w] at q; exact q
  have l2 : Lies G.K G.mg H01 (upd (upd H1 dx (.own a)) a (.ins C dx [])) c2 (((.ref a :: vs : List V)).map some) (some (mI, .ins c [] []) :: mkArgs ls ds ρ1) := by
    refine ⟨l1.sub.trans sm, fun b i q => ?_, fun b i q => ?_, ?_, fun i m d q => ?_⟩
    · rw [(c2n b i q).1]; exact l1.sub.free ha
    · rw [(c2n b i q).1]; exact ⟨_, upd_same⟩
    · have := le.len
      rw [List.length_map] at this
      rw [List.length_cons, this, List.length_map, List.length_cons]
    · cases i with
      | zero =>
        cases q
        exact ⟨.ref a, [a], rfl, ⟨a, C, dx, [], [], rfl, rfl, hc, upd_same, rfl, rfl, rfl⟩, by simp, fun b hb => by rw [List.mem_singleton.mp hb]; exact c2a⟩
      | succ i =>
        obtain ⟨v, fp, q1, ow, nd, hq⟩ := le.slot i m d (by simpa [getS] using q)
        have ef : fp = [] := by
          cases fp with
          | nil => rfl
          | cons b _ => have := hq b List.mem_cons_self; rw [cn b] at this; cases this
        subst ef
        exact ⟨v, [], by simpa using q1, Ow.mono (Same.refl _) d m v [] (by simp) ow, nd, by simp⟩
  refine ⟨by rw [List.length_cons, hv]; exact hl, _, H01, c2, l2, ?_⟩
  -- back at the caller
  have back : ∀ (H0' H' : Hp) (c' : Co) (fp : List Addr), Step msA H01 (upd (upd H1 dx (.own a)) a (.ins C dx [])) c2 H0' H' c' → Same H0' H' → (∀ b ∈ fp, c' b = some 0) → Step ms H01 H1 c1 (ext H0' H' fp) H' c1 ∧ Lies G.K G.mg (ext H0' H' fp) H' c1 σ ρ1 := by
    intro H0' H' c' fp s sub hfp
    have keep : ∀ b u, H1 b = some u → H' b = some u := fun b u q => s.keep b u (sm b u q) fun i z => absurd (c2n b i z).1 (ne_of_none q ha)
    have new0 : ∀ b u, H0' b = some u → (∃ w, H01 b = some w) ∨ H1 b = none := fun b u q => by
      rcases s.new0 b u q with z | z | ⟨i, z, _⟩
      · exact .inl z
      · exact .inr (nn b z)
      · rw [(c2n b i z).1]; exact .inr ha
    have newf : ∀ b ∈ fp, H1 b = none := fun b hb => by
      rcases s.newc b 0 (hfp b hb) with z | ⟨_, z | ⟨j, z, _⟩⟩
      · rw [(c2n b 0 z).1]; exact ha
      · exact nn b z
      · rw [(c2n b j z).1]; exact ha
    have gr : Same H01 (ext H0' H' fp) := s.grow.trans (same_ext sub)
    refine ⟨⟨fun b u q _ => keep b u q, fun _ _ _ _ => rfl, gr, fun b u q => ?_, fun _ _ q => .inl q⟩, ⟨ext_same sub, fun b i q => ?_, fun b i q => ?_, l1.len, fun i m d q => ?_⟩⟩
    · by_cases z : b ∈ fp
      · exact .inr (.inl (newf b z))
      · rw [ext_out z] at q
        exact (new0 b u q).imp id .inl
    · obtain ⟨u, hu⟩ := l1.there b i q
      have nf : b ∉ fp := fun z => by rw [newf b z] at hu; cases hu
      rw [ext_out nf]
      cases w : H0' b with
      | none => rfl
      | some y =>
        rcases new0 b y w with ⟨_, z⟩ | z
        · rw [l1.apart b i q] at z; cases z
        · rw [z] at hu; cases hu
    · obtain ⟨u, hu⟩ := l1.there b i q
      exact ⟨u, keep b u hu⟩
    · obtain ⟨v, g, q1, ow, nd, hq⟩ := l1.slot i m d q
      exact ⟨v, g, q1, Ow.mono gr d m v g (fun b hb => by
        obtain ⟨u, hu⟩ := l1.there b i (hq b hb)
        rw [hu, keep b u hu]) ow, nd, hq⟩
  have o2 : Out G.K G.mg W (FO G.K G.mg mI ms) ms H01 H1 c1 σ (match F (some (mI, .ins c [] []) :: mkArgs ls ds ρ1) with
    | .ok .non (some (m, d) :: _) => if mdEq m mI = true then .ok d ρ1 else .bad
    | .exc n ns vs _ => .exc n ns vs ρ1
    | _ => .bad) Q := o1
  cases hF : F (some (mI, .ins c [] []) :: mkArgs ls ds ρ1) with
  | ok d rp =>
    rw [hF] at o2
    cases d <;> first | exact o2.elim | skip
    cases rp with
    | nil => exact o2.elim
    | cons s0 rp =>
      cases s0 with
      | none => exact o2.elim
      | some md =>
        obtain ⟨m, d⟩ := md
        dsimp only at o2
        by_cases hm : mdEq m mI = true
        · rw [if_pos hm] at o2
          have hm := mdEq_ok hm
          subst hm
          intro v H0' H' c' s l' ⟨fp, ow, fr⟩
          refine ⟨(Ow.zero.mp ow).2, ?_⟩
          obtain ⟨w, g, q1, ow', nd, hq⟩ := l'.slot 0 mI d rfl
          have ew : w = .ref a := (Option.some.inj (Option.some.inj q1)).symm
          subst ew
          obtain ⟨st, li⟩ := back H0' H' c' [] s l'.sub (by simp)
          rw [ext_nil] at st li
          have newf : ∀ b ∈ g, H1 b = none := fun b hb => by
            rcases s.newc b 0 (hq b hb) with z | ⟨_, z | ⟨j, z, _⟩⟩
            · rw [(c2n b 0 z).1]; exact ha
            · exact nn b z
            · rw [(c2n b j z).1]; exact ha
          exact o2 (.ref a) H0' H' c1 st li ⟨g, ow', nd, fun b hb => l1.nc (newf b hb), fun b hb => l'.apart b 0 (hq b hb), fun b hb => l'.there b 0 (hq b hb), fun b hb => .inl (newf b hb)⟩
        · rw [if_neg hm] at o2; exact o2.elim
  | exc n ns es rp =>
    rw [hF] at o2
    intro cls dx' H0' H' c' s l' ex
    obtain ⟨st, li⟩ := back H0' H' c' [] s l'.sub (by simp)
    rw [ext_nil] at st li
    exact o2 cls dx' H0' H' c1 st li ex
  | bad => rw [hF] at o2; exact o2.elim
theorem VO.makeD (M : MkX G c k ps F) (ha : VM G N S ls ms (e :: es) fs) (hk' : k + 1 ≤ S.k := by decide) (hcm : S.cm = true := by rfl) (hn : ls.filterMap id = [] := by rfl) (hl : ls.length + 1 = ps.length := by rfl) (hg : Glb S c := by rfl)
    (hdb : (c == ("__debug__" : Str)) = false := by decide) (he : ∀ env, starEach (e :: es) env = (false, eval e env) :: starEach es env := by intro _; rfl) (hpl : ∀ env, (backTo pos (starEach es env)).any (·.1) = false := by intro _; rfl) :
    VO G N S mI ms (.Call (.Name c p) (e :: es) [] pos) (fMakeD c F ls fs) := by
  obtain ⟨C, f, fd, hC, hM, hb, hF⟩ := M.ex
  exact fun R a W t => (pe_makeS hM hF ((a.room hcm).mono hk') (a.gl hg) hC hb (fun σ => passAt t σ) (ha R a W t) hdb (he _) (hpl _)).imp fun σ H Q h => make_coreD hn hl hC h
end

/-- an instance of one's own, its attributes things of one's own -/
def inSD (c : Str) : Sl → Option (List Str × List D)
  | some (.o (.all m), .ins c' ns vs) => if mdEq m mD = true ∧ c' = c then some (ns, vs) else none
  | _ => none
theorem inSD_ok {c : Str} {s : Sl} {ns : List Str} {vs : List D} (h : inSD c s = some (ns, vs)) : s = some (.o (.all mD), .ins c ns vs) := by
  unfold inSD at h
  split at h
  · split at h
    · rename_i q
      cases h
      rw [mdEq_ok q.1, q.2]
    · cases h
  · cases h

/-- x.f = e, a new attribute -/
def gISetD (i : Nat) (c f : Str) (fe : M D) : M Fl := fun r => (fe r).bind fun d r => (rM (inSD c (getS r i)) r).bind fun p r => (rM (setI f d p) r).bind fun p' r => .ok .nx (r.set i (some (.o (.all mD), .ins c p'.1 p'.2)))

section
variable {G : GC} {N : List Str} {S : SC} {bs ms ms1 ms2 : Ms} {m rm : Md} {e a b : Expr} {fa fb fe : M D} {pos p spos tpos : Pos} {c f x : Str} {i : Nat}
theorem VS.isetD (A : AtrX G c f) (he : VO G N S mD ms e fe)
    (hN : N[i]? = some x := by rfl) (hv : Vis S.sc x := by first | exact Or.inl rfl | exact Or.inr (Or.inl rfl) | exact Or.inr (Or.inr rfl)) (hd : (x == ("__debug__" : Str)) = false := by decide) (hcd : (x == ("__classdict__" : Str)) = false := by decide)
    (hs : ∀ env, swapsWith e (some (.Attribute (.Name x p) f tpos)) spos.line env = pure false := by intro _; rfl) :
    VS G N S rm ms0 (.Assign [.Attribute (.Name x p) f tpos] e spos) (gISetD i c f fe) := by
  refine fun R at_ W t => (ps_fld (pe_var (i := i) hN (at_.vis hv) hd hcd) (he R at_ W t) (hs _)).imp fun D σ H ⟨ρ, H0, cc, l, o⟩ => ?_
  refine ⟨ρ, H0, cc, l, (OutS.expr (F := FO G.K G.mg mD ms) o).imp fun v H1 ⟨d, H01, c1, ρ1, e1, s1, l1, ⟨fp, ow, fr⟩, o1⟩ => ?_⟩
  clear o1
  have o : OutS G.K G.mg W rm msA ms0 H0 H cc σ ((fe ρ).bind fun d r => (rM (inSD c (getS r i)) r).bind fun p r => (rM (setI f d p) r).bind fun p' r => .ok .nx (r.set i (some (.o (.all mD), .ins c p'.1 p'.2)))) D := o
  rw [e1, bind_ok] at o
  cases hp : inSD c (getS ρ1 i) with
  | none => rw [hp] at o; exact o.elim
  | some pr =>
    obtain ⟨ns, vs⟩ := pr
    rw [hp, rM_some, bind_ok] at o
    cases hq : setI f d (ns, vs) with
    | none => rw [hq] at o; exact o.elim
    | some pr' =>
      rw [hq, rM_some, bind_ok] at o
      unfold setI at hq
      split at hq
      · rename_i hh
        cases hq
        obtain ⟨w, g0, q1, ⟨q, C, dx, us, g, ew, ef, hm, hH, hlen, ows⟩, nd, hc⟩ := l1.slot i _ _ (inSD_ok hp)
        subst ew ef
        obtain ⟨C', hm', cl, na⟩ := A.ex
        have eC : C = C' := by rw [hm'] at hm; exact (Value.ref.inj (Option.some.inj hm)).symm
        subst eC
        have hul := Ows.len ows
        have dj : ∀ b ∈ fp, b ∉ q :: g := fun b hb z => by have := fr.nc b hb; rw [hc b z] at this; cases this
        have nq : q ∉ g := (List.nodup_cons.mp nd).1
        have ch : ∀ b, (upd H1 q (.ins C dx (putF f v (ns.zip us)))) b ≠ H1 b → b = q := fun b n => Classical.byContradiction fun z => n (upd_ne z)
        have cq : c1 q = some i := hc q List.mem_cons_self
        refine ⟨.ref q, q1, q, C, dx, _, rfl, hH, cl, na, ?_, ?_⟩
        · have := hh.2; dsimp only at this; rw [List.length_zip]; omega
        · have ows' : Ows G.K G.mg H01 (upd H1 q (.ins C dx (putF f v (ns.zip us)))) (vs ++ [d]) (.all mD) (us ++ [v]) (g ++ fp) :=
            Ows.snoc (Ows.mono (Same.refl _) vs _ us g (fun b hb => upd_ne fun z => nq (z ▸ hb)) ows) (Ow.mono (Same.refl _) d mD v fp (fun b hb => upd_ne fun z => dj b hb (by rw [z]; exact List.mem_cons_self)) ow)
          have nd' : (q :: (g ++ fp)).Nodup := by
            refine List.nodup_cons.mpr ⟨fun z => ?_, List.nodup_append.mpr ⟨(List.nodup_cons.mp nd).2, fr.nd, fun b hb b' hb' e => dj b' hb' (by rw [← e]; exact List.mem_cons_of_mem _ hb)⟩⟩
            rcases List.mem_append.mp z with z | z
            · exact nq z
            · exact dj q z List.mem_cons_self
          have mem : ∀ b ∈ q :: (g ++ fp), c1 b = some i ∨ b ∈ fp := fun b hb => by
            rcases List.mem_cons.mp hb with z | z
            · rw [z]; exact .inl cq
            · rcases List.mem_append.mp z with z | z
              · exact .inl (hc b (List.mem_cons_of_mem _ z))
              · exact .inr z
          refine o σ H01 _ (coSet c1 i (q :: (g ++ fp))) ((s1.mono (ms' := msA) fun _ _ => rfl).modify rfl (fun b n => by rw [ch b n]; exact .inl cq) fun b hb => ?_) (l1.modify q1 (fun b n => by rw [ch b n]; exact .inl cq) (fun b o e => ?_) ⟨q, C, dx, us ++ [v], g ++ fp, rfl, rfl, hm', by rw [upd_same, putF_new hh.1 (hlen.trans hul.symm)], by rw [List.length_append, List.length_append, hlen]; rfl, ows'⟩ nd' (fun b hb => ?_) (fun b hb => ?_) fun b hb => ?_) .refl
          · rcases mem b hb with z | z
            · exact .inl z
            · exact .inr ((fr.new b z).imp id fun ⟨j, w, _⟩ => ⟨j, w, rfl⟩)
          · by_cases z : b = q
            · rw [z]; exact ⟨_, upd_same⟩
            · rw [upd_ne z]; exact ⟨o, e⟩
          · rcases mem b hb with z | z
            · exact .inr z
            · exact .inl (fr.nc b z)
          · rcases mem b hb with z | z
            · exact l1.apart b i z
            · exact fr.n0 b z
          · by_cases z : b = q
            · rw [z]; exact ⟨_, upd_same⟩
            · rw [upd_ne z]
              rcases mem b hb with w | w
              · exact l1.there b i w
              · exact fr.there b w
      · cases hq

/-- an instance of one's own with one attribute, a dictionary of lists of one's own -/
def idSD (c f : Str) : Sl → Option (List D × List D)
  | some (m, .ins c' [f'] [.dct ks vs]) => if mdEq m mI = true ∧ c' = c ∧ f' = f then some (ks, vs) else none
  | _ => none
theorem idSD_ok {c f : Str} {s : Sl} {ks vs : List D} (h : idSD c f s = some (ks, vs)) : s = some (mI, .ins c [f] [.dct ks vs]) := by
  unfold idSD at h
  split at h
  · split at h
    · rename_i q
      cases h
      rw [mdEq_ok q.1, q.2.1, q.2.2]
    · cases h
  · cases h
def dNewO (k d : D) (p : List D × List D) : Option (List D × List D) := (keyD k).bind fun k => if p.1.length < 16777216 ∧ kOk k = true ∧ hasK k p.1 = false then some (p.1 ++ [kD k], p.2 ++ [d]) else none
/-- x.f[k] = e, a new key -/
def gIPutD (i : Nat) (c f : Str) (fv fk : M D) : M Fl := fun r => (fv r).bind fun d r => (rM (idSD c f (getS r i)) r).bind fun _ r => (fk r).bind fun j r => (rM (idSD c f (getS r i)) r).bind fun p r => (rM (dNewO j d p) r).bind fun p' r => .ok .nx (r.set i (some (mI, .ins c [f] [.dct p'.1 p'.2])))
theorem id_atD {K : PySem.W.Frag} {mg : Str → Option Value} {H0 H : Hp} {cc : Co} {σ : L2.St} {ρ : En} {ks ds : List D} (l : Lies K mg H0 H cc σ ρ) (h : idSD c f (getS ρ i) = some (ks, ds)) :
    ∃ a C dx q kvs g, σ[i]? = some (some (.ref a)) ∧ mg c = some (.ref C) ∧ H a = some (.ins C dx [(f, .ref q)]) ∧ H q = some (.dK kvs) ∧ (kvs.all fun p => kOk p.1) = true ∧ ks = kvs.map (fun p => kD p.1) ∧ Ows K mg H0 H ds (.all m1) (kvs.map (·.2)) g ∧ (a :: q :: g).Nodup ∧ ∀ b ∈ a :: q :: g, cc b = some i := by
  obtain ⟨v, fp, e1, ⟨a, C, dx, us, g, e2, e3, hm, hH, hl, v1, r1, f1, g1, e4, e5, ⟨q, ws, h1, e6, e7, ⟨kvs, k1, hk, hks, hvs⟩, hw⟩, er, eg⟩, nd, hc⟩ := l.slot i _ _ (idSD_ok h)
  subst e2 e3 e4 e5 e6 e7 hvs er eg
  rw [List.append_nil] at nd hc
  exact ⟨a, C, dx, q, kvs, h1, e1, hm, hH, k1, hk, hks, hw, nd, hc⟩
theorem hasK_no {kk : Key} {v : V} : ∀ {kvs : List (Key × V)}, hasK kk (kvs.map fun p => kD p.1) = false → putK kvs kk v = kvs ++ [(kk, v)] := fun {kvs} h => by
  rw [any_hasK] at h
  unfold putK
  rw [h]
  rfl

theorem VS.iputD (A : AtrX G c f) (he : VO G N S m1 ms1 a fa) (hi : VO G N S .z ms2 b fb) (hcm : S.cm = true := by rfl) (hms2 : ms2 = ms0 := by rfl) {p2 : Pos}
    (hN : N[i]? = some x := by rfl) (hv : Vis S.sc x := by first | exact Or.inl rfl | exact Or.inr (Or.inl rfl) | exact Or.inr (Or.inr rfl)) (hd : (x == ("__debug__" : Str)) = false := by decide) (hcd : (x == ("__classdict__" : Str)) = false := by decide)
    (hba : ∀ env, attributeBase (.Name x p) f env (eval (.Name x p) env) = eval (.Name x p) env := by intro _; rfl)
    (hs : ∀ env, swapsWithSole [.Subscript (.Attribute (.Name x p) f p2) b tpos] a spos.line env = pure false := by intro _; rfl) (hw : ∀ env, swappedStores [.Subscript (.Attribute (.Name x p) f p2) b tpos] a env = pure none := by intro _; rfl)
    (h1 : ∀ env, (assignEach [.Subscript (.Attribute (.Name x p) f p2) b tpos] env).map (·.2) = [assign (.Subscript (.Attribute (.Name x p) f p2) b tpos) env] := by intro _; rfl)
    (ha : ∀ env v, assign (.Subscript (.Attribute (.Name x p) f p2) b tpos) env v = (do
      let ov ← holding [v] (eval (.Attribute (.Name x p) f p2) env)
      let iv ← holding [v, ov] (eval b env)
      standAt tpos
      holding [v, ov, iv] (setItem ov iv v)
      release [v, ov, iv] []) := by intro _ _; rfl) :
    VS G N S rm ms0 (.Assign [.Subscript (.Attribute (.Name x p) f p2) b tpos] a spos) (gIPutD i c f fa fb) := by
  refine fun R at_ W t => (ps_asg (he R at_ W t) (pg_sub (pe_fld (pe_var (i := i) hN (at_.vis hv) hd hcd) (hba _)) (hi R at_ W t) (set_dict (by have := at_.u100 hcm; omega)) (ha _)) (hs _) (hw _) (h1 _)).imp fun D σ H ⟨ρ, H0, cc, l, o⟩ => ?_
  obtain ⟨C', hm', cl, na⟩ := A.ex
  subst hms2
  refine ⟨ρ, H0, cc, l, (OutS.expr (F := FO G.K G.mg m1 ms1) o).imp fun v H1 ⟨d, H01, c1, ρ1, e1, s1, l1, ⟨fp, ow, fr⟩, o1⟩ => ?_⟩
  clear o1
  have o : OutS G.K G.mg W rm msA ms0 H0 H cc σ (((fa ρ).bind fun d r => (rM (idSD c f (getS r i)) r).bind fun _ r => (fb r).bind fun j r => (rM (idSD c f (getS r i)) r).bind fun p r => (rM (dNewO j d p) r).bind fun p' r => .ok .nx (r.set i (some (mI, .ins c [f] [.dct p'.1 p'.2]))))) D := o
  rw [e1, bind_ok] at o
  cases hp0 : idSD c f (getS ρ1 i) with
  | none => rw [hp0] at o; exact o.elim
  | some p0 =>
    obtain ⟨ks0, ds0⟩ := p0
    rw [hp0, rM_some, bind_ok] at o
    obtain ⟨a0, C, dx, q, kvs0, g0, hq, hm, hH0, _, _, _, _, _, hca0⟩ := id_atD l1 hp0
    have eC : C = C' := by rw [hm'] at hm; exact (Value.ref.inj (Option.some.inj hm)).symm
    subst eC
    have s1A : Step msA H0 H cc H01 H1 c1 := s1.mono fun _ _ => rfl
    refine ⟨.ref a0, hq, a0, C, dx, _, .ref q, rfl, hH0, cl, na, by simp [List.lookup], ρ1, H01, c1, l1, (OutS.expr (F := FO G.K G.mg .z ms0) (o.on s1A .refl)).imp fun v2 H2 ⟨d2, H02, c2, ρ2, e2, s2, l2, ⟨fp2, ow2, fr2⟩, o2⟩ => ?_⟩
    clear o2
    rw [e2, bind_ok] at o
    have fz2 := (Ow.zero.mp ow2).2
    cases hp : idSD c f (getS ρ2 i) with
    | none => rw [hp] at o; exact o.elim
    | some p1 =>
      obtain ⟨ks, ds⟩ := p1
      rw [hp, rM_some, bind_ok] at o
      obtain ⟨a1, C1, dx1, q', kvs, g, hq', hm1, hH, hHq, hk, hks, ows, ndg, hca⟩ := id_atD l2 hp
      rw [hq] at hq'
      cases hq'
      have eC : C1 = C := by rw [hm'] at hm1; exact (Value.ref.inj (Option.some.inj hm1)).symm
      subst eC
      have ka := s2.keep a0 _ hH0 fun j z => rfl
      rw [hH] at ka
      cases ka
      subst hks
      obtain ⟨fr', hkf⟩ := fr.on s2
      have ow' : Ow G.K G.mg H02 H2 d m1 v fp := Ow.mono s2.grow d m1 v fp hkf ow
      cases hr : dNewO d2 d (kvs.map (fun p => kD p.1), ds) with
      | none => rw [hr] at o; exact o.elim
      | some p' =>
        rw [hr, rM_some, bind_ok] at o
        obtain ⟨kk, hk2, hr2⟩ := Option.bind_eq_some_iff.mp hr
        split at hr2
        · rename_i hlt
          cases hr2
          obtain ⟨hlt, hkk, hno⟩ := hlt
          rw [List.length_map] at hlt
          have ek : v2 = kV kk := key_of_fz fz2 hk2
          have epk : putK kvs kk v = kvs ++ [(kk, v)] := hasK_no hno
          have ch : ∀ b, (upd H2 q (.dK (putK kvs kk v))) b ≠ H2 b → b = q := fun b n => Classical.byContradiction fun z => n (upd_ne z)
          have cq : c2 q = some i := hca q (by simp)
          have nqg : q ∉ g := (List.nodup_cons.mp (List.nodup_cons.mp ndg).2).1
          have naq : a0 ≠ q := fun z => (List.nodup_cons.mp ndg).1 (by rw [z]; simp)
          have nag : a0 ∉ g := fun z => (List.nodup_cons.mp ndg).1 (List.mem_cons_of_mem _ z)
          have dj : ∀ b ∈ fp, b ∉ a0 :: q :: g := fun b hb z => by have := fr'.nc b hb; rw [hca b z] at this; cases this
          have nd' : (a0 :: q :: (g ++ fp)).Nodup := by
            refine List.nodup_cons.mpr ⟨fun z => ?_, List.nodup_cons.mpr ⟨fun z => ?_, List.nodup_append.mpr ⟨(List.nodup_cons.mp (List.nodup_cons.mp ndg).2).2, fr'.nd, fun b hb b' hb' e => dj b' hb' (by rw [← e]; exact List.mem_cons_of_mem _ (List.mem_cons_of_mem _ hb))⟩⟩⟩
            · rcases List.mem_cons.mp z with z | z
              · exact naq z
              · rcases List.mem_append.mp z with z | z
                · exact nag z
                · exact dj a0 z List.mem_cons_self
            · rcases List.mem_append.mp z with z | z
              · exact nqg z
              · exact dj q z (by simp)
          have mem : ∀ b ∈ a0 :: q :: (g ++ fp), c2 b = some i ∨ b ∈ fp := fun b hb => by
            rcases List.mem_cons.mp hb with z | hb
            · rw [z]; exact .inl (hca a0 List.mem_cons_self)
            · rcases List.mem_cons.mp hb with z | hb
              · rw [z]; exact .inl cq
              · rcases List.mem_append.mp hb with z | z
                · exact .inl (hca b (List.mem_cons_of_mem _ (List.mem_cons_of_mem _ z)))
                · exact .inr z
          have st2 : Step msA H0 H cc H02 H2 c2 := s1A.trans (s2.mono fun _ _ => rfl)
          have ows' : Ows G.K G.mg H02 (upd H2 q (.dK (putK kvs kk v))) (ds ++ [d]) (.all m1) ((putK kvs kk v).map (·.2)) (g ++ fp) := by
            rw [epk, List.map_append]
            exact Ows.snoc (Ows.mono (Same.refl _) ds _ _ g (fun b hb => upd_ne fun z => nqg (z ▸ hb)) ows) (Ow.mono (Same.refl _) d m1 v fp (fun b hb => upd_ne fun z => dj b hb (by rw [z]; simp)) ow')
          have st : Step msA H0 H cc H02 (upd H2 q (.dK (putK kvs kk v))) (coSet c2 i (a0 :: q :: (g ++ fp))) := st2.modify rfl (fun b n => by rw [ch b n]; exact .inl cq) fun b hb => by
            rcases mem b hb with z | z
            · exact .inl z
            · exact .inr ((fr'.new b z).imp id fun ⟨j, w, _⟩ => ⟨j, w, rfl⟩)
          have li : Lies G.K G.mg H02 (upd H2 q (.dK (putK kvs kk v))) (coSet c2 i (a0 :: q :: (g ++ fp))) σ (ρ2.set i (some (mI, .ins c [f] [.dct (kvs.map (fun p => kD p.1) ++ [kD kk]) (ds ++ [d])]))) := by
            refine l2.modify hq (fun b n => by rw [ch b n]; exact .inl cq) (fun b o e => ?_) ⟨a0, C1, dx, [.ref q], q :: (g ++ fp), rfl, rfl, hm', by rw [upd_ne naq]; exact hH, rfl, .ref q, [], q :: (g ++ fp), [], rfl, by rw [List.append_nil], ⟨q, _, g ++ fp, rfl, rfl, ⟨putK kvs kk v, upd_same, putK_ok hk hkk, ?_, rfl⟩, ows'⟩, rfl, rfl⟩ nd' (fun b hb => ?_) (fun b hb => ?_) fun b hb => ?_
            · by_cases z : b = q
              · rw [z]; exact ⟨_, upd_same⟩
              · rw [upd_ne z]; exact ⟨o, e⟩
            · rw [epk, List.map_append]; rfl
            · rcases mem b hb with z | z
              · exact .inr z
              · exact .inl (fr'.nc b z)
            · rcases mem b hb with z | z
              · exact l2.apart b i z
              · exact fr'.n0 b z
            · by_cases z : b = q
              · rw [z]; exact ⟨_, upd_same⟩
              · rw [upd_ne z]
                rcases mem b hb with w | w
                · exact l2.there b i w
                · exact fr'.there b w
          exact ⟨q, _, rfl, .inl ⟨kvs, kk, hHq, ek, by rw [sizeLine_eq]; exact hlt, rfl⟩, o σ H02 _ _ st li .refl⟩
        · cases hr2
end
end Vm
set_option Elab.async false
set_option linter.all false
set_option maxRecDepth 100000
set_option maxHeartbeats 4000000
/-! for a, b in xs: the items of a list of one's own are handed over, then xs.clear() -/
namespace Vm
open PySem PySem.Spec PyProof.Rows L2
/-- a pair of one's own: a name, a list or a tuple of one's own -/
abbrev mP : Md := .o (.one .z (.all m1))
abbrev mH : Md := .o (.all mP)
def tkK (k : M Fl) : Fl → M Fl := fun fl r => match fl with
  | .nx => k r
  | .ct => k r
  | .bk => .bad
  | .rt d => .ok (.rt d) r
def gTake (a b : Nat) (gb : M Fl) : List D → M Fl
  | [] => gNx
  | .tup [x, y] :: ds => fun r => (gb ((r.set a (some (.z, x))).set b (some (m1, y)))).bind (tkK (gTake a b gb ds))
  | _ :: _ => fun _ => .bad
def tkE (i : Nat) : Fl → M Fl := fun fl r => match fl with
  | .nx => .ok .nx (r.set i (some (m1, .lst [])))
  | .rt d => .ok (.rt d) r
  | _ => .bad
def gTakeClr (i a b : Nat) (gb : M Fl) : M Fl := fun r => match getS r i with
  | some (m, .lst ds) => if mdEq m mH = true then (gTake a b gb ds (r.set i none)).bind (tkE i) else .bad
  | _ => .bad
section
variable {K : PySem.W.Frag} {mg : Str → Option Value} {H0 H H0' H' H1 : Hp} {c c1 c2 : Co} {σ σ' : L2.St} {ρ : En} {i : Nat}
theorem Step.re (s : Step msA H0 H c H0' H1 c1) (hk : ∀ a o, c a = none → H a = some o → H' a = H1 a) (hc : ∀ a o, c a = none → H a = some o → c2 a = c1 a) (hn : ∀ a j, c2 a = some j → c1 a = some j ∨ ∃ j', c a = some j') : Step msA H0 H c H0' H' c2 := by
  have no : ∀ a, (∀ i, c a = some i → msA i = false) → c a = none := fun a k => by
    cases e : c a with
    | none => rfl
    | some j => have := k j e; cases this
  refine ⟨fun a o e k => by rw [hk a o (no a k) e]; exact s.keep a o e k, fun a o e k => by rw [hc a o (no a k) e]; exact s.col a o e k, s.grow, s.new0, fun a j e => ?_⟩
  rcases hn a j e with z | ⟨j', z⟩
  · exact s.newc a j z
  · exact .inr ⟨rfl, .inr ⟨j', z, rfl⟩⟩
theorem Lies.dropC (l : Lies K mg H0 H c σ ρ) (fp : List Addr) (hf : ∀ a ∈ fp, c a = some i) : Lies K mg H0 H (coF c fp) σ (ρ.set i none) := by
  refine ⟨l.sub, fun a j q => ?_, fun a j q => ?_, by rw [List.length_set]; exact l.len, fun j m d q => ?_⟩
  · by_cases h : a ∈ fp
    · rw [show coF c fp a = none from if_pos h] at q; cases q
    · rw [show coF c fp a = c a from if_neg h] at q; exact l.apart a j q
  · by_cases h : a ∈ fp
    · rw [show coF c fp a = none from if_pos h] at q; cases q
    · rw [show coF c fp a = c a from if_neg h] at q; exact l.there a j q
  · by_cases h : i = j
    · subst h
      by_cases hi : i < ρ.length
      · rw [getS_set_eq hi] at q; cases q
      · have : getS (ρ.set i none) i = none := by simp [getS, List.getD_eq_getElem?_getD, hi]
        rw [this] at q; cases q
    · rw [getS_set_ne h] at q
      obtain ⟨w, g, e2, o', nd', hc'⟩ := l.slot j m d q
      refine ⟨w, g, e2, o', nd', fun a ha => ?_⟩
      have hn : a ∉ fp := fun z => by
        have := hf a z
        rw [hc' a ha] at this
        exact h (Option.some.inj this).symm
      rw [show coF c fp a = c a from if_neg hn]
      exact hc' a ha
end
theorem coSet_none {c : Co} {i : Nat} {fp : List Addr} {a : Addr} (h : a ∉ fp) (e : c a = none) : coSet c i fp a = none := by
  unfold coSet
  rw [if_neg h, e, if_neg (by intro z; cases z)]
section
variable {G : GC} {N : List Str} {S : SC} {asb asr : Ms} {rm : Md} {body rest : List Stmt} {gb gr : M Fl} {x xa xb : Str} {px pa pb p2 tp fpos pos apos spos : Pos} {kk : Nat}
/-- what holds between the turns -/
structure TkF (K : PySem.W.Frag) (mg : Str → Option Value) (i : Nat) (H0o Ho : Hp) (co : Co) (q : Addr) (vs : List V) (ds : List D) (j : Nat) (g : List Addr) (H0 H : Hp) (c : Co) : Prop where
  st : Step msA H0o Ho co H0 H c
  hq : H q = some (.lst vs)
  cq : c q = none
  q0 : H0 q = none
  oq : co q = some i
  ow : Ows K mg H0 H (ds.drop j) (.all mP) (vs.drop j) g
  nd : (q :: g).Nodup
  cg : ∀ b ∈ g, c b = none
  g0 : ∀ b ∈ g, H0 b = none
  og : ∀ b ∈ g, co b = some i
theorem TkF.adv {K : PySem.W.Frag} {mg : Str → Option Value} {i : Nat} {H0o Ho H0 H H0' H' : Hp} {co c c' : Co} {q : Addr} {vs : List V} {ds : List D} {j : Nat} {g : List Addr} (f : TkF K mg i H0o Ho co q vs ds j g H0 H c) (t : Step msA H0 H c H0' H' c') :
    TkF K mg i H0o Ho co q vs ds j g H0' H' c' := by
  have cc : ∀ b, c b = none → ∀ j, c b = some j → msA j = false := fun b e j z => by rw [e] at z; cases z
  have z0 : ∀ b u, H b = some u → H0 b = none → c b = none → H0' b = none := fun b u e e0 ec => by
    cases w : H0' b with
    | none => rfl
    | some o =>
      rcases t.new0 b o w with ⟨u', z⟩ | z | ⟨j, z, _⟩
      · rw [e0] at z; cases z
      · rw [e] at z; cases z
      · rw [ec] at z; cases z
  have th : ∀ b ∈ g, ∃ u, H b = some u := fun b hb => Ows.there _ _ _ _ f.ow b hb
  refine ⟨f.st.trans t, t.keep q _ f.hq (cc q f.cq), (t.col q _ f.hq (cc q f.cq)).trans f.cq, z0 q _ f.hq f.q0 f.cq, f.oq, Ows.mono t.grow _ _ _ _ (fun b hb => ?_) f.ow, f.nd, fun b hb => ?_, fun b hb => ?_, f.og⟩
  · obtain ⟨u, e⟩ := th b hb
    rw [e, t.keep b u e (cc b (f.cg b hb))]
  · obtain ⟨u, e⟩ := th b hb
    exact (t.col b u e (cc b (f.cg b hb))).trans (f.cg b hb)
  · obtain ⟨u, e⟩ := th b hb
    exact z0 b u e (f.g0 b hb) (f.cg b hb)
theorem VSs.takeClr (i a b : Nat) (hb : VSs G N S rm asb body gb) (hr : VSs G N S rm asr rest gr) (hc : S.cm = true := by rfl) (hN : N[i]? = some x := by rfl) (hNa : N[a]? = some xa := by rfl) (hNb : N[b]? = some xb := by rfl)
    (hia : i ≠ a := by decide) (hib : i ≠ b := by decide) (hab : a ≠ b := by decide) (hi : asb i = false := by rfl)
    (hv : Vis S.sc x := by first | exact Or.inl rfl | exact Or.inr (Or.inl rfl) | exact Or.inr (Or.inr rfl)) (hd : (x == ("__debug__" : Str)) = false := by decide) (hcd : (x == ("__classdict__" : Str)) = false := by decide)
    (hxa : Loc' S xa := by first | exact Or.inl rfl | exact Or.inr ⟨rfl, rfl⟩) (hxb : Loc' S xb := by first | exact Or.inl rfl | exact Or.inr ⟨rfl, rfl⟩)
    (hn : ∀ env, (assignEach [.Name xa pa, .Name xb pb] env).length = 2 := by intro _; rfl) (hst : ∀ env, (assignEach [.Name xa pa, .Name xb pb] env).findIdx? (·.1) = none := by intro _; rfl)
    (hs1 : ∀ env, (assignEach [.Name xa pa, .Name xb pb] env).map (·.2) = assign (.Name xa pa) env :: (assignEach [.Name xb pb] env).map (·.2) := by intro _; rfl) (hs2 : ∀ env, (assignEach [.Name xb pb] env).map (·.2) = assign (.Name xb pb) env :: (assignEach [] env).map (·.2) := by intro _; rfl)
    (hfs : ∀ env y, foldedSetIterable (.Name x px) env y = pure y := by intro _ _; rfl)
    (hbase : ∀ env, attributeBase (.Name x p2) "clear" env (eval (.Name x p2) env) = eval (.Name x p2) env := by intro _; rfl)
    (hline : (apos.endLine == pos.line) = true := by rfl) (hsw : ∀ env, swapsWith (.Call (.Attribute (.Name x p2) "clear" apos) [] [] pos) none spos.line env = pure false := by intro _; rfl) :
    VSs G N S rm (msU (msU (msU (msO a) (msO b)) asb) asr) (.For (.Tuple [.Name xa pa, .Name xb pb] kk tp) (.Name x px) body [] fpos :: .Expr (.Call (.Attribute (.Name x p2) "clear" apos) [] [] pos) spos :: rest) (gSeq (gTakeClr i a b gb) gr) := by
  refine fun R s_ W t => (pss_cons (ps_for s_.po (s_.calm.trans hc) (pi_list (pe_var (i := i) hN (s_.vis hv) hd hcd)) (pg_tup (n := 2) (s_.calm.trans hc) (pgs_cons (pg_name (i := a) s_.nd hNa (s_.loc hxa).1 (s_.loc hxa).2) (pgs_cons (pg_name (i := b) s_.nd hNb (s_.loc hxb).1 (s_.loc hxb).2) pgs_nil (hs2 _)) (hs1 _)) (hn _) (hst _)) (hb R s_ W t) (hfs _))
    (pss_cons (ps_expr (pe_bm0 PySem.F.plainAttrs_list PySem.F.slot_list_clear PySem.F.type_list_clear mt_clear (pe_var (i := i) hN (s_.vis hv) hd hcd) (hbase _) hline) (hsw _)) (hr R s_ W t))).imp fun D σ H ⟨ρ, H0, c, l, o⟩ => ?_
  -- the clear and what follows wish tS gr
  generalize hAS : msU (msU (msO a) (msO b)) asb = AS at o
  have iA : ∀ j, AS j = true → (msU AS asr) j = true := fun j e => or_l e
  have o1 : OutS G.K G.mg W rm msA AS H0 H c σ (gTakeClr i a b gb ρ) { D with nx := tS G.K G.mg W rm asr gr D } :=
    ((OutS.seq o).mono iA fun _ h => h).imp (fun σ' H' ⟨ρ1, H01, c1, l1, s1, a1, o1⟩ => ⟨ρ1, H01, c1, l1, o1.mono (fun i e => or_r e) fun _ h => h⟩) (fun _ _ h => h) (fun _ _ h => h) (fun _ _ h => h)
  clear o
  generalize hD2 : ({ D with nx := tS G.K G.mg W rm asr gr D } : Ends) = D2 at o1
  have asi : AS i = false := by
    rw [← hAS]
    have e1 : (i == a) = false := by simpa using hia
    have e2 : (i == b) = false := by simpa using hib
    show ((i == a || i == b) || asb i) = false
    rw [e1, e2, hi]; rfl
  have asa : AS a = true := by rw [← hAS]; exact or_l (or_l (by simp))
  have asbb : AS b = true := by rw [← hAS]; exact or_l (or_r (by simp))
  have asB : ∀ j, asb j = true → AS j = true := fun j e => by rw [← hAS]; exact or_r e
  unfold gTakeClr at o1
  cases es : getS ρ i with
  | none => rw [es] at o1; exact o1.elim
  | some md =>
    obtain ⟨m, d⟩ := md
    rw [es] at o1
    cases d <;> first | exact o1.elim | skip
    rename_i ds
    dsimp only at o1
    by_cases hm : mdEq m mH = true
    case neg => rw [if_neg hm] at o1; exact o1.elim
    rw [if_pos hm] at o1
    have hm := mdEq_ok hm
    subst hm
    obtain ⟨v, fp, hq, ⟨q, vs, g, ev, hH, ef, ows⟩, nd, hcf⟩ := l.slot i _ _ es
    subst ev ef
    refine ⟨.ref q, hq, q, rfl, ⟨vs, .of hH⟩, ?_⟩
    have F0 : TkF G.K G.mg i H0 H c q vs ds 0 g H0 H (coF c (q :: g)) := by
      refine ⟨?_, hH, if_pos List.mem_cons_self, l.apart q i (hcf q List.mem_cons_self), hcf q List.mem_cons_self, ows, nd, fun b hb => if_pos (List.mem_cons_of_mem _ hb), fun b hb => l.apart b i (hcf b (List.mem_cons_of_mem _ hb)), fun b hb => hcf b (List.mem_cons_of_mem _ hb)⟩
      refine (Step.refl (ms := msA)).re (fun _ _ _ _ => rfl) (fun a' o' e _ => ?_) fun a' j e => ?_
      · exact if_neg fun z => by rw [hcf a' z] at e; cases e
      · by_cases z : a' ∈ q :: g
        · rw [show coF c (q :: g) a' = none from if_pos z] at e; cases e
        · rw [show coF c (q :: g) a' = c a' from if_neg z] at e; exact .inl e
    refine ⟨fun j m σ' H' => m = ds.length - j ∧ j ≤ ds.length ∧ ∃ ρ' H0' c' g', Lies G.K G.mg H0' H' c' σ' ρ' ∧ Agr AS σ σ' ∧ TkF G.K G.mg i H0 H c q vs ds j g' H0' H' c' ∧ OutS G.K G.mg W rm msA AS H0 H c σ ((gTake a b gb (ds.drop j) ρ').bind (tkE i)) D2,
      ⟨ds.length, rfl, Nat.zero_le _, ρ.set i none, H0, _, g, l.dropC (q :: g) hcf, .refl, F0, o1⟩, ?_⟩
    rintro j m σ1 H1 ⟨em, hj, ρ1, H01, c1, g1, l1, a1, F, oj⟩
    have hlen : vs.length = ds.length := Ows.len ows
    by_cases hlt : j < ds.length
    · have ed : ds.drop j = ds[j] :: ds.drop (j + 1) := List.drop_eq_getElem_cons hlt
      have hltv : j < vs.length := by omega
      have evd : vs.drop j = vs[j] :: vs.drop (j + 1) := List.drop_eq_getElem_cons hltv
      have Fow := F.ow
      rw [ed] at oj Fow
      rw [evd] at Fow
      obtain ⟨vj, vr, f1, g2, ev, eg, owj, owr⟩ := Fow
      cases ev
      refine .inr ⟨⟨vs, vs[j], .of F.hq, List.getElem?_eq_getElem hltv⟩, fun σ3 H3 => ∃ ρ3 H03 c3 g3, Lies G.K G.mg H03 H3 c3 σ3 ρ3 ∧ Agr AS σ σ3 ∧ TkF G.K G.mg i H0 H c q vs ds (j + 1) g3 H03 H3 c3 ∧ OutS G.K G.mg W rm msA AS H0 H c σ ((gTake a b gb (ds.drop (j + 1)) ρ3).bind (tkE i)) D2,
        fun σ3 H3 h => ⟨ds.length - (j + 1), by omega, rfl, hlt, h⟩, fun y H' ⟨e1, e2⟩ => ?_⟩
      rw [e1]
      have ey := e2 vs (.of F.hq)
      rw [List.getElem?_eq_getElem hltv] at ey
      cases ey
      -- the item is a pair
      generalize hdj : ds[j] = dj at oj owj ed
      cases dj <;> first | exact oj.elim | skip
      rename_i xs
      obtain ⟨p, us, gp, evj, hp, efp, opw⟩ := owj
      cases xs with
      | nil => exact oj.elim
      | cons dx xs =>
        cases xs with
        | nil => exact oj.elim
        | cons dy xs =>
          cases xs with
          | cons _ _ => exact oj.elim
          | nil =>
            obtain ⟨u1, ur, fx, gx, eus, egp, owx, ⟨u2, ur2, fy, gy, eur, egx, owy, eur2, egy⟩⟩ := opw
            subst eur2 egy eur egx eus egp efp eg
            obtain ⟨efx, fzx⟩ := Ow.zero.mp owx
            subst efx
            rw [evj]
            refine ⟨p, [u1, u2], rfl, .inl (.inl hp), rfl, u1, [u2], rfl, u2, [], rfl, rfl, ?_⟩
            have inn : ∀ z ∈ fy, z ∈ p :: ([] ++ (fy ++ [])) ++ g2 := fun z hz => by simp [hz]
            have ndall := (List.nodup_cons.mp F.nd).2
            have ndy : fy.Nodup := by
              have : (p :: (fy ++ g2)).Nodup := by simpa using ndall
              exact (List.nodup_append.mp (List.nodup_cons.mp this).2).1
            have ndg : g2.Nodup := by
              have : (p :: (fy ++ g2)).Nodup := by simpa using ndall
              exact (List.nodup_append.mp (List.nodup_cons.mp this).2).2.1
            have djy : ∀ z ∈ g2, z ∉ fy := fun z hz hy => by
              have : (p :: (fy ++ g2)).Nodup := by simpa using ndall
              exact (List.nodup_append.mp (List.nodup_cons.mp this).2).2.2 z hy z hz rfl
            have nqy : q ∉ fy := fun z => (List.nodup_cons.mp F.nd).1 (inn q z)
            have nqg : q ∉ g2 := fun z => (List.nodup_cons.mp F.nd).1 (List.mem_append_right _ z)
            have l2 := l1.set (i := a) (m := .z) (d := dx) (v := u1) (fp := []) (Ow.zero.mpr ⟨rfl, fzx⟩) List.nodup_nil (by simp) (by simp) (by simp)
            have l3 := l2.set (i := b) (m := m1) (d := dy) (v := u2) (fp := fy) owy ndy (fun z hz => .inl (coSet_none (by simp) (F.cg z (inn z hz)))) (fun z hz => F.g0 z (inn z hz)) (fun z hz => Ow.there _ _ _ _ owy z hz)
            have st3 : Step msA H0 H c H01 H1 (coSet (coSet c1 a []) b fy) := by
              refine F.st.re (fun _ _ _ _ => rfl) (fun z oz e ez => ?_) fun z jz e => ?_
              · have ec : c1 z = none := (F.st.col z oz ez fun j w => by rw [e] at w; cases w).trans e
                have nz : z ∉ fy := fun w => by rw [F.og z (inn z w)] at e; cases e
                rw [coSet_none nz (coSet_none (by simp) ec), ec]
              · by_cases hz : z ∈ fy
                · exact .inr ⟨i, F.og z (inn z hz)⟩
                · exact .inl (coSet_out (by simp) (coSet_out hz e).1).1
            have a3 : Agr AS σ ((σ1.set a (some u1)).set b (some u2)) := (a1.trans (Agr.set.mono fun z hz => by
              have : z = a := by simpa using hz
              rw [this]; exact asa)).trans (Agr.set.mono fun z hz => by
              have : z = b := by simpa using hz
              rw [this]; exact asbb)
            have F3 : TkF G.K G.mg i H0 H c q vs ds (j + 1) g2 H01 H1 (coSet (coSet c1 a []) b fy) :=
              ⟨st3, F.hq, coSet_none nqy (coSet_none (by simp) F.cq), F.q0, F.oq, owr, List.nodup_cons.mpr ⟨nqg, ndg⟩, fun z hz => coSet_none (djy z hz) (coSet_none (by simp) (F.cg z (List.mem_append_right _ hz))), fun z hz => F.g0 z (List.mem_append_right _ hz), fun z hz => F.og z (List.mem_append_right _ hz)⟩
            refine ⟨_, H01, _, l3, ?_⟩
            have oj2 : OutS G.K G.mg W rm msA AS H0 H c σ (((gb ((ρ1.set a (some (.z, dx))).set b (some (m1, dy)))).bind (tkK (gTake a b gb (ds.drop (j + 1))))).bind (tkE i)) D2 := oj
            cases hg : gb ((ρ1.set a (some (.z, dx))).set b (some (m1, dy))) with
            | ok fl r =>
              rw [hg, bind_ok] at oj2
              cases fl with
              | nx => exact fun σ3 H03 H3 c3 t3 l3' a3' => ⟨r, H03, c3, g2, l3', a3.trans (a3'.mono asB), F3.adv t3, oj2⟩
              | ct => exact fun σ3 H03 H3 c3 t3 l3' a3' => ⟨r, H03, c3, g2, l3', a3.trans (a3'.mono asB), F3.adv t3, oj2⟩
              | bk => exact oj2.elim
              | rt dd =>
                have o4 : OutS G.K G.mg W rm msA AS H0 H c σ (.ok (.rt dd) r) D2 := oj2
                have o5 := o4.on st3 a3
                have eD : D.rt = D2.rt := by rw [← hD2]
                intro v3 σ3 H03 H3 c3 t3 l3' a3' f3
                show D.rt v3 H3
                rw [eD]
                exact o5 v3 σ3 H03 H3 c3 t3 l3' (a3'.mono asB) f3
            | exc nn ns es' r =>
              rw [hg, bind_exc, bind_exc] at oj2
              have o5 := (show OutS G.K G.mg W rm msA AS H0 H c σ (.exc nn ns es' r) D2 from oj2).on st3 a3
              exact fun cls dx' σ3 H03 H3 c3 t3 l3' a3' ex => o5 cls dx' σ3 H03 H3 c3 t3 l3' (a3'.mono asB) ex
            | bad => rw [hg] at oj2; exact oj2.elim
    · have e : j = ds.length := by omega
      subst e
      rw [List.drop_length] at oj
      have oj2 : OutS G.K G.mg W rm msA AS H0 H c σ (.ok .nx (ρ1.set i (some (m1, .lst [])))) D2 := oj
      have hq1 : σ1[i]? = some (some (.ref q)) := by rw [a1.2 i asi]; exact hq
      refine .inl ⟨⟨vs, .of F.hq, by omega⟩, .ref q, hq1, .inl ⟨rfl, vs, .of F.hq⟩, q, vs, rfl, rfl, F.hq, ?_⟩
      have ch : ∀ z, (upd H1 q (.lst [])) z ≠ H1 z → z = q := fun z n => Classical.byContradiction fun w => n (upd_ne w)
      have l4 : Lies G.K G.mg H01 (upd H1 q (.lst [])) (coSet c1 i [q]) σ1 (ρ1.set i (some (m1, .lst []))) := by
        refine l1.modify hq1 (fun z n => by rw [ch z n]; exact .inr ⟨F.cq, F.q0⟩) (fun z oz ez => ?_) ⟨q, [], [], rfl, upd_same, rfl, rfl, rfl⟩ (by simp) (fun z hz => ?_) (fun z hz => ?_) fun z hz => ?_
        · by_cases w : z = q
          · rw [w]; exact ⟨_, upd_same⟩
          · rw [upd_ne w]; exact ⟨oz, ez⟩
        · rw [List.mem_singleton.mp hz]; exact .inl F.cq
        · rw [List.mem_singleton.mp hz]; exact F.q0
        · rw [List.mem_singleton.mp hz]; exact ⟨_, upd_same⟩
      have st4 : Step msA H0 H c H01 (upd H1 q (.lst [])) (coSet c1 i [q]) := by
        refine F.st.re (fun z oz e ez => ?_) (fun z oz e ez => ?_) fun z jz e => ?_
        · exact upd_ne fun w => by rw [w, F.oq] at e; cases e
        · have ec : c1 z = none := (F.st.col z oz ez fun j w => by rw [e] at w; cases w).trans e
          rw [coSet_none (fun w => by rw [List.mem_singleton.mp w, F.oq] at e; cases e) ec, ec]
        · by_cases hz : z ∈ [q]
          · rw [List.mem_singleton.mp hz]; exact .inr ⟨i, F.oq⟩
          · exact .inl (coSet_out hz e).1
      have fin := oj2 σ1 H01 _ _ st4 l4 a1
      rw [← hD2] at fin
      exact fin
end
end Vm
set_option Elab.async false
set_option linter.all false
set_option maxRecDepth 100000
set_option maxHeartbeats 4000000
/-! tuple(xs) of one's own, isinstance of a thing of one's own; readings applied -/
namespace Vm
open PySem PySem.Spec PyProof.Rows L2
def oTupleL : List D → Option D
  | [.lst ds] => some (.tup ds)
  | _ => none
section
variable {G : GC} {N : List Str} {S : SC} {bs ms : Ms} {e : Expr} {es : List Expr} {fs : M (List D)} {pos p : Pos} {i : Nat} {y : Str}
theorem ru_tupleL : RuA G (rTupleOf G.K) m1 oTupleL := by
  intro H0 H ds xs d Q s h ho f
  unfold oTupleL at ho
  split at ho
  · obtain ⟨x, e, a, vs, e1, k, g⟩ := shs_one h
    cases ho
    exact ⟨a, vs, by rw [e, e1], .inl ⟨.of k, fun p hp => f.tup (.inr rfl) s g hp⟩⟩
  · cases ho
theorem VO.tupleL (hm : G.mg "tuple" = none) (ha : VA G N S bs ms (e :: es) fs) (hg : Glb S "tuple" := by rfl) (he : ∀ env, starEach (e :: es) env = (false, eval e env) :: starEach es env := by intro _; rfl) (hpl : ∀ env, (backTo pos (starEach es env)).any (·.1) = false := by intro _; rfl) :
    VO G N S m1 ms (.Call (.Name "tuple" p) (e :: es) [] pos) (fA oTupleL fs) := .callTy (fun _ _ => call_tuple_of) ru_tupleL hm (by decide +kernel) ha hg (by decide) (by decide) he hpl
def isiS (T : PyT) (r : En) : Sl → Res D
  | some (_, d) => rM ((isT T d).map .bl) r
  | none => .bad
/-- isinstance of what a slot holds, frozen or not -/
def fIsiO (T : PyT) (i : Nat) : M D := fun r => isiS T r (getS r i)
theorem VO.isiO (T : PyT) {x : Str} {p p2 p3 : Pos} (hm : G.mg "isinstance" = none) (hx : G.mg x = none) (hN : N[i]? = some y := by rfl) (hvv : Vis S.sc y := by first | exact Or.inl rfl | exact Or.inr (Or.inl rfl) | exact Or.inr (Or.inr rfl))
    (hdd : (y == ("__debug__" : Str)) = false := by decide) (hcd : (y == ("__classdict__" : Str)) = false := by decide) (hg : Glb S "isinstance" := by rfl) (hgx : Glb S x := by rfl) (hv : bootBuiltins x = some (.type T.nm) := by decide +kernel)
    (hs : ∀ env, starEach [.Name y p3, .Name x p2] env = (false, eval (.Name y p3) env) :: starEach [.Name x p2] env := by intro _; rfl) (hn : x ≠ "__name__" := by decide) (hd : (x == ("__debug__" : Str)) = false := by decide) :
    VO G N S .z ms0 (.Call (.Name "isinstance" p) [.Name y p3, .Name x p2] [] pos) (fIsiO T i) := by
  refine fun R a W t => (pe_callB call_isi (a.gl hg) hm (by decide +kernel) (pa_cons (pe_var (i := i) hN (a.vis hvv) hdd hcd) (pa_cons (pe_bltn (v := .ty T.nm) (a.gl hgx) hx hv rfl hn hd) pa_nil) (hs _)) (he := hs _)).imp fun σ H Q ⟨ρ, H0, c, l, o⟩ => ?_
  unfold fIsiO at o
  cases es : getS ρ i with
  | none => rw [es] at o; exact o.elim
  | some md =>
    obtain ⟨m, d⟩ := md
    rw [es] at o
    obtain ⟨v, fp, e1, ow, nd, hc⟩ := l.slot i m d es
    have z := ow.fz l.sub
    refine ⟨v, e1, ?_⟩
    cases ht : isT T d with
    | none =>
      have o' : Out G.K G.mg W (FO G.K G.mg .z ms0) ms0 H0 H c σ (rM ((isT T d).map D.bl) ρ) Q := o
      rw [ht] at o'; exact o'.elim
    | some b =>
      have o' : Out G.K G.mg W (FO G.K G.mg .z ms0) ms0 H0 H c σ (rM ((isT T d).map D.bl) ρ) Q := o
      rw [ht] at o'
      exact ⟨v, .ty T.nm, _, _, b, rfl, .ty _, tyX_of z (fun c ns vs e => by rw [e] at ht; cases T <;> cases ht), isT_kit T d ht, o'.here l rfl⟩
end
section
variable (s0 : Sl) (r : En) (f fa fb fe fv fi fk fo : M D) (fs : M (List D)) (gt : D → M Fl) (gb g : M Fl) (i a b : Nat) (m : Md) (c x : Str) (F : M D) (ls : List (Option Nat)) (as : Ms)
@[simp] theorem fIsiO_ap (T : PyT) : fIsiO T i (s0 :: r) = isiS T (s0 :: r) (getS (s0 :: r) i) := rfl
@[simp] theorem isiS_ap (T : PyT) (d : D) : isiS T r (some (m, d)) = rM ((isT T d).map .bl) r := rfl
def mkRD (r : En) : Res D → Res D
  | .ok .non (some (m, d) :: _) => if mdEq m mI = true then .ok d r else .bad
  | .exc n ns vs _ => .exc n ns vs r
  | _ => .bad
@[simp] theorem fMakeD_ap : fMakeD c F ls fs (s0 :: r) = (fs (s0 :: r)).bind fun ds r => mkRD r (F (some (mI, .ins c [] []) :: mkArgs ls ds r)) := rfl
@[simp] theorem mkRD_ok (d : D) (rp : En) : mkRD r (.ok .non (some (mI, d) :: rp)) = .ok d r := rfl
@[simp] theorem gISetD_ap : gISetD i c x fe (s0 :: r) = (fe (s0 :: r)).bind fun d r => (rM (inSD c (getS r i)) r).bind fun p r => (rM (setI x d p) r).bind fun p' r => .ok .nx (r.set i (some (.o (.all mD), .ins c p'.1 p'.2))) := rfl
@[simp] theorem gIPutD_ap : gIPutD i c x fv fk (s0 :: r) = (fv (s0 :: r)).bind fun d r => (rM (idSD c x (getS r i)) r).bind fun _ r => (fk r).bind fun j r => (rM (idSD c x (getS r i)) r).bind fun p r => (rM (dNewO j d p) r).bind fun p' r => .ok .nx (r.set i (some (mI, .ins c [x] [.dct p'.1 p'.2]))) := rfl
@[simp] theorem inSD_0 (ns : List Str) (vs : List D) : inSD c (some (.o (.all mD), .ins c ns vs)) = some (ns, vs) := (show (if mdEq mD mD = true ∧ c = c then some (ns, vs) else none) = _ from if_pos ⟨rfl, rfl⟩)
@[simp] theorem idSD_0 (ks vs : List D) : idSD c x (some (mI, .ins c [x] [.dct ks vs])) = some (ks, vs) := (show (if mdEq mI mI = true ∧ c = c ∧ x = x then some (ks, vs) else none) = _ from if_pos ⟨rfl, rfl, rfl⟩)
def brE (i : Nat) (s : Sl) (as : Ms) (r : En) : Res Fl → Res Fl
  | .ok (.rt x) r' => if atom x = true then .ok (.rt x) (thw i s as 0 r r') else .bad
  | .ok .nx r' => .ok .nx (thw i s as 0 r r')
  | .ok .bk r' => .ok .bk (thw i s as 0 r r')
  | .ok .ct r' => .ok .ct (thw i s as 0 r r')
  | _ => .bad
def brS (i : Nat) (as : Ms) (g : M Fl) (r : En) : Sl → Res Fl
  | some (m, d) => if as i = true then .bad else brE i (some (m, d)) as r (g (r.set i (some (.z, d))))
  | none => .bad
@[simp] theorem gBrk_ap : gBrk i as g (s0 :: r) = brS i as g (s0 :: r) (getS (s0 :: r) i) := by
  unfold gBrk brS
  cases getS (s0 :: r) i with
  | none => rfl
  | some md =>
    obtain ⟨m, d⟩ := md
    dsimp only
    split
    · rfl
    · unfold brE
      cases g ((s0 :: r).set i (some (.z, d))) with
      | ok fl r' => cases fl <;> rfl
      | exc => rfl
      | bad => rfl
theorem brS_some (d : D) (h : as i = false) : brS i as g r (some (m, d)) = brE i (some (m, d)) as r (g (r.set i (some (.z, d)))) := by
  show (if as i = true then _ else _) = _
  rw [h, if_neg Bool.false_ne_true]
@[simp] theorem brE_nx (s : Sl) (r' : En) : brE i s as r (.ok .nx r') = .ok .nx (thw i s as 0 r r') := rfl
@[simp] theorem brE_bl (s : Sl) (r' : En) (t : Bool) : brE i s as r (.ok (.rt (.bl t)) r') = .ok (.rt (.bl t)) (thw i s as 0 r r') := rfl
@[simp] theorem thw_nil (s : Sl) (j : Nat) : thw i s as j [] r = [] := by cases r <;> rfl
theorem thw_cons (s : Sl) (j : Nat) (p q : Sl) (r r' : En) : thw i s as j (p :: r) (q :: r') = (if j = i then s else thS (as j) p q) :: thw i s as (j + 1) r r' := rfl
@[simp] theorem thS_z (d : D) : thS false (some (.z, d)) (some (.z, d)) = some (.z, d) := by
  show (if clean d .z = true then some (Md.z, d) else _) = _
  split <;> rfl
@[simp] theorem thS_nn (t : Bool) : thS t none none = none := by cases t <;> rfl
theorem thS_clean (t : Bool) (p : Sl) (d : D) (h : clean d m = true) : thS t p (some (m, d)) = some (m, d) := by
  show (if clean d m = true then some (m, d) else _) = _
  rw [if_pos h]
def tkS (i a b : Nat) (gb : M Fl) (r : En) : Sl → Res Fl
  | some (m, .lst ds) => if mdEq m mH = true then (gTake a b gb ds (r.set i none)).bind (tkE i) else .bad
  | _ => .bad
@[simp] theorem gTakeClr_ap : gTakeClr i a b gb (s0 :: r) = tkS i a b gb (s0 :: r) (getS (s0 :: r) i) := by
  unfold gTakeClr tkS
  cases getS (s0 :: r) i with
  | none => rfl
  | some md =>
    obtain ⟨m, d⟩ := md
    cases d <;> rfl
@[simp] theorem tkS_lst (ds : List D) : tkS i a b gb r (some (mH, .lst ds)) = (gTake a b gb ds (r.set i none)).bind (tkE i) := rfl
@[simp] theorem tkE_nx : tkE i .nx r = .ok .nx (r.set i (some (m1, .lst []))) := rfl
end
theorem gTake_go {a b : Nat} {gb : M Fl} (P : En → Prop) : ∀ (ds : List D) (r : En), P r → (∀ d ∈ ds, ∃ x y, d = .tup [x, y] ∧ ∀ r, P r → ∃ r', gb ((r.set a (some (.z, x))).set b (some (m1, y))) = .ok .nx r' ∧ P r') → ∃ r', gTake a b gb ds r = .ok .nx r' ∧ P r'
  | [], r, h, _ => ⟨r, rfl, h⟩
  | d :: ds, r, h, hd => by
    obtain ⟨x, y, e, hs⟩ := hd d List.mem_cons_self
    subst e
    obtain ⟨r1, e1, h1⟩ := hs r h
    obtain ⟨r2, e2, h2⟩ := gTake_go P ds r1 h1 fun d h => hd d (List.mem_cons_of_mem _ h)
    refine ⟨r2, ?_, h2⟩
    show (gb ((r.set a (some (.z, x))).set b (some (m1, y)))).bind (tkK (gTake a b gb ds)) = _
    rw [e1, bind_ok]
    exact e2
end Vm
set_option Elab.async false
set_option linter.all false
set_option maxRecDepth 100000
set_option maxHeartbeats 4000000
namespace Vm
open PySem PySem.Spec PyProof.Rows L2
def t_abcdefghijklmnopqrstuvwxyz : List Nat := [97, 98, 99, 100, 101, 102, 103, 104, 105, 106, 107, 108, 109, 110, 111, 112, 113, 114, 115, 116, 117, 118, 119, 120, 121, 122]
def t_any : List Nat := [97, 110, 121]
def t_none : List Nat := [110, 111, 110, 101]
def t_blank : List Nat := [98, 108, 97, 110, 107]
def t_new : List Nat := [110, 101, 119]
def top (i : Nat) : Stmt := PySem.Challenge.pw_fitmost_k12_webs_told.main.body.getD i (.Pass ⟨0, 0, 0, 0⟩)
def clsB : Stmt → List Stmt
  | .ClassDef _ _ _ b _ _ _ _ _ _ _ => b
  | _ => []
def mtd (i j : Nat) : Stmt := (clsB (top i)).getD j (.Pass ⟨0, 0, 0, 0⟩)
def q_is_name : He.DefD := ⟨("is_name", none), "is_name", "is_name", defArgs (top 11), defBody (top 11), defScope (top 11), [], []⟩
def q_look_at_names : He.DefD := ⟨("look_at_names", none), "look_at_names", "look_at_names", defArgs (top 13), defBody (top 13), defScope (top 13), [], []⟩
def q_in_rings : He.DefD := ⟨("in_rings", none), "in_rings", "in_rings", defArgs (top 14), defBody (top 14), defScope (top 14), [], []⟩
def q_look_for_rings : He.DefD := ⟨("look_for_rings", none), "look_for_rings", "look_for_rings", defArgs (top 15), defBody (top 15), defScope (top 15), [], []⟩
def q_Web___init__ : He.DefD := ⟨("Web", some "__init__"), "__init__", "Web.__init__", defArgs (mtd 16 0), defBody (mtd 16 0), defScope (mtd 16 0), [], []⟩
def q_Web_names : He.DefD := ⟨("Web", some "names"), "names", "Web.names", defArgs (mtd 16 1), defBody (mtd 16 1), defScope (mtd 16 1), [], []⟩
def q_Web_over : He.DefD := ⟨("Web", some "over"), "over", "Web.over", defArgs (mtd 16 2), defBody (mtd 16 2), defScope (mtd 16 2), [], []⟩
def q__law_pick : He.DefD := ⟨("_law_pick", none), "_law_pick", "_law_pick", defArgs (top 18), defBody (top 18), defScope (top 18), [], []⟩
def q__law_word : He.DefD := ⟨("_law_word", none), "_law_word", "_law_word", defArgs (top 19), defBody (top 19), defScope (top 19), [], []⟩
def q__law_number : He.DefD := ⟨("_law_number", none), "_law_number", "_law_number", defArgs (top 20), defBody (top 20), defScope (top 20), [], []⟩
def q__law_names : He.DefD := ⟨("_law_names", none), "_law_names", "_law_names", defArgs (top 21), defBody (top 21), defScope (top 21), [], []⟩
def q__law_overs : He.DefD := ⟨("_law_overs", none), "_law_overs", "_law_overs", defArgs (top 22), defBody (top 22), defScope (top 22), [], []⟩
def q__law_tuples : He.DefD := ⟨("_law_tuples", none), "_law_tuples", "_law_tuples", defArgs (top 23), defBody (top 23), defScope (top 23), [], []⟩
def q__law_told : He.DefD := ⟨("_law_told", none), "_law_told", "_law_told", defArgs (top 24), defBody (top 24), defScope (top 24), [], []⟩
def q_law : He.DefD := ⟨("law", none), "law", "law", defArgs (top 25), defBody (top 25), defScope (top 25), [], []⟩
def fnL : List He.DefD := [q_is_name, q_look_at_names, q_in_rings, q_look_for_rings, q_Web___init__, q_Web_names, q_Web_over, q__law_pick, q__law_word, q__law_number, q__law_names, q__law_overs, q__law_tuples, q__law_told, q_law]
def faL : List He.Fa := [.free "isinstance", .free "str", .free "len", .free "all", .glo "is_name", .free "set", .glo "look_at_names", .free "list", .free "any", .glo "in_rings", .glo "look_for_rings", .glo "Web", .cls "Web", .noat "Web" "uppers", .free "sorted", .mkr "Web", .meth "Web" "names", .meth "Web" "over", .glo "_law_pick", .free "range", .glo "_law_word", .free "abs", .glo "_law_number", .glo "_law_names", .glo "_law_overs", .glo "_law_tuples", .glo "_law_told", .free "tuple", .glo "law"]
def csL : List (Str × D) := [("LETTERS", (.str t_abcdefghijklmnopqrstuvwxyz)), ("MOST_LETTERS", (.int 8)), ("OTHER_WORDS", (.tup [(.str t_any), (.str t_none), (.str t_blank), (.str t_new), (.str [111, 110])]))]
abbrev YeL (G : GC) : Prop := Ye faL fnL csL G
noncomputable def F_is_name : M D := fnRun [false] 1 (gSeq (fIf (fOr (fNot (fB (fIsi .str (eVar 0)))) (fOr (fB (fOp2 oEq (eVar 0) (eC (.str [])))) (fB (fOp2 oGt (fA oLenA (fCons (eVar 0) fNil)) (eC (.int 8)))))) (gRet (eC (.bl false))) gNx) (gRet (fAnd (fOp2 oNotInA (eVar 0) (eC (.tup [(.str t_any), (.str t_none), (.str t_blank), (.str t_new), (.str [111, 110])]))) (fA oAll (fCons (fLc [1] (iAny (eVar 0)) (tName 1) ftY (fOp2 oInA (eVar 1) (eC (.str t_abcdefghijklmnopqrstuvwxyz)))) fNil)))))
theorem sc_is_name : FnScope ["thing", "sign"] ["thing"] (defScope (top 11)) := ⟨rfl, rfl, rfl, by decide +kernel, rfl, by decide +kernel, by decide +kernel⟩
theorem ok_is_name {G : GC} (Y : YeL G) : Fx G 1 "is_name" ["thing"] .z F_is_name :=
  Fx.mk' Y 0 4 (d := q_is_name) (k := 0) (N := ["thing", "sign"]) [false] 1
    (VSs.cons (VS.ite (VW.pt (VW.or (VT.not (VT.of (VO.isi .str (Y.free 0) (Y.free 1) (VO.vb (VO.var (i := 0)))))) (VW.or (VT.cp Cm.eq (VO.vb (VO.var (i := 0))) (VO.vb (VO.str (s := [])))) (VW.or1 (VT.cp Cm.gt' (VO.vb (VO.lenA (Y.free 2) (VA.cons (VO.vb (VO.var (i := 0))) VA.nil))) (VO.vb (VO.glob (Y.glob 1)))))))) (VSs.one (VS.ret VO.bl)) VSs.nil) (VSs.one (VS.ret (VO.and (VO.cp Cm.ninA (VO.vb (VO.var (i := 0))) (VO.vb (VO.glob (Y.glob 2)))) (VO.one (VO.all (Y.free 3) (VA.cons (VO.vb (VO.frz (VO.lc (me := .z) [("sign", 1)] (VI.any (VO.var (i := 0))) (VG.name (i := 1)) VTs.nil (VO.cp Cm.inA (VO.vb (VO.var (i := 1))) (VO.vb (VO.glob (Y.glob 0))))))) VA.nil)))))))
    (fun _ _ _ _ _ _ us hl => match us, hl with | [_], _ => rfl) sc_is_name
noncomputable def F_look_at_names : M D := fnRun [false] 4 (gSeq (gFor (iAny (eVar 0)) (tTupl 2 (tCon (tName 2) (tCon (tName 3) tNil))) (fIf (fOr (fNot (fB (fCall F_is_name [none] (fCons (eVar 2) fNil)))) (fNot (fB (fA oAll (fCons (fLc [4] (iAny (eVar 3)) (tName 4) ftY (fCall F_is_name [none] (fCons (eVar 4) fNil))) fNil))))) gBad gNx)) (gSeq (gSet 1 .z (fLc [2, 3] (iAny (eVar 0)) (tTupl 2 (tCon (tName 2) (tCon (tName 3) tNil))) ftY (eVar 2))) (gSeq (fIf (fB (fOp2 oLt (fA oLenSet (fCons (eVar 1) fNil)) (fA oLenA (fCons (eVar 1) fNil)))) gBad gNx) (gFor (iAny (eVar 0)) (tTupl 2 (tCon (tName 2) (tCon (tName 3) tNil))) (fIf (fNot (fB (fA oAll (fCons (fLc [4] (iAny (eVar 3)) (tName 4) ftY (fOp2 oInA (eVar 4) (eVar 1))) fNil)))) gBad gNx)))))
theorem sc_look_at_names : FnScope ["tuples", "names", "name", "over", "one"] ["tuples"] (defScope (top 13)) := ⟨rfl, rfl, rfl, by decide +kernel, rfl, by decide +kernel, by decide +kernel⟩
theorem ok_look_at_names {G : GC} (Y : YeL G) : Fx G 2 "look_at_names" ["tuples"] .z F_look_at_names :=
  Fx.mk' Y 1 6 (d := q_look_at_names) (k := 1) (N := ["tuples", "names", "name", "over", "one"]) [false] 4
    (VSs.cons (VS.for_ (VI.any (VO.var (i := 0))) (VG.tup (VGs.cons (VG.name (i := 2)) (VGs.cons (VG.name (i := 3)) VGs.nil))) (VSs.one (VS.ite (VW.pt (VW.or (VT.not (VT.of (VO.callX (ok_is_name Y) (VM.frz (VO.var (i := 2)) VM.nil)))) (VW.or1 (VT.not (VT.of (VO.all (Y.free 3) (VA.cons (VO.vb (VO.frz (VO.lc (me := .z) [("one", 4)] (VI.any (VO.var (i := 3))) (VG.name (i := 4)) VTs.nil (VO.callX (ok_is_name Y) (VM.frz (VO.var (i := 4)) VM.nil))))) VA.nil))))))) (VSs.one VS.bad) VSs.nil))) (VSs.cons (VS.setC (i := 1) (m := .z) (VO.frz (VO.lc (me := .z) [("name", 2), ("over", 3)] (VI.any (VO.var (i := 0))) (VG.tup (VGs.cons (VG.name (i := 2)) (VGs.cons (VG.name (i := 3)) VGs.nil))) VTs.nil (VO.var (i := 2))))) (VSs.cons (VS.ite (VT.cp Cm.lt' (VO.vb (VO.lenSet (Y.free 2) (Y.free 5) (VA.cons (VO.vb (VO.var (i := 1))) VA.nil))) (VO.vb (VO.lenA (Y.free 2) (VA.cons (VO.vb (VO.var (i := 1))) VA.nil)))) (VSs.one VS.bad) VSs.nil) (VSs.one (VS.for_ (VI.any (VO.var (i := 0))) (VG.tup (VGs.cons (VG.name (i := 2)) (VGs.cons (VG.name (i := 3)) VGs.nil))) (VSs.one (VS.ite (VT.not (VT.of (VO.all (Y.free 3) (VA.cons (VO.vb (VO.frz (VO.lc (me := .z) [("one", 4)] (VI.any (VO.var (i := 3))) (VG.name (i := 4)) VTs.nil (VO.cp Cm.inA (VO.vb (VO.var (i := 4))) (VO.vb (VO.var (i := 1))))))) VA.nil)))) (VSs.one VS.bad) VSs.nil)))))))
    (fun _ _ _ _ _ _ us hl => match us, hl with | [_], _ => rfl) sc_look_at_names
noncomputable def F_in_rings : M D := fnRun [false] 5 (gSeq (gSet 1 .z (fA oListA (fCons (eVar 0) fNil))) (gSeq (gSet 2 .z (eC (.bl true))) (gSeq (gWh (fB (eVar 2)) (gSeq (gSet 3 .z (fLc [4] (iAny (eVar 1)) (tName 4) (fNot (fB (fA oAny (fCons (fLc [5] (iAny (fOp2 oIxA (eVar 0) (eVar 4))) (tName 5) ftY (fOp2 oInA (eVar 5) (eVar 1))) fNil)))) (eVar 4))) (gSeq (gSet 1 .z (fLc [4] (iAny (eVar 1)) (tName 4) (fB (fOp2 oNotInA (eVar 4) (eVar 3))) (eVar 4))) (gSet 2 .z (fOp2 oNe (eVar 3) (fLst fNil)))))) (gRet (eVar 1)))))
theorem sc_in_rings : FnScope ["uppers", "left", "again", "free", "name", "one"] ["uppers"] (defScope (top 14)) := ⟨rfl, rfl, rfl, by decide +kernel, rfl, by decide +kernel, by decide +kernel⟩
theorem ok_in_rings {G : GC} (Y : YeL G) : Fx G 1 "in_rings" ["uppers"] .z F_in_rings :=
  Fx.mk' Y 2 9 (d := q_in_rings) (k := 0) (N := ["uppers", "left", "again", "free", "name", "one"]) [false] 5
    (VSs.cons (VS.set (i := 1) (m := .z) (VO.frz (VO.listA (Y.free 7) (VA.cons (VO.vb (VO.var (i := 0))) VA.nil)))) (VSs.cons (VS.set (i := 2) (m := .z) VO.bl) (VSs.cons (VS.wh (VT.of (VO.var (i := 2))) (VSs.cons (VS.setC (i := 3) (m := .z) (VO.frz (VO.lc (me := .z) [("name", 4)] (VI.any (VO.var (i := 1))) (VG.name (i := 4)) (VTs.one (VT.not (VT.of (VO.any (Y.free 8) (VA.cons (VO.vb (VO.frz (VO.lc (me := .z) [("one", 5)] (VI.any (VO.itemA (VO.vb (VO.var (i := 0))) (VO.vb (VO.var (i := 4))))) (VG.name (i := 5)) VTs.nil (VO.cp Cm.inA (VO.vb (VO.var (i := 5))) (VO.vb (VO.var (i := 1))))))) VA.nil))))) (VO.var (i := 4))))) (VSs.cons (VS.setC (i := 1) (m := .z) (VO.frz (VO.lc (me := .z) [("name", 4)] (VI.any (VO.var (i := 1))) (VG.name (i := 4)) (VTs.one (VT.cp Cm.ninA (VO.vb (VO.var (i := 4))) (VO.vb (VO.var (i := 3))))) (VO.var (i := 4))))) (VSs.one (VS.set (i := 2) (m := .z) (VO.cp Cm.ne (VO.vb (VO.var (i := 3))) (VO.vb (VO.frz (VO.lst (VLs.nil (k := .all .z))))))))))) (VSs.one (VS.ret (VO.var (i := 1)))))))
    (fun _ _ _ _ _ _ us hl => match us, hl with | [_], _ => rfl) sc_in_rings
noncomputable def F_look_for_rings : M D := fnRun [false] 4 (gSeq (gSet 1 .z (fCall F_in_rings [none] (fCons (eVar 0) fNil))) (gSeq (fIf (fB (fOp2 oEq (eVar 1) (fLst fNil))) gRetN gNx) (gSeq gBad gBad)))
theorem sc_look_for_rings : FnScope ["uppers", "left", "way", "onward", "one"] ["uppers"] (defScope (top 15)) := ⟨rfl, rfl, rfl, by decide +kernel, rfl, by decide +kernel, by decide +kernel⟩
theorem ok_look_for_rings {G : GC} (Y : YeL G) : Fx G 2 "look_for_rings" ["uppers"] .z F_look_for_rings :=
  Fx.mk' Y 3 10 (d := q_look_for_rings) (k := 1) (N := ["uppers", "left", "way", "onward", "one"]) [false] 4
    (VSs.cons (VS.set (i := 1) (m := .z) (VO.callX (ok_in_rings Y) (VM.frz (VO.var (i := 0)) VM.nil))) (VSs.cons (VS.ite (VT.cp Cm.eq (VO.vb (VO.var (i := 1))) (VO.vb (VO.frz (VO.lst (VLs.nil (k := .all .z)))))) (VSs.one VS.retN) VSs.nil) (VSs.cons VS.bad (VSs.one VS.bad))))
    (fun _ _ _ _ _ _ us hl => match us, hl with | [_], _ => rfl) sc_look_for_rings
noncomputable def F_Web___init__ : M D := fnRun [true, false] 2 (gSeq (gDo (fCall F_look_at_names [none] (fCons (eVar 1) fNil))) (gSeq (gISetD 0 "Web" "uppers" (eC (.dct [] []))) (gSeq (gFor (iAny (eVar 1)) (tTupl 2 (tCon (tName 2) (tCon (tName 3) tNil))) (gIPutD 0 "Web" "uppers" (fA oSortSet (fCons (eVar 3) fNil)) (eVar 2))) (gBrk 0 ms0 (gDo (fCall F_look_for_rings [none] (fCons (fFld "Web" "uppers" (eVar 0)) fNil)))))))
theorem sc_Web___init__ : FnScope ["self", "tuples", "name", "over"] ["self", "tuples"] (defScope (mtd 16 0)) := ⟨rfl, rfl, rfl, by decide +kernel, rfl, by decide +kernel, by decide +kernel⟩
theorem ok_Web___init__ {G : GC} (Y : YeL G) : MkX G "Web" 3 ["self", "tuples"] F_Web___init__ :=
  MkX.mk' Y 4 11 15 (d := q_Web___init__) (k := 2) (N := ["self", "tuples", "name", "over"]) [true, false] 2
    (VSs.cons (VS.expr (VO.callX (ok_look_at_names Y) (VM.frz (VO.var (i := 1)) VM.nil))) (VSs.cons (VS.isetD (i := 0) (c := "Web") (f := "uppers") (Y.atr 11 12 13) (VO.dct0 (k := .all m1))) (VSs.cons (VS.for_ (VI.any (VO.var (i := 1))) (VG.tup (VGs.cons (VG.name (i := 2)) (VGs.cons (VG.name (i := 3)) VGs.nil))) (VSs.one (VS.iputD (i := 0) (c := "Web") (f := "uppers") (Y.atr 11 12 13) (VO.sortSet (Y.free 14) (Y.free 5) (VA.cons (VO.vb (VO.var (i := 3))) VA.nil)) (VO.var (i := 2))))) (VSs.one (VS.brkt 0 (VS.expr (VO.callX (ok_look_for_rings Y) (VM.frz (VO.fld (c := "Web") (f := "uppers") (Y.atr 11 12 13) (VO.vb (VO.var (i := 0)))) VM.nil))))))))
    (fun _ _ _ _ _ _ us hl => match us, hl with | [_, _], _ => rfl) sc_Web___init__
noncomputable def F_Web_names : M D := fnRun [false] 0 (gRet (fA oListA (fCons (fFld "Web" "uppers" (eVar 0)) fNil)))
theorem sc_Web_names : FnScope ["self"] ["self"] (defScope (mtd 16 1)) := ⟨rfl, rfl, rfl, by decide +kernel, rfl, by decide +kernel, by decide +kernel⟩
theorem ok_Web_names {G : GC} (Y : YeL G) : MetX G "Web" "names" 1 ["self"] m1 F_Web_names :=
  MetX.mk' Y 5 11 12 16 (d := q_Web_names) (k := 0) (N := ["self"]) [false] 0
    (VSs.one (VS.ret (VO.listA (Y.free 7) (VA.cons (VO.vb (VO.fld (c := "Web") (f := "uppers") (Y.atr 11 12 13) (VO.vb (VO.var (i := 0))))) VA.nil))))
    (fun _ _ _ _ _ _ us hl => match us, hl with | [_], _ => rfl) sc_Web_names
noncomputable def F_Web_over : M D := fnRun [false, false] 0 (gRet (fA oListA (fCons (fOp2 oIxA (fFld "Web" "uppers" (eVar 0)) (eVar 1)) fNil)))
theorem sc_Web_over : FnScope ["self", "name"] ["self", "name"] (defScope (mtd 16 2)) := ⟨rfl, rfl, rfl, by decide +kernel, rfl, by decide +kernel, by decide +kernel⟩
theorem ok_Web_over {G : GC} (Y : YeL G) : MetX G "Web" "over" 1 ["self", "name"] m1 F_Web_over :=
  MetX.mk' Y 6 11 12 17 (d := q_Web_over) (k := 0) (N := ["self", "name"]) [false, false] 0
    (VSs.one (VS.ret (VO.listA (Y.free 7) (VA.cons (VO.vb (VO.itemA (VO.vb (VO.fld (c := "Web") (f := "uppers") (Y.atr 11 12 13) (VO.vb (VO.var (i := 0))))) (VO.vb (VO.var (i := 1))))) VA.nil))))
    (fun _ _ _ _ _ _ us hl => match us, hl with | [_, _], _ => rfl) sc_Web_over
noncomputable def F__law_pick : M D := fnRun [false, false] 0 (gRet (fOp2 oIxA (fOp2 oAdd (fSl oCut (eVar 0) (fPart (eVar 1)) (fPart (fOp2 oAdd (eVar 1) (eC (.int 1))))) (fLst (fCons (eC (.int 0)) fNil))) (eC (.int 0))))
theorem sc__law_pick : FnScope ["_law_script", "_law_k"] ["_law_script", "_law_k"] (defScope (top 18)) := ⟨rfl, rfl, rfl, by decide +kernel, rfl, by decide +kernel, by decide +kernel⟩
theorem ok__law_pick {G : GC} (Y : YeL G) : Fx G 1 "_law_pick" ["_law_script", "_law_k"] .z F__law_pick :=
  Fx.mk' Y 7 18 (d := q__law_pick) (k := 0) (N := ["_law_script", "_law_k"]) [false, false] 0
    (VSs.one (VS.ret (VO.itemA (VO.vb (VO.add (VO.vb (VO.cut (VO.vb (VO.var (i := 0))) (VP.some (VO.var (i := 1))) (VP.some (VO.add (VO.vb (VO.var (i := 1))) (VO.vb VO.int))))) (VO.vb (VO.frz (VO.lst (VLs.cons (k := .all .z) VO.int (VLs.nil (k := .all .z)))))))) (VO.vb VO.int))))
    (fun _ _ _ _ _ _ us hl => match us, hl with | [_, _], _ => rfl) sc__law_pick
noncomputable def F__law_word : M D := fnRun [false] 4 (gSeq (gSet 1 .z (eC (.str t_abcdefghijklmnopqrstuvwxyz))) (gSeq (gSet 2 .z (fOp2 oFdiv (eVar 0) (eC (.int 8)))) (gSeq (gSet 3 .z (eC (.str []))) (gSeq (gFor (iRng (fOp2 oAdd (eC (.int 1)) (fOp2 oMod (eVar 0) (eC (.int 8))))) (tName 4) (gSeq (gSet 3 .z (fOp2 oAdd (eVar 3) (fOp2 oIxA (eVar 1) (fOp2 oMod (eVar 2) (eC (.int 26)))))) (gSet 2 .z (fOp2 oFdiv (eVar 2) (eC (.int 26)))))) (gSeq (fIf (fB (fOp2 oInA (eVar 3) (fLst (fCons (eC (.str t_any)) (fCons (eC (.str t_none)) (fCons (eC (.str t_blank)) (fCons (eC (.str t_new)) (fCons (eC (.str [111, 110])) fNil)))))))) (gRet (fOp2 oAdd (eVar 3) (eC (.str [115])))) gNx) (gRet (eVar 3)))))))
theorem sc__law_word : FnScope ["_law_number_here", "_law_letters", "_law_rest", "_law_found", "_law_k"] ["_law_number_here"] (defScope (top 19)) := ⟨rfl, rfl, rfl, by decide +kernel, rfl, by decide +kernel, by decide +kernel⟩
theorem ok__law_word {G : GC} (Y : YeL G) : Fx G 1 "_law_word" ["_law_number_here"] .z F__law_word :=
  Fx.mk' Y 8 20 (d := q__law_word) (k := 0) (N := ["_law_number_here", "_law_letters", "_law_rest", "_law_found", "_law_k"]) [false] 4
    (VSs.cons (VS.set (i := 1) (m := .z) (VO.str (s := t_abcdefghijklmnopqrstuvwxyz))) (VSs.cons (VS.set (i := 2) (m := .z) (VO.fdiv (VO.vb (VO.var (i := 0))) (VO.vb VO.int))) (VSs.cons (VS.set (i := 3) (m := .z) (VO.str (s := []))) (VSs.cons (VS.for_ (VI.rng (VO.add (VO.vb VO.int) (VO.vb (VO.mod (VO.vb (VO.var (i := 0))) (VO.vb VO.int)))) (Y.free 19)) (VG.name (i := 4)) (VSs.cons (VS.set (i := 3) (m := .z) (VO.add (VO.vb (VO.var (i := 3))) (VO.vb (VO.itemA (VO.vb (VO.var (i := 1))) (VO.vb (VO.mod (VO.vb (VO.var (i := 2))) (VO.vb VO.int))))))) (VSs.one (VS.set (i := 2) (m := .z) (VO.fdiv (VO.vb (VO.var (i := 2))) (VO.vb VO.int)))))) (VSs.cons (VS.ite (VT.cp Cm.inA (VO.vb (VO.var (i := 3))) (VO.vb (VO.frz (VO.lst (VLs.cons (k := .all .z) (VO.str (s := t_any)) (VLs.cons (k := .all .z) (VO.str (s := t_none)) (VLs.cons (k := .all .z) (VO.str (s := t_blank)) (VLs.cons (k := .all .z) (VO.str (s := t_new)) (VLs.cons (k := .all .z) (VO.str (s := [111, 110])) (VLs.nil (k := .all .z))))))))))) (VSs.one (VS.ret (VO.add (VO.vb (VO.var (i := 3))) (VO.vb (VO.str (s := [115])))))) VSs.nil) (VSs.one (VS.ret (VO.var (i := 3)))))))))
    (fun _ _ _ _ _ _ us hl => match us, hl with | [_], _ => rfl) sc__law_word
noncomputable def F__law_number : M D := fnRun [false, false] 1 (gSeq (fIf (fAnd (fB (fOp2 oEq (fOp2 oMod (fCall F__law_pick [none, none] (fCons (eVar 0) (fCons (eC (.int 0)) fNil))) (eC (.int 2))) (eC (.int 0)))) (fB (fOp2 oGe (fA oAbs (fCons (fCall F__law_pick [none, none] (fCons (eVar 0) (fCons (fOp2 oAdd (eC (.int 1)) (eVar 1)) fNil))) fNil)) (fOp2 oPow (eC (.int 10)) (eC (.int 9)))))) (gRet (fCall F__law_pick [none, none] (fCons (eVar 0) (fCons (fOp2 oAdd (eC (.int 1)) (eVar 1)) fNil)))) gNx) (gSeq (gSet 2 .z (fOp2 oMod (fOp2 oAdd (fOp2 oAdd (fCall F__law_pick [none, none] (fCons (eVar 0) (fCons (fOp2 oAdd (eC (.int 1)) (fOp2 oMod (eVar 1) (eC (.int 6)))) fNil))) (fOp2 oMul (eC (.int 7919)) (eVar 1))) (eC (.int 31))) (eC (.int 2147483629)))) (gSeq (gSet 2 .z (fOp2 oMod (fOp2 oAdd (fOp2 oMul (eVar 2) (eVar 2)) (fOp2 oMul (eC (.int 48271)) (eVar 1))) (eC (.int 2147483629)))) (gRet (fOp2 oMod (fOp2 oAdd (fOp2 oMul (fOp2 oMul (eVar 2) (eVar 2)) (fOp2 oAdd (eVar 2) (eC (.int 40013)))) (eVar 1)) (fOp2 oPow (eC (.int 10)) (eC (.int 18))))))))
theorem sc__law_number : FnScope ["_law_script", "_law_k", "_law_number_here"] ["_law_script", "_law_k"] (defScope (top 20)) := ⟨rfl, rfl, rfl, by decide +kernel, rfl, by decide +kernel, by decide +kernel⟩
theorem ok__law_number {G : GC} (Y : YeL G) : Fx G 2 "_law_number" ["_law_script", "_law_k"] .z F__law_number :=
  Fx.mk' Y 9 22 (d := q__law_number) (k := 1) (N := ["_law_script", "_law_k", "_law_number_here"]) [false, false] 1
    (VSs.cons (VS.ite (VW.pt (VW.and (VT.cp Cm.eq (VO.vb (VO.mod (VO.vb (VO.callX (ok__law_pick Y) (VM.frz (VO.var (i := 0)) (VM.frz VO.int VM.nil)))) (VO.vb VO.int))) (VO.vb VO.int)) (VW.and1 (VT.cp Cm.ge' (VO.vb (VO.abs (Y.free 21) (VA.cons (VO.vb (VO.callX (ok__law_pick Y) (VM.frz (VO.var (i := 0)) (VM.frz (VO.add (VO.vb VO.int) (VO.vb (VO.var (i := 1)))) VM.nil)))) VA.nil))) (VO.vb (VO.pow (VO.vb VO.int) (VO.vb VO.int))))))) (VSs.one (VS.ret (VO.callX (ok__law_pick Y) (VM.frz (VO.var (i := 0)) (VM.frz (VO.add (VO.vb VO.int) (VO.vb (VO.var (i := 1)))) VM.nil))))) VSs.nil) (VSs.cons (VS.set (i := 2) (m := .z) (VO.mod (VO.vb (VO.add (VO.vb (VO.add (VO.vb (VO.callX (ok__law_pick Y) (VM.frz (VO.var (i := 0)) (VM.frz (VO.add (VO.vb VO.int) (VO.vb (VO.mod (VO.vb (VO.var (i := 1))) (VO.vb VO.int)))) VM.nil)))) (VO.vb (VO.mul (VO.vb VO.int) (VO.vb (VO.var (i := 1))))))) (VO.vb VO.int))) (VO.vb VO.int))) (VSs.cons (VS.set (i := 2) (m := .z) (VO.mod (VO.vb (VO.add (VO.vb (VO.mul (VO.vb (VO.var (i := 2))) (VO.vb (VO.var (i := 2))))) (VO.vb (VO.mul (VO.vb VO.int) (VO.vb (VO.var (i := 1))))))) (VO.vb VO.int))) (VSs.one (VS.ret (VO.mod (VO.vb (VO.add (VO.vb (VO.mul (VO.vb (VO.mul (VO.vb (VO.var (i := 2))) (VO.vb (VO.var (i := 2))))) (VO.vb (VO.add (VO.vb (VO.var (i := 2))) (VO.vb VO.int))))) (VO.vb (VO.var (i := 1))))) (VO.vb (VO.pow (VO.vb VO.int) (VO.vb VO.int)))))))))
    (fun _ _ _ _ _ _ us hl => match us, hl with | [_, _], _ => rfl) sc__law_number
noncomputable def F__law_names : M D := fnRun [false, false] 3 (gSeq (gSet 2 m1 (fLst fNil)) (gSeq (gFor (iRng (eVar 1)) (tName 3) (gSeq (gSet 4 .z (fCall F__law_number [none, none] (fCons (eVar 0) (fCons (eVar 3) fNil)))) (gSeq (gWh (fB (fOp2 oInA (fCall F__law_word [none] (fCons (eVar 4) fNil)) (eBor 2))) (gSet 4 .z (fOp2 oAdd (eVar 4) (eC (.int 1))))) (gMt 2 .z appO (fCall F__law_word [none] (fCons (eVar 4) fNil)))))) (gRet (eFrz 2))))
theorem sc__law_names : FnScope ["_law_script", "_law_many", "_law_found", "_law_k", "_law_number_here"] ["_law_script", "_law_many"] (defScope (top 21)) := ⟨rfl, rfl, rfl, by decide +kernel, rfl, by decide +kernel, by decide +kernel⟩
theorem ok__law_names {G : GC} (Y : YeL G) : Fx G 3 "_law_names" ["_law_script", "_law_many"] .z F__law_names :=
  Fx.mk' Y 10 23 (d := q__law_names) (k := 2) (N := ["_law_script", "_law_many", "_law_found", "_law_k", "_law_number_here"]) [false, false] 3
    (VSs.cons (VS.set (i := 2) (m := m1) (VO.lst (VLs.nil (k := .all .z)))) (VSs.cons (VS.for_ (VI.rng (VO.var (i := 1)) (Y.free 19)) (VG.name (i := 3)) (VSs.cons (VS.set (i := 4) (m := .z) (VO.callX (ok__law_number Y) (VM.frz (VO.var (i := 0)) (VM.frz (VO.var (i := 3)) VM.nil)))) (VSs.cons (VS.wh (VT.cp Cm.inA (VO.vb (VO.callX (ok__law_word Y) (VM.frz (VO.var (i := 4)) VM.nil))) (VB.var (i := 2))) (VSs.one (VS.set (i := 4) (m := .z) (VO.add (VO.vb (VO.var (i := 4))) (VO.vb VO.int))))) (VSs.one (VS.app (i := 2) (me := .z) (VO.callX (ok__law_word Y) (VM.frz (VO.var (i := 4)) VM.nil))))))) (VSs.one (VS.ret (VO.fz (i := 2))))))
    (fun _ _ _ _ _ _ us hl => match us, hl with | [_, _], _ => rfl) sc__law_names
noncomputable def F__law_overs : M D := fnRun [false, false, false] 2 (gSeq (gSet 3 m1 (fLst fNil)) (gSeq (gFor (iRng (eVar 2)) (tName 4) (gSeq (fIf (fB (fOp2 oEq (fOp2 oMod (eVar 1) (eC (.int 4))) (eC (.int 1)))) (gMt 3 .z appO (fOp2 oIxA (eVar 0) (eVar 4))) gNx) (gSeq (fIf (fB (fOp2 oEq (fOp2 oMod (eVar 1) (eC (.int 4))) (eC (.int 2)))) (gIns 3 (eC (.int 0)) (fOp2 oIxA (eVar 0) (eVar 4))) gNx) (gSet 1 .z (fOp2 oFdiv (eVar 1) (eC (.int 4))))))) (gSeq (fIf (fAnd (fB (fOp2 oEq (fOp2 oMod (eVar 1) (eC (.int 4))) (eC (.int 1)))) (fB (fOp2 oNe (eBor 3) (fLst fNil)))) (gMt 3 .z appO (fOp2 oIxA (eBor 3) (fOp2 oMod (fOp2 oFdiv (eVar 1) (eC (.int 4))) (fA oLenA (fCons (eBor 3) fNil))))) gNx) (gRet (eFrz 3)))))
theorem sc__law_overs : FnScope ["_law_names_here", "_law_number_here", "_law_k", "_law_found", "_law_j"] ["_law_names_here", "_law_number_here", "_law_k"] (defScope (top 22)) := ⟨rfl, rfl, rfl, by decide +kernel, rfl, by decide +kernel, by decide +kernel⟩
theorem ok__law_overs {G : GC} (Y : YeL G) : Fx G 1 "_law_overs" ["_law_names_here", "_law_number_here", "_law_k"] .z F__law_overs :=
  Fx.mk' Y 11 24 (d := q__law_overs) (k := 0) (N := ["_law_names_here", "_law_number_here", "_law_k", "_law_found", "_law_j"]) [false, false, false] 2
    (VSs.cons (VS.set (i := 3) (m := m1) (VO.lst (VLs.nil (k := .all .z)))) (VSs.cons (VS.for_ (VI.rng (VO.var (i := 2)) (Y.free 19)) (VG.name (i := 4)) (VSs.cons (VS.ite (VT.cp Cm.eq (VO.vb (VO.mod (VO.vb (VO.var (i := 1))) (VO.vb VO.int))) (VO.vb VO.int)) (VSs.one (VS.app (i := 3) (me := .z) (VO.itemA (VO.vb (VO.var (i := 0))) (VO.vb (VO.var (i := 4)))))) VSs.nil) (VSs.cons (VS.ite (VT.cp Cm.eq (VO.vb (VO.mod (VO.vb (VO.var (i := 1))) (VO.vb VO.int))) (VO.vb VO.int)) (VSs.one (VS.ins (i := 3) VO.int (VO.itemA (VO.vb (VO.var (i := 0))) (VO.vb (VO.var (i := 4)))))) VSs.nil) (VSs.one (VS.set (i := 1) (m := .z) (VO.fdiv (VO.vb (VO.var (i := 1))) (VO.vb VO.int))))))) (VSs.cons (VS.ite (VW.pt (VW.and (VT.cp Cm.eq (VO.vb (VO.mod (VO.vb (VO.var (i := 1))) (VO.vb VO.int))) (VO.vb VO.int)) (VW.and1 (VT.cp Cm.ne (VB.var (i := 3)) (VO.vb (VO.frz (VO.lst (VLs.nil (k := .all .z))))))))) (VSs.one (VS.app (i := 3) (me := .z) (VO.itemA (VB.var (i := 3)) (VO.vb (VO.mod (VO.vb (VO.fdiv (VO.vb (VO.var (i := 1))) (VO.vb VO.int))) (VO.vb (VO.lenA (Y.free 2) (VA.cons (VB.var (i := 3)) VA.nil)))))))) VSs.nil) (VSs.one (VS.ret (VO.fz (i := 3)))))))
    (fun _ _ _ _ _ _ us hl => match us, hl with | [_, _, _], _ => rfl) sc__law_overs
noncomputable def F__law_tuples : M D := fnRun [false] 6 (gSeq (gSet 1 .z (fOp2 oMod (fOp2 oFdiv (fCall F__law_pick [none, none] (fCons (eVar 0) (fCons (eC (.int 0)) fNil))) (eC (.int 2))) (eC (.int 25)))) (gSeq (gSet 2 .z (fCall F__law_names [none, none] (fCons (eVar 0) (fCons (eVar 1) fNil)))) (gSeq (gSet 3 m1 (fLst fNil)) (gSeq (gFor (iRng (eVar 1)) (tName 4) (gSeq (gSet 5 .z (fCall F__law_number [none, none] (fCons (eVar 0) (fCons (fOp2 oAdd (eC (.int 24)) (eVar 4)) fNil)))) (gSeq (gSet 6 .z (fOp2 oMod (eVar 5) (fOp2 oAdd (eVar 4) (eC (.int 1))))) (gIns 3 (eVar 6) (fTup (fCons (fOp2 oIxA (eVar 2) (eVar 4)) (fCons (fCall F__law_overs [none, none, none] (fCons (eVar 2) (fCons (fOp2 oFdiv (eVar 5) (fOp2 oAdd (eVar 4) (eC (.int 1)))) (fCons (eVar 4) fNil)))) fNil))))))) (gRet (eFrz 3))))))
theorem sc__law_tuples : FnScope ["_law_script", "_law_many", "_law_names_here", "_law_found", "_law_k", "_law_number_here", "_law_place"] ["_law_script"] (defScope (top 23)) := ⟨rfl, rfl, rfl, by decide +kernel, rfl, by decide +kernel, by decide +kernel⟩
theorem ok__law_tuples {G : GC} (Y : YeL G) : Fx G 4 "_law_tuples" ["_law_script"] .z F__law_tuples :=
  Fx.mk' Y 12 25 (d := q__law_tuples) (k := 3) (N := ["_law_script", "_law_many", "_law_names_here", "_law_found", "_law_k", "_law_number_here", "_law_place"]) [false] 6
    (VSs.cons (VS.set (i := 1) (m := .z) (VO.mod (VO.vb (VO.fdiv (VO.vb (VO.callX (ok__law_pick Y) (VM.frz (VO.var (i := 0)) (VM.frz VO.int VM.nil)))) (VO.vb VO.int))) (VO.vb VO.int))) (VSs.cons (VS.set (i := 2) (m := .z) (VO.callX (ok__law_names Y) (VM.frz (VO.var (i := 0)) (VM.frz (VO.var (i := 1)) VM.nil)))) (VSs.cons (VS.set (i := 3) (m := m1) (VO.lst (VLs.nil (k := .all .z)))) (VSs.cons (VS.for_ (VI.rng (VO.var (i := 1)) (Y.free 19)) (VG.name (i := 4)) (VSs.cons (VS.set (i := 5) (m := .z) (VO.callX (ok__law_number Y) (VM.frz (VO.var (i := 0)) (VM.frz (VO.add (VO.vb VO.int) (VO.vb (VO.var (i := 4)))) VM.nil)))) (VSs.cons (VS.set (i := 6) (m := .z) (VO.mod (VO.vb (VO.var (i := 5))) (VO.vb (VO.add (VO.vb (VO.var (i := 4))) (VO.vb VO.int))))) (VSs.one (VS.ins (i := 3) (VO.var (i := 6)) (VO.frz (VO.tup (VLs.cons (k := .all .z) (VO.itemA (VO.vb (VO.var (i := 2))) (VO.vb (VO.var (i := 4)))) (VLs.cons (k := .all .z) (VO.callX (ok__law_overs Y) (VM.frz (VO.var (i := 2)) (VM.frz (VO.fdiv (VO.vb (VO.var (i := 5))) (VO.vb (VO.add (VO.vb (VO.var (i := 4))) (VO.vb VO.int)))) (VM.frz (VO.var (i := 4)) VM.nil)))) (VLs.nil (k := .all .z))))))))))) (VSs.one (VS.ret (VO.fz (i := 3))))))))
    (fun _ _ _ _ _ _ us hl => match us, hl with | [_], _ => rfl) sc__law_tuples
noncomputable def F__law_told : M D := fnRun [false, false] 3 (gSeq (fIf (fOr (fB (fOp2 oNe (fCall F_Web_names [none] (fMeth "Web" "names" (eVar 0) fNil)) (fLc [2, 3] (iAny (eVar 1)) (tTupl 2 (tCon (tName 2) (tCon (tName 3) tNil))) ftY (eVar 2)))) (fNot (fB (fIsi .list (fCall F_Web_names [none] (fMeth "Web" "names" (eVar 0) fNil)))))) (gRet (eC (.bl false))) gNx) (gSeq (gFor (iAny (eVar 1)) (tTupl 2 (tCon (tName 2) (tCon (tName 3) tNil))) (gSeq (gSet 4 .z (fCall F_Web_over (none :: [none]) (fMeth "Web" "over" (eVar 0) (fCons (eVar 2) fNil)))) (fIf (fOr (fNot (fB (fIsi .list (eVar 4)))) (fB (fOp2 oNe (eVar 4) (fA oSortSet (fCons (eVar 3) fNil))))) (gRet (eC (.bl false))) gNx))) (gRet (eC (.bl true)))))
theorem sc__law_told : FnScope ["_law_web", "_law_tuples_here", "_law_name", "_law_over", "_law_found"] ["_law_web", "_law_tuples_here"] (defScope (top 24)) := ⟨rfl, rfl, rfl, by decide +kernel, rfl, by decide +kernel, by decide +kernel⟩
theorem ok__law_told {G : GC} (Y : YeL G) : Fx G 2 "_law_told" ["_law_web", "_law_tuples_here"] .z F__law_told :=
  Fx.mk' Y 13 26 (d := q__law_told) (k := 1) (N := ["_law_web", "_law_tuples_here", "_law_name", "_law_over", "_law_found"]) [false, false] 3
    (VSs.cons (VS.ite (VW.pt (VW.or (VT.cp Cm.ne (VO.vb (VO.frz (VO.meth0E (ok_Web_names Y) (VO.var (i := 0))))) (VO.vb (VO.frz (VO.lc (me := .z) [("_law_name", 2), ("_law_over", 3)] (VI.any (VO.var (i := 1))) (VG.tup (VGs.cons (VG.name (i := 2)) (VGs.cons (VG.name (i := 3)) VGs.nil))) VTs.nil (VO.var (i := 2)))))) (VW.or1 (VT.not (VT.of (VO.isi .list (Y.free 0) (Y.free 7) (VO.vb (VO.frz (VO.meth0E (ok_Web_names Y) (VO.var (i := 0))))))))))) (VSs.one (VS.ret VO.bl)) VSs.nil) (VSs.cons (VS.for_ (VI.any (VO.var (i := 1))) (VG.tup (VGs.cons (VG.name (i := 2)) (VGs.cons (VG.name (i := 3)) VGs.nil))) (VSs.cons (VS.set (i := 4) (m := .z) (VO.frz (VO.methE (ok_Web_over Y) (VO.var (i := 0)) (VM.frz (VO.var (i := 2)) VM.nil)))) (VSs.one (VS.ite (VW.pt (VW.or (VT.not (VT.of (VO.isi .list (Y.free 0) (Y.free 7) (VO.vb (VO.var (i := 4)))))) (VW.or1 (VT.cp Cm.ne (VO.vb (VO.var (i := 4))) (VO.vb (VO.frz (VO.sortSet (Y.free 14) (Y.free 5) (VA.cons (VO.vb (VO.var (i := 3))) VA.nil)))))))) (VSs.one (VS.ret VO.bl)) VSs.nil)))) (VSs.one (VS.ret VO.bl))))
    (fun _ _ _ _ _ _ us hl => match us, hl with | [_, _], _ => rfl) sc__law_told
noncomputable def F_law : M D := fnRun [false] 6 (gSeq (gSet 1 .z (fCall F__law_tuples [none] (fCons (eVar 0) fNil))) (gSeq (gSet 2 mH (fLc [5, 6] (iAny (eVar 1)) (tTupl 2 (tCon (tName 5) (tCon (tName 6) tNil))) ftY (fTup (fCons (eVar 5) (fCons (fA oListA (fCons (eBor 6) fNil)) fNil))))) (gSeq (fIf (fB (fOp2 oEq (fOp2 oMod (fOp2 oFdiv (fCall F__law_pick [none, none] (fCons (eVar 0) (fCons (eC (.int 0)) fNil))) (eC (.int 50))) (eC (.int 2))) (eC (.int 1)))) (gSet 2 mH (fLc [5, 6] (iAny (eVar 1)) (tTupl 2 (tCon (tName 5) (tCon (tName 6) tNil))) ftY (fTup (fCons (eVar 5) (fCons (fA oTupleL (fCons (eBor 6) fNil)) fNil))))) gNx) (gSeq (gBrk 2 (msO 3) (gSet 3 mH (fLc [5, 6] (iLst (eBor 2)) (tTupl 2 (tCon (tName 5) (tCon (tName 6) tNil))) ftY (fTup (fCons (eVar 5) (fCons (fA oListA (fCons (eBor 6) fNil)) fNil)))))) (gSeq (gBrk 2 (msO 4) (gSet 4 mI (fMakeD "Web" F_Web___init__ [none] (fCons (eVar 2) fNil)))) (gSeq (gBrk 2 (msU ms0 ms0) (gBrk 4 (msU ms0 ms0) (fIf (fOr (fB (fOp2 oNe (fLc [5, 6] (iLst (eBor 2)) (tTupl 2 (tCon (tName 5) (tCon (tName 6) tNil))) ftY (fTup (fCons (eVar 5) (fCons (fA oListA (fCons (eBor 6) fNil)) fNil)))) (eFrz 3))) (fNot (fB (fCall F__law_told [none, none] (fCons (eVar 4) (fCons (eVar 1) fNil)))))) (gRet (eC (.bl false))) gNx))) (gSeq (gTakeClr 2 5 6 (fIf (fB (fIsiO .list 6)) (gSeq (gMt0 6 fun ds => some ds.reverse) (gMt 6 .z appO (eC (.str [122, 122])))) gNx)) (gSeq (gTmp (fCall F_Web_names [none] (fMeth "Web" "names" (eFrz 4) fNil))) (gSeq (gFor (iAny (eVar 1)) (tTupl 2 (tCon (tName 5) (tCon (tName 6) tNil))) (gTmp (fCall F_Web_over (none :: [none]) (fMeth "Web" "over" (eVar 4) (fCons (eVar 5) fNil))))) (gRet (fAnd (fCall F__law_told [none, none] (fCons (eVar 4) (fCons (eVar 1) fNil))) (fCall F__law_told [none, none] (fCons (fMakeD "Web" F_Web___init__ [none] (fCons (fA oTuple (fCons (eVar 1) fNil)) fNil)) (fCons (eVar 1) fNil))))))))))))))
theorem sc_law : FnScope ["_law_script", "_law_tuples_here", "_law_handed", "_law_kept", "_law_web", "_law_name", "_law_over"] ["_law_script"] (defScope (top 25)) := ⟨rfl, rfl, rfl, by decide +kernel, rfl, by decide +kernel, by decide +kernel⟩
theorem ok_law {G : GC} (Y : YeL G) : Fx G 5 "law" ["_law_script"] .z F_law :=
  Fx.mk' Y 14 28 (d := q_law) (k := 4) (N := ["_law_script", "_law_tuples_here", "_law_handed", "_law_kept", "_law_web", "_law_name", "_law_over"]) [false] 6
    (VSs.cons (VS.set (i := 1) (m := .z) (VO.callX (ok__law_tuples Y) (VM.frz (VO.var (i := 0)) VM.nil))) (VSs.cons (VS.setLc (i := 2) (me := mP) [("_law_name", 5), ("_law_over", 6)] (VI.any (VO.var (i := 1))) (VG.tup (VGs.cons (VG.name (i := 5)) (VGs.cons (VG.name (i := 6)) VGs.nil))) VTs.nil (VO.tup (VLs.cons (k := .one .z (.all m1)) (VO.var (i := 5)) (VLs.cons (k := .all m1) (VO.listA (Y.free 7) (VA.cons (VB.var (i := 6)) VA.nil)) (VLs.nil (k := .all m1)))))) (VSs.cons (VS.ite (VT.cp Cm.eq (VO.vb (VO.mod (VO.vb (VO.fdiv (VO.vb (VO.callX (ok__law_pick Y) (VM.frz (VO.var (i := 0)) (VM.frz VO.int VM.nil)))) (VO.vb VO.int))) (VO.vb VO.int))) (VO.vb VO.int)) (VSs.one (VS.setLc (i := 2) (me := mP) [("_law_name", 5), ("_law_over", 6)] (VI.any (VO.var (i := 1))) (VG.tup (VGs.cons (VG.name (i := 5)) (VGs.cons (VG.name (i := 6)) VGs.nil))) VTs.nil (VO.tup (VLs.cons (k := .one .z (.all m1)) (VO.var (i := 5)) (VLs.cons (k := .all m1) (VO.tupleL (Y.free 27) (VA.cons (VB.var (i := 6)) VA.nil)) (VLs.nil (k := .all m1))))))) VSs.nil) (VSs.cons (VS.brkt 2 (VS.setLc (i := 3) (me := mP) [("_law_name", 5), ("_law_over", 6)] (VI.lst (VB.var (i := 2))) (VG.tup (VGs.cons (VG.name (i := 5)) (VGs.cons (VG.name (i := 6)) VGs.nil))) VTs.nil (VO.tup (VLs.cons (k := .one .z (.all m1)) (VO.var (i := 5)) (VLs.cons (k := .all m1) (VO.listA (Y.free 7) (VA.cons (VB.var (i := 6)) VA.nil)) (VLs.nil (k := .all m1))))))) (VSs.cons (VS.brkt 2 (VS.set (i := 4) (m := mI) (VO.makeD (ok_Web___init__ Y) (VM.frz (VO.var (i := 2)) VM.nil)))) (VSs.cons (VS.brkt 2 (VS.brkt 4 (VS.ite (VW.pt (VW.or (VT.cp Cm.ne (VO.vb (VO.frz (VO.lc (me := .z) [("_law_name", 5), ("_law_over", 6)] (VI.lst (VB.var (i := 2))) (VG.tup (VGs.cons (VG.name (i := 5)) (VGs.cons (VG.name (i := 6)) VGs.nil))) VTs.nil (VO.frz (VO.tup (VLs.cons (k := .all .z) (VO.var (i := 5)) (VLs.cons (k := .all .z) (VO.frz (VO.listA (Y.free 7) (VA.cons (VB.var (i := 6)) VA.nil))) (VLs.nil (k := .all .z))))))))) (VO.vb (VO.fz (i := 3)))) (VW.or1 (VT.not (VT.of (VO.callX (ok__law_told Y) (VM.frz (VO.var (i := 4)) (VM.frz (VO.var (i := 1)) VM.nil)))))))) (VSs.one (VS.ret VO.bl)) VSs.nil))) (VSs.takeClr 2 5 6 (VSs.one (VS.ite (VT.of (VO.isiO .list (i := 6) (Y.free 0) (Y.free 7))) (VSs.cons (VS.rev (i := 6)) (VSs.one (VS.app (i := 6) (me := .z) (VO.str (s := [122, 122]))))) VSs.nil)) (VSs.cons (VS.appTmp (VO.meth0E (ok_Web_names Y) (VO.fz (i := 4))) (VO.str (s := [122, 122]))) (VSs.cons (VS.for_ (VI.any (VO.var (i := 1))) (VG.tup (VGs.cons (VG.name (i := 5)) (VGs.cons (VG.name (i := 6)) VGs.nil))) (VSs.one (VS.clrTmp (VO.methE (ok_Web_over Y) (VO.var (i := 4)) (VM.frz (VO.var (i := 5)) VM.nil))))) (VSs.one (VS.ret (VO.and (VO.callX (ok__law_told Y) (VM.frz (VO.var (i := 4)) (VM.frz (VO.var (i := 1)) VM.nil))) (VO.one (VO.callX (ok__law_told Y) (VM.frz (VO.frz (VO.makeD (ok_Web___init__ Y) (VM.frz (VO.tuple (Y.free 27) (VA.cons (VO.vb (VO.var (i := 1))) VA.nil)) VM.nil))) (VM.frz (VO.var (i := 1)) VM.nil))))))))))))))))
    (fun _ _ _ _ _ _ us hl => match us, hl with | [_], _ => rfl) sc_law
end Vm
set_option Elab.async false
set_option linter.all false
set_option maxRecDepth 100000
set_option maxHeartbeats 4000000
namespace Vm
open PySem PySem.Spec PyProof.Rows L2
/-! ### numbers of the script -/
theorem cut_sub {α : Type} (xs : List α) (lo hi : Option Int) : ∀ x ∈ cutL xs lo hi, x ∈ xs := fun x h => List.mem_of_mem_drop (List.mem_of_mem_take h)
theorem pick_ok (ns : List Int) (hl : ns.length ≤ 63) (k : Int) : ∃ v r, F__law_pick [some (.z, .scr ns), some (.z, .int k)] = .ok (.int v) r := by
  unfold F__law_pick
  rw [fnRun_ap]
  have hs := cut_sub (ns.map D.int) (some k) (some (k + 1))
  have hc := cutL_len (ns.map D.int) (some k) (some (k + 1))
  rw [List.length_map] at hc
  simp
  generalize cutL (ns.map D.int) (some k) (some (k + 1)) = ys at hs hc
  have h1 : ys.length ≤ 16777215 := by omega
  cases ys with
  | nil => simp
  | cons y ys =>
    obtain ⟨v, _, e⟩ := List.mem_map.mp (hs y List.mem_cons_self)
    subst e
    simp at h1
    simp [h1]
theorem num_ok (ns : List Int) (hl : ns.length ≤ 63) (k : Int) (h0 : 0 ≤ k) (h1 : k ≤ 1000) : ∃ v r, F__law_number [some (.z, .scr ns), some (.z, .int k)] = .ok (.int v) r := by
  unfold F__law_number
  rw [fnRun_ap]
  obtain ⟨a, ra, ea⟩ := pick_ok ns hl 0
  obtain ⟨b, rb, eb⟩ := pick_ok ns hl (1 + k)
  obtain ⟨c, rc, ec⟩ := pick_ok ns hl (1 + k % 6)
  have p9 : oPow (.int 10) (.int 9) = some (.int 1000000000) := rfl
  have p18 : oPow (.int 10) (.int 18) = some (.int 1000000000000000000) := rfl
  have hX : 0 ≤ (c + 7919 * k + 31) % 2147483629 ∧ (c + 7919 * k + 31) % 2147483629 < 2147483629 := by omega
  generalize hXe : (c + 7919 * k + 31) % 2147483629 = X at hX
  have hY : 0 ≤ (X * X + 48271 * k) % 2147483629 ∧ (X * X + 48271 * k) % 2147483629 < 2147483629 := by omega
  generalize hYe : (X * X + 48271 * k) % 2147483629 = Y at hY
  have m1' : mulOk 7919 k = true := mulOk_l _ _ (by omega)
  have m2' : mulOk X X = true := mulOk_l _ _ (by omega)
  have m3' : mulOk 48271 k = true := mulOk_l _ _ (by omega)
  have m4' : mulOk Y Y = true := mulOk_l _ _ (by omega)
  have m5' : mulOk (Y * Y) (Y + 40013) = true := mulOk_r _ _ (by omega)
  have ab : oAbs [.int b] = some (.int (if b < 0 then -b else b)) := rfl
  by_cases hA : a % 2 = 0
  · by_cases hB : (1000000000 : Int) ≤ if b < 0 then -b else b
    · simp [ea, eb, p9, hA, ab, hB]
    · simp [ea, eb, ec, p9, p18, hA, ab, hB, m1', m2', m3', m4', m5', hXe, hYe]
  · simp [ea, eb, ec, p9, p18, hA, ab, m1', m2', m3', m4', m5', hXe, hYe]
/-! ### words -/
def Wd (s : List Nat) : Prop := s ≠ [] ∧ s.length ≤ 8 ∧ (∀ c ∈ s, c ∈ t_abcdefghijklmnopqrstuvwxyz) ∧ ¬t_any = s ∧ ¬t_none = s ∧ ¬t_blank = s ∧ ¬t_new = s ∧ ¬[111, 110] = s
theorem Wd.ok {s : List Nat} (h : Wd s) : sOk s = true := by
  have h8 := h.2.1
  unfold sOk
  have ha : s.all (fun c => decide (c < 1114112)) = true := by
    rw [List.all_eq_true]
    intro c hc
    have h2 := h.2.2.1 c hc
    have : ∀ c ∈ t_abcdefghijklmnopqrstuvwxyz, c < 1114112 := by decide
    simpa using this c h2
  rw [ha, decide_eq_true (by omega)]
  rfl
/-- the letters of a number -/
theorem word_ok (n : Int) : ∃ s r, F__law_word [some (.z, .int n)] = .ok (.str s) r ∧ Wd s ∧ s.head? = t_abcdefghijklmnopqrstuvwxyz[(n / 8 % 26).toNat]? := by
  unfold F__law_word
  rw [fnRun_ap]
  have hr : 1 + n % 8 ≤ 16777216 ∧ -4611686018427387904 ≤ 1 + n % 8 := by omega
  simp [hr]
  generalize hL : gLoop _ _ _ _ = L
  obtain ⟨r', e, rest, found, sl, er, hl, hm, hh⟩ : ∃ r', L = .ok .nx r' ∧ ∃ rest found sl, r' = [some (Md.z, D.int n), some (Md.z, D.str t_abcdefghijklmnopqrstuvwxyz), some (Md.z, D.int rest), some (Md.z, D.str found), sl] ∧ found.length = (1 + n % 8).toNat ∧ (∀ c ∈ found, c ∈ t_abcdefghijklmnopqrstuvwxyz) ∧ found.head? = t_abcdefghijklmnopqrstuvwxyz[(n / 8 % 26).toNat]? := by
    rw [← hL]
    have h := gLoop_ex (gt := tName 4) (gb := gSeq (gSet 3 Md.z (fOp2 oAdd (eVar 3) (fOp2 oIxA (eVar 1) (fOp2 oMod (eVar 2) (eC (D.int 26)))))) (gSet 2 Md.z (fOp2 oFdiv (eVar 2) (eC (D.int 26))))) (ds := rngD 0 (1 + n % 8).toNat) (r := [some (Md.z, D.int n), some (Md.z, D.str t_abcdefghijklmnopqrstuvwxyz), some (Md.z, D.int (n / 8)), some (Md.z, D.str []), none])
      (fun k r => ∃ rest found sl, r = [some (Md.z, D.int n), some (Md.z, D.str t_abcdefghijklmnopqrstuvwxyz), some (Md.z, D.int rest), some (Md.z, D.str found), sl] ∧ found.length = k ∧ (∀ c ∈ found, c ∈ t_abcdefghijklmnopqrstuvwxyz) ∧ (k = 0 → rest = n / 8) ∧ (k ≠ 0 → found.head? = t_abcdefghijklmnopqrstuvwxyz[(n / 8 % 26).toNat]?))
      (fun i d r hd ⟨rest, found, sl, er, hl, hm, h0, h1⟩ => by
        obtain ⟨hi, ed⟩ := rngD_get _ _ _ _ hd
        subst er ed
        obtain ⟨j, hj⟩ := Int.eq_ofNat_of_zero_le (show 0 ≤ rest % 26 by omega)
        have hj26 : j < 26 := by omega
        have hjl : j < t_abcdefghijklmnopqrstuvwxyz.length := hj26
        have hc : atI t_abcdefghijklmnopqrstuvwxyz (rest % 26) = some (t_abcdefghijklmnopqrstuvwxyz[j]) := by rw [hj]; exact atI_nat (List.getElem?_eq_getElem hjl)
        have h2 : found.length ≤ 16777215 := by omega
        refine ⟨[some (Md.z, D.int n), some (Md.z, D.str t_abcdefghijklmnopqrstuvwxyz), some (Md.z, D.int (rest / 26)), some (Md.z, D.str (found ++ [t_abcdefghijklmnopqrstuvwxyz[j]])), some (Md.z, D.int (0 + i))], by simp [hc, h2], _, _, _, rfl, by rw [List.length_append, List.length_singleton, hl], fun c hcm => ?_, fun z => by omega, fun _ => ?_⟩
        · rcases List.mem_append.mp hcm with z | z
          · exact hm c z
          · rw [List.mem_singleton.mp z]; exact List.getElem_mem hjl
        · cases found with
          | nil =>
            have := h0 hl.symm
            subst this
            simp only [List.nil_append, List.head?_cons]
            rw [hj, Int.toNat_natCast, List.getElem?_eq_getElem hjl]
          | cons c found =>
            rw [List.cons_append, List.head?_cons]
            exact h1 (by rw [← hl]; simp))
      ⟨_, _, _, rfl, rfl, by simp, fun _ => rfl, fun z => absurd rfl z⟩
    obtain ⟨r', e, rest, found, sl, er, hl, hm, _, h1⟩ := h
    rw [rngD_len] at hl h1
    exact ⟨r', e, rest, found, sl, er, hl, hm, h1 (by omega)⟩
  subst er
  have h3 : found.length + 1 ≤ 16777216 := by omega
  have hne : found ≠ [] := fun z => by rw [z] at hl; simp at hl; omega
  rw [e]
  simp [inOk, h3]
  by_cases h : t_any = found ∨ t_none = found ∨ t_blank = found ∨ t_new = found ∨ [111, 110] = found
  · refine ⟨found ++ [115], by simp [h], ⟨by simp, ?_, fun c hc => ?_, ?_⟩, ?_⟩
    · have : found.length ≤ 5 := by rcases h with h | h | h | h | h <;> (rw [← h]; decide)
      rw [List.length_append, List.length_singleton]; omega
    · rcases List.mem_append.mp hc with z | z
      · exact hm c z
      · rw [List.mem_singleton.mp z]; decide
    · rcases h with h | h | h | h | h <;> (rw [← h]; decide)
    · rw [← hh]
      cases found with
      | nil => exact absurd rfl hne
      | cons c f => rfl
  · simp only [not_or] at h
    refine ⟨found, by simp [h], ⟨hne, by omega, hm, h.1, h.2.1, h.2.2.1, h.2.2.2.1, h.2.2.2.2⟩, hh⟩
theorem nodup_le {α : Type} [DecidableEq α] : ∀ (xs ys : List α), xs.Nodup → (∀ x ∈ xs, x ∈ ys) → xs.length ≤ ys.length
  | [], _, _, _ => Nat.zero_le _
  | x :: xs, ys, nd, h => by
    obtain ⟨h1, h2⟩ := List.nodup_cons.mp nd
    have hx := h x List.mem_cons_self
    have := nodup_le xs (ys.erase x) h2 fun y hy => (List.mem_erase_of_ne fun e => h1 (by rw [← e]; exact hy)).mpr (h y (List.mem_cons_of_mem _ hy))
    rw [List.length_erase_of_mem hx] at this
    have : 0 < ys.length := List.length_pos_of_mem hx
    rw [List.length_cons]
    omega
/-- twenty-four words leave one free -/
theorem word_free (n : Int) (ls : List (List Nat)) (hl : ls.length ≤ 24) : ∃ j : Nat, j < 208 ∧ ∀ s r, F__law_word [some (.z, .int (n + j))] = .ok (.str s) r → s ∉ ls := by
  refine Classical.byContradiction fun hno => ?_
  have each : ∀ k : Nat, k < 26 → ∃ s, s ∈ ls ∧ s.head? = t_abcdefghijklmnopqrstuvwxyz[((n / 8 + k) % 26).toNat]? := fun k hk => by
    obtain ⟨s, r, e, _, hh⟩ := word_ok (n + ((8 * k : Nat) : Int))
    have en : (n + ((8 * k : Nat) : Int)) / 8 = n / 8 + k := by push_cast; omega
    rw [en] at hh
    refine ⟨s, Classical.byContradiction fun hs => hno ⟨8 * k, by omega, fun s' r' e' => ?_⟩, hh⟩
    rw [e] at e'
    cases e'
    exact hs
  -- twenty-six heads among twenty-four words
  have all : ∀ c ∈ t_abcdefghijklmnopqrstuvwxyz, some c ∈ ls.map List.head? := fun c hc => by
    obtain ⟨i, hi, ec⟩ := List.getElem_of_mem hc
    have hi26 : i < 26 := hi
    obtain ⟨k, hk, ek⟩ : ∃ k : Nat, k < 26 ∧ ((n / 8 + k) % 26).toNat = i := by
      refine ⟨((i - n / 8 % 26) % 26 : Int).toNat, by omega, by omega⟩
    obtain ⟨s, hs, hh⟩ := each k hk
    rw [ek, List.getElem?_eq_getElem hi, ec] at hh
    exact List.mem_map.mpr ⟨s, hs, hh⟩
  have nd : (t_abcdefghijklmnopqrstuvwxyz.map some).Nodup := by decide
  have sub : (t_abcdefghijklmnopqrstuvwxyz.map some).length ≤ (ls.map List.head?).length := by
    refine nodup_le _ _ nd fun x hx => ?_
    obtain ⟨c, hc, e⟩ := List.mem_map.mp hx
    rw [← e]; exact all c hc
  rw [List.length_map, List.length_map] at sub
  have : t_abcdefghijklmnopqrstuvwxyz.length = 26 := rfl
  omega
end Vm
set_option Elab.async false
set_option linter.all false
set_option maxRecDepth 100000
set_option maxHeartbeats 4000000
namespace Vm
open PySem PySem.Spec PyProof.Rows L2
abbrev lsD (ls : List (List Nat)) : D := .lst (ls.map .str)
theorem names_wh (s0 s1 s3 : Sl) (ls : List (List Nat)) (hl : ls.length ≤ 24) (n : Int) : ∃ r', gWh (fB (fOp2 oInA (fCall F__law_word [none] (fCons (eVar 4) fNil)) (eBor 2))) (gSet 4 Md.z (fOp2 oAdd (eVar 4) (eC (D.int 1)))) [s0, s1, some (m1, lsD ls), s3, some (.z, .int n)] = .ok .nx r' ∧
    ∃ n' s r, r' = [s0, s1, some (m1, lsD ls), s3, some (.z, .int n')] ∧ F__law_word [some (.z, .int n')] = .ok (.str s) r ∧ Wd s ∧ s ∉ ls := by
  obtain ⟨j0, hj0, hf⟩ := word_free n ls hl
  refine gWh_use (fun r => ∃ j : Nat, j ≤ j0 ∧ r = [s0, s1, some (m1, lsD ls), s3, some (.z, .int (n + j))]) (fun r => match r with
    | [_, _, _, _, some (_, .int i)] => j0 - (i - n).toNat
    | _ => 0) _ ⟨0, Nat.zero_le _, by simp⟩ fun r ⟨j, hj, er⟩ => ?_
  subst er
  obtain ⟨s, r, e, hw, _⟩ := word_ok (n + j)
  by_cases hs : s ∈ ls
  · refine .inr ⟨[s0, s1, some (m1, lsD ls), s3, some (.z, .int (n + j))], [s0, s1, some (m1, lsD ls), s3, some (.z, .int (n + j + 1))], by simp [e, hs], by simp, ⟨j + 1, ?_, by push_cast; rw [Int.add_assoc]⟩, ?_⟩
    · rcases Nat.lt_or_ge j j0 with z | z
      · exact z
      · have : j = j0 := by omega
        subst this
        exact absurd hs (hf s r e)
    · have : j ≠ j0 := fun z => by subst z; exact hf s r e hs
      dsimp only
      omega
  · exact .inl ⟨[s0, s1, some (m1, lsD ls), s3, some (.z, .int (n + j))], by simp [e, hs], n + j, s, r, rfl, e, hw, hs⟩
theorem names_ok (ns : List Int) (hl : ns.length ≤ 63) (m : Int) (h0 : 0 ≤ m) (h1 : m ≤ 24) : ∃ ls r, F__law_names [some (.z, .scr ns), some (.z, .int m)] = .ok (lsD ls) r ∧ ls.length = m.toNat ∧ ls.Nodup ∧ ∀ s ∈ ls, Wd s := by
  unfold F__law_names
  rw [fnRun_ap]
  have hr : m ≤ 16777216 ∧ -4611686018427387904 ≤ m := by omega
  simp [hr]
  generalize hL : gLoop _ _ _ _ = L
  obtain ⟨r', e, ls, a, b, er, hlen, nd, hw⟩ : ∃ r', L = .ok .nx r' ∧ ∃ ls a b, r' = [some (Md.z, D.scr ns), some (Md.z, D.int m), some (m1, lsD ls), a, b] ∧ ls.length = m.toNat ∧ ls.Nodup ∧ ∀ s ∈ ls, Wd s := by
    rw [← hL]
    have h := gLoop_ex (gt := tName 3) (gb := gSeq (gSet 4 .z (fCall F__law_number [none, none] (fCons (eVar 0) (fCons (eVar 3) fNil)))) (gSeq (gWh (fB (fOp2 oInA (fCall F__law_word [none] (fCons (eVar 4) fNil)) (eBor 2))) (gSet 4 .z (fOp2 oAdd (eVar 4) (eC (.int 1))))) (gMt 2 .z appO (fCall F__law_word [none] (fCons (eVar 4) fNil))))) (ds := rngD 0 m.toNat) (r := [some (Md.z, D.scr ns), some (Md.z, D.int m), some (m1, D.lst []), none, none])
      (fun k r => ∃ ls a b, r = [some (Md.z, D.scr ns), some (Md.z, D.int m), some (m1, lsD ls), a, b] ∧ ls.length = k ∧ ls.Nodup ∧ ∀ s ∈ ls, Wd s)
      (fun i d r hd ⟨ls, a, b, er, hlen, nd, hw⟩ => by
        obtain ⟨hi, ed⟩ := rngD_get _ _ _ _ hd
        subst er ed
        obtain ⟨v, rv, ev⟩ := num_ok ns hl (0 + i) (by omega) (by omega)
        obtain ⟨r2, e2, n', s, r3, er2, ew, hws, hs⟩ := names_wh (some (Md.z, D.scr ns)) (some (Md.z, D.int m)) (some (Md.z, D.int (0 + i))) ls (by omega) v
        subst er2
        have h24 : ls.length < 16777216 := by omega
        refine ⟨[some (Md.z, D.scr ns), some (Md.z, D.int m), some (m1, lsD (ls ++ [s])), some (Md.z, D.int (0 + i)), some (.z, .int n')], ?_, ls ++ [s], _, _, rfl, by rw [List.length_append, List.length_singleton, hlen], ?_, ?_⟩
        · have e2' : gWh (fB (fOp2 oInA (fCall F__law_word [none] (fCons (eVar 4) fNil)) (eBor 2))) (gSet 4 Md.z (fOp2 oAdd (eVar 4) (eC (D.int 1)))) [some (Md.z, D.scr ns), some (Md.z, D.int m), some (m1, D.lst (ls.map .str)), some (Md.z, D.int i), some (.z, .int v)] = .ok .nx [some (Md.z, D.scr ns), some (Md.z, D.int m), some (m1, D.lst (ls.map .str)), some (Md.z, D.int i), some (.z, .int n')] := by
            rw [Int.zero_add] at e2; exact e2
          rw [Int.zero_add] at ev
          simp [ev, e2', rcv, ew, appO, h24]
        · refine List.nodup_append.mpr ⟨nd, by simp, fun x hx y hy z => ?_⟩
          rw [List.mem_singleton.mp hy] at z
          exact hs (z ▸ hx)
        · intro t ht
          rcases List.mem_append.mp ht with z | z
          · exact hw t z
          · rw [List.mem_singleton.mp z]; exact hws)
      ⟨[], _, _, rfl, rfl, List.nodup_nil, by simp⟩
    obtain ⟨r', e, ls, a, b, er, hlen, nd, hw⟩ := h
    rw [rngD_len] at hlen
    exact ⟨r', e, ls, a, b, er, hlen, nd, hw⟩
  subst er
  rw [e]
  refine ⟨ls, ?_⟩
  simp [fzS, hlen, nd]
  exact hw
/-- what stands over a kind: of the names ahead of it -/
theorem overs_ok (ls : List (List Nat)) (n : Int) (k : Nat) (hk : k ≤ ls.length) (h24 : ls.length ≤ 24) : ∃ os r, F__law_overs [some (.z, lsD ls), some (.z, .int n), some (.z, .int k)] = .ok (lsD os) r ∧ os.length ≤ k + 1 ∧ ∀ s ∈ os, s ∈ ls.take k := by
  unfold F__law_overs
  rw [fnRun_ap]
  have hr : (k : Int) ≤ 16777216 ∧ -4611686018427387904 ≤ (k : Int) := by omega
  simp [hr]
  generalize hL : gLoop _ _ _ _ = L
  obtain ⟨r', e, os, n', a, er, hlen, hs⟩ : ∃ r', L = .ok .nx r' ∧ ∃ os n' a, r' = [some (Md.z, lsD ls), some (Md.z, D.int n'), some (Md.z, D.int k), some (m1, lsD os), a] ∧ os.length ≤ k ∧ ∀ s ∈ os, s ∈ ls.take k := by
    rw [← hL]
    have h := gLoop_ex (gt := tName 4) (gb := gSeq (fIf (fB (fOp2 oEq (fOp2 oMod (eVar 1) (eC (.int 4))) (eC (.int 1)))) (gMt 3 .z appO (fOp2 oIxA (eVar 0) (eVar 4))) gNx) (gSeq (fIf (fB (fOp2 oEq (fOp2 oMod (eVar 1) (eC (.int 4))) (eC (.int 2)))) (gIns 3 (eC (.int 0)) (fOp2 oIxA (eVar 0) (eVar 4))) gNx) (gSet 1 .z (fOp2 oFdiv (eVar 1) (eC (.int 4)))))) (ds := rngD 0 k) (r := [some (Md.z, lsD ls), some (Md.z, D.int n), some (Md.z, D.int k), some (m1, D.lst []), none])
      (fun j r => ∃ os n' a, r = [some (Md.z, lsD ls), some (Md.z, D.int n'), some (Md.z, D.int k), some (m1, lsD os), a] ∧ os.length ≤ j ∧ ∀ s ∈ os, s ∈ ls.take k)
      (fun i d r hd ⟨os, n', a, er, hlen, hs⟩ => by
        obtain ⟨hi, ed⟩ := rngD_get _ _ _ _ hd
        subst er ed
        have hil : i < ls.length := by omega
        have hx : atI (ls.map D.str) (i : Int) = some (.str ls[i]) := atI_strs (List.getElem?_eq_getElem hil)
        have hm : ls[i] ∈ ls.take k := by
          have : (ls.take k)[i]? = some ls[i] := by rw [List.getElem?_take, if_pos hi, List.getElem?_eq_getElem hil]
          exact List.mem_of_getElem? this
        have hol : os.length < 16777216 := by omega
        by_cases c1 : n' % 4 = 1
        · refine ⟨[some (Md.z, lsD ls), some (Md.z, D.int (n' / 4)), some (Md.z, D.int k), some (m1, lsD (os ++ [ls[i]])), some (Md.z, D.int i)], by simp [c1, rcv, hx, appO, hol], _, _, _, rfl, by rw [List.length_append, List.length_singleton]; omega, fun s h => ?_⟩
          rcases List.mem_append.mp h with z | z
          · exact hs s z
          · rw [List.mem_singleton.mp z]; exact hm
        · by_cases c2 : n' % 4 = 2
          · refine ⟨[some (Md.z, lsD ls), some (Md.z, D.int (n' / 4)), some (Md.z, D.int k), some (m1, lsD (ls[i] :: os)), some (Md.z, D.int i)], by simp [c2, rcv, hx, insO, hol], _, _, _, rfl, by rw [List.length_cons]; omega, fun s h => ?_⟩
            rcases List.mem_cons.mp h with z | z
            · rw [z]; exact hm
            · exact hs s z
          · exact ⟨[some (Md.z, lsD ls), some (Md.z, D.int (n' / 4)), some (Md.z, D.int k), some (m1, lsD os), some (Md.z, D.int i)], by simp [c1, c2], _, _, _, rfl, by omega, hs⟩)
      ⟨[], _, _, rfl, Nat.le_refl _, by simp⟩
    obtain ⟨r', e, os, n', a, er, hlen, hs⟩ := h
    rw [rngD_len] at hlen
    exact ⟨r', e, os, n', a, er, hlen, hs⟩
  subst er
  rw [e]
  by_cases c : n' % 4 = 1 ∧ os ≠ []
  · obtain ⟨c1, c2⟩ := c
    have hp : 0 < os.length := List.length_pos_iff.mpr c2
    obtain ⟨j, hj⟩ := Int.eq_ofNat_of_zero_le (show 0 ≤ n' / 4 % (os.length : Int) from Int.emod_nonneg _ (by omega))
    have hjl : j < os.length := by
      have := Int.emod_lt_of_pos (n' / 4) (show 0 < (os.length : Int) by omega)
      omega
    have hx : atI (os.map D.str) (n' / 4 % (os.length : Int)) = some (.str os[j]) := by rw [hj]; exact atI_strs (List.getElem?_eq_getElem hjl)
    have hol : os.length < 16777216 := by omega
    have hd4 : divOk n' 4 = true := divOk_s _ _ (by omega) (by omega)
    refine ⟨os ++ [os[j]], ?_, by rw [List.length_append, List.length_singleton]; omega, fun s h => ?_⟩
    · simp [c1, c2, rcv, hx, appO, hol, fzS, hp]
    · rcases List.mem_append.mp h with z | z
      · exact hs s z
      · rw [List.mem_singleton.mp z]; exact hs _ (List.getElem_mem hjl)
  · refine ⟨os, ?_, by omega, hs⟩
    by_cases c1 : n' % 4 = 1
    · have c2 : os = [] := Classical.byContradiction fun z => c ⟨c1, z⟩
      subst c2
      simp [c1, fzS]
    · simp [c1, fzS]
end Vm
set_option Elab.async false
set_option linter.all false
set_option maxRecDepth 100000
set_option maxHeartbeats 4000000
namespace Vm
open PySem PySem.Spec PyProof.Rows L2
def tD (p : List Nat × List (List Nat)) : D := .tup [.str p.1, lsD p.2]
def tsD (T : Tt) : D := .lst (T.map tD)
/-- a web's tuples: names told once, over each some of those ahead of it in some row -/
structure Good (T : Tt) : Prop where
  len : T.length ≤ 24
  nd : (ky T).Nodup
  wd : ∀ n ∈ ky T, Wd n
  rank : ∃ rk : List Nat → Nat, ∀ p ∈ T, p.2.length ≤ 60 ∧ ∀ u ∈ p.2, u ∈ ky T ∧ rk u < rk p.1
def pos (x : List Nat) : List (List Nat) → Nat
  | [] => 0
  | y :: ys => if y = x then 0 else pos x ys + 1
theorem pos_take {x : List Nat} : ∀ {ls : List (List Nat)} {j : Nat}, x ∈ ls.take j → pos x ls < j
  | [], j, h => by simp at h
  | y :: ys, 0, h => by simp at h
  | y :: ys, j + 1, h => by
    rw [List.take_succ_cons] at h
    unfold pos
    split
    · omega
    · rcases List.mem_cons.mp h with z | z
      · rename_i n; exact absurd z.symm n
      · have := pos_take z; omega
theorem pos_at {x : List Nat} : ∀ {ls : List (List Nat)} {j : Nat}, ls.Nodup → ls[j]? = some x → pos x ls = j
  | [], j, _, h => by simp at h
  | y :: ys, 0, _, h => by
    simp at h
    unfold pos
    rw [if_pos h]
  | y :: ys, j + 1, nd, h => by
    obtain ⟨h1, h2⟩ := List.nodup_cons.mp nd
    have h' : ys[j]? = some x := by simpa using h
    unfold pos
    rw [if_neg fun e => h1 (by rw [e]; exact List.mem_of_getElem? h'), pos_at h2 h']
theorem insO_int (n : Int) (d : D) (ds : List D) : insO (.int n) d ds = if 0 ≤ n ∧ n ≤ ds.length ∧ ds.length < 16777216 then some (ds.take n.toNat ++ [d] ++ ds.drop n.toNat) else none := rfl
theorem ins_T (T : Tt) (p : List Nat × List (List Nat)) (q : Nat) (hq : q ≤ T.length) (hT : T.length ≤ 100) : insO (.int (q : Int)) (.tup [.str p.1, .lst (p.2.map .str)]) (T.map tD) = some ((T.take q ++ [p] ++ T.drop q).map tD) := by
  have c1 : (0 : Int) ≤ (q : Int) ∧ (q : Int) ≤ (T.map tD).length ∧ (T.map tD).length < 16777216 := by rw [List.length_map]; omega
  rw [insO_int, if_pos c1, Int.toNat_natCast, List.map_append, List.map_append, List.map_take, List.map_drop]
  rfl
theorem tuples_ok (ns : List Int) (hl : ns.length ≤ 63) : ∃ T r, F__law_tuples [some (.z, .scr ns)] = .ok (tsD T) r ∧ Good T := by
  unfold F__law_tuples
  rw [fnRun_ap]
  obtain ⟨a, ra, ea⟩ := pick_ok ns hl 0
  have hm : 0 ≤ a / 2 % 25 ∧ a / 2 % 25 < 25 := by omega
  have hd : divOk a 2 = true := divOk_s _ _ (by omega) (by omega)
  simp [ea, hd]
  generalize a / 2 % 25 = m at hm
  obtain ⟨ls, rl, el, hlen, nd, hw⟩ := names_ok ns hl m (by omega) (by omega)
  have hr : m ≤ 16777216 ∧ -4611686018427387904 ≤ m := by omega
  simp [el, hr]
  generalize hL : gLoop _ _ _ _ = L
  obtain ⟨r', e, T, b, c, d, er, hlT, pm, hT⟩ : ∃ r', L = .ok .nx r' ∧ ∃ T b c d, r' = [some (Md.z, D.scr ns), some (Md.z, D.int m), some (Md.z, lsD ls), some (m1, tsD T), b, c, d] ∧ T.length = ls.length ∧ (ky T).Perm ls ∧ ∀ p ∈ T, p.2.length ≤ 25 ∧ ∃ j : Nat, ls[j]? = some p.1 ∧ ∀ u ∈ p.2, u ∈ ls.take j := by
    rw [← hL]
    have h := gLoop_ex (gt := tName 4) (gb := gSeq (gSet 5 .z (fCall F__law_number [none, none] (fCons (eVar 0) (fCons (fOp2 oAdd (eC (.int 24)) (eVar 4)) fNil)))) (gSeq (gSet 6 .z (fOp2 oMod (eVar 5) (fOp2 oAdd (eVar 4) (eC (.int 1))))) (gIns 3 (eVar 6) (fTup (fCons (fOp2 oIxA (eVar 2) (eVar 4)) (fCons (fCall F__law_overs [none, none, none] (fCons (eVar 2) (fCons (fOp2 oFdiv (eVar 5) (fOp2 oAdd (eVar 4) (eC (.int 1)))) (fCons (eVar 4) fNil)))) fNil)))))) (ds := rngD 0 m.toNat) (r := [some (Md.z, D.scr ns), some (Md.z, D.int m), some (Md.z, lsD ls), some (m1, D.lst []), none, none, none])
      (fun k r => ∃ T b c d, r = [some (Md.z, D.scr ns), some (Md.z, D.int m), some (Md.z, lsD ls), some (m1, tsD T), b, c, d] ∧ T.length = k ∧ (ky T).Perm (ls.take k) ∧ ∀ p ∈ T, p.2.length ≤ 25 ∧ ∃ j : Nat, ls[j]? = some p.1 ∧ ∀ u ∈ p.2, u ∈ ls.take j)
      (fun i d r hd ⟨T, b, c, d', er, hlT, pm, hT⟩ => by
        obtain ⟨hi, ed⟩ := rngD_get _ _ _ _ hd
        subst er ed
        have hil : i < ls.length := by omega
        obtain ⟨v, rv, ev⟩ := num_ok ns hl (24 + i) (by omega) (by omega)
        have hx : atI (ls.map D.str) (i : Int) = some (.str ls[i]) := atI_strs (List.getElem?_eq_getElem hil)
        obtain ⟨os, ro, eo, h1, h2⟩ := overs_ok ls (v / (i + 1)) i (by omega) (by omega)
        have hp : 0 < (i : Int) + 1 := by omega
        have hdv : divOk v (i + 1) = true := divOk_s _ _ hp (by omega)
        obtain ⟨q, hq⟩ := Int.eq_ofNat_of_zero_le (Int.emod_nonneg v (show (i : Int) + 1 ≠ 0 by omega))
        have hqi : (q : Int) < i + 1 := by rw [← hq]; exact Int.emod_lt_of_pos v hp
        have hlT' : T.length < 16777216 := by omega
        refine ⟨[some (Md.z, D.scr ns), some (Md.z, D.int m), some (Md.z, lsD ls), some (m1, tsD (T.take q ++ [(ls[i], os)] ++ T.drop q)), some (Md.z, D.int i), some (Md.z, D.int v), some (Md.z, D.int q)], ?_, _, _, _, _, rfl, ?_, ?_, ?_⟩
        · have e2 : tsD T = .lst (T.map tD) := rfl
          have e1' := ins_T T (ls[i], os) q (by omega) (by omega)
          dsimp only at e1'
          simp [ev, hx, eo, hp, hdv, hq, rcv, e2, e1']
          unfold tsD
          rw [List.map_append, List.map_cons, List.map_take, List.map_drop]
        · simp only [List.length_append, List.length_take, List.length_drop, List.length_singleton]
          omega
        · have e3 : ls.take (i + 1) = ls.take i ++ [ls[i]] := by rw [List.take_succ, List.getElem?_eq_getElem hil]; rfl
          rw [e3]
          have p1 : (T.take q ++ [(ls[i], os)] ++ T.drop q).Perm (T ++ [(ls[i], os)]) := by
            have e4 : T.take q ++ [(ls[i], os)] ++ T.drop q = T.take q ++ (ls[i], os) :: T.drop q := by rw [List.append_assoc]; rfl
            rw [e4]
            refine (List.perm_middle).trans ?_
            rw [List.take_append_drop]
            exact (List.perm_append_singleton _ _).symm
          refine (p1.map (·.1)).trans ?_
          rw [List.map_append]
          exact pm.append_right _
        · intro p hp'
          have hp2 : p ∈ T ∨ p = (ls[i], os) := by
            simp only [List.mem_append, List.mem_singleton] at hp'
            rcases hp' with (z | z) | z
            · exact .inl (List.mem_of_mem_take z)
            · exact .inr z
            · exact .inl (List.mem_of_mem_drop z)
          rcases hp2 with z | z
          · exact hT p z
          · subst z
            exact ⟨by show os.length ≤ 25; omega, i, List.getElem?_eq_getElem hil, h2⟩)
      ⟨[], _, _, _, rfl, rfl, by simp, by simp⟩
    obtain ⟨r', e, T, b, c, d, er, hlT, pm, hT⟩ := h
    rw [rngD_len, ← hlen] at hlT pm
    rw [List.take_length] at pm
    exact ⟨r', e, T, b, c, d, er, hlT, pm, hT⟩
  subst er
  rw [e]
  refine ⟨T, ?_, ?_⟩
  · simp [fzS]
  · have hl2 : ls.length ≤ 24 := by omega
    refine ⟨by omega, pm.nodup_iff.mpr nd, fun n hn => hw n (pm.mem_iff.mp hn), fun x => pos x ls, fun p hp => ?_⟩
    obtain ⟨h1, j, hj, hu⟩ := hT p hp
    refine ⟨by omega, fun u hu' => ⟨pm.mem_iff.mpr (List.mem_of_mem_take (hu u hu')), ?_⟩⟩
    show pos u ls < pos p.1 ls
    rw [pos_at nd hj]
    exact pos_take (hu u hu')
end Vm
set_option Elab.async false
set_option linter.all false
set_option maxRecDepth 100000
set_option maxHeartbeats 4000000
namespace Vm
open PySem PySem.Spec PyProof.Rows L2
theorem all_true (ds : List D) : oAll [.lst (ds.map fun _ => .bl true)] = some (.bl true) := by
  show (bls (ds.map fun _ => .bl true)).map _ = _
  rw [bls_map]
  show some (D.bl ((ds.map fun _ => true).all id)) = _
  rw [List.all_map]
  congr 2
  exact List.all_eq_true.mpr fun _ _ => rfl
theorem filter_tt {α : Type} (ds : List α) : ds.filter (fun _ => true) = ds := List.filter_eq_self.mpr fun _ _ => rfl
theorem isn_ok {s : List Nat} (hw : Wd s) : ∃ r, F_is_name [some (.z, .str s)] = .ok (.bl true) r := by
  obtain ⟨w1, w2, w3, w4⟩ := hw
  unfold F_is_name
  rw [fnRun_ap]
  have h8 : ¬ (8 : Int) < s.length := by omega
  simp [isT, inOk, w1, h8, w4]
  generalize hL : gLc _ _ _ _ _ _ = L
  obtain ⟨r', e, er⟩ : ∃ r', L = .ok ((s.map fun c => D.str [c]).map fun _ => .bl true) r' ∧ r' = [some (.z, .str s), none] := by
    rw [← hL]
    have := gLc_ex (own := [1]) (gt := tName 1) (ft := ftY) (fe := fOp2 oInA (eVar 1) (eC (D.str t_abcdefghijklmnopqrstuvwxyz))) (ds := s.map fun c => D.str [c]) (r := [some (.z, .str s), none]) (fun _ => true) (fun _ => .bl true) (fun r => r = [some (.z, .str s), none]) rfl
      (fun d hd r er => by
        subst er
        obtain ⟨c, hc, e⟩ := List.mem_map.mp hd
        subst e
        have := w3 c hc
        exact ⟨[some (.z, .str s), some (.z, .str [c])], [some (.z, .str s), some (.z, .str [c])], by simp, by simp, (fun z => by cases z), fun _ => ⟨[some (.z, .str s), some (.z, .str [c])], by simp [this], by simp⟩⟩)
    rw [filter_tt] at this
    exact this
  subst er
  rw [e]
  have e3 := all_true (s.map fun c => D.str [c])
  simp only [List.map_map] at e3 ⊢
  simp [e3]
/-- what a walk of tuples gives -/
def anyT (d : D) (T : Tt) : Prop := anyL d = some (T.map tD)
theorem tD_t (p : List Nat × List (List Nat)) (gs : List D → M Fl) (x : Sl) (r : En) : tTupl 2 gs (tD p) (x :: r) = gs [.str p.1, lsD p.2] (x :: r) := by simp [tD]
theorem loop1_ok (s0 : Sl) : ∀ (T : Tt) (s1 s2 s3 : Sl), (∀ p ∈ T, Wd p.1 ∧ ∀ u ∈ p.2, Wd u) → bkS s2 = s2 → bkS s3 = s3 → ∃ s2' s3', (bkS s2' = s2' ∧ bkS s3' = s3') ∧ gLoop (tTupl 2 (tCon (tName 2) (tCon (tName 3) tNil))) (fIf (fOr (fNot (fB (fCall F_is_name [none] (fCons (eVar 2) fNil)))) (fNot (fB (fA oAll (fCons (fLc [4] (iAny (eVar 3)) (tName 4) ftY (fCall F_is_name [none] (fCons (eVar 4) fNil))) fNil))))) gBad gNx) (T.map tD) [s0, s1, s2, s3, none] = .ok .nx [s0, s1, s2', s3', none]
  | [], s1, s2, s3, _, k1, k2 => ⟨s2, s3, ⟨k1, k2⟩, rfl⟩
  | p :: T, s1, s2, s3, h, _, _ => by
    obtain ⟨h1, h2⟩ := h p List.mem_cons_self
    obtain ⟨a, b, kab, ih⟩ := loop1_ok s0 T s1 (some (.z, .str p.1)) (some (.z, lsD p.2)) (fun q hq => h q (List.mem_cons_of_mem _ hq)) rfl rfl
    refine ⟨a, b, kab, ?_⟩
    rw [List.map_cons, gLoop_cons, tD_t]
    obtain ⟨r1, e1⟩ := isn_ok h1
    have e2 : gLc [4] (tName 4) ftY (fCall F_is_name [none] (fCons (eVar 4) fNil)) (p.2.map D.str) [s0, s1, some (.z, .str p.1), some (.z, lsD p.2), none] = .ok ((p.2.map D.str).map fun _ => .bl true) [s0, s1, some (.z, .str p.1), some (.z, lsD p.2), none] := by
      obtain ⟨r', e, er⟩ := gLc_ex (own := [4]) (gt := tName 4) (ft := ftY) (fe := fCall F_is_name [none] (fCons (eVar 4) fNil)) (ds := p.2.map D.str) (r := [s0, s1, some (.z, .str p.1), some (.z, lsD p.2), none]) (fun _ => true) (fun _ => .bl true) (fun r => r = [s0, s1, some (.z, .str p.1), some (.z, lsD p.2), none]) rfl
        (fun d hd r er => by
          subst er
          obtain ⟨u, hu, e⟩ := List.mem_map.mp hd
          subst e
          obtain ⟨r2, e2⟩ := isn_ok (h2 u hu)
          exact ⟨[s0, s1, some (.z, .str p.1), some (.z, lsD p.2), some (.z, .str u)], [s0, s1, some (.z, .str p.1), some (.z, lsD p.2), some (.z, .str u)], by simp, by simp, (fun z => by cases z), fun _ => ⟨[s0, s1, some (.z, .str p.1), some (.z, lsD p.2), some (.z, .str u)], by simp [e2], by simp⟩⟩)
      subst er
      rw [filter_tt] at e
      exact e
    have e3 := all_true (p.2.map D.str)
    simp only [List.map_map] at e2 e3
    simp [e1, e2, e3, ih]
theorem loop2_ok (s0 : Sl) (ls : List (List Nat)) : ∀ (T : Tt) (s2 s3 : Sl), (∀ p ∈ T, ∀ u ∈ p.2, u ∈ ls) → ∃ s2' s3', gLoop (tTupl 2 (tCon (tName 2) (tCon (tName 3) tNil))) (fIf (fNot (fB (fA oAll (fCons (fLc [4] (iAny (eVar 3)) (tName 4) ftY (fOp2 oInA (eVar 4) (eVar 1))) fNil)))) gBad gNx) (T.map tD) [s0, some (.z, lsD ls), s2, s3, none] = .ok .nx [s0, some (.z, lsD ls), s2', s3', none]
  | [], s2, s3, _ => ⟨s2, s3, rfl⟩
  | p :: T, s2, s3, h => by
    have h2 := h p List.mem_cons_self
    obtain ⟨a, b, ih⟩ := loop2_ok s0 ls T (some (.z, .str p.1)) (some (.z, lsD p.2)) fun q hq => h q (List.mem_cons_of_mem _ hq)
    refine ⟨a, b, ?_⟩
    rw [List.map_cons, gLoop_cons, tD_t]
    have e2 : gLc [4] (tName 4) ftY (fOp2 oInA (eVar 4) (eVar 1)) (p.2.map D.str) [s0, some (.z, lsD ls), some (.z, .str p.1), some (.z, lsD p.2), none] = .ok ((p.2.map D.str).map fun _ => .bl true) [s0, some (.z, lsD ls), some (.z, .str p.1), some (.z, lsD p.2), none] := by
      obtain ⟨r', e, er⟩ := gLc_ex (own := [4]) (gt := tName 4) (ft := ftY) (fe := fOp2 oInA (eVar 4) (eVar 1)) (ds := p.2.map D.str) (r := [s0, some (.z, lsD ls), some (.z, .str p.1), some (.z, lsD p.2), none]) (fun _ => true) (fun _ => .bl true) (fun r => r = [s0, some (.z, lsD ls), some (.z, .str p.1), some (.z, lsD p.2), none]) rfl
        (fun d hd r er => by
          subst er
          obtain ⟨u, hu, e⟩ := List.mem_map.mp hd
          subst e
          have := h2 u hu
          exact ⟨[s0, some (.z, lsD ls), some (.z, .str p.1), some (.z, lsD p.2), some (.z, .str u)], [s0, some (.z, lsD ls), some (.z, .str p.1), some (.z, lsD p.2), some (.z, .str u)], by simp, by simp, (fun z => by cases z), fun _ => ⟨[s0, some (.z, lsD ls), some (.z, .str p.1), some (.z, lsD p.2), some (.z, .str u)], by simp [this], by simp⟩⟩)
      subst er
      rw [filter_tt] at e
      exact e
    have e3 := all_true (p.2.map D.str)
    simp only [List.map_map] at e2 e3
    simp [e2, e3, ih]
theorem look_ok {d : D} {T : Tt} (hd : anyT d T) (g : Good T) : ∃ r, F_look_at_names [some (.z, d)] = .ok .non r := by
  unfold F_look_at_names
  rw [fnRun_ap]
  have hd' : anyL d = some (T.map tD) := hd
  obtain ⟨rk, hrk⟩ := g.rank
  have hw : ∀ p ∈ T, Wd p.1 ∧ ∀ u ∈ p.2, Wd u := fun p hp => ⟨g.wd _ (List.mem_map.mpr ⟨p, hp, rfl⟩), fun u hu => g.wd _ ((hrk p hp).2 u hu).1⟩
  obtain ⟨a, b, ⟨ka, kb⟩, e1⟩ := loop1_ok (some (.z, d)) T none none none hw rfl rfl
  have e2 : gLc [2, 3] (tTupl 2 (tCon (tName 2) (tCon (tName 3) tNil))) ftY (eVar 2) (T.map tD) [some (.z, d), none, none, none, none] = .ok ((ky T).map .str) [some (.z, d), none, none, none, none] := by
    obtain ⟨r', e, er⟩ := gLc_ex (own := [2, 3]) (gt := tTupl 2 (tCon (tName 2) (tCon (tName 3) tNil))) (ft := ftY) (fe := eVar 2) (ds := T.map tD) (r := [some (.z, d), none, none, none, none]) (fun _ => true) (fun x => match x with | .tup (s :: _) => s | _ => .non) (fun r => r = [some (.z, d), none, none, none, none]) rfl
      (fun x hx r er => by
        subst er
        obtain ⟨p, hp, e⟩ := List.mem_map.mp hx
        subst e
        exact ⟨[some (.z, d), none, some (.z, .str p.1), some (.z, lsD p.2), none], [some (.z, d), none, some (.z, .str p.1), some (.z, lsD p.2), none], by rw [tD_t]; simp, by simp, (fun z => by cases z), fun _ => ⟨[some (.z, d), none, some (.z, .str p.1), some (.z, lsD p.2), none], by simp [tD], by simp⟩⟩)
    subst er
    rw [filter_tt, List.map_map] at e
    rw [e, List.map_map]
    rfl
  obtain ⟨a', b', e3⟩ := loop2_ok (some (.z, d)) (ky T) T a b fun p hp u hu => ((hrk p hp).2 u hu).1
  have hl60 : (ky T).length ≤ 60 := by rw [List.length_map]; exact Nat.le_trans g.len (by decide)
  have hde : dedL (ky T) = ky T := dedL_of_nodup g.nd
  generalize ky T = ks at e2 e3 hde hl60
  simp [hd', e1, e2, ka, kb, hl60, hde, e3]
end Vm
set_option Elab.async false
set_option linter.all false
set_option maxRecDepth 100000
set_option maxHeartbeats 4000000
namespace Vm
open PySem PySem.Spec PyProof.Rows L2
def sN : D → List Nat
  | .str s => s
  | _ => []
theorem flt_strs (q : List Nat → Bool) (ls : List (List Nat)) : (ls.map D.str).filter (fun d => q (sN d)) = (ls.filter q).map .str := by
  rw [List.filter_map]
  rfl
theorem any_bl (f : List Nat → Bool) (ls : List (List Nat)) : oAny [.lst (ls.map fun u => .bl (f u))] = some (.bl (ls.any f)) := by
  have h : ∀ ls : List (List Nat), bls (ls.map fun u => .bl (f u)) = some (ls.map f) := by
    intro ls
    induction ls with
    | nil => rfl
    | cons x ls ih => rw [List.map_cons, List.map_cons, bls, ih]; rfl
  show (bls (ls.map fun u => .bl (f u))).map _ = _
  rw [h]
  show some (D.bl ((ls.map f).any id)) = _
  rw [List.any_map]
  rfl
theorem min_rk (rk : List Nat → Nat) : ∀ ls : List (List Nat), ls ≠ [] → ∃ n ∈ ls, ∀ m ∈ ls, rk n ≤ rk m
  | [], h => absurd rfl h
  | [x], _ => ⟨x, List.mem_cons_self, fun m hm => by rw [List.mem_singleton.mp hm]; exact Nat.le_refl _⟩
  | x :: y :: ls, _ => by
    obtain ⟨n, hn, h⟩ := min_rk rk (y :: ls) (by simp)
    by_cases c : rk x ≤ rk n
    · exact ⟨x, List.mem_cons_self, fun m hm => by
        rcases List.mem_cons.mp hm with z | z
        · rw [z]; exact Nat.le_refl _
        · exact Nat.le_trans c (h m z)⟩
    · exact ⟨n, List.mem_cons_of_mem _ hn, fun m hm => by
        rcases List.mem_cons.mp hm with z | z
        · rw [z]; omega
        · exact h m z⟩
/-- those of which none straight over them is left -/
def freeL (T : Tt) (left : List (List Nat)) : List (List Nat) := left.filter fun n => !(srt (ov T n)).any fun u => decide (u ∈ left)
section
variable (T : Tt)
abbrev upD : D := dcT srt T
theorem free_lc (left : List (List Nat)) (hl : ∀ n ∈ left, n ∈ ky T) (s2 s3 : Sl) : gLc [4] (tName 4) (fNot (fB (fA oAny (fCons (fLc [5] (iAny (fOp2 oIxA (eVar 0) (eVar 4))) (tName 5) ftY (fOp2 oInA (eVar 5) (eVar 1))) fNil)))) (eVar 4) (left.map D.str) [some (.z, upD T), some (.z, lsD left), s2, s3, none, none] =
    .ok ((freeL T left).map .str) [some (.z, upD T), some (.z, lsD left), s2, s3, none, none] := by
  obtain ⟨r', e, er⟩ := gLc_ex (own := [4]) (gt := tName 4) (ft := fNot (fB (fA oAny (fCons (fLc [5] (iAny (fOp2 oIxA (eVar 0) (eVar 4))) (tName 5) ftY (fOp2 oInA (eVar 5) (eVar 1))) fNil)))) (fe := eVar 4) (ds := left.map D.str) (r := [some (.z, upD T), some (.z, lsD left), s2, s3, none, none])
    (fun d => !(srt (ov T (sN d))).any fun u => decide (u ∈ left)) (fun d => d) (fun r => r = [some (.z, upD T), some (.z, lsD left), s2, s3, none, none]) rfl
    (fun d hd r er => by
      subst er
      obtain ⟨n, hn, e⟩ := List.mem_map.mp hd
      subst e
      have e1 : oDGet (upD T) (.str n) = some (lsD (srt (ov T n))) := dget_dcT (hl n hn)
      have e2 : gLc [5] (tName 5) ftY (fOp2 oInA (eVar 5) (eVar 1)) ((srt (ov T n)).map D.str) [some (.z, upD T), some (.z, lsD left), s2, s3, some (.z, .str n), none] = .ok ((srt (ov T n)).map fun u => .bl (decide (u ∈ left))) [some (.z, upD T), some (.z, lsD left), s2, s3, some (.z, .str n), none] := by
        obtain ⟨r', e, er⟩ := gLc_ex (own := [5]) (gt := tName 5) (ft := ftY) (fe := fOp2 oInA (eVar 5) (eVar 1)) (ds := (srt (ov T n)).map D.str) (r := [some (.z, upD T), some (.z, lsD left), s2, s3, some (.z, .str n), none])
          (fun _ => true) (fun d => .bl (decide (sN d ∈ left))) (fun r => r = [some (.z, upD T), some (.z, lsD left), s2, s3, some (.z, .str n), none]) rfl
          (fun d hd r er => by
            subst er
            obtain ⟨u, hu, e⟩ := List.mem_map.mp hd
            subst e
            exact ⟨[some (.z, upD T), some (.z, lsD left), s2, s3, some (.z, .str n), some (.z, .str u)], [some (.z, upD T), some (.z, lsD left), s2, s3, some (.z, .str n), some (.z, .str u)], by simp, by simp, (fun z => by cases z), fun _ => ⟨[some (.z, upD T), some (.z, lsD left), s2, s3, some (.z, .str n), some (.z, .str u)], by simp [sN] <;> rfl, by simp⟩⟩)
        subst er
        rw [filter_tt, List.map_map] at e
        exact e
      have e3 := any_bl (fun u => decide (u ∈ left)) (srt (ov T n))
      refine ⟨[some (.z, upD T), some (.z, lsD left), s2, s3, some (.z, .str n), none], [some (.z, upD T), some (.z, lsD left), s2, s3, some (.z, .str n), none], by simp, ?_, fun _ => by simp, fun _ => ⟨[some (.z, upD T), some (.z, lsD left), s2, s3, some (.z, .str n), none], by simp, by simp⟩⟩
      have eI : oIxA (upD T) (.str n) = oDGet (upD T) (.str n) := rfl
      simp [eI, e1, e2, e3, sN])
  subst er
  rw [flt_strs (fun n => !(srt (ov T n)).any fun u => decide (u ∈ left)) left, List.map_id'] at e
  exact e
theorem left_lc (left fr : List (List Nat)) (s0 s2 : Sl) : gLc [4] (tName 4) (fB (fOp2 oNotInA (eVar 4) (eVar 3))) (eVar 4) (left.map D.str) [s0, some (.z, lsD left), s2, some (.z, lsD fr), none, none] =
    .ok ((left.filter fun n => !decide (n ∈ fr)).map .str) [s0, some (.z, lsD left), s2, some (.z, lsD fr), none, none] := by
  obtain ⟨r', e, er⟩ := gLc_ex (own := [4]) (gt := tName 4) (ft := fB (fOp2 oNotInA (eVar 4) (eVar 3))) (fe := eVar 4) (ds := left.map D.str) (r := [s0, some (.z, lsD left), s2, some (.z, lsD fr), none, none])
    (fun d => !decide (sN d ∈ fr)) (fun d => d) (fun r => r = [s0, some (.z, lsD left), s2, some (.z, lsD fr), none, none]) rfl
    (fun d hd r er => by
      subst er
      obtain ⟨n, hn, e⟩ := List.mem_map.mp hd
      subst e
      exact ⟨[s0, some (.z, lsD left), s2, some (.z, lsD fr), some (.z, .str n), none], [s0, some (.z, lsD left), s2, some (.z, lsD fr), some (.z, .str n), none], by simp, by simp [sN] <;> rfl, fun _ => by simp, fun _ => ⟨[s0, some (.z, lsD left), s2, some (.z, lsD fr), some (.z, .str n), none], by simp, by simp⟩⟩)
  subst er
  rw [flt_strs (fun n => !decide (n ∈ fr)) left, List.map_id'] at e
  exact e
theorem rings_ok (g : Good T) : ∃ r, F_in_rings [some (.z, upD T)] = .ok (.lst []) r := by
  obtain ⟨rk, hrk⟩ := g.rank
  have hov : ∀ n u, u ∈ ov T n → rk u < rk n := fun n u h => by
    obtain ⟨p, hp, e1, e2⟩ := ov_mem h
    rw [← e1]; exact ((hrk p hp).2 u e2).2
  unfold F_in_rings
  rw [fnRun_ap]
  have eL : oListA [upD T] = some (lsD (ky T)) := by
    show some (D.lst (T.map fun p => .str p.1)) = _
    unfold lsD ky
    rw [List.map_map]; rfl
  simp only [List.length_cons, List.length_nil, List.replicate, List.cons_append, List.nil_append]
  simp [eL]
  generalize hL : gWh _ _ _ = L
  obtain ⟨r', e, a, b, er⟩ : ∃ r', L = .ok .nx r' ∧ ∃ a b, r' = [some (.z, upD T), some (.z, lsD []), a, b, none, none] := by
    rw [← hL]
    refine gWh_use (fun r => ∃ left ag s3, r = [some (.z, upD T), some (.z, lsD left), some (.z, .bl ag), s3, none, none] ∧ (∀ n ∈ left, n ∈ ky T) ∧ (ag = false → left = [])) (fun r => match r with
      | [_, some (_, .lst ls), some (_, .bl b), _, _, _] => 2 * ls.length + (if b = true then 1 else 0)
      | _ => 0) _ ⟨ky T, true, none, by show _ = [some (Md.z, upD T), some (Md.z, lsD (ky T)), some (Md.z, D.bl true), none, none, none]; simp [lsD], fun n hn => hn, fun z => by cases z⟩ fun r ⟨left, ag, s3, er, hl, hag⟩ => ?_
    subst er
    cases ag with
    | false =>
      have := hag rfl
      subst this
      exact .inl ⟨[some (.z, upD T), some (.z, lsD []), some (.z, .bl false), s3, none, none], by simp, _, _, rfl⟩
    | true =>
      have f1 := free_lc T left hl (some (.z, .bl true)) s3
      have f2 := left_lc left (freeL T left) (some (.z, upD T)) (some (.z, .bl true))
      refine .inr ⟨[some (.z, upD T), some (.z, lsD left), some (.z, .bl true), s3, none, none], [some (.z, upD T), some (.z, lsD (left.filter fun n => !decide (n ∈ freeL T left))), some (.z, .bl !decide (freeL T left = [])), some (.z, lsD (freeL T left)), none, none], by simp, by simp [f1, f2], ⟨_, _, _, rfl, fun n hn => hl n (List.mem_filter.mp hn).1, fun z => ?_⟩, ?_⟩
      · have z1 : freeL T left = [] := by simpa using z
        refine Classical.byContradiction fun hne => ?_
        have hln : left ≠ [] := fun e => hne (by rw [e]; rfl)
        obtain ⟨n, hn, hmin⟩ := min_rk rk left hln
        have : n ∈ freeL T left := by
          refine List.mem_filter.mpr ⟨hn, ?_⟩
          simp only [Bool.not_eq_true', List.any_eq_false, decide_eq_true_eq]
          intro u hu hul
          have := hov n u (mem_srt.mp hu)
          have := hmin u hul
          omega
        rw [z1] at this; cases this
      · have hle : (left.filter fun n => !decide (n ∈ freeL T left)).length ≤ left.length := List.length_filter_le _ _
        by_cases c : freeL T left = []
        · have e1 : (!decide (freeL T left = [])) = false := by rw [decide_eq_true c]; rfl
          show 2 * ((left.filter fun n => !decide (n ∈ freeL T left)).map D.str).length + (if (!decide (freeL T left = [])) = true then 1 else 0) < 2 * (left.map D.str).length + 1
          rw [e1, List.length_map, List.length_map, if_neg Bool.false_ne_true]
          omega
        · obtain ⟨n, hn⟩ := List.exists_mem_of_ne_nil _ c
          have hnl : n ∈ left := (List.mem_filter.mp hn).1
          have lt : (left.filter fun n => !decide (n ∈ freeL T left)).length < left.length := by
            refine Nat.lt_of_le_of_ne hle fun e => ?_
            have := (List.length_filter_eq_length_iff.mp e) n hnl
            simp [hn] at this
          have e1 : (!decide (freeL T left = [])) = true := by rw [decide_eq_false c]; rfl
          show 2 * ((left.filter fun n => !decide (n ∈ freeL T left)).map D.str).length + (if (!decide (freeL T left = [])) = true then 1 else 0) < 2 * (left.map D.str).length + 1
          rw [e1, List.length_map, List.length_map, if_pos rfl]
          omega
  subst er
  rw [e]
  simp
end
end Vm
set_option Elab.async false
set_option linter.all false
set_option maxRecDepth 100000
set_option maxHeartbeats 4000000
namespace Vm
open PySem PySem.Spec PyProof.Rows L2
theorem lfr_ok {T : Tt} (g : Good T) : ∃ r, F_look_for_rings [some (.z, upD T)] = .ok .non r := by
  unfold F_look_for_rings
  rw [fnRun_ap]
  obtain ⟨r, e⟩ := rings_ok T g
  have h : oEq (.lst []) (.lst []) = some (.bl true) := rfl
  simp [e, h]
/-- a web -/
def webD (T : Tt) : D := .ins "Web" ["uppers"] [upD T]
theorem upD_new (T : Tt) (p : List Nat × List (List Nat)) (hn : p.1 ∉ ky T) (ok : sOk p.1 = true) (hl : T.length ≤ 1000) :
    dNewO (.str p.1) (lsD (srt p.2)) (T.map (fun p => D.str p.1), T.map fun p => lsD (srt p.2)) = some ((T ++ [p]).map (fun p => D.str p.1), (T ++ [p]).map fun p => lsD (srt p.2)) := by
  have h1 : hasK (.inr (toS p.1)) ((ky T).map .str) = false := by rw [hasK_str]; exact decide_eq_false hn
  rw [List.map_map] at h1
  unfold dNewO
  rw [keyD_str, Option.bind_some, if_pos ⟨by rw [List.length_map]; omega, by rw [kOk_str]; exact ok, h1⟩]
  simp
theorem wnames_ok (T : Tt) : ∃ r, F_Web_names [some (.z, webD T)] = .ok (lsD (ky T)) r := by
  unfold F_Web_names
  rw [fnRun_ap]
  have a : atrD "Web" "uppers" (webD T) = some (upD T) := by
    show (if ("Web" : Str) = "Web" then lkD "uppers" ["uppers"] [upD T] else none) = _
    rw [if_pos rfl]
    show (if ("uppers" : Str) = "uppers" then some (upD T) else _) = _
    rw [if_pos rfl]
  have eL : oListA [upD T] = some (lsD (ky T)) := by
    show some (D.lst (T.map fun p => .str p.1)) = _
    unfold lsD ky
    rw [List.map_map]; rfl
  simp [a, eL]
theorem atr_web (T : Tt) : atrD "Web" "uppers" (webD T) = some (upD T) := by
  show (if ("Web" : Str) = "Web" then lkD "uppers" ["uppers"] [upD T] else none) = _
  rw [if_pos rfl]
  show (if ("uppers" : Str) = "uppers" then some (upD T) else _) = _
  rw [if_pos rfl]
theorem cleans_strs (k : Md) : ∀ ls : List (List Nat), cleans (ls.map .str) (.all k) = true
  | [] => rfl
  | s :: ls => by
    show (clean (.str s) k && cleans (ls.map .str) (.all k)) = true
    rw [cleans_strs k ls]; rfl
theorem clean_web (T : Tt) : clean (webD T) mI = true := by
  have h : ∀ T : Tt, cleans (T.map fun p => lsD (srt p.2)) (.all m1) = true := by
    intro T
    induction T with
    | nil => rfl
    | cons p T ih =>
      show (cleans ((srt p.2).map .str) (.all .z) && cleans (T.map fun p => lsD (srt p.2)) (.all m1)) = true
      rw [ih, cleans_strs]; rfl
  show (cleans (T.map fun p => lsD (srt p.2)) (.all m1) && true) = true
  rw [h]; rfl
theorem over_ok {T : Tt} {n : List Nat} (hn : n ∈ ky T) (ok : sOk n = true) : ∃ r, F_Web_over [some (.z, webD T), some (.z, .str n)] = .ok (lsD (srt (ov T n))) r := by
  unfold F_Web_over
  rw [fnRun_ap]
  have e2 : oDGet (upD T) (.str n) = some (lsD (srt (ov T n))) := dget_dcT hn
  have eI : oIxA (upD T) (.str n) = oDGet (upD T) (.str n) := rfl
  have eL : oListA [lsD (srt (ov T n))] = some (lsD (srt (ov T n))) := rfl
  simp [atr_web, eI, e2, eL]
end Vm
set_option Elab.async false
set_option linter.all false
set_option maxRecDepth 100000
set_option maxHeartbeats 4000000
namespace Vm
open PySem PySem.Spec PyProof.Rows L2
theorem isIns_web {T : Tt} (m : Str) (h : m ≠ "uppers") : isIns "Web" m (webD T) = true := by
  show (decide (("Web" : Str) = "Web") && !(["uppers"] : List Str).contains m) = true
  have : (["uppers"] : List Str).contains m = false := by
    rw [List.contains_cons]
    have h1 : (m == ("uppers" : Str)) = false := by simpa using h
    rw [h1]; rfl
  rw [this]; simp
theorem ov_of {T : Tt} (nd : (ky T).Nodup) {p : List Nat × List (List Nat)} (hp : p ∈ T) : ov T p.1 = p.2 := by
  unfold ov
  induction T with
  | nil => cases hp
  | cons q T ih =>
    obtain ⟨h1, h2⟩ := List.nodup_cons.mp nd
    rcases List.mem_cons.mp hp with z | z
    · subst z; simp
    · have hne : ¬ q.1 = p.1 := fun e => h1 (show q.1 ∈ _ from by rw [e]; exact List.mem_map.mpr ⟨p, z, rfl⟩)
      rw [List.find?_cons]
      have : (q.1 == p.1) = false := by simpa using hne
      rw [this]
      exact ih h2 z
theorem told_ok {T : Tt} (g : Good T) : ∃ r, F__law_told [some (.z, webD T), some (.z, tsD T)] = .ok (.bl true) r := by
  unfold F__law_told
  rw [fnRun_ap]
  obtain ⟨r1, e1⟩ := wnames_ok T
  have hi1 : isIns "Web" "names" (webD T) = true := isIns_web "names" (by decide)
  have hi2 : isIns "Web" "over" (webD T) = true := isIns_web "over" (by decide)
  have hT : anyL (tsD T) = some (T.map tD) := rfl
  have e2 : gLc [2, 3] (tTupl 2 (tCon (tName 2) (tCon (tName 3) tNil))) ftY (eVar 2) (T.map tD) [some (.z, webD T), some (.z, tsD T), none, none, none] = .ok ((ky T).map .str) [some (.z, webD T), some (.z, tsD T), none, none, none] := by
    obtain ⟨r', e, er⟩ := gLc_ex (own := [2, 3]) (gt := tTupl 2 (tCon (tName 2) (tCon (tName 3) tNil))) (ft := ftY) (fe := eVar 2) (ds := T.map tD) (r := [some (.z, webD T), some (.z, tsD T), none, none, none]) (fun _ => true) (fun x => match x with | .tup (s :: _) => s | _ => .non) (fun r => r = [some (.z, webD T), some (.z, tsD T), none, none, none]) rfl
      (fun x hx r er => by
        subst er
        obtain ⟨p, hp, e⟩ := List.mem_map.mp hx
        subst e
        exact ⟨[some (.z, webD T), some (.z, tsD T), some (.z, .str p.1), some (.z, lsD p.2), none], [some (.z, webD T), some (.z, tsD T), some (.z, .str p.1), some (.z, lsD p.2), none], by rw [tD_t]; simp, by simp, (fun z => by cases z), fun _ => ⟨[some (.z, webD T), some (.z, tsD T), some (.z, .str p.1), some (.z, lsD p.2), none], by simp [tD], by simp⟩⟩)
    subst er
    rw [filter_tt, List.map_map] at e
    rw [e, List.map_map]
    rfl
  have e3 : ∃ r', gLoop (tTupl 2 (tCon (tName 2) (tCon (tName 3) tNil))) (gSeq (gSet 4 .z (fCall F_Web_over (none :: [none]) (fMeth "Web" "over" (eVar 0) (fCons (eVar 2) fNil)))) (fIf (fOr (fNot (fB (fIsi .list (eVar 4)))) (fB (fOp2 oNe (eVar 4) (fA oSortSet (fCons (eVar 3) fNil))))) (gRet (eC (.bl false))) gNx)) (T.map tD) [some (.z, webD T), some (.z, tsD T), none, none, none] = .ok .nx r' ∧ ∃ a b c, r' = [some (.z, webD T), some (.z, tsD T), a, b, c] := by
    refine gLoop_go (fun r => ∃ a b c, r = [some (.z, webD T), some (.z, tsD T), a, b, c]) (T.map tD) (fun d hd r hr => ?_) _ ⟨none, none, none, rfl⟩
    obtain ⟨p, hp, e⟩ := List.mem_map.mp hd
    subst e
    obtain ⟨a, b, c, er⟩ := hr
    subst er
    have hk : p.1 ∈ ky T := List.mem_map.mpr ⟨p, hp, rfl⟩
    obtain ⟨rk, hrk⟩ := g.rank
    have h60 := (hrk p hp).1
    obtain ⟨r4, e4⟩ := over_ok hk (g.wd _ hk).ok
    rw [ov_of g.nd hp] at e4
    have hl : isT .list (lsD (srt p.2)) = some true := rfl
    refine ⟨[some (.z, webD T), some (.z, tsD T), some (.z, .str p.1), some (.z, lsD p.2), c], .nx, [some (.z, webD T), some (.z, tsD T), some (.z, .str p.1), some (.z, lsD p.2), some (.z, lsD (srt p.2))], by rw [tD_t]; simp, ?_, .inl rfl, _, _, _, rfl⟩
    simp [hi2, e4, hl, h60]
  obtain ⟨r', e3, a, b, c, er⟩ := e3
  subst er
  have hl : isT .list (lsD (ky T)) = some true := rfl
  generalize ky T = ks at e1 e2 hl
  simp [e1, hi1, hT, e2, hl, e3]
end Vm
set_option Elab.async false
set_option linter.all false
set_option maxRecDepth 100000
set_option maxHeartbeats 4000000
namespace Vm
open PySem PySem.Spec PyProof.Rows L2

theorem init_loop (s1 : Sl) : ∀ (T2 T1 : Tt) (s2 s3 : Sl), (ky (T1 ++ T2)).Nodup → (∀ p ∈ T2, sOk p.1 = true ∧ p.2.length ≤ 60) → T1.length + T2.length ≤ 1000 → ∃ s2' s3', gLoop (tTupl 2 (tCon (tName 2) (tCon (tName 3) tNil))) (gIPutD 0 "Web" "uppers" (fA oSortSet (fCons (eVar 3) fNil)) (eVar 2)) (T2.map tD)
    [some (mI, .ins "Web" ["uppers"] [upD T1]), s1, s2, s3] = .ok .nx [some (mI, .ins "Web" ["uppers"] [upD (T1 ++ T2)]), s1, s2', s3']
  | [], T1, s2, s3, _, _, _ => ⟨s2, s3, by rw [List.append_nil]; rfl⟩
  | p :: T2, T1, s2, s3, nd, h, hl => by
    have eA : T1 ++ p :: T2 = (T1 ++ [p]) ++ T2 := by simp
    obtain ⟨h1, h2⟩ := h p List.mem_cons_self
    rw [List.length_cons] at hl
    obtain ⟨a, b, ih⟩ := init_loop s1 T2 (T1 ++ [p]) (some (.z, .str p.1)) (some (.z, lsD p.2)) (by rw [← eA]; exact nd) (fun q hq => h q (List.mem_cons_of_mem _ hq)) (by rw [List.length_append, List.length_singleton]; omega)
    refine ⟨a, b, ?_⟩
    rw [List.map_cons, gLoop_cons, tD_t]
    have hn : p.1 ∉ ky T1 := fun z => by
      have nd' : (ky T1 ++ ky (p :: T2)).Nodup := by rw [← List.map_append]; exact nd
      exact (List.nodup_append.mp nd').2.2 p.1 z p.1 (by simp) rfl
    have e1 := upD_new T1 p hn h1 (by omega)
    have e2 : upD (T1 ++ [p]) = .dct ((T1 ++ [p]).map fun p => D.str p.1) ((T1 ++ [p]).map fun p => lsD (srt p.2)) := rfl
    have e3 : upD T1 = .dct (T1.map fun p => D.str p.1) (T1.map fun p => lsD (srt p.2)) := rfl
    rw [eA]
    rw [e2] at ih
    generalize hK : ((T1 ++ [p]).map fun p => D.str p.1) = K at e1 ih
    generalize hV : ((T1 ++ [p]).map fun p => lsD (srt p.2)) = V at e1 ih
    rw [e3]
    simp [h2, e1, ih]
theorem init_ok {d : D} {T : Tt} (hd : anyL d = some (T.map tD)) (g : Good T) : F_Web___init__ [some (mI, .ins "Web" [] []), some (.z, d)] = .ok .non [some (mI, webD T), none] := by
  unfold F_Web___init__
  rw [fnRun_ap]
  obtain ⟨rk, hrk⟩ := g.rank
  have gl := g.len
  obtain ⟨r1, e1⟩ := look_ok hd g
  obtain ⟨a, b, e2⟩ := init_loop (some (.z, d)) T [] none none g.nd (fun p hp => ⟨(g.wd _ (List.mem_map.mpr ⟨p, hp, rfl⟩)).ok, (hrk p hp).1⟩) (by rw [List.length_nil]; omega)
  obtain ⟨r3, e3⟩ := lfr_ok g
  rw [List.nil_append] at e2
  have e4 : upD [] = .dct [] [] := rfl
  rw [e4] at e2
  have e5 : setI "uppers" (.dct [] []) ([], []) = some ([("uppers" : Str)], [D.dct [] []]) := rfl
  have e6 := atr_web T
  unfold webD at e6
  simp [e1, e5, hd, e2, fzS, e6, e3, ioEnd, brS_some, thw_cons]
  rfl
end Vm
set_option Elab.async false
set_option linter.all false
set_option maxRecDepth 100000
set_option maxHeartbeats 4000000
namespace Vm
open PySem PySem.Spec PyProof.Rows L2
abbrev tpD (ls : List (List Nat)) : D := .tup (ls.map .str)
def tE (p : List Nat × List (List Nat)) : D := .tup [.str p.1, tpD p.2]
theorem tE_t (p : List Nat × List (List Nat)) (gs : List D → M Fl) (x : Sl) (r : En) : tTupl 2 gs (tE p) (x :: r) = gs [.str p.1, tpD p.2] (x :: r) := by simp [tE]
theorem loop1_okT (s0 : Sl) : ∀ (T : Tt) (s1 s2 s3 : Sl), (∀ p ∈ T, Wd p.1 ∧ ∀ u ∈ p.2, Wd u) → bkS s2 = s2 → bkS s3 = s3 → ∃ s2' s3', (bkS s2' = s2' ∧ bkS s3' = s3') ∧ gLoop (tTupl 2 (tCon (tName 2) (tCon (tName 3) tNil))) (fIf (fOr (fNot (fB (fCall F_is_name [none] (fCons (eVar 2) fNil)))) (fNot (fB (fA oAll (fCons (fLc [4] (iAny (eVar 3)) (tName 4) ftY (fCall F_is_name [none] (fCons (eVar 4) fNil))) fNil))))) gBad gNx) (T.map tE) [s0, s1, s2, s3, none] = .ok .nx [s0, s1, s2', s3', none]
  | [], s1, s2, s3, _, k1, k2 => ⟨s2, s3, ⟨k1, k2⟩, rfl⟩
  | p :: T, s1, s2, s3, h, _, _ => by
    obtain ⟨h1, h2⟩ := h p List.mem_cons_self
    obtain ⟨a, b, kab, ih⟩ := loop1_okT s0 T s1 (some (.z, .str p.1)) (some (.z, tpD p.2)) (fun q hq => h q (List.mem_cons_of_mem _ hq)) rfl rfl
    refine ⟨a, b, kab, ?_⟩
    rw [List.map_cons, gLoop_cons, tE_t]
    obtain ⟨r1, e1⟩ := isn_ok h1
    have e2 : gLc [4] (tName 4) ftY (fCall F_is_name [none] (fCons (eVar 4) fNil)) (p.2.map D.str) [s0, s1, some (.z, .str p.1), some (.z, tpD p.2), none] = .ok ((p.2.map D.str).map fun _ => .bl true) [s0, s1, some (.z, .str p.1), some (.z, tpD p.2), none] := by
      obtain ⟨r', e, er⟩ := gLc_ex (own := [4]) (gt := tName 4) (ft := ftY) (fe := fCall F_is_name [none] (fCons (eVar 4) fNil)) (ds := p.2.map D.str) (r := [s0, s1, some (.z, .str p.1), some (.z, tpD p.2), none]) (fun _ => true) (fun _ => .bl true) (fun r => r = [s0, s1, some (.z, .str p.1), some (.z, tpD p.2), none]) rfl
        (fun d hd r er => by
          subst er
          obtain ⟨u, hu, e⟩ := List.mem_map.mp hd
          subst e
          obtain ⟨r2, e2⟩ := isn_ok (h2 u hu)
          exact ⟨[s0, s1, some (.z, .str p.1), some (.z, tpD p.2), some (.z, .str u)], [s0, s1, some (.z, .str p.1), some (.z, tpD p.2), some (.z, .str u)], by simp, by simp, (fun z => by cases z), fun _ => ⟨[s0, s1, some (.z, .str p.1), some (.z, tpD p.2), some (.z, .str u)], by simp [e2], by simp⟩⟩)
      subst er
      rw [filter_tt] at e
      exact e
    have e3 := all_true (p.2.map D.str)
    simp only [List.map_map] at e2 e3
    simp [e1, e2, e3, ih]
theorem loop2_okT (s0 : Sl) (ls : List (List Nat)) : ∀ (T : Tt) (s2 s3 : Sl), (∀ p ∈ T, ∀ u ∈ p.2, u ∈ ls) → ∃ s2' s3', gLoop (tTupl 2 (tCon (tName 2) (tCon (tName 3) tNil))) (fIf (fNot (fB (fA oAll (fCons (fLc [4] (iAny (eVar 3)) (tName 4) ftY (fOp2 oInA (eVar 4) (eVar 1))) fNil)))) gBad gNx) (T.map tE) [s0, some (.z, lsD ls), s2, s3, none] = .ok .nx [s0, some (.z, lsD ls), s2', s3', none]
  | [], s2, s3, _ => ⟨s2, s3, rfl⟩
  | p :: T, s2, s3, h => by
    have h2 := h p List.mem_cons_self
    obtain ⟨a, b, ih⟩ := loop2_okT s0 ls T (some (.z, .str p.1)) (some (.z, tpD p.2)) fun q hq => h q (List.mem_cons_of_mem _ hq)
    refine ⟨a, b, ?_⟩
    rw [List.map_cons, gLoop_cons, tE_t]
    have e2 : gLc [4] (tName 4) ftY (fOp2 oInA (eVar 4) (eVar 1)) (p.2.map D.str) [s0, some (.z, lsD ls), some (.z, .str p.1), some (.z, tpD p.2), none] = .ok ((p.2.map D.str).map fun _ => .bl true) [s0, some (.z, lsD ls), some (.z, .str p.1), some (.z, tpD p.2), none] := by
      obtain ⟨r', e, er⟩ := gLc_ex (own := [4]) (gt := tName 4) (ft := ftY) (fe := fOp2 oInA (eVar 4) (eVar 1)) (ds := p.2.map D.str) (r := [s0, some (.z, lsD ls), some (.z, .str p.1), some (.z, tpD p.2), none]) (fun _ => true) (fun _ => .bl true) (fun r => r = [s0, some (.z, lsD ls), some (.z, .str p.1), some (.z, tpD p.2), none]) rfl
        (fun d hd r er => by
          subst er
          obtain ⟨u, hu, e⟩ := List.mem_map.mp hd
          subst e
          have := h2 u hu
          exact ⟨[s0, some (.z, lsD ls), some (.z, .str p.1), some (.z, tpD p.2), some (.z, .str u)], [s0, some (.z, lsD ls), some (.z, .str p.1), some (.z, tpD p.2), some (.z, .str u)], by simp, by simp, (fun z => by cases z), fun _ => ⟨[s0, some (.z, lsD ls), some (.z, .str p.1), some (.z, tpD p.2), some (.z, .str u)], by simp [this], by simp⟩⟩)
      subst er
      rw [filter_tt] at e
      exact e
    have e3 := all_true (p.2.map D.str)
    simp only [List.map_map] at e2 e3
    simp [e2, e3, ih]
theorem look_okT {d : D} {T : Tt} (hd : anyL d = some (T.map tE)) (g : Good T) : ∃ r, F_look_at_names [some (.z, d)] = .ok .non r := by
  unfold F_look_at_names
  rw [fnRun_ap]
  have hd' : anyL d = some (T.map tE) := hd
  obtain ⟨rk, hrk⟩ := g.rank
  have hw : ∀ p ∈ T, Wd p.1 ∧ ∀ u ∈ p.2, Wd u := fun p hp => ⟨g.wd _ (List.mem_map.mpr ⟨p, hp, rfl⟩), fun u hu => g.wd _ ((hrk p hp).2 u hu).1⟩
  obtain ⟨a, b, ⟨ka, kb⟩, e1⟩ := loop1_okT (some (.z, d)) T none none none hw rfl rfl
  have e2 : gLc [2, 3] (tTupl 2 (tCon (tName 2) (tCon (tName 3) tNil))) ftY (eVar 2) (T.map tE) [some (.z, d), none, none, none, none] = .ok ((ky T).map .str) [some (.z, d), none, none, none, none] := by
    obtain ⟨r', e, er⟩ := gLc_ex (own := [2, 3]) (gt := tTupl 2 (tCon (tName 2) (tCon (tName 3) tNil))) (ft := ftY) (fe := eVar 2) (ds := T.map tE) (r := [some (.z, d), none, none, none, none]) (fun _ => true) (fun x => match x with | .tup (s :: _) => s | _ => .non) (fun r => r = [some (.z, d), none, none, none, none]) rfl
      (fun x hx r er => by
        subst er
        obtain ⟨p, hp, e⟩ := List.mem_map.mp hx
        subst e
        exact ⟨[some (.z, d), none, some (.z, .str p.1), some (.z, tpD p.2), none], [some (.z, d), none, some (.z, .str p.1), some (.z, tpD p.2), none], by rw [tE_t]; simp, by simp, (fun z => by cases z), fun _ => ⟨[some (.z, d), none, some (.z, .str p.1), some (.z, tpD p.2), none], by simp [tE], by simp⟩⟩)
    subst er
    rw [filter_tt, List.map_map] at e
    rw [e, List.map_map]
    rfl
  obtain ⟨a', b', e3⟩ := loop2_okT (some (.z, d)) (ky T) T a b fun p hp u hu => ((hrk p hp).2 u hu).1
  have hl60 : (ky T).length ≤ 60 := by rw [List.length_map]; exact Nat.le_trans g.len (by decide)
  have hde : dedL (ky T) = ky T := dedL_of_nodup g.nd
  generalize ky T = ks at e2 e3 hde hl60
  simp [hd', e1, e2, ka, kb, hl60, hde, e3]

theorem init_loopT (s1 : Sl) : ∀ (T2 T1 : Tt) (s2 s3 : Sl), (ky (T1 ++ T2)).Nodup → (∀ p ∈ T2, sOk p.1 = true ∧ p.2.length ≤ 60) → T1.length + T2.length ≤ 1000 → ∃ s2' s3', gLoop (tTupl 2 (tCon (tName 2) (tCon (tName 3) tNil))) (gIPutD 0 "Web" "uppers" (fA oSortSet (fCons (eVar 3) fNil)) (eVar 2)) (T2.map tE)
    [some (mI, .ins "Web" ["uppers"] [upD T1]), s1, s2, s3] = .ok .nx [some (mI, .ins "Web" ["uppers"] [upD (T1 ++ T2)]), s1, s2', s3']
  | [], T1, s2, s3, _, _, _ => ⟨s2, s3, by rw [List.append_nil]; rfl⟩
  | p :: T2, T1, s2, s3, nd, h, hl => by
    have eA : T1 ++ p :: T2 = (T1 ++ [p]) ++ T2 := by simp
    obtain ⟨h1, h2⟩ := h p List.mem_cons_self
    rw [List.length_cons] at hl
    obtain ⟨a, b, ih⟩ := init_loopT s1 T2 (T1 ++ [p]) (some (.z, .str p.1)) (some (.z, tpD p.2)) (by rw [← eA]; exact nd) (fun q hq => h q (List.mem_cons_of_mem _ hq)) (by rw [List.length_append, List.length_singleton]; omega)
    refine ⟨a, b, ?_⟩
    rw [List.map_cons, gLoop_cons, tE_t]
    have hn : p.1 ∉ ky T1 := fun z => by
      have nd' : (ky T1 ++ ky (p :: T2)).Nodup := by rw [← List.map_append]; exact nd
      exact (List.nodup_append.mp nd').2.2 p.1 z p.1 (by simp) rfl
    have e1 := upD_new T1 p hn h1 (by omega)
    have e2 : upD (T1 ++ [p]) = .dct ((T1 ++ [p]).map fun p => D.str p.1) ((T1 ++ [p]).map fun p => lsD (srt p.2)) := rfl
    have e3 : upD T1 = .dct (T1.map fun p => D.str p.1) (T1.map fun p => lsD (srt p.2)) := rfl
    rw [eA]
    rw [e2] at ih
    generalize hK : ((T1 ++ [p]).map fun p => D.str p.1) = K at e1 ih
    generalize hV : ((T1 ++ [p]).map fun p => lsD (srt p.2)) = V at e1 ih
    rw [e3]
    simp [h2, e1, ih]
theorem init_okT {d : D} {T : Tt} (hd : anyL d = some (T.map tE)) (g : Good T) : F_Web___init__ [some (mI, .ins "Web" [] []), some (.z, d)] = .ok .non [some (mI, webD T), none] := by
  unfold F_Web___init__
  rw [fnRun_ap]
  obtain ⟨rk, hrk⟩ := g.rank
  have gl := g.len
  obtain ⟨r1, e1⟩ := look_okT hd g
  obtain ⟨a, b, e2⟩ := init_loopT (some (.z, d)) T [] none none g.nd (fun p hp => ⟨(g.wd _ (List.mem_map.mpr ⟨p, hp, rfl⟩)).ok, (hrk p hp).1⟩) (by rw [List.length_nil]; omega)
  obtain ⟨r3, e3⟩ := lfr_ok g
  rw [List.nil_append] at e2
  have e4 : upD [] = .dct [] [] := rfl
  rw [e4] at e2
  have e5 : setI "uppers" (.dct [] []) ([], []) = some ([("uppers" : Str)], [D.dct [] []]) := rfl
  have e6 := atr_web T
  unfold webD at e6
  simp [e1, e5, hd, e2, fzS, e6, e3, ioEnd, brS_some, thw_cons]
  rfl
end Vm
set_option Elab.async false
set_option linter.all false
set_option maxRecDepth 100000
set_option maxHeartbeats 4000000
namespace Vm
open PySem PySem.Spec PyProof.Rows L2
mutual
theorem eqD_self' : ∀ d : D, plain d = true → eqD d d = true
  | .non, _ => rfl
  | .bl a, _ => by simp
  | .int a, _ => by simp
  | .str a, _ => by simp
  | .tup ds, h => by rw [eqD_tup]; exact eqDs_self' ds (by simpa using h)
  | .lst ds, h => by rw [eqD_lst]; exact eqDs_self' ds (by simpa using h)
  | .dct _ _, h => by cases h
  | .ins _ _ _, h => by cases h
  | .scr _, h => by cases h
theorem eqDs_self' : ∀ ds : List D, plains ds = true → eqDs ds ds = true
  | [], _ => rfl
  | d :: ds, h => by
    have h : plain d = true ∧ plains ds = true := by simpa [plains] using h
    simp [eqD_self' d h.1, eqDs_self' ds h.2]
end
theorem oNe_self {d : D} (h : plain d = true) (hd : dep d ≤ 64) : oNe d d = some (.bl false) := by
  unfold oNe eqOk
  rw [eqD_self' d h, h]
  simp [hd]
theorem plain_tD (p : List Nat × List (List Nat)) : plain (tD p) = true := by
  show plains [.str p.1, lsD p.2] = true
  have := plains_strs p.2
  simp [plains, plain, this]
theorem dep_tD (p : List Nat × List (List Nat)) : dep (tD p) ≤ 4 := by
  have := deps_strs p.2
  simp [tD, dep, deps, this]
theorem ne_ts (T : Tt) : oNe (tsD T) (tsD T) = some (.bl false) := by
  refine oNe_self ?_ ?_
  · show plains (T.map tD) = true
    exact plains_map fun p => plain_tD p
  · have : deps (T.map tD) ≤ 4 := deps_of fun d hd => by
      obtain ⟨p, _, e⟩ := List.mem_map.mp hd
      rw [← e]; exact dep_tD p
    show deps (T.map tD) + 1 ≤ 64
    omega
theorem clean_ts (T : Tt) : clean (tsD T) mH = true := by
  show cleans (T.map tD) (.all mP) = true
  induction T with
  | nil => rfl
  | cons p T ih =>
    show (clean (tD p) mP && cleans (T.map tD) (.all mP)) = true
    rw [ih]
    show ((true && (cleans (p.2.map .str) (.all .z) && true)) && true) = true
    rw [cleans_strs]; rfl
/-- [(name, f(over)) for name, over in ..] -/
theorem pairs_ok (f : List D → Option D) (row row' : List (List Nat) → D) (hl : ∀ xs, lend (row xs) = true ∨ True) (hf : ∀ xs, f [row xs] = some (row' xs)) (s0 s1 s2 s3 s4 : Sl) (T : Tt) :
    gLc [5, 6] (tTupl 2 (tCon (tName 5) (tCon (tName 6) tNil))) ftY (fTup (fCons (eVar 5) (fCons (fA f (fCons (eBor 6) fNil)) fNil))) (T.map fun p => .tup [.str p.1, row p.2]) [s0, s1, s2, s3, s4, none, none] =
      .ok (T.map fun p => .tup [.str p.1, row' p.2]) [s0, s1, s2, s3, s4, none, none] := by
  let g : D → D := fun x => match x with
    | .tup [s, y] => .tup [s, (f [y]).getD .non]
    | _ => .non
  obtain ⟨r', e, er⟩ := gLc_ex (own := [5, 6]) (gt := tTupl 2 (tCon (tName 5) (tCon (tName 6) tNil))) (ft := ftY) (fe := fTup (fCons (eVar 5) (fCons (fA f (fCons (eBor 6) fNil)) fNil))) (ds := T.map fun p => .tup [.str p.1, row p.2]) (r := [s0, s1, s2, s3, s4, none, none]) (fun _ => true) g (fun r => r = [s0, s1, s2, s3, s4, none, none]) rfl
    (fun x hx r er => by
      subst er
      obtain ⟨p, hp, e⟩ := List.mem_map.mp hx
      subst e
      have hg : g (.tup [.str p.1, row p.2]) = .tup [.str p.1, row' p.2] := by
        show D.tup [.str p.1, (f [row p.2]).getD .non] = _
        rw [hf]; rfl
      refine ⟨[s0, s1, s2, s3, s4, some (.z, .str p.1), some (.z, row p.2)], [s0, s1, s2, s3, s4, some (.z, .str p.1), some (.z, row p.2)], by simp, by simp, (fun z => by cases z), fun _ => ⟨[s0, s1, s2, s3, s4, some (.z, .str p.1), some (.z, row p.2)], ?_, by simp⟩⟩
      rw [hg]
      simp [hf])
  subst er
  rw [filter_tt, List.map_map] at e
  rw [e]
  congr 1
  refine List.map_congr_left fun p _ => ?_
  show D.tup [.str p.1, (f [row p.2]).getD .non] = _
  rw [hf]; rfl
end Vm
set_option Elab.async false
set_option linter.all false
set_option maxRecDepth 100000
set_option maxHeartbeats 4000000
namespace Vm
open PySem PySem.Spec PyProof.Rows L2
theorem clean_tE (T : Tt) : clean (.lst (T.map tE)) mH = true := by
  show cleans (T.map tE) (.all mP) = true
  induction T with
  | nil => rfl
  | cons p T ih =>
    show (clean (tE p) mP && cleans (T.map tE) (.all mP)) = true
    rw [ih]
    show ((true && (cleans (p.2.map .str) (.all .z) && true)) && true) = true
    rw [cleans_strs]; rfl
theorem msO_ap (i j : Nat) : msO i j = (j == i) := rfl
theorem msU_ap (a b : Ms) (i : Nat) : msU a b i = (a i || b i) := rfl
theorem ms0_ap (i : Nat) : ms0 i = false := rfl
theorem lst_len {T : Tt} (g : Good T) : ((ky T).map D.str).length < 16777216 := by
  have := g.len
  rw [List.length_map, List.length_map]; omega

theorem law_l (ns : List Int) {T : Tt} {r1 : En} (e1 : F__law_tuples [some (.z, .scr ns)] = .ok (tsD T) r1) (g : Good T) {a : Int} {ra : En} (ea : F__law_pick [some (.z, .scr ns), some (.z, .int 0)] = .ok (.int a) ra) (hdv : divOk a 50 = true) (hc : ¬ a / 50 % 2 = 1) : ∃ r, F_law [some (.z, .scr ns)] = .ok (.bl true) r := by
  unfold F_law
  rw [fnRun_ap]
  have hany : anyL (tsD T) = some (T.map tD) := rfl
  have e2 := pairs_ok oListA lsD lsD (fun _ => .inl rfl) (fun _ => rfl) (some (.z, .scr ns)) (some (.z, tsD T)) none none none T
  have e2t := pairs_ok oTupleL lsD tpD (fun _ => .inl rfl) (fun _ => rfl) (some (.z, .scr ns)) (some (.z, tsD T)) (some (mH, tsD T)) none none T
  have e3 := pairs_ok oListA lsD lsD (fun _ => .inr trivial) (fun _ => rfl) (some (.z, .scr ns)) (some (.z, tsD T)) (some (.z, (tsD T))) none none T
  have e4 := pairs_ok oListA lsD lsD (fun _ => .inr trivial) (fun _ => rfl) (some (.z, .scr ns)) (some (.z, tsD T)) (some (.z, (tsD T))) (some (mH, tsD T)) (some (.z, webD T)) T
  have q1 : (T.map fun p => D.tup [.str p.1, lsD p.2]) = T.map tD := rfl
  have q2 : (T.map fun p => D.tup [.str p.1, tpD p.2]) = T.map tE := rfl
  rw [q1] at e2 e2t
  rw [q2] at e2t
  rw [q1] at e3 e4
  have i1 := init_ok (d := (tsD T)) (T := T) rfl g
  have i2 := init_ok (d := .tup (T.map tD)) (T := T) rfl g
  obtain ⟨r3, e5⟩ := told_ok g
  obtain ⟨r4, e6⟩ := wnames_ok T
  have hi1 : isIns "Web" "names" (webD T) = true := isIns_web "names" (by decide)
  have hi2 : isIns "Web" "over" (webD T) = true := isIns_web "over" (by decide)
  have cw := clean_web T
  have ct := clean_ts T
  have ne := ne_ts T
  have hts : D.lst (T.map tD) = tsD T := rfl
  have hlen := lst_len g
  have hm50 : a / 50 % 2 = 1 ∨ a / 50 % 2 = 0 := by omega
  have htk : ∀ (X : Sl), ∃ r', gTake 5 6 (fIf (fB (fIsiO .list 6)) (gSeq (gMt0 6 fun ds => some ds.reverse) (gMt 6 .z appO (eC (.str [122, 122])))) gNx) (T.map tD) [some (.z, .scr ns), some (.z, tsD T), none, X, some (mI, webD T), none, none] = .ok .nx r' ∧ ∃ b c, r' = [some (.z, .scr ns), some (.z, tsD T), none, X, some (mI, webD T), b, c] := fun X => by
    refine gTake_go (fun r => ∃ b c, r = [some (.z, .scr ns), some (.z, tsD T), none, X, some (mI, webD T), b, c]) _ _ ⟨_, _, rfl⟩ fun d hd => ?_
    obtain ⟨p, hp, e⟩ := List.mem_map.mp hd
    refine ⟨.str p.1, lsD p.2, by rw [← e]; rfl, fun r hr => ?_⟩
    obtain ⟨b, c, er⟩ := hr
    subst er
    obtain ⟨rk, hrk⟩ := g.rank
    have h60 := (hrk p hp).1
    have hl : ((p.2.map D.str).reverse).length < 16777216 := by rw [List.length_reverse, List.length_map]; omega
    refine ⟨[some (.z, .scr ns), some (.z, tsD T), none, X, some (mI, webD T), some (.z, .str p.1), some (m1, .lst ((p.2.map D.str).reverse ++ [.str [122, 122]]))], ?_, _, _, rfl⟩
    have hl2 : p.2.length < 16777216 := by omega
    have hi : isT .list (lsD p.2) = some true := rfl
    simp [hi, appO, hl2]
  have hov : ∀ (X Y b c : Sl), ∃ r', gLoop (tTupl 2 (tCon (tName 5) (tCon (tName 6) tNil))) (gTmp (fCall F_Web_over (none :: [none]) (fMeth "Web" "over" (eVar 4) (fCons (eVar 5) fNil)))) (T.map tD) [some (.z, .scr ns), some (.z, tsD T), Y, X, some (.z, webD T), b, c] = .ok .nx r' ∧ ∃ b c, r' = [some (.z, .scr ns), some (.z, tsD T), Y, X, some (.z, webD T), b, c] := fun X Y b c => by
    refine gLoop_go (fun r => ∃ b c, r = [some (.z, .scr ns), some (.z, tsD T), Y, X, some (.z, webD T), b, c]) _ (fun d hd r hr => ?_) _ ⟨b, c, rfl⟩
    obtain ⟨p, hp, e⟩ := List.mem_map.mp hd
    subst e
    obtain ⟨b, c, er⟩ := hr
    subst er
    have hk : p.1 ∈ ky T := List.mem_map.mpr ⟨p, hp, rfl⟩
    obtain ⟨rk, hrk⟩ := g.rank
    have h60 := (hrk p hp).1
    obtain ⟨r4, e4⟩ := over_ok hk (g.wd _ hk).ok
    rw [ov_of g.nd hp] at e4
    have hsl : (srt p.2).length ≤ 60 := by
      rw [(srt_perm _).length_eq]
      exact Nat.le_trans (dedL_len _) h60
    have hl : (srt p.2).length < 16777216 := by omega
    refine ⟨[some (.z, .scr ns), some (.z, tsD T), Y, X, some (.z, webD T), some (.z, .str p.1), some (.z, lsD p.2)], .nx, [some (.z, .scr ns), some (.z, tsD T), Y, X, some (.z, webD T), some (.z, .str p.1), some (.z, lsD p.2)], by rw [tD_t]; simp, ?_, .inl rfl, _, _, rfl⟩
    simp [hi2, e4, hl]
  generalize hX : thS false (some (mH, tsD T)) (thS false (some (mH, tsD T)) (some (.z, tsD T))) = X
  obtain ⟨r6, e7, b, c, er⟩ := htk X
  subst er
  obtain ⟨r7, e8, b', c', er⟩ := hov X (some (m1, .lst [])) b c
  subst er
  have hlk : (ky T).length < 16777216 := by have := g.len; rw [List.length_map]; omega
  generalize hk : ky T = ks at e6 hlen hlk
  have hal : asLst (tsD T) = some (T.map tD) := rfl
  have hot : oTuple [tsD T] = some (.tup (T.map tD)) := rfl
  have hkS : ∀ gb r, tkS 2 5 6 gb r (some (mH, tsD T)) = (gTake 5 6 gb (T.map tD) (r.set 2 none)).bind (tkE 2) := fun _ _ => rfl
  simp [hot, hkS, msO_ap, msU_ap, ms0_ap, hal, e1, hany, e2, ea, hdv, hc, e2t, brS_some, e3, thw_cons, thS_clean, ct, cw, ct, i1, hts, e4, ne, e5, hX, e7, hi1, e6, hlk, e8, i2]

theorem law_t (ns : List Int) {T : Tt} {r1 : En} (e1 : F__law_tuples [some (.z, .scr ns)] = .ok (tsD T) r1) (g : Good T) {a : Int} {ra : En} (ea : F__law_pick [some (.z, .scr ns), some (.z, .int 0)] = .ok (.int a) ra) (hdv : divOk a 50 = true) (hc : a / 50 % 2 = 1) : ∃ r, F_law [some (.z, .scr ns)] = .ok (.bl true) r := by
  unfold F_law
  rw [fnRun_ap]
  have hany : anyL (tsD T) = some (T.map tD) := rfl
  have e2 := pairs_ok oListA lsD lsD (fun _ => .inl rfl) (fun _ => rfl) (some (.z, .scr ns)) (some (.z, tsD T)) none none none T
  have e2t := pairs_ok oTupleL lsD tpD (fun _ => .inl rfl) (fun _ => rfl) (some (.z, .scr ns)) (some (.z, tsD T)) (some (mH, tsD T)) none none T
  have e3 := pairs_ok oListA tpD lsD (fun _ => .inr trivial) (fun _ => rfl) (some (.z, .scr ns)) (some (.z, tsD T)) (some (.z, (.lst (T.map tE)))) none none T
  have e4 := pairs_ok oListA tpD lsD (fun _ => .inr trivial) (fun _ => rfl) (some (.z, .scr ns)) (some (.z, tsD T)) (some (.z, (.lst (T.map tE)))) (some (mH, tsD T)) (some (.z, webD T)) T
  have q1 : (T.map fun p => D.tup [.str p.1, lsD p.2]) = T.map tD := rfl
  have q2 : (T.map fun p => D.tup [.str p.1, tpD p.2]) = T.map tE := rfl
  rw [q1] at e2 e2t
  rw [q2] at e2t
  rw [q2] at e3 e4
  rw [q1] at e3 e4
  have i1 := init_okT (d := (.lst (T.map tE))) (T := T) rfl g
  have i2 := init_ok (d := .tup (T.map tD)) (T := T) rfl g
  obtain ⟨r3, e5⟩ := told_ok g
  obtain ⟨r4, e6⟩ := wnames_ok T
  have hi1 : isIns "Web" "names" (webD T) = true := isIns_web "names" (by decide)
  have hi2 : isIns "Web" "over" (webD T) = true := isIns_web "over" (by decide)
  have cw := clean_web T
  have ct := clean_ts T
  have ne := ne_ts T
  have hts : D.lst (T.map tD) = tsD T := rfl
  have hlen := lst_len g
  have hm50 : a / 50 % 2 = 1 ∨ a / 50 % 2 = 0 := by omega
  have htk : ∀ (X : Sl), ∃ r', gTake 5 6 (fIf (fB (fIsiO .list 6)) (gSeq (gMt0 6 fun ds => some ds.reverse) (gMt 6 .z appO (eC (.str [122, 122])))) gNx) (T.map tE) [some (.z, .scr ns), some (.z, tsD T), none, X, some (mI, webD T), none, none] = .ok .nx r' ∧ ∃ b c, r' = [some (.z, .scr ns), some (.z, tsD T), none, X, some (mI, webD T), b, c] := fun X => by
    refine gTake_go (fun r => ∃ b c, r = [some (.z, .scr ns), some (.z, tsD T), none, X, some (mI, webD T), b, c]) _ _ ⟨_, _, rfl⟩ fun d hd => ?_
    obtain ⟨p, hp, e⟩ := List.mem_map.mp hd
    refine ⟨.str p.1, tpD p.2, by rw [← e]; rfl, fun r hr => ?_⟩
    obtain ⟨b, c, er⟩ := hr
    subst er
    obtain ⟨rk, hrk⟩ := g.rank
    have h60 := (hrk p hp).1
    refine ⟨[some (.z, .scr ns), some (.z, tsD T), none, X, some (mI, webD T), some (.z, .str p.1), some (m1, tpD p.2)], ?_, _, _, rfl⟩
    have hi : isT .list (tpD p.2) = some false := rfl
    simp [hi]
  have hov : ∀ (X Y b c : Sl), ∃ r', gLoop (tTupl 2 (tCon (tName 5) (tCon (tName 6) tNil))) (gTmp (fCall F_Web_over (none :: [none]) (fMeth "Web" "over" (eVar 4) (fCons (eVar 5) fNil)))) (T.map tD) [some (.z, .scr ns), some (.z, tsD T), Y, X, some (.z, webD T), b, c] = .ok .nx r' ∧ ∃ b c, r' = [some (.z, .scr ns), some (.z, tsD T), Y, X, some (.z, webD T), b, c] := fun X Y b c => by
    refine gLoop_go (fun r => ∃ b c, r = [some (.z, .scr ns), some (.z, tsD T), Y, X, some (.z, webD T), b, c]) _ (fun d hd r hr => ?_) _ ⟨b, c, rfl⟩
    obtain ⟨p, hp, e⟩ := List.mem_map.mp hd
    subst e
    obtain ⟨b, c, er⟩ := hr
    subst er
    have hk : p.1 ∈ ky T := List.mem_map.mpr ⟨p, hp, rfl⟩
    obtain ⟨rk, hrk⟩ := g.rank
    have h60 := (hrk p hp).1
    obtain ⟨r4, e4⟩ := over_ok hk (g.wd _ hk).ok
    rw [ov_of g.nd hp] at e4
    have hsl : (srt p.2).length ≤ 60 := by
      rw [(srt_perm _).length_eq]
      exact Nat.le_trans (dedL_len _) h60
    have hl : (srt p.2).length < 16777216 := by omega
    refine ⟨[some (.z, .scr ns), some (.z, tsD T), Y, X, some (.z, webD T), some (.z, .str p.1), some (.z, lsD p.2)], .nx, [some (.z, .scr ns), some (.z, tsD T), Y, X, some (.z, webD T), some (.z, .str p.1), some (.z, lsD p.2)], by rw [tD_t]; simp, ?_, .inl rfl, _, _, rfl⟩
    simp [hi2, e4, hl]
  generalize hX : thS false (some (mH, tsD T)) (thS false (some (mH, tsD T)) (some (.z, tsD T))) = X
  obtain ⟨r6, e7, b, c, er⟩ := htk X
  subst er
  obtain ⟨r7, e8, b', c', er⟩ := hov X (some (m1, .lst [])) b c
  subst er
  have hlk : (ky T).length < 16777216 := by have := g.len; rw [List.length_map]; omega
  generalize hk : ky T = ks at e6 hlen hlk
  have hal : asLst (tsD T) = some (T.map tD) := rfl
  have hot : oTuple [tsD T] = some (.tup (T.map tD)) := rfl
  have hkS : ∀ gb r, tkS 2 5 6 gb r (some (mH, tsD T)) = (gTake 5 6 gb (T.map tD) (r.set 2 none)).bind (tkE 2) := fun _ _ => rfl
  simp [hot, hkS, msO_ap, msU_ap, ms0_ap, hal, e1, hany, e2, ea, hdv, hc, e2t, brS_some, e3, thw_cons, thS_clean, ct, cw, clean_tE T, i1, hts, e4, ne, e5, hX, e7, hi1, e6, hlk, e8, i2]

theorem pure_law (ns : List Int) (h1 : ns.length ≤ 63) (h2 : ∀ z ∈ ns, Builtin.Int.intBits z ≤ 1048576) : ∃ r, F_law [some (.z, .scr ns)] = .ok (.bl true) r := by
  obtain ⟨T, r1, e1, g⟩ := tuples_ok ns h1
  obtain ⟨a, ra, ea⟩ := pick_ok ns h1 0
  have hd : divOk a 50 = true := divOk_s _ _ (by omega) (by omega)
  by_cases c : a / 50 % 2 = 1
  · exact law_t ns e1 g ea hd c
  · exact law_l ns e1 g ea hd c
end Vm
set_option Elab.async false
set_option linter.all false
set_option maxRecDepth 100000
set_option maxHeartbeats 0
namespace Vm
open PySem PySem.Spec PyProof.Rows L2
abbrev rwO : PySem.W.OpenRow := PySem.W.OpenLaw.row PySem.Challenge.rw_fitmost_k12_webs_told
def nmL0 : List PySem.Str := ["_wall", "FitError", "NoName", "Taken", "NoKind", "Ring", "LETTERS", "MOST_LETTERS", "OTHER_WORDS", "is_name", "look_at_names", "in_rings", "look_for_rings", "Web", "_law_pick", "_law_word", "_law_number", "_law_names", "_law_overs", "_law_tuples", "_law_told"]
abbrev nmL : List PySem.Str := nmL0
def obL (s : PySem.W.SharedT) : AlV := obsV 5 faL fnL csL (HandSHeadRun.getT s)
theorem obL_eq (s : PySem.W.SharedT) : obL s = (hookV 5 faL fnL csL).obs s.abs := obsV_eq (HandSHeadRun.getT_eq s)
theorem runL (w : World) : HandSHeadRun.RunEq rwO (PySem.W.view rwO.prog [25]) (hookV 5 faL fnL csL) obL 6000 nmL w := by
  intro os
  kernel_rfl
end Vm
open PySem PySem.W PySem.Calls PyProof.Rows
theorem PySem.Challenge.cw_fitmost_k12_webs_told_holds : PySem.Challenge.rw_fitmost_k12_webs_told.Holds := by
  w_on; o_law
  refine HandSHeadRun.head_any (r := OpenLaw.row PySem.Challenge.rw_fitmost_k12_webs_told) (q := view (OpenLaw.row PySem.Challenge.rw_fitmost_k12_webs_told).prog [25]) (H := Vm.hookV 5 Vm.faL Vm.fnL Vm.csL) (ob := Vm.obL) (M := 6000) (loose := Vm.nmL) (d := HandSHeadRun.topDef (OpenLaw.row PySem.Challenge.rw_fitmost_k12_webs_told).prog 25) (kwd := []) Vm.obL_eq
    (by kernel_rfl) (fun s => by kernel_rfl) Vm.runL (by kernel_rfl) (by kernel_rfl) (by kernel_rfl) (by rfl) (by first | assumption | decide +kernel) (by decide +kernel) ⟨rfl, rfl, rfl, rfl, rfl, by decide +kernel⟩ ?hw ?hc
  case hw => w_witness2
  case hc => exact Vm.lawEnd (l := PySem.Challenge.rw_fitmost_k12_webs_told) (n := 63) (k := 5) (x := "_law_script") rfl (by decide) (by kernel_rfl) ⟨rfl, by decide, by decide⟩ Vm.F_law (by kernel_rfl) (fun G _ Y => Vm.ok_law Y) Vm.pure_law
