import PyProof.Rows.All
import Wide.All
import OpenK.AllK
import Wide.FinOn
import HandS.ForMost
import HandS.ForExc
import HandS.HotCalls
import HandS.ExcIs
import HandS.ExcInit
import KE.KeyNested
import HandS.TupAny
import HandS.TupLe
import HandS.Style
import HandS.Deep
import HandS.IsInst
import HandS.Wide
import HandS.Defaults
import HandS.Iter
import HandS.Zip
import HandS.Rev
import HandS.HeadHook1
import HandS.HeadHook2
import HandS.EndBits
import HandS.Head2
import KE.SortData
import KE.DataMinMax
import KE.KRevIter
import PyProof.CollectIter
import PyProof.Draws
import PyProof.EnumMake
import PyProof.WalksMore
import HandS.Dict
import HandS.Set
import HandS.Strs
import HandS.More
import HandS.Replace
import HandS.TupSets
import HandS.RevTup
import HandS.Conv
import HandS.ExcInitHot
import HandS.ClsMeth
import HandS.ExcField
import PyProof.ZipIter
import PyProof.EnumIter
import PyProof.ReprRoads
import KE.KDictWalk
import KE.KDictDisplayH
import HandS.TupMul
import HandS.ExcValue
import PySem.Challenge.RW_fitmost_k17_refusals_by_hand
set_option Elab.async false
set_option linter.all false
set_option maxRecDepth 100000
set_option maxHeartbeats 4000000
/-! Values as plain data, and how they lie in the heap: frozen data, owned trees, slots, steps. -/
namespace Vm
open PySem PySem.Spec PyProof.Rows L2

/-! ### plain data -/
inductive D where
  | non | bl (b : Bool) | int (i : Int) | str (s : List Nat)
  | tup (xs : List D) | lst (xs : List D) | dct (ks vs : List D)
  /-- a dictionary by nested tuples -/
  | dnt (ks vs : List D)
  | ins (c : Str) (ns : List Str) (vs : List D)
  /-- the script -/
  | scr (ns : List Int)
  /-- an exception that is held -/
  | exn (c : Str) (ns : List Str) (vs : List D)
  /-- a thing of which nothing is known -/
  | unk
  deriving Inhabited

abbrev NK := NestedKey
/-! keys of data -/
mutual
def nkD : D → Option NK
  | .non => some .none
  | .bl b => some (.num (if b = true then 1 else 0))
  | .int i => some (.num i)
  | .str s => some (.text ⟨s.toArray⟩)
  | .tup ds => (nkDs ds).map .tup
  | _ => none
def nkDs : List D → Option (List NK)
  | [] => some []
  | d :: ds => (nkD d).bind fun k => (nkDs ds).map (k :: ·)
end
/-- the key of a tuple that is not nested too deep -/
def tkD (d : D) : Option NK := match d with
  | .tup _ => (nkD d).bind fun k => if k.depth ≤ 8 then some k else none
  | _ => none
def tkDs : List D → Option (List NK)
  | [] => some []
  | d :: ds => (tkD d).bind fun k => (tkDs ds).map (k :: ·)
mutual
/-- how deep a value is owned: not at all, or its node with its children -/
inductive Md where
  | z
  | o (k : Kd)
  /-- the node is frozen, the children are owned -/
  | f (k : Kd)
  /-- the node with all within -/
  | t
inductive Kd where
  | all (m : Md)
  | one (m : Md) (k : Kd)
end
def Kd.hd : Kd → Md
  | .all m => m
  | .one m _ => m
def Kd.tl : Kd → Kd
  | .all m => .all m
  | .one _ k => k
/-- a node of its own, its children frozen -/
abbrev m1 : Md := .o (.all .z)

abbrev Sl := Option (Md × D)
abbrev En := List Sl
inductive Res (α : Type) where
  | ok (a : α) (r : En)
  | exc (c : Str) (ns : List Str) (vs : List D) (r : En)
  | bad
abbrev M (α : Type) := En → Res α
def Res.bind {α β : Type} (x : Res α) (f : α → M β) : Res β := match x with
  | .ok a r => f a r
  | .exc c ns vs r => .exc c ns vs r
  | .bad => .bad
@[simp] theorem bind_ok {α β : Type} (a : α) (r : En) (f : α → M β) : (Res.ok a r).bind f = f a r := rfl
@[simp] theorem bind_exc {α β : Type} (c : Str) (ns : List Str) (vs : List D) (r : En) (f : α → M β) : (Res.exc c ns vs r : Res α).bind f = .exc c ns vs r := rfl
@[simp] theorem bind_bad {α β : Type} (f : α → M β) : (Res.bad : Res α).bind f = .bad := rfl
abbrev getS (r : En) (i : Nat) : Sl := r.getD i none

/-- which slots may be changed -/
abbrev Ms := Nat → Bool
abbrev ms0 : Ms := fun _ => false
abbrev msA : Ms := fun _ => true
abbrev msU (a b : Ms) : Ms := fun i => a i || b i
abbrev msO (i : Nat) : Ms := fun j => j == i
/-- the slots that are lent -/
def lentM (ls : List (Option Nat)) : Ms := fun i => ls.any fun l => l == some i

/-! ### frozen data in the heap -/
def kD : Key → D
  | .inl i => .int i
  | .inr x => .str x.cps.toList
abbrev sV (s : List Nat) : V := .str ⟨s.toArray⟩
def sOk (s : List Nat) : Bool := decide (s.length ≤ 16777216) && s.all (fun c => decide (c < 1114112))
/-- the texts of a key are of a fit size -/
def kOk : Key → Bool
  | .inl _ => true
  | .inr x => sOk x.cps.toList
def DctAt (H : Hp) (a : Addr) (ks : List D) (vs : List V) : Prop :=
  ∃ kvs : List (Key × V), Rd H a (.dK kvs) ∧ (kvs.all fun p => kOk p.1) = true ∧ ks = kvs.map (fun p => kD p.1) ∧ vs = kvs.map (·.2)
def DctOw (H : Hp) (a : Addr) (ks : List D) (vs : List V) : Prop :=
  ∃ kvs : List (Key × V), H a = some (.dK kvs) ∧ (kvs.all fun p => kOk p.1) = true ∧ ks = kvs.map (fun p => kD p.1) ∧ vs = kvs.map (·.2)
/-- a dictionary by nested tuples at a: for each entry its key, the key's address, what stands there -/
def NdP (w : World) (a : Addr) (L : List (NK × Addr × V)) : Heap → Prop := fun h => L.length ≤ sizeLine ∧ (a == sysModules) = false ∧ ∃ xs : List (NK × Addr × Value),
  Paired (fun (p : NK × Addr × V) (q : NK × Addr × Value) => p.1 = q.1 ∧ p.2.1 = q.2.1 ∧ RelV p.2.2 q.2.2) L xs ∧
  ∃ o es ep, h.get? a = some o ∧ o.ExactDict ∧ o.data = .dict es ep ∧ es.toList = xs.map (fun x => (⟨x.1.hash w, .ref x.2.1, x.2.2⟩ : DictEntry)) ∧ (xs.map (·.1)).Nodup
def DntAt (w : World) (H : Hp) (a : Addr) (ks : List D) (bs vs : List V) : Prop :=
  ∃ L : List (NK × Addr × V), Rd H a (.ext (NdP w a L)) ∧ tkDs ks = some (L.map (·.1)) ∧ bs = L.map (fun p => V.ref p.2.1) ∧ vs = L.map (·.2.2)
def DntOw (w : World) (H : Hp) (a : Addr) (ks : List D) (bs vs : List V) : Prop :=
  ∃ L : List (NK × Addr × V), H a = some (.ext (NdP w a L)) ∧ tkDs ks = some (L.map (·.1)) ∧ bs = L.map (fun p => V.ref p.2.1) ∧ vs = L.map (·.2.2)
/-- the module's names; the exception that is handled; the world -/
structure MG where
  m : Str → Option Value
  hx : Option Addr
  w : World
instance : CoeFun MG (fun _ => Str → Option Value) := ⟨MG.m⟩
/-- an exception that is held: its class, its own attributes -/
def XnAt (mg : MG) (H : Hp) (a : Addr) (c : Str) (ns : List Str) (vs : List V) : Prop :=
  ∃ C oe, mg.m c = some (.ref C) ∧ H a = some (.frz oe (.own a)) ∧ oe.cls = .ref C ∧ (∃ fv : Array Value, oe.data = .fields fv ∧ fv[2]? = some .none) ∧ ((ns = [] ∧ vs = [] ∧ oe.dict = none) ∨ ∃ p fs, oe.dict = some p ∧ H p = some (.xd fs) ∧ fs.map (·.1) = ns ∧ fs.map (·.2) = vs)
theorem XnAt.mono {mg : MG} {H H' : Hp} {a : Addr} {c : Str} {ns : List Str} {vs : List V} (s : Same H H') (h : XnAt mg H a c ns vs) : XnAt mg H' a c ns vs := by
  obtain ⟨C, oe, h1, h2, h3, h4, h5⟩ := h
  exact ⟨C, oe, h1, s _ _ h2, h3, h4, h5.imp id fun ⟨p, fs, e1, e2, e3⟩ => ⟨p, fs, e1, s _ _ e2, e3⟩⟩
section
variable (K : PySem.W.Frag) (mg : MG)
mutual
def Fz (H : Hp) : D → V → Prop
  | .unk, v => ∃ a, v = .ref a
  | .non, v => v = .non
  | .bl b, v => v = .bl b
  | .int i, v => v = .int i
  | .str s, v => v = sV s ∧ sOk s = true
  | .scr ns, v => ∃ a, v = .ref a ∧ SqL K H a (ns.map V.int)
  | .exn c ns ds, v => ∃ a vs, v = .ref a ∧ XnAt mg H a c ns vs ∧ Fzs H ds vs
  | .tup ds, v => ∃ a vs, v = .ref a ∧ SqT K H a vs ∧ Fzs H ds vs
  | .lst ds, v => ∃ a vs, v = .ref a ∧ H a = some (.lst vs) ∧ Fzs H ds vs
  | .dct ks ds, v => ∃ a vs, v = .ref a ∧ DctAt H a ks vs ∧ Fzs H ds vs
  | .dnt ks ds, v => ∃ a bs vs, v = .ref a ∧ DntAt mg.w H a ks bs vs ∧ Fzs H ks bs ∧ Fzs H ds vs
  | .ins c ns ds, v => ∃ a C dx vs, v = .ref a ∧ mg c = some (.ref C) ∧ H a = some (.ins C dx (ns.zip vs)) ∧ ns.length = ds.length ∧ Fzs H ds vs
def Fzs (H : Hp) : List D → List V → Prop
  | [], vs => vs = []
  | d :: ds, vs => ∃ v r, vs = v :: r ∧ Fz H d v ∧ Fzs H ds r
end
/-- the node is read in H, what is within is frozen in H0 -/
def Sh (H0 H : Hp) : D → V → Prop
  | .lst ds, v => ∃ a vs, v = .ref a ∧ H a = some (.lst vs) ∧ Fzs K mg H0 ds vs
  | .scr ns, v => ∃ a, v = .ref a ∧ SqL K H a (ns.map V.int)
  | .dct ks ds, v => ∃ a vs, v = .ref a ∧ DctAt H a ks vs ∧ Fzs K mg H0 ds vs
  | .dnt ks ds, v => ∃ a bs vs, v = .ref a ∧ DntAt mg.w H a ks bs vs ∧ Fzs K mg H0 ks bs ∧ Fzs K mg H0 ds vs
  | .ins c ns ds, v => ∃ a C dx vs, v = .ref a ∧ mg c = some (.ref C) ∧ H a = some (.ins C dx (ns.zip vs)) ∧ ns.length = ds.length ∧ Fzs K mg H0 ds vs
  | d, v => Fz K mg H0 d v
mutual
/-- an owned tree: its nodes' addresses at fp -/
def Ow (H0 H : Hp) : D → Md → V → List Addr → Prop
  | d, .z, v, fp => fp = [] ∧ Fz K mg H0 d v
  | .lst ds, .o k, v, fp => ∃ a vs g, v = .ref a ∧ H a = some (.lst vs) ∧ fp = a :: g ∧ Ows H0 H ds k vs g
  | .lst ds, .t, v, fp => ∃ a vs g, v = .ref a ∧ H a = some (.lst vs) ∧ fp = a :: g ∧ Ows H0 H ds (.all .t) vs g
  | .tup ds, .o k, v, fp => ∃ a vs g, v = .ref a ∧ H a = some (.tup vs) ∧ fp = a :: g ∧ Ows H0 H ds k vs g
  | .tup ds, .t, v, fp => ∃ a vs g, v = .ref a ∧ H a = some (.tup vs) ∧ fp = a :: g ∧ Ows H0 H ds (.all .t) vs g
  | .dct ks ds, .o k, v, fp => ∃ a vs g, v = .ref a ∧ fp = a :: g ∧ DctOw H a ks vs ∧ Ows H0 H ds k vs g
  | .dct ks ds, .t, v, fp => ∃ a vs g, v = .ref a ∧ fp = a :: g ∧ DctOw H a ks vs ∧ Ows H0 H ds (.all .t) vs g
  | .dnt ks ds, .o k, v, fp => ∃ a bs vs g, v = .ref a ∧ fp = a :: g ∧ DntOw mg.w H a ks bs vs ∧ Fzs K mg H0 ks bs ∧ Ows H0 H ds k vs g
  | .dnt ks ds, .t, v, fp => ∃ a bs vs g, v = .ref a ∧ fp = a :: g ∧ DntOw mg.w H a ks bs vs ∧ Fzs K mg H0 ks bs ∧ Ows H0 H ds (.all .t) vs g
  | .ins c ns ds, .o k, v, fp => ∃ a C dx vs g, v = .ref a ∧ fp = a :: g ∧ mg c = some (.ref C) ∧ H a = some (.ins C dx (ns.zip vs)) ∧ ns.length = ds.length ∧ Ows H0 H ds k vs g
  | .ins c ns ds, .t, v, fp => ∃ a C dx vs g, v = .ref a ∧ fp = a :: g ∧ mg c = some (.ref C) ∧ H a = some (.ins C dx (ns.zip vs)) ∧ ns.length = ds.length ∧ Ows H0 H ds (.all .t) vs g
  | .non, .o _, v, fp => fp = [] ∧ v = .non
  | .non, .t, v, fp => fp = [] ∧ v = .non
  | .bl b, .o _, v, fp => fp = [] ∧ v = .bl b
  | .bl b, .t, v, fp => fp = [] ∧ v = .bl b
  | .int i, .o _, v, fp => fp = [] ∧ v = .int i
  | .int i, .t, v, fp => fp = [] ∧ v = .int i
  | .str s, .o _, v, fp => fp = [] ∧ v = sV s ∧ sOk s = true
  | .str s, .t, v, fp => fp = [] ∧ v = sV s ∧ sOk s = true
  | .unk, .o _, v, fp => fp = [] ∧ ∃ a, v = .ref a
  | .unk, .t, v, fp => fp = [] ∧ ∃ a, v = .ref a
  | .scr ns, .o _, v, fp => False
  | .scr ns, .t, v, fp => False
  | .exn _ _ _, .o _, v, fp => False
  | .exn _ _ _, .t, v, fp => False
  | .lst ds, .f k, v, fp => ∃ a vs, v = .ref a ∧ H0 a = some (.lst vs) ∧ Ows H0 H ds k vs fp
  | .tup ds, .f k, v, fp => ∃ a vs, v = .ref a ∧ H0 a = some (.tup vs) ∧ Ows H0 H ds k vs fp
  | .dct ks ds, .f k, v, fp => ∃ a vs, v = .ref a ∧ DctAt H0 a ks vs ∧ Ows H0 H ds k vs fp
  | .dnt ks ds, .f k, v, fp => ∃ a bs vs, v = .ref a ∧ DntAt mg.w H0 a ks bs vs ∧ Fzs K mg H0 ks bs ∧ Ows H0 H ds k vs fp
  | .ins c ns ds, .f k, v, fp => ∃ a C dx vs, v = .ref a ∧ mg c = some (.ref C) ∧ H0 a = some (.ins C dx (ns.zip vs)) ∧ ns.length = ds.length ∧ Ows H0 H ds k vs fp
  | .non, .f _, v, fp => fp = [] ∧ v = .non
  | .bl b, .f _, v, fp => fp = [] ∧ v = .bl b
  | .int i, .f _, v, fp => fp = [] ∧ v = .int i
  | .str s, .f _, v, fp => fp = [] ∧ v = sV s ∧ sOk s = true
  | .unk, .f _, v, fp => fp = [] ∧ ∃ a, v = .ref a
  | .scr ns, .f _, v, fp => False
  | .exn _ _ _, .f _, v, fp => False
def Ows (H0 H : Hp) : List D → Kd → List V → List Addr → Prop
  | [], _, vs, fp => vs = [] ∧ fp = []
  | d :: ds, k, vs, fp => ∃ v r f g, vs = v :: r ∧ fp = f ++ g ∧ Ow H0 H d k.hd v f ∧ Ows H0 H ds k.tl r g
end
end
/-! ### they stay -/
def ext (H0 H : Hp) (fp : List Addr) : Hp := fun a => if a ∈ fp then H a else H0 a
theorem ext_in {H0 H : Hp} {fp : List Addr} {a : Addr} (h : a ∈ fp) : ext H0 H fp a = H a := by unfold ext; rw [if_pos h]
theorem ext_out {H0 H : Hp} {fp : List Addr} {a : Addr} (h : a ∉ fp) : ext H0 H fp a = H0 a := by unfold ext; rw [if_neg h]
theorem ext_nil {H0 H : Hp} : ext H0 H [] = H0 := by funext a; exact ext_out (by simp)
theorem same_ext {H0 H : Hp} {fp : List Addr} (s : Same H0 H) : Same H0 (ext H0 H fp) := fun a o e => by
  by_cases h : a ∈ fp
  · rw [ext_in h]; exact s a o e
  · rw [ext_out h]; exact e
theorem ext_same {H0 H : Hp} {fp : List Addr} (s : Same H0 H) : Same (ext H0 H fp) H := fun a o e => by
  by_cases h : a ∈ fp
  · rw [ext_in h] at e; exact e
  · rw [ext_out h] at e; exact s a o e
theorem ext_mono {H0 H : Hp} {fp g : List Addr} (s : Same H0 H) (h : ∀ a ∈ g, a ∈ fp) : Same (ext H0 H g) (ext H0 H fp) := fun a o e => by
  by_cases k : a ∈ fp
  · rw [ext_in k]; exact ext_same s a o e
  · rw [ext_out k]; rw [ext_out (fun z => k (h a z))] at e; exact e
section
variable {K : PySem.W.Frag} {mg : MG} {H H' H0 H0' : Hp}
theorem same_rd {a : Addr} {u : HO} (s : Same H H') (h : Rd H a u) : Rd H' a u := by
  rcases h with h | ⟨o, h⟩
  · exact .inl (s _ _ h)
  · exact .inr ⟨o, s _ _ h⟩
theorem same_t {a : Addr} {xs : List V} (s : Same H H') (h : SqT K H a xs) : SqT K H' a xs := by
  rcases h with h | h
  · exact .inl (same_rd s h)
  · exact .inr h
theorem same_d {a : Addr} {ks : List D} {vs : List V} (s : Same H H') (h : DctAt H a ks vs) : DctAt H' a ks vs := by
  obtain ⟨kvs, h, e⟩ := h
  exact ⟨kvs, same_rd s h, e⟩
theorem DctOw.at {a : Addr} {ks : List D} {vs : List V} (h : DctOw H a ks vs) : DctAt H a ks vs := by
  obtain ⟨kvs, h, q⟩ := h
  exact ⟨kvs, .inl h, q⟩
theorem DctOw.eq {a : Addr} {ks : List D} {vs : List V} (h : DctOw H a ks vs) (e : H' a = H a) : DctOw H' a ks vs := by
  obtain ⟨kvs, h, q⟩ := h
  exact ⟨kvs, by rw [e]; exact h, q⟩
theorem same_n {w : World} {a : Addr} {ks : List D} {bs vs : List V} (s : Same H H') (h : DntAt w H a ks bs vs) : DntAt w H' a ks bs vs := by
  obtain ⟨L, h, e⟩ := h
  exact ⟨L, same_rd s h, e⟩
theorem DntOw.at {w : World} {a : Addr} {ks : List D} {bs vs : List V} (h : DntOw w H a ks bs vs) : DntAt w H a ks bs vs := by
  obtain ⟨L, h, q⟩ := h
  exact ⟨L, .inl h, q⟩
theorem DntOw.eq {w : World} {a : Addr} {ks : List D} {bs vs : List V} (h : DntOw w H a ks bs vs) (e : H' a = H a) : DntOw w H' a ks bs vs := by
  obtain ⟨L, h, q⟩ := h
  exact ⟨L, by rw [e]; exact h, q⟩
mutual
theorem Fz.mono (s : Same H H') : ∀ (d : D) (v : V), Fz K mg H d v → Fz K mg H' d v
  | .unk, _, h => h
  | .non, _, h => h
  | .bl _, _, h => h
  | .int _, _, h => h
  | .str _, _, h => h
  | .tup ds, _, ⟨a, vs, e, h, r⟩ => ⟨a, vs, e, same_t s h, Fzs.mono s ds vs r⟩
  | .lst ds, _, ⟨a, vs, e, h, r⟩ => ⟨a, vs, e, s _ _ h, Fzs.mono s ds vs r⟩
  | .scr ns, _, ⟨a, e, h⟩ => ⟨a, e, s.seq h⟩
  | .exn c ns ds, _, ⟨a, vs, e, h, r⟩ => ⟨a, vs, e, h.mono s, Fzs.mono s ds vs r⟩
  | .dct ks ds, _, ⟨a, vs, e, h, r⟩ => ⟨a, vs, e, same_d s h, Fzs.mono s ds vs r⟩
  | .dnt ks ds, _, ⟨a, bs, vs, e, h, kf, r⟩ => ⟨a, bs, vs, e, same_n s h, Fzs.mono s ks bs kf, Fzs.mono s ds vs r⟩
  | .ins c ns ds, _, ⟨a, C, dx, vs, e, g, h, l, r⟩ => ⟨a, C, dx, vs, e, g, s _ _ h, l, Fzs.mono s ds vs r⟩
theorem Fzs.mono (s : Same H H') : ∀ (ds : List D) (vs : List V), Fzs K mg H ds vs → Fzs K mg H' ds vs
  | [], _, h => h
  | d :: ds, _, ⟨v, r, e, h, t⟩ => ⟨v, r, e, Fz.mono s d v h, Fzs.mono s ds r t⟩
end
theorem Fz.sh (s : Same H0 H) : ∀ {d : D} {v : V}, Fz K mg H0 d v → Sh K mg H0 H d v
  | .unk, _, h => h
  | .non, _, h => h
  | .bl _, _, h => h
  | .int _, _, h => h
  | .str _, _, h => h
  | .tup _, _, h => h
  | .lst _, _, ⟨a, vs, e, h, r⟩ => ⟨a, vs, e, s _ _ h, r⟩
  | .scr _, _, ⟨a, e, h⟩ => ⟨a, e, s.seq h⟩
  | .exn _ _ _, _, h => h
  | .dct _ _, _, ⟨a, vs, e, h, r⟩ => ⟨a, vs, e, same_d s h, r⟩
  | .dnt _ _, _, ⟨a, bs, vs, e, h, kf, r⟩ => ⟨a, bs, vs, e, same_n s h, kf, r⟩
  | .ins _ _ _, _, ⟨a, C, dx, vs, e, g, h, l, r⟩ => ⟨a, C, dx, vs, e, g, s _ _ h, l, r⟩
theorem Sh.fz (s : Same H0 H) : ∀ {d : D} {v : V}, Sh K mg H0 H d v → Fz K mg H d v
  | .unk, _, h => h
  | .scr _, _, h => h
  | .exn c ns ds, v, h => Fz.mono s (.exn c ns ds) v h
  | .non, _, h => h
  | .bl _, _, h => h
  | .int _, _, h => h
  | .str _, _, h => h
  | .tup ds, v, h => Fz.mono s (.tup ds) v h
  | .lst _, _, ⟨a, vs, e, h, r⟩ => ⟨a, vs, e, h, Fzs.mono s _ _ r⟩
  | .dct _ _, _, ⟨a, vs, e, h, r⟩ => ⟨a, vs, e, h, Fzs.mono s _ _ r⟩
  | .dnt _ _, _, ⟨a, bs, vs, e, h, kf, r⟩ => ⟨a, bs, vs, e, h, Fzs.mono s _ _ kf, Fzs.mono s _ _ r⟩
  | .ins _ _ _, _, ⟨a, C, dx, vs, e, g, h, l, r⟩ => ⟨a, C, dx, vs, e, g, h, l, Fzs.mono s _ _ r⟩
theorem Ow.zero {d : D} {v : V} {fp : List Addr} : Ow K mg H0 H d .z v fp ↔ fp = [] ∧ Fz K mg H0 d v := by cases d <;> simp [Ow]
mutual
/-- the tree stays where its nodes stay -/
theorem Ow.mono (s : Same H0 H0') : ∀ (d : D) (m : Md) (v : V) (fp : List Addr), (∀ a ∈ fp, H' a = H a) → Ow K mg H0 H d m v fp → Ow K mg H0' H' d m v fp
  | d, .z, v, fp, _, h => Ow.zero.mpr ⟨(Ow.zero.mp h).1, Fz.mono s d v (Ow.zero.mp h).2⟩
  | .non, .o _, _, _, _, h => h
  | .non, .t, _, _, _, h => h
  | .bl _, .o _, _, _, _, h => h
  | .bl _, .t, _, _, _, h => h
  | .int _, .o _, _, _, _, h => h
  | .int _, .t, _, _, _, h => h
  | .str _, .o _, _, _, _, h => h
  | .str _, .t, _, _, _, h => h
  | .scr _, .o _, _, _, _, h => h
  | .scr _, .t, _, _, _, h => h
  | .exn _ _ _, .o _, _, _, _, h => h
  | .exn _ _ _, .t, _, _, _, h => h
  | .unk, .o _, _, _, _, h => h
  | .unk, .t, _, _, _, h => h
  | .non, .f _, _, _, _, h => h
  | .bl _, .f _, _, _, _, h => h
  | .int _, .f _, _, _, _, h => h
  | .str _, .f _, _, _, _, h => h
  | .scr _, .f _, _, _, _, h => h
  | .exn _ _ _, .f _, _, _, _, h => h
  | .unk, .f _, _, _, _, h => h
  | .tup ds, .f k, _, fp, q, ⟨a, vs, e, h, r⟩ => ⟨a, vs, e, s _ _ h, Ows.mono s ds k vs fp q r⟩
  | .lst ds, .f k, _, fp, q, ⟨a, vs, e, h, r⟩ => ⟨a, vs, e, s _ _ h, Ows.mono s ds k vs fp q r⟩
  | .dct ks ds, .f k, _, fp, q, ⟨a, vs, e, h, r⟩ => ⟨a, vs, e, same_d s h, Ows.mono s ds k vs fp q r⟩
  | .dnt ks ds, .f k, _, fp, q, ⟨a, bs, vs, e, h, kf, r⟩ => ⟨a, bs, vs, e, same_n s h, Fzs.mono s ks bs kf, Ows.mono s ds k vs fp q r⟩
  | .ins c ns ds, .f k, _, fp, q, ⟨a, C, dx, vs, e, hm, h, l, r⟩ => ⟨a, C, dx, vs, e, hm, s _ _ h, l, Ows.mono s ds k vs fp q r⟩
  | .tup ds, .o k, _, _, q, ⟨a, vs, g, e, h, ef, r⟩ => by
    subst ef
    exact ⟨a, vs, g, e, by rw [q a List.mem_cons_self]; exact h, rfl, Ows.mono s ds k vs g (fun b hb => q b (List.mem_cons_of_mem _ hb)) r⟩
  | .tup ds, .t, _, _, q, ⟨a, vs, g, e, h, ef, r⟩ => by
    subst ef
    exact ⟨a, vs, g, e, by rw [q a List.mem_cons_self]; exact h, rfl, Ows.mono s ds (.all .t) vs g (fun b hb => q b (List.mem_cons_of_mem _ hb)) r⟩
  | .lst ds, .o k, _, _, q, ⟨a, vs, g, e, h, ef, r⟩ => by
    subst ef
    exact ⟨a, vs, g, e, by rw [q a List.mem_cons_self]; exact h, rfl, Ows.mono s ds k vs g (fun b hb => q b (List.mem_cons_of_mem _ hb)) r⟩
  | .lst ds, .t, _, _, q, ⟨a, vs, g, e, h, ef, r⟩ => by
    subst ef
    exact ⟨a, vs, g, e, by rw [q a List.mem_cons_self]; exact h, rfl, Ows.mono s ds (.all .t) vs g (fun b hb => q b (List.mem_cons_of_mem _ hb)) r⟩
  | .dct ks ds, .o k, _, _, q, ⟨a, vs, g, e, ef, h, r⟩ => by
    subst ef
    exact ⟨a, vs, g, e, rfl, h.eq (q a List.mem_cons_self), Ows.mono s ds k vs g (fun b hb => q b (List.mem_cons_of_mem _ hb)) r⟩
  | .dct ks ds, .t, _, _, q, ⟨a, vs, g, e, ef, h, r⟩ => by
    subst ef
    exact ⟨a, vs, g, e, rfl, h.eq (q a List.mem_cons_self), Ows.mono s ds (.all .t) vs g (fun b hb => q b (List.mem_cons_of_mem _ hb)) r⟩
  | .dnt ks ds, .o k, _, _, q, ⟨a, bs, vs, g, e, ef, h, kf, r⟩ => by
    subst ef
    exact ⟨a, bs, vs, g, e, rfl, h.eq (q a List.mem_cons_self), Fzs.mono s ks bs kf, Ows.mono s ds k vs g (fun b hb => q b (List.mem_cons_of_mem _ hb)) r⟩
  | .dnt ks ds, .t, _, _, q, ⟨a, bs, vs, g, e, ef, h, kf, r⟩ => by
    subst ef
    exact ⟨a, bs, vs, g, e, rfl, h.eq (q a List.mem_cons_self), Fzs.mono s ks bs kf, Ows.mono s ds (.all .t) vs g (fun b hb => q b (List.mem_cons_of_mem _ hb)) r⟩
  | .ins c ns ds, .o k, _, _, q, ⟨a, C, dx, vs, g, e, ef, hm, h, l, r⟩ => by
    subst ef
    exact ⟨a, C, dx, vs, g, e, rfl, hm, by rw [q a List.mem_cons_self]; exact h, l, Ows.mono s ds k vs g (fun b hb => q b (List.mem_cons_of_mem _ hb)) r⟩
  | .ins c ns ds, .t, _, _, q, ⟨a, C, dx, vs, g, e, ef, hm, h, l, r⟩ => by
    subst ef
    exact ⟨a, C, dx, vs, g, e, rfl, hm, by rw [q a List.mem_cons_self]; exact h, l, Ows.mono s ds (.all .t) vs g (fun b hb => q b (List.mem_cons_of_mem _ hb)) r⟩
theorem Ows.mono (s : Same H0 H0') : ∀ (ds : List D) (k : Kd) (vs : List V) (fp : List Addr), (∀ a ∈ fp, H' a = H a) → Ows K mg H0 H ds k vs fp → Ows K mg H0' H' ds k vs fp
  | [], _, _, _, _, h => h
  | d :: ds, k, _, _, q, ⟨v, r, f, g, e, ef, h, t⟩ => by
    subst ef
    exact ⟨v, r, f, g, e, rfl, Ow.mono s d k.hd v f (fun a ha => q a (List.mem_append_left _ ha)) h, Ows.mono s ds k.tl r g (fun a ha => q a (List.mem_append_right _ ha)) t⟩
end
mutual
/-- frozen: the nodes are handed to the frozen heap -/
theorem Ow.frz (s : Same H0 H) : ∀ (d : D) (m : Md) (v : V) (fp : List Addr), Ow K mg H0 H d m v fp → Fz K mg (ext H0 H fp) d v
  | d, .z, v, fp, h => Fz.mono (same_ext s) d v (Ow.zero.mp h).2
  | .non, .o _, _, _, h => h.2
  | .non, .t, _, _, h => h.2
  | .bl _, .o _, _, _, h => h.2
  | .bl _, .t, _, _, h => h.2
  | .int _, .o _, _, _, h => h.2
  | .int _, .t, _, _, h => h.2
  | .str _, .o _, _, _, h => h.2
  | .str _, .t, _, _, h => h.2
  | .scr _, .o _, _, _, h => h.elim
  | .scr _, .t, _, _, h => h.elim
  | .exn _ _ _, .o _, _, _, h => h.elim
  | .exn _ _ _, .t, _, _, h => h.elim
  | .unk, .o _, _, _, h => h.2
  | .unk, .t, _, _, h => h.2
  | .non, .f _, _, _, h => h.2
  | .bl _, .f _, _, _, h => h.2
  | .int _, .f _, _, _, h => h.2
  | .str _, .f _, _, _, h => h.2
  | .scr _, .f _, _, _, h => h.elim
  | .exn _ _ _, .f _, _, _, h => h.elim
  | .unk, .f _, _, _, h => h.2
  | .tup ds, .f k, _, fp, ⟨a, vs, e, h, r⟩ => ⟨a, vs, e, .inl (.inl (same_ext s _ _ h)), Ows.frz s ds k vs fp r⟩
  | .lst ds, .f k, _, fp, ⟨a, vs, e, h, r⟩ => ⟨a, vs, e, same_ext s _ _ h, Ows.frz s ds k vs fp r⟩
  | .dct ks ds, .f k, _, fp, ⟨a, vs, e, h, r⟩ => ⟨a, vs, e, same_d (same_ext s) h, Ows.frz s ds k vs fp r⟩
  | .dnt ks ds, .f k, _, fp, ⟨a, bs, vs, e, h, kf, r⟩ => ⟨a, bs, vs, e, same_n (same_ext s) h, Fzs.mono (same_ext s) ks bs kf, Ows.frz s ds k vs fp r⟩
  | .ins c ns ds, .f k, _, fp, ⟨a, C, dx, vs, e, hm, h, l, r⟩ => ⟨a, C, dx, vs, e, hm, same_ext s _ _ h, l, Ows.frz s ds k vs fp r⟩
  | .tup ds, .o k, _, _, ⟨a, vs, g, e, h, ef, r⟩ => by
    subst ef
    exact ⟨a, vs, e, .inl (.inl (by rw [ext_in List.mem_cons_self]; exact h)), Fzs.mono (ext_mono s fun b hb => List.mem_cons_of_mem _ hb) ds vs (Ows.frz s ds k vs g r)⟩
  | .tup ds, .t, _, _, ⟨a, vs, g, e, h, ef, r⟩ => by
    subst ef
    exact ⟨a, vs, e, .inl (.inl (by rw [ext_in List.mem_cons_self]; exact h)), Fzs.mono (ext_mono s fun b hb => List.mem_cons_of_mem _ hb) ds vs (Ows.frz s ds (.all .t) vs g r)⟩
  | .lst ds, .o k, _, _, ⟨a, vs, g, e, h, ef, r⟩ => by
    subst ef
    exact ⟨a, vs, e, by rw [ext_in List.mem_cons_self]; exact h, Fzs.mono (ext_mono s fun b hb => List.mem_cons_of_mem _ hb) ds vs (Ows.frz s ds k vs g r)⟩
  | .lst ds, .t, _, _, ⟨a, vs, g, e, h, ef, r⟩ => by
    subst ef
    exact ⟨a, vs, e, by rw [ext_in List.mem_cons_self]; exact h, Fzs.mono (ext_mono s fun b hb => List.mem_cons_of_mem _ hb) ds vs (Ows.frz s ds (.all .t) vs g r)⟩
  | .dct ks ds, .o k, _, _, ⟨a, vs, g, e, ef, h, r⟩ => by
    subst ef
    exact ⟨a, vs, e, (h.eq (ext_in List.mem_cons_self)).at, Fzs.mono (ext_mono s fun b hb => List.mem_cons_of_mem _ hb) ds vs (Ows.frz s ds k vs g r)⟩
  | .dct ks ds, .t, _, _, ⟨a, vs, g, e, ef, h, r⟩ => by
    subst ef
    exact ⟨a, vs, e, (h.eq (ext_in List.mem_cons_self)).at, Fzs.mono (ext_mono s fun b hb => List.mem_cons_of_mem _ hb) ds vs (Ows.frz s ds (.all .t) vs g r)⟩
  | .dnt ks ds, .o k, _, _, ⟨a, bs, vs, g, e, ef, h, kf, r⟩ => by
    subst ef
    exact ⟨a, bs, vs, e, (h.eq (ext_in List.mem_cons_self)).at, Fzs.mono (same_ext s) ks bs kf, Fzs.mono (ext_mono s fun b hb => List.mem_cons_of_mem _ hb) ds vs (Ows.frz s ds k vs g r)⟩
  | .dnt ks ds, .t, _, _, ⟨a, bs, vs, g, e, ef, h, kf, r⟩ => by
    subst ef
    exact ⟨a, bs, vs, e, (h.eq (ext_in List.mem_cons_self)).at, Fzs.mono (same_ext s) ks bs kf, Fzs.mono (ext_mono s fun b hb => List.mem_cons_of_mem _ hb) ds vs (Ows.frz s ds (.all .t) vs g r)⟩
  | .ins c ns ds, .o k, _, _, ⟨a, C, dx, vs, g, e, ef, hm, h, l, r⟩ => by
    subst ef
    exact ⟨a, C, dx, vs, e, hm, by rw [ext_in List.mem_cons_self]; exact h, l, Fzs.mono (ext_mono s fun b hb => List.mem_cons_of_mem _ hb) ds vs (Ows.frz s ds k vs g r)⟩
  | .ins c ns ds, .t, _, _, ⟨a, C, dx, vs, g, e, ef, hm, h, l, r⟩ => by
    subst ef
    exact ⟨a, C, dx, vs, e, hm, by rw [ext_in List.mem_cons_self]; exact h, l, Fzs.mono (ext_mono s fun b hb => List.mem_cons_of_mem _ hb) ds vs (Ows.frz s ds (.all .t) vs g r)⟩
theorem Ows.frz (s : Same H0 H) : ∀ (ds : List D) (k : Kd) (vs : List V) (fp : List Addr), Ows K mg H0 H ds k vs fp → Fzs K mg (ext H0 H fp) ds vs
  | [], _, _, _, h => h.1
  | d :: ds, k, _, _, ⟨v, r, f, g, e, ef, h, t⟩ => by
    subst ef
    exact ⟨v, r, e, Fz.mono (ext_mono s fun b hb => List.mem_append_left _ hb) d v (Ow.frz s d k.hd v f h), Fzs.mono (ext_mono s fun b hb => List.mem_append_right _ hb) ds r (Ows.frz s ds k.tl r g t)⟩
end
/-- an owned tree is readable in the whole heap -/
theorem Ow.fz (s : Same H0 H) {d : D} {m : Md} {v : V} {fp : List Addr} (h : Ow K mg H0 H d m v fp) : Fz K mg H d v := Fz.mono (ext_same s) d v (Ow.frz s d m v fp h)
theorem Ows.all_z : ∀ {ds : List D} {vs : List V} {fp : List Addr}, Ows K mg H0 H ds (.all .z) vs fp ↔ fp = [] ∧ Fzs K mg H0 ds vs
  | [], vs, fp => ⟨fun h => ⟨h.2, h.1⟩, fun h => ⟨h.2, h.1⟩⟩
  | d :: ds, vs, fp => by
    constructor
    · rintro ⟨v, r, f, g, e, ef, h, t⟩
      obtain ⟨z1, q1⟩ := Ow.zero.mp h
      obtain ⟨z2, q2⟩ := Ows.all_z.mp t
      subst z1 z2
      exact ⟨ef, v, r, e, q1, q2⟩
    · rintro ⟨ef, v, r, e, q1, q2⟩
      exact ⟨v, r, [], [], e, ef, Ow.zero.mpr ⟨rfl, q1⟩, Ows.all_z.mpr ⟨rfl, q2⟩⟩
/-- what may be lent for reading -/
def lend : D → Bool
  | .tup _ => false
  | .scr _ => false
  | .exn _ _ _ => false
  | .unk => false
  | _ => true
/-- at mode one what is within is frozen -/
theorem Ow.sh : ∀ {d : D} {v : V} {fp : List Addr}, lend d = true → Ow K mg H0 H d m1 v fp → Sh K mg H0 H d v
  | .non, _, _, _, h => h.2
  | .bl _, _, _, _, h => h.2
  | .int _, _, _, _, h => h.2
  | .str _, _, _, _, h => h.2
  | .lst _, _, _, _, ⟨a, vs, g, e, h, ef, r⟩ => ⟨a, vs, e, h, (Ows.all_z.mp r).2⟩
  | .dct _ _, _, _, _, ⟨a, vs, g, e, ef, h, r⟩ => ⟨a, vs, e, h.at, (Ows.all_z.mp r).2⟩
  | .dnt _ _, _, _, _, ⟨a, bs, vs, g, e, ef, h, kf, r⟩ => ⟨a, bs, vs, e, h.at, kf, (Ows.all_z.mp r).2⟩
  | .ins _ _ _, _, _, _, ⟨a, C, dx, vs, g, e, ef, hm, h, l, r⟩ => ⟨a, C, dx, vs, e, hm, h, l, (Ows.all_z.mp r).2⟩
end
end Vm
set_option Elab.async false
set_option linter.all false
set_option maxRecDepth 100000
set_option maxHeartbeats 4000000
namespace Vm
open PySem PySem.Spec PyProof.Rows L2

/-! ### who owns what, steps -/
abbrev Co := Addr → Option Nat
structure Step (ms : Ms) (H0 H : Hp) (c : Co) (H0' H' : Hp) (c' : Co) : Prop where
  keep : ∀ a o, H a = some o → (∀ i, c a = some i → ms i = false) → H' a = some o
  col : ∀ a o, H a = some o → (∀ i, c a = some i → ms i = false) → c' a = c a
  grow : Same H0 H0'
  new0 : ∀ a o, H0' a = some o → (∃ u, H0 a = some u) ∨ H a = none ∨ ∃ i, c a = some i ∧ ms i = true
  newc : ∀ a i, c' a = some i → c a = some i ∨ (ms i = true ∧ (H a = none ∨ ∃ j, c a = some j ∧ ms j = true))
section
variable {ms ms' : Ms} {H0 H H0' H' H0'' H'' : Hp} {c c' c'' : Co} {a : Addr} {o : HO}
theorem Step.refl : Step ms H0 H c H0 H c := ⟨fun _ _ h _ => h, fun _ _ _ _ => rfl, Same.refl _, fun _ _ h => .inl ⟨_, h⟩, fun _ _ h => .inl h⟩
theorem Step.mono (s : Step ms H0 H c H0' H' c') (h : ∀ i, ms i = true → ms' i = true) : Step ms' H0 H c H0' H' c' := by
  have n : ∀ i, ms' i = false → ms i = false := fun i e => by
    cases q : ms i with
    | false => rfl
    | true => rw [h i q] at e; cases e
  refine ⟨fun a o e k => s.keep a o e fun i z => n i (k i z), fun a o e k => s.col a o e fun i z => n i (k i z), s.grow, fun a o e => ?_, fun a i e => ?_⟩
  · rcases s.new0 a o e with z | z | ⟨i, z, q⟩
    · exact .inl z
    · exact .inr (.inl z)
    · exact .inr (.inr ⟨i, z, h i q⟩)
  · rcases s.newc a i e with z | ⟨q, z | ⟨j, z, p⟩⟩
    · exact .inl z
    · exact .inr ⟨h i q, .inl z⟩
    · exact .inr ⟨h i q, .inr ⟨j, z, h j p⟩⟩
/-- what is not there behind was not there, or was given up -/
theorem Step.gone (s : Step ms H0 H c H0' H' c') (h : H' a = none) : H a = none ∨ ∃ i, c a = some i ∧ ms i = true := by
  cases e : H a with
  | none => exact .inl rfl
  | some o =>
    refine .inr (Classical.byContradiction fun n => ?_)
    have := s.keep a o e fun i z => by
      cases q : ms i with
      | false => rfl
      | true => exact absurd ⟨i, z, q⟩ n
    rw [h] at this; cases this
theorem Step.owned (s : Step ms H0 H c H0' H' c') {i : Nat} (h : c' a = some i) (q : ms i = true) : H a = none ∨ ∃ j, c a = some j ∧ ms j = true := by
  rcases s.newc a i h with z | ⟨_, z⟩
  · exact .inr ⟨i, z, q⟩
  · exact z
theorem Step.trans (s : Step ms H0 H c H0' H' c') (t : Step ms H0' H' c' H0'' H'' c'') : Step ms H0 H c H0'' H'' c'' := by
  refine ⟨fun a o e k => ?_, fun a o e k => ?_, s.grow.trans t.grow, fun a o e => ?_, fun a i e => ?_⟩
  · have e1 := s.keep a o e k
    exact t.keep a o e1 fun i z => k i (by rw [← s.col a o e k]; exact z)
  · have e1 := s.keep a o e k
    have e2 := s.col a o e k
    rw [t.col a o e1 fun i z => k i (by rw [← e2]; exact z), e2]
  · rcases t.new0 a o e with ⟨u, z⟩ | z | ⟨i, z, q⟩
    · exact s.new0 a u z
    · exact .inr (s.gone z)
    · exact .inr (s.owned z q)
  · rcases t.newc a i e with z | ⟨q, z | ⟨j, z, p⟩⟩
    · exact s.newc a i z
    · exact .inr ⟨q, s.gone z⟩
    · exact .inr ⟨q, s.owned z p⟩
end

mutual
theorem Ow.there {K : PySem.W.Frag} {mg : MG} {H0 H : Hp} : ∀ (d : D) (m : Md) (v : V) (fp : List Addr), Ow K mg H0 H d m v fp → ∀ a ∈ fp, ∃ u, H a = some u
  | d, .z, v, fp, h, a, ha => by rw [(Ow.zero.mp h).1] at ha; cases ha
  | .non, .o _, _, _, h, a, ha => by rw [h.1] at ha; cases ha
  | .non, .t, _, _, h, a, ha => by rw [h.1] at ha; cases ha
  | .bl _, .o _, _, _, h, a, ha => by rw [h.1] at ha; cases ha
  | .bl _, .t, _, _, h, a, ha => by rw [h.1] at ha; cases ha
  | .int _, .o _, _, _, h, a, ha => by rw [h.1] at ha; cases ha
  | .int _, .t, _, _, h, a, ha => by rw [h.1] at ha; cases ha
  | .str _, .o _, _, _, h, a, ha => by rw [h.1] at ha; cases ha
  | .str _, .t, _, _, h, a, ha => by rw [h.1] at ha; cases ha
  | .scr _, .o _, _, _, h, a, ha => h.elim
  | .scr _, .t, _, _, h, a, ha => h.elim
  | .exn _ _ _, .o _, _, _, h, a, ha => h.elim
  | .exn _ _ _, .t, _, _, h, a, ha => h.elim
  | .unk, .o _, _, _, h, a, ha => by rw [h.1] at ha; cases ha
  | .unk, .t, _, _, h, a, ha => by rw [h.1] at ha; cases ha
  | .non, .f _, _, _, h, a, ha => by rw [h.1] at ha; cases ha
  | .bl _, .f _, _, _, h, a, ha => by rw [h.1] at ha; cases ha
  | .int _, .f _, _, _, h, a, ha => by rw [h.1] at ha; cases ha
  | .str _, .f _, _, _, h, a, ha => by rw [h.1] at ha; cases ha
  | .scr _, .f _, _, _, h, a, ha => h.elim
  | .exn _ _ _, .f _, _, _, h, a, ha => h.elim
  | .unk, .f _, _, _, h, a, ha => by rw [h.1] at ha; cases ha
  | .tup ds, .f k, _, fp, ⟨b, vs, e, h, r⟩, a, ha => Ows.there ds k vs fp r a ha
  | .lst ds, .f k, _, fp, ⟨b, vs, e, h, r⟩, a, ha => Ows.there ds k vs fp r a ha
  | .dct ks ds, .f k, _, fp, ⟨b, vs, e, h, r⟩, a, ha => Ows.there ds k vs fp r a ha
  | .dnt ks ds, .f k, _, fp, ⟨b, bs, vs, e, h, kf, r⟩, a, ha => Ows.there ds k vs fp r a ha
  | .ins c ns ds, .f k, _, fp, ⟨b, C, dx, vs, e, hm, h, l, r⟩, a, ha => Ows.there ds k vs fp r a ha
  | .tup ds, .o k, _, _, ⟨b, vs, g, e, h, ef, r⟩, a, ha => by
    subst ef
    rcases List.mem_cons.mp ha with z | ha
    · rw [z]; exact ⟨_, h⟩
    · exact Ows.there ds k vs g r a ha
  | .tup ds, .t, _, _, ⟨b, vs, g, e, h, ef, r⟩, a, ha => by
    subst ef
    rcases List.mem_cons.mp ha with z | ha
    · rw [z]; exact ⟨_, h⟩
    · exact Ows.there ds (.all .t) vs g r a ha
  | .lst ds, .o k, _, _, ⟨b, vs, g, e, h, ef, r⟩, a, ha => by
    subst ef
    rcases List.mem_cons.mp ha with z | ha
    · rw [z]; exact ⟨_, h⟩
    · exact Ows.there ds k vs g r a ha
  | .lst ds, .t, _, _, ⟨b, vs, g, e, h, ef, r⟩, a, ha => by
    subst ef
    rcases List.mem_cons.mp ha with z | ha
    · rw [z]; exact ⟨_, h⟩
    · exact Ows.there ds (.all .t) vs g r a ha
  | .dct ks ds, .o k, _, _, ⟨b, vs, g, e, ef, h, r⟩, a, ha => by
    subst ef
    rcases List.mem_cons.mp ha with z | ha
    · rw [z]
      obtain ⟨_, h, _⟩ := h
      exact ⟨_, h⟩
    · exact Ows.there ds k vs g r a ha
  | .dct ks ds, .t, _, _, ⟨b, vs, g, e, ef, h, r⟩, a, ha => by
    subst ef
    rcases List.mem_cons.mp ha with z | ha
    · rw [z]
      obtain ⟨_, h, _⟩ := h
      exact ⟨_, h⟩
    · exact Ows.there ds (.all .t) vs g r a ha
  | .dnt ks ds, .o k, _, _, ⟨b, bs, vs, g, e, ef, h, kf, r⟩, a, ha => by
    subst ef
    rcases List.mem_cons.mp ha with z | ha
    · rw [z]
      obtain ⟨_, h, _⟩ := h
      exact ⟨_, h⟩
    · exact Ows.there ds k vs g r a ha
  | .dnt ks ds, .t, _, _, ⟨b, bs, vs, g, e, ef, h, kf, r⟩, a, ha => by
    subst ef
    rcases List.mem_cons.mp ha with z | ha
    · rw [z]
      obtain ⟨_, h, _⟩ := h
      exact ⟨_, h⟩
    · exact Ows.there ds (.all .t) vs g r a ha
  | .ins c ns ds, .o k, _, _, ⟨b, C, dx, vs, g, e, ef, hm, h, l, r⟩, a, ha => by
    subst ef
    rcases List.mem_cons.mp ha with z | ha
    · rw [z]; exact ⟨_, h⟩
    · exact Ows.there ds k vs g r a ha
  | .ins c ns ds, .t, _, _, ⟨b, C, dx, vs, g, e, ef, hm, h, l, r⟩, a, ha => by
    subst ef
    rcases List.mem_cons.mp ha with z | ha
    · rw [z]; exact ⟨_, h⟩
    · exact Ows.there ds (.all .t) vs g r a ha
theorem Ows.there {K : PySem.W.Frag} {mg : MG} {H0 H : Hp} : ∀ (ds : List D) (k : Kd) (vs : List V) (fp : List Addr), Ows K mg H0 H ds k vs fp → ∀ a ∈ fp, ∃ u, H a = some u
  | [], _, _, _, h, a, ha => by rw [h.2] at ha; cases ha
  | d :: ds, k, _, _, ⟨v, r, f, g, e, ef, h, t⟩, a, ha => by
    subst ef
    rcases List.mem_append.mp ha with ha | ha
    · exact Ow.there d k.hd v f h a ha
    · exact Ows.there ds k.tl r g t a ha
end
/-- the exception that is handled, where it is frozen -/
def HotO (H : Hp) (a : Addr) : Prop := ∃ (oe : Obj) (fv : Array Value), H a = some (.frz oe (.own a)) ∧ oe.data = .fields fv ∧ fv[2]? = some .none
theorem HotO.mono {H H' : Hp} {a : Addr} (h : HotO H a) (s : Same H H') : HotO H' a := by
  obtain ⟨oe, fv, e, r⟩ := h
  exact ⟨oe, fv, s _ _ e, r⟩
/-- how the data lies: frozen data in H0, the owned trees of the slots -/
structure Lies (K : PySem.W.Frag) (mg : MG) (H0 H : Hp) (c : Co) (σ : L2.St) (ρ : En) : Prop where
  sub : Same H0 H
  hot : ∀ a, mg.hx = some a → HotO H0 a
  apart : ∀ a i, c a = some i → H0 a = none
  there : ∀ a i, c a = some i → ∃ o, H a = some o
  len : ρ.length = σ.length
  slot : ∀ i m d, getS ρ i = some (m, d) → ∃ v fp, σ[i]? = some (some v) ∧ Ow K mg H0 H d m v fp ∧ fp.Nodup ∧ ∀ a ∈ fp, c a = some i
/-- a result's nodes: new, or handed over -/
structure Fresh (ms : Ms) (H : Hp) (c : Co) (H0' H' : Hp) (c' : Co) (fp : List Addr) : Prop where
  nd : fp.Nodup
  nc : ∀ a ∈ fp, c' a = none
  n0 : ∀ a ∈ fp, H0' a = none
  there : ∀ a ∈ fp, ∃ o, H' a = some o
  new : ∀ a ∈ fp, H a = none ∨ ∃ i, c a = some i ∧ ms i = true
def ExcAt (K : PySem.W.Frag) (mg : MG) (H0 : Hp) (n : Str) (ns : List Str) (vs : List D) (cls : Value) (dx : Option Addr) : Prop :=
  ∃ C, mg n = some (.ref C) ∧ cls = .ref C ∧ ((ns = [] ∧ vs = [] ∧ dx = none) ∨ ∃ p fs, dx = some p ∧ H0 p = some (.xd fs) ∧ fs.map (·.1) = ns ∧ Fzs K mg H0 vs (fs.map (·.2)))

section
variable {K : PySem.W.Frag} {mg : MG} {ms ms1 ms2 : Ms} {H0 H H0' H' H0'' H'' : Hp} {c c' c'' : Co} {σ : L2.St} {ρ ρ' : En} {a : Addr} {o : HO}
theorem Fresh.nil : Fresh ms H c H0' H' c' [] := ⟨List.nodup_nil, by simp, by simp, by simp, by simp⟩
theorem Fresh.mono {fp : List Addr} (f : Fresh ms1 H c H0' H' c' fp) (h : ∀ i, ms1 i = true → ms2 i = true) : Fresh ms2 H c H0' H' c' fp :=
  ⟨f.nd, f.nc, f.n0, f.there, fun a ha => (f.new a ha).imp id fun ⟨i, e, q⟩ => ⟨i, e, h i q⟩⟩
/-- seen from further ahead -/
theorem Fresh.back {fp : List Addr} (s : Step ms H0 H c H0' H' c') (f : Fresh ms H' c' H0'' H'' c'' fp) : Fresh ms H c H0'' H'' c'' fp :=
  ⟨f.nd, f.nc, f.n0, f.there, fun a ha => by
    rcases f.new a ha with z | ⟨i, z, q⟩
    · exact s.gone z
    · exact s.owned z q⟩
/-- it stays through a further step -/
theorem Fresh.on {fp : List Addr} (f : Fresh ms H c H0' H' c' fp) (s : Step ms2 H0' H' c' H0'' H'' c'') : Fresh ms H c H0'' H'' c'' fp ∧ ∀ a ∈ fp, H'' a = H' a := by
  have cc : ∀ a ∈ fp, ∀ i, c' a = some i → ms2 i = false := fun a ha i e => by rw [f.nc a ha] at e; cases e
  have hk : ∀ a ∈ fp, H'' a = H' a := fun a ha => by
    obtain ⟨o, e⟩ := f.there a ha
    rw [e]; exact s.keep a o e (cc a ha)
  refine ⟨⟨f.nd, fun a ha => ?_, fun a ha => ?_, fun a ha => ?_, f.new⟩, hk⟩
  · obtain ⟨o, e⟩ := f.there a ha
    rw [s.col a o e (cc a ha)]; exact f.nc a ha
  · cases e : H0'' a with
    | none => rfl
    | some u =>
      obtain ⟨o, e1⟩ := f.there a ha
      rcases s.new0 a u e with ⟨w, z⟩ | z | ⟨i, z, _⟩
      · rw [f.n0 a ha] at z; cases z
      · rw [e1] at z; cases z
      · rw [f.nc a ha] at z; cases z
  · rw [hk a ha]; exact f.there a ha
theorem ExcAt.mono {n : Str} {ns : List Str} {vs : List D} {cls : Value} {dx : Option Addr} (h : ExcAt K mg H0 n ns vs cls dx) (s : Same H0 H0') : ExcAt K mg H0' n ns vs cls dx := by
  obtain ⟨C, h1, h2, h3⟩ := h
  refine ⟨C, h1, h2, ?_⟩
  rcases h3 with h3 | ⟨p, fs, e, h4, h5, h6⟩
  · exact .inl h3
  · exact .inr ⟨p, fs, e, s _ _ h4, h5, Fzs.mono s _ _ h6⟩
end

/-! ### outcomes -/
/-- how an end of data lies, seen from the heap and the owners at the beginning -/
abbrev Fam (α β : Type) := Hp → Co → α → Hp → Hp → Co → β → Prop
def Back {α β : Type} (ms : Ms) (F : Fam α β) : Prop := ∀ H0 H c H0' H' c' d H0'' H'' c'' v, Step ms H0 H c H0' H' c' → F H' c' d H0'' H'' c'' v → F H c d H0'' H'' c'' v
/-- an owned tree at mode m, its nodes new or handed over -/
def FO (K : PySem.W.Frag) (mg : MG) (m : Md) (ms : Ms) : Fam D V := fun H c d H0' H' c' v => ∃ fp, Ow K mg H0' H' d m v fp ∧ Fresh ms H c H0' H' c' fp
/-- frozen, or lent by a slot of bs -/
def Bw (K : PySem.W.Frag) (mg : MG) (bs : Ms) (H0 H : Hp) (c : Co) (d : D) (v : V) : Prop :=
  Fz K mg H0 d v ∨ ∃ fp i, bs i = true ∧ lend d = true ∧ Ow K mg H0 H d m1 v fp ∧ ∀ a ∈ fp, c a = some i
def FB (K : PySem.W.Frag) (mg : MG) (bs : Ms) : Fam D V := fun _ _ d H0' H' c' v => Bw K mg bs H0' H' c' d v
def Bws (K : PySem.W.Frag) (mg : MG) (bs : Ms) (H0 H : Hp) (c : Co) : List D → List V → Prop
  | [], vs => vs = []
  | d :: ds, vs => ∃ v r, vs = v :: r ∧ Bw K mg bs H0 H c d v ∧ Bws K mg bs H0 H c ds r
def FBs (K : PySem.W.Frag) (mg : MG) (bs : Ms) : Fam (List D) (List V) := fun _ _ d H0' H' c' v => Bws K mg bs H0' H' c' d v
/-- owned trees side by side -/
def FOs (K : PySem.W.Frag) (mg : MG) (k : Kd) (ms : Ms) : Fam (List D) (List V) := fun H c d H0' H' c' v => ∃ fp, Ows K mg H0' H' d k v fp ∧ Fresh ms H c H0' H' c' fp
/-- a truth -/
def FT : Fam D Bool := fun _ _ d _ _ _ b => d = .bl b

/-- what must hold so that the end x brings Q -/
def Out {α β : Type} (K : PySem.W.Frag) (mg : MG) (W : WX) (F : Fam α β) (ms : Ms) (H0 H : Hp) (c : Co) (σ : L2.St) (x : Res α) (Q : β → Hp → Prop) : Prop := match x with
  | .ok d ρ' => ∀ v H0' H' c', Step ms H0 H c H0' H' c' → Lies K mg H0' H' c' σ ρ' → F H c d H0' H' c' v → Q v H'
  | .exc n ns vs ρ' => ∀ cls dx H0' H' c', Step ms H0 H c H0' H' c' → Lies K mg H0' H' c' σ ρ' → ExcAt K mg H0' n ns vs cls dx → W cls dx σ H'
  | .bad => False
/-- a reading by data -/
def tR {α β : Type} (K : PySem.W.Frag) (mg : MG) (W : WX) (F : Fam α β) (ms : Ms) (f : M α) : L2.St → Hp → (β → Hp → Prop) → Prop := fun σ H Q => ∃ ρ H0 c, Lies K mg H0 H c σ ρ ∧ Out K mg W F ms H0 H c σ (f ρ) Q
section
variable {K : PySem.W.Frag} {mg : MG} {ms ms1 ms2 bs bs1 bs2 : Ms} {H0 H H0' H' H0'' H'' : Hp} {c c' c'' : Co} {σ : L2.St} {ρ ρ' : En} {a : Addr} {o : HO}
variable {α β γ δ : Type} {W : WX} {m m' : Md} {F : Fam α β} {G : Fam γ δ} {Q Q' : β → Hp → Prop} {d : D} {x : Res α} {v : V} {fp : List Addr}
theorem back_FO : Back ms (FO K mg m ms) := fun _ _ _ _ _ _ _ _ _ _ _ s ⟨fp, o, f⟩ => ⟨fp, o, f.back s⟩
theorem back_FOs {k : Kd} : Back ms (FOs K mg k ms) := fun _ _ _ _ _ _ _ _ _ _ _ s ⟨fp, o, f⟩ => ⟨fp, o, f.back s⟩
theorem back_FBs : Back ms (FBs K mg bs) := fun _ _ _ _ _ _ _ _ _ _ _ _ h => h
theorem back_FT : Back ms FT := fun _ _ _ _ _ _ _ _ _ _ _ _ h => h
theorem Out.imp (h : Out K mg W F ms H0 H c σ x Q) (q : ∀ v H', Q v H' → Q' v H') : Out K mg W F ms H0 H c σ x Q' := by
  cases x with
  | ok d r => exact fun v H0' H' c' s l o => q _ _ (h v H0' H' c' s l o)
  | exc n ns vs r => exact h
  | bad => exact h
/-- another family, fewer slots changed -/
theorem Out.mono {F' : Fam α β} (h : Out K mg W F ms2 H0 H c σ x Q) (q : ∀ i, ms1 i = true → ms2 i = true) (r : ∀ d H0' H' c' v, F' H c d H0' H' c' v → F H c d H0' H' c' v) : Out K mg W F' ms1 H0 H c σ x Q := by
  cases x with
  | ok d ρ => exact fun v H0' H' c' s l o => h v H0' H' c' (s.mono q) l (r _ _ _ _ _ o)
  | exc n ns vs r => exact fun cls dx H0' H' c' s l e => h cls dx H0' H' c' (s.mono q) l e
  | bad => exact h
theorem fo_mono (q : ∀ i, ms1 i = true → ms2 i = true) {d : D} {v : V} : FO K mg m ms1 H c d H0' H' c' v → FO K mg m ms2 H c d H0' H' c' v := fun ⟨fp, o, f⟩ => ⟨fp, o, f.mono q⟩
/-- from a state further on -/
theorem Out.on (b : Back ms F) (h : Out K mg W F ms H0 H c σ x Q) (s : Step ms H0 H c H0' H' c') : Out K mg W F ms H0' H' c' σ x Q := by
  cases x with
  | ok d r => exact fun v H0'' H'' c'' t l o => h v H0'' H'' c'' (s.trans t) l (b _ _ _ _ _ _ _ _ _ _ _ s o)
  | exc n ns vs r => exact fun cls dx H0'' H'' c'' t l e => h cls dx H0'' H'' c'' (s.trans t) l e
  | bad => exact h
/-- one thing, then what follows -/
theorem Out.bind {f : Res γ} {g : γ → M α} (b : Back ms F) (h : Out K mg W F ms H0 H c σ (f.bind g) Q) (h1 : ∀ i, ms1 i = true → ms i = true) :
    Out K mg W G ms1 H0 H c σ f fun v H1 => ∃ d H01 c1 ρ1, f = .ok d ρ1 ∧ Step ms1 H0 H c H01 H1 c1 ∧ Lies K mg H01 H1 c1 σ ρ1 ∧ G H c d H01 H1 c1 v ∧ Out K mg W F ms H01 H1 c1 σ (g d ρ1) Q := by
  cases f with
  | ok d r => exact fun v H0' H' c' s l f => ⟨d, H0', c', r, rfl, s, l, f, h.on b (s.mono h1)⟩
  | exc n ns vs r => exact fun cls dx H0' H' c' s l e => h cls dx H0' H' c' (s.mono h1) l e
  | bad => exact h
theorem tR.imp {f : M α} (h : tR K mg W F ms f σ H Q) (q : ∀ v H', Q v H' → Q' v H') : tR K mg W F ms f σ H Q' := by
  obtain ⟨ρ, H0, c, l, h⟩ := h
  exact ⟨ρ, H0, c, l, h.imp q⟩
theorem ow_zero_fo {v : V} (f : Fz K mg H0' d v) : FO K mg .z ms H c d H0' H' c' v := ⟨[], Ow.zero.mpr ⟨rfl, f⟩, .nil⟩
/-- a frozen end, the heap as it is -/
theorem Out.here {Q : V → Hp → Prop} (h : Out K mg W (FO K mg .z ms) ms H0 H c σ (.ok d ρ) Q) (l : Lies K mg H0 H c σ ρ) (f : Fz K mg H0 d v) : Q v H := h v H0 H c .refl l (ow_zero_fo f)
theorem Lies.upd_new {p : Addr} (l : Lies K mg H0 H c σ ρ) (hp : H p = none) : Lies K mg H0 (upd H p o) c σ ρ := by
  have hne : ∀ a i, c a = some i → a ≠ p := fun a i e => by
    obtain ⟨u, q⟩ := l.there a i e
    exact ne_of_none q hp
  refine ⟨fun a u e => by rw [upd_ne (ne_of_none (l.sub a u e) hp)]; exact l.sub a u e, l.hot, l.apart, fun a i e => ?_, l.len, fun i m d e => ?_⟩
  · obtain ⟨u, q⟩ := l.there a i e
    exact ⟨u, by rw [upd_ne (hne a i e)]; exact q⟩
  · obtain ⟨v, fp, e1, ow, nd, hc⟩ := l.slot i m d e
    exact ⟨v, fp, e1, Ow.mono (Same.refl _) d m v fp (fun a ha => upd_ne (hne a i (hc a ha))) ow, nd, hc⟩
theorem Lies.nc {p : Addr} (l : Lies K mg H0 H c σ ρ) (hp : H p = none) : c p = none := by
  cases e : c p with
  | none => rfl
  | some i =>
    obtain ⟨u, q⟩ := l.there p i e
    rw [hp] at q; cases q
theorem Lies.n0 {p : Addr} (l : Lies K mg H0 H c σ ρ) (hp : H p = none) : H0 p = none := l.sub.free hp
theorem Step.new {p : Addr} (hp : H p = none) : Step ms H0 H c H0 (upd H p o) c :=
  ⟨fun a u e _ => by rw [upd_ne (ne_of_none e hp)]; exact e, fun _ _ _ _ => rfl, Same.refl _, fun _ _ h => .inl ⟨_, h⟩, fun _ _ h => .inl h⟩
/-- a new node over nodes that are held -/
theorem Out.node {p : Addr} {g : List Addr} {Q : V → Hp → Prop} {Hs : Hp} {cs : Co} (h : Out K mg W (FO K mg m ms) ms H0 H c σ (.ok d ρ) Q) (s : Step ms H0 H c H0' H' c') (l : Lies K mg H0' H' c' σ ρ) (hp : H' p = none)
    (fg : Fresh ms H c H0' H' c' g) (ow : Ow K mg H0' (upd H' p o) d m (.ref p) (p :: g)) : Q (.ref p) (upd H' p o) := by
  have hne : ∀ a ∈ g, a ≠ p := fun a ha => by
    obtain ⟨u, q⟩ := fg.there a ha
    exact ne_of_none q hp
  refine h (.ref p) H0' (upd H' p o) c' (s.trans (.new hp)) (l.upd_new hp) ⟨p :: g, ow, List.nodup_cons.mpr ⟨fun z => hne p z rfl, fg.nd⟩, fun a ha => ?_, fun a ha => ?_, fun a ha => ?_, fun a ha => ?_⟩
  · rcases List.mem_cons.mp ha with e | ha
    · rw [e]; exact l.nc hp
    · exact fg.nc a ha
  · rcases List.mem_cons.mp ha with e | ha
    · rw [e]; exact l.n0 hp
    · exact fg.n0 a ha
  · rcases List.mem_cons.mp ha with e | ha
    · rw [e]; exact ⟨o, upd_same⟩
    · rw [upd_ne (hne a ha)]; exact fg.there a ha
  · rcases List.mem_cons.mp ha with e | ha
    · rw [e]; exact s.gone hp
    · exact fg.new a ha
/-- a new object -/
theorem Out.new {p : Addr} {Q : V → Hp → Prop} (h : Out K mg W (FO K mg m ms) ms H0 H c σ (.ok d ρ) Q) (l : Lies K mg H0 H c σ ρ) (hp : H p = none) (ow : Ow K mg H0 (upd H p o) d m (.ref p) [p]) : Q (.ref p) (upd H p o) :=
  Out.node (Hs := H) (cs := c) h .refl l hp .nil ow
/-- the frozen heap takes a result over -/
theorem Lies.take (l : Lies K mg H0 H c σ ρ) (nc : ∀ a ∈ fp, c a = none) : Lies K mg (ext H0 H fp) H c σ ρ := by
  refine ⟨ext_same l.sub, fun a e => (l.hot a e).mono (same_ext l.sub), fun a i e => ?_, l.there, l.len, fun i m d e => ?_⟩
  · rw [ext_out fun z => by rw [nc a z] at e; cases e]
    exact l.apart a i e
  · obtain ⟨v, g, e1, ow, nd, hc⟩ := l.slot i m d e
    exact ⟨v, g, e1, Ow.mono (same_ext l.sub) d m v g (fun _ _ => rfl) ow, nd, hc⟩
theorem Step.take (s : Step ms H0 H c H0' H' c') (l : Same H0' H') (f : Fresh ms H c H0' H' c' fp) : Step ms H0 H c (ext H0' H' fp) H' c' := by
  refine ⟨s.keep, s.col, s.grow.trans (same_ext l), fun a o e => ?_, s.newc⟩
  by_cases z : a ∈ fp
  · exact .inr (f.new a z)
  · rw [ext_out z] at e
    exact s.new0 a o e
/-- an owned end is a frozen one -/
theorem Out.frz {x : Res D} {Q : V → Hp → Prop} (h : Out K mg W (FO K mg .z ms) ms H0 H c σ x Q) : Out K mg W (FO K mg m ms) ms H0 H c σ x Q := by
  cases x with
  | ok d r => exact fun v H0' H' c' s l ⟨fp, o, f⟩ => h v (ext H0' H' fp) H' c' (s.take l.sub f) (l.take f.nc) (ow_zero_fo (Ow.frz l.sub d m v fp o))
  | exc n ns vs r => exact h
  | bad => exact h
/-- a lent value stays through steps that leave its slot alone -/
theorem Bw.on (h : Bw K mg bs H0 H c d v) (s : Step ms H0 H c H0' H' c') (dj : ∀ i, bs i = true → ms i = false) : Bw K mg bs H0' H' c' d v := by
  rcases h with h | ⟨fp, i, hi, hl, o, hc⟩
  · exact .inl (Fz.mono s.grow d v h)
  · have hk : ∀ a ∈ fp, ∀ u, H a = some u → H' a = some u := fun a ha u e => s.keep a u e fun j e2 => by rw [hc a ha] at e2; cases e2; exact dj i hi
    have all : ∀ (d : D) (m : Md) (v : V) (fp : List Addr), Ow K mg H0 H d m v fp → ∀ a ∈ fp, ∃ u, H a = some u := Ow.there
    refine .inr ⟨fp, i, hi, hl, Ow.mono s.grow d m1 v fp (fun a ha => ?_) o, fun a ha => ?_⟩
    · obtain ⟨u, e⟩ := all _ _ _ _ o a ha
      rw [e]; exact hk a ha u e
    · obtain ⟨u, e⟩ := all _ _ _ _ o a ha
      rw [s.col a u e fun j e2 => by rw [hc a ha] at e2; cases e2; exact dj i hi]
      exact hc a ha
theorem Bw.sh (s : Same H0 H) (h : Bw K mg bs H0 H c d v) : Sh K mg H0 H d v := by
  rcases h with h | ⟨fp, i, hi, hl, o, hc⟩
  · exact h.sh s
  · exact o.sh hl
end
theorem _root_.L2.PE.imp {X : Cx} {e : Expr} {t t' : TE} (h : PE X e t) (q : ∀ σ H Q, t' σ H Q → t σ H Q) : PE X e t' := ⟨fun pins s σ H Q I w => h.run pins s σ H Q I (q σ H Q w)⟩
theorem _root_.L2.PT.imp {X : Cx} {e : Expr} {t t' : TT} (h : PT X e t) (q : ∀ σ H Q, t' σ H Q → t σ H Q) : PT X e t' := ⟨fun pins s σ H Q I w => h.run pins s σ H Q I (q σ H Q w)⟩
theorem _root_.L2.PA.imp {X : Cx} {e : List Expr} {t t' : TA} (h : PA X e t) (q : ∀ σ H Q, t' σ H Q → t σ H Q) : PA X e t' := ⟨fun p pins s σ H Q I w => h.run p pins s σ H Q I (q σ H Q w)⟩
theorem _root_.L2.PS.imp {X : Cx} {e : Stmt} {t t' : TS} (h : PS X e t) (q : ∀ D σ H, t' D σ H → t D σ H) : PS X e t' := ⟨fun pins s σ H D I w => h.run pins s σ H D I (q D σ H w)⟩
theorem _root_.L2.PSs.imp {X : Cx} {e : List Stmt} {t t' : TS} (h : PSs X e t) (q : ∀ D σ H, t' D σ H → t D σ H) : PSs X e t' := ⟨fun pins s σ H D I w => h.run pins s σ H D I (q D σ H w)⟩
end Vm
set_option Elab.async false
set_option linter.all false
set_option maxRecDepth 100000
set_option maxHeartbeats 4000000
namespace Vm
open PySem PySem.Spec PyProof.Rows L2

/-! ### contexts -/
structure GC where
  P : Program
  K : PySem.W.Frag
  mg : MG
  base : Heap
abbrev GC.w (G : GC) : World := G.mg.w
structure Rs where
  A : Around
  s_0 : Shared
  H_0 : Hp
  env : Env
  outer : List Env
  stack : List Env
  ex : List Addr
  fn : Str → Bool
  calm : Bool
  pn : List (Addr × Obj)
  xe : Value → Shared → Prop
abbrev mkX (G : GC) (N : List Str) (R : Rs) : Cx :=
  { prog := G.P, w := G.w, K := G.K, mg := G.mg.m, base := G.base, A := R.A, N := N, s_0 := R.s_0, H_0 := R.H_0, env := R.env, outer := R.outer, stack := R.stack, ex := R.ex, fn := R.fn, calm := R.calm, pn := R.pn, xe := R.xe }
/-- what is known of where one stands: the scope, which names are cells of one's own, the room for calls, whether nothing is being handled -/
structure SC where
  sc : Scope
  fn : Str → Bool
  k : Nat
  cm : Bool
  tp : Bool
structure At (hx : Option Addr) (S : SC) (N : List Str) (X : Cx) : Prop where
  sc : X.env.scope = S.sc
  fn : X.fn = S.fn
  nd : N.Nodup
  calm : X.calm = S.cm
  room : S.cm = true → Room S.k X.A
  hot : S.cm = false → ∃ a, hx = some a ∧ X.A.handled = some (.ref a)
  rh : L2H.RoomH S.k X.A
  gd : X.A.guards = some []
  top : S.tp = true → X.stack = X.env :: X.outer ∧ X.env.frame = some X.env.locals ∧ X.ex = []
  po : PassesOwn (model X.prog X.w) X.A X.env X.xe

def VE {α β : Type} (G : GC) (N : List Str) (S : SC) (J : Cx → (L2.St → Hp → (β → Hp → Prop) → Prop) → Prop) (F : Fam α β) (ms : Ms) (f : M α) : Prop :=
  ∀ R, At G.mg.hx S N (mkX G N R) → ∀ W, L2N.Takes (mkX G N R) W → J (mkX G N R) (tR G.K G.mg W F ms f)
/-- an expression: its end owned at mode m -/
abbrev VO (G : GC) (N : List Str) (S : SC) (m : Md) (ms : Ms) (e : Expr) (f : M D) : Prop := VE G N S (fun X t => PE X e t) (FO G.K G.mg m ms) ms f
/-- .. its end frozen or lent -/
abbrev VB (G : GC) (N : List Str) (S : SC) (bs ms : Ms) (e : Expr) (f : M D) : Prop := VE G N S (fun X t => PE X e t) (FB G.K G.mg bs) ms f
/-- arguments: frozen or lent -/
abbrev VA (G : GC) (N : List Str) (S : SC) (bs ms : Ms) (es : List Expr) (f : M (List D)) : Prop := VE G N S (fun X t => PA X es t) (FBs G.K G.mg bs) ms f
/-- the children of a display -/
abbrev VL (G : GC) (N : List Str) (S : SC) (k : Kd) (ms : Ms) (es : List Expr) (f : M (List D)) : Prop := VE G N S (fun X t => PA X es t) (FOs G.K G.mg k ms) ms f
/-- a test -/
abbrev VT (G : GC) (N : List Str) (S : SC) (ms : Ms) (e : Expr) (f : M D) : Prop := VE G N S (fun X t => PT X e t) FT ms f
abbrev VW (G : GC) (N : List Str) (S : SC) (ms : Ms) (e : Expr) (f : M D) : Prop := VE G N S (fun X t => PW X e t) FT ms f

def rM {α : Type} (x : Option α) : M α := fun r => match x with
  | some a => .ok a r
  | none => .bad
@[simp] theorem rM_some {α : Type} (a : α) (r : En) : rM (some a) r = .ok a r := rfl
@[simp] theorem rM_none {α : Type} (r : En) : rM (none : Option α) r = .bad := rfl

section
variable {G : GC} {N : List Str} {S : SC} {bs bs1 bs2 ms ms1 ms2 ms3 : Ms} {m : Md} {e a b : Expr} {es : List Expr} {f fa fb : M D} {pos : Pos}

theorem VO.frz (h : VO G N S m ms e f) : VO G N S .z ms e f := fun R a W t => (h R a W t).imp fun σ H Q ⟨ρ, H0, c, l, o⟩ => ⟨ρ, H0, c, l, o.frz⟩
theorem VO.vb (h : VO G N S .z ms e f) : VB G N S ms0 ms e f := fun R a W t => (h R a W t).imp fun σ H Q ⟨ρ, H0, c, l, o⟩ => ⟨ρ, H0, c, l, o.mono (fun _ h => h) fun d H0' H' c' v ⟨fp, o, _⟩ => .inl (Ow.zero.mp o).2⟩

/-! ### constants, names -/
def eC (d : D) : M D := fun r => .ok d r
theorem VO.cst {v : V} {d : D} (h : ∀ X, PE X e (tC v)) (hd : ∀ H, Fz G.K G.mg H d v) : VO G N S .z ms0 e (eC d) := fun R a W t => (h _).imp fun σ H Q ⟨ρ, H0, c, l, o⟩ => o.here l (hd H0)
theorem VO.int {i j pos} : VO G N S .z ms0 (.Constant (.int i) j pos) (eC (.int i)) := .cst (fun X => pe_int) fun _ => rfl
theorem VO.bl {b j pos} : VO G N S .z ms0 (.Constant (.bool b) j pos) (eC (.bl b)) := .cst (fun X => pe_bl) fun _ => rfl
theorem VO.non {j pos} : VO G N S .z ms0 (.Constant .none j pos) (eC .non) := .cst (fun X => pe_non) fun _ => rfl
theorem VO.str {x : Str} {s : List Nat} {j pos} (h : x = ⟨s.toArray⟩ := by rfl) (hs : sOk s = true := by rfl) : VO G N S .z ms0 (.Constant (.str x) j pos) (eC (.str s)) := .cst (v := .str x) (fun X => pe_str) fun _ => ⟨by rw [h], hs⟩
def Hp0 : Hp := fun _ => none
/-- a constant of the module -/
def GlobC (G : GC) (x : Str) (d : D) : Prop := ∃ v u, G.mg x = some u ∧ RelV v u ∧ Fz G.K G.mg Hp0 d v
abbrev Glb (S : SC) (x : Str) : Prop := S.sc.names.lookup x = some .globalImplicit
theorem At.gl {X : Cx} {x : Str} (a : At hx S N X) (h : Glb S x) : Gl X x := by
  show X.env.scope.names.lookup x = _
  rw [a.sc]; exact h
theorem At.vis {X : Cx} {x : Str} (a : At hx S N X) (h : Vis S.sc x) : Vis X.env.scope x := by rw [a.sc]; exact h
theorem VO.glob {x : Str} {d : D} (h : GlobC G x d) (hg : Glb S x := by rfl) (hd : (x == ("__debug__" : Str)) = false := by decide) : VO G N S .z ms0 (.Name x pos) (eC d) := by
  obtain ⟨v, u, h1, h2, h3⟩ := h
  exact fun R a W t => (pe_glob (a.gl hg) h1 h2 hd).imp fun σ H Q ⟨ρ, H0, c, l, o⟩ => o.here l (Fz.mono (fun b o e => by cases e) d v h3)
def atom : D → Bool
  | .non => true
  | .bl _ => true
  | .int _ => true
  | .str _ => true
  | _ => false
/-- a slot's value: frozen, or an atom -/
def eVar (i : Nat) : M D := fun r => match getS r i with
  | some (.z, d) => .ok d r
  | some (_, d) => if atom d = true then .ok d r else .bad
  | none => .bad
theorem ow_atom {K : PySem.W.Frag} {mg : MG} {H0 H : Hp} {d : D} {m : Md} {v : V} {fp : List Addr} (h : Ow K mg H0 H d m v fp) (a : atom d = true) : Fz K mg H0 d v := by
  cases m with
  | z => exact (Ow.zero.mp h).2
  | o k => cases d <;> first | exact h.2 | cases a
  | f k => cases d <;> first | exact h.2 | cases a
  | t => cases d <;> first | exact h.2 | cases a
theorem VO.var {i : Nat} {x : Str} (hN : N[i]? = some x := by rfl) (hv : Vis S.sc x := by first | exact Or.inl rfl | exact Or.inr (Or.inl rfl) | exact Or.inr (Or.inr rfl))
    (hd : (x == ("__debug__" : Str)) = false := by decide) (hcd : (x == ("__classdict__" : Str)) = false := by decide) : VO G N S .z ms0 (.Name x pos) (eVar i) := by
  refine fun R a W t => (pe_var (i := i) hN (a.vis hv) hd hcd).imp fun σ H Q ⟨ρ, H0, c, l, o⟩ => ?_
  cases es : getS ρ i with
  | none => unfold eVar at o; rw [es] at o; exact o.elim
  | some md =>
    obtain ⟨m, d⟩ := md
    obtain ⟨v, fp, e1, ow, nd, hc⟩ := l.slot i m d es
    refine ⟨v, e1, ?_⟩
    cases m with
    | z => unfold eVar at o; rw [es] at o; exact o.here l (Ow.zero.mp ow).2
    | o k =>
      unfold eVar at o; rw [es] at o
      simp only at o
      split at o
      · exact o.here l (ow_atom ow (by assumption))
      · exact o.elim
    | f k =>
      unfold eVar at o; rw [es] at o
      simp only at o
      split at o
      · exact o.here l (ow_atom ow (by assumption))
      · exact o.elim
    | t =>
      unfold eVar at o; rw [es] at o
      simp only at o
      split at o
      · exact o.here l (ow_atom ow (by assumption))
      · exact o.elim
/-- a slot's value, lent for reading -/
def eBor (i : Nat) : M D := fun r => match getS r i with
  | some (.z, d) => .ok d r
  | some (.o (.all .z), d) => if lend d = true then .ok d r else .bad
  | _ => .bad
theorem VB.var {i : Nat} {x : Str} (hN : N[i]? = some x := by rfl) (hv : Vis S.sc x := by first | exact Or.inl rfl | exact Or.inr (Or.inl rfl) | exact Or.inr (Or.inr rfl))
    (hd : (x == ("__debug__" : Str)) = false := by decide) (hcd : (x == ("__classdict__" : Str)) = false := by decide) : VB G N S (msO i) ms0 (.Name x pos) (eBor i) := by
  refine fun R a W t => (pe_var (i := i) hN (a.vis hv) hd hcd).imp fun σ H Q ⟨ρ, H0, c, l, o⟩ => ?_
  cases es : getS ρ i with
  | none => unfold eBor at o; rw [es] at o; exact o.elim
  | some md =>
    obtain ⟨m, d⟩ := md
    obtain ⟨v, fp, e1, ow, nd, hc⟩ := l.slot i m d es
    refine ⟨v, e1, ?_⟩
    unfold eBor at o; rw [es] at o
    split at o
    · rename_i e; cases e; exact o v H0 H c .refl l (.inl (Ow.zero.mp ow).2)
    · rename_i e; cases e
      split at o
      · exact o v H0 H c .refl l (.inr ⟨fp, i, by simp, by assumption, ow, hc⟩)
      · exact o.elim
    · exact o.elim
/-- a slot's value handed over: the slot is left frozen -/
def eFrz (i : Nat) : M D := fun r => match getS r i with
  | some (_, d) => .ok d (r.set i (some (.z, d)))
  | none => .bad

/-! ### operators -/
/-- how a rule may end: both heaps grown, the end owned by new nodes -/
def Fin (K : PySem.W.Frag) (mg : MG) (m : Md) (H0 H : Hp) (d : D) (Q : VK) : Prop :=
  ∀ v H0' H' fp, Same H H' → Same H0 H0' → Same H0' H' → (∀ a o, H0' a = some o → (∃ u, H0 a = some u) ∨ H a = none) → Ow K mg H0' H' d m v fp → fp.Nodup → (∀ a ∈ fp, H a = none ∧ H0' a = none ∧ ∃ o, H' a = some o) → Q v H'
section
variable {K : PySem.W.Frag} {mg : MG} {W : WX} {H0 H H0' H' : Hp} {c : Co} {σ : L2.St} {ρ : En} {d : D} {Q : VK} {v : V} {p : Addr} {ds : List D} {vs : List V}
theorem Lies.grow (l : Lies K mg H0 H c σ ρ) (s1 : Same H H') (s2 : Same H0 H0') (s3 : Same H0' H') (s4 : ∀ a o, H0' a = some o → (∃ u, H0 a = some u) ∨ H a = none) : Lies K mg H0' H' c σ ρ := by
  refine ⟨s3, fun a e => (l.hot a e).mono s2, fun a i e => ?_, fun a i e => ?_, l.len, fun i m d e => ?_⟩
  · cases q : H0' a with
    | none => rfl
    | some o =>
      rcases s4 a o q with ⟨u, z⟩ | z
      · rw [l.apart a i e] at z; cases z
      · obtain ⟨u, w⟩ := l.there a i e
        rw [z] at w; cases w
  · obtain ⟨u, w⟩ := l.there a i e
    exact ⟨u, s1 _ _ w⟩
  · obtain ⟨v, fp, e1, ow, nd, hc⟩ := l.slot i m d e
    exact ⟨v, fp, e1, Ow.mono s2 d m v fp (fun a ha => by
      obtain ⟨u, w⟩ := l.there a i (hc a ha)
      rw [w, s1 _ _ w]) ow, nd, hc⟩
theorem Step.growth (s1 : Same H H') (s2 : Same H0 H0') (s4 : ∀ a o, H0' a = some o → (∃ u, H0 a = some u) ∨ H a = none) : Step ms H0 H c H0' H' c :=
  ⟨fun a o e _ => s1 a o e, fun _ _ _ _ => rfl, s2, fun a o e => (s4 a o e).imp id .inl, fun _ _ h => .inl h⟩
theorem Out.fin {ms : Ms} {m : Md} (h : Out K mg W (FO K mg m ms) ms H0 H c σ (.ok d ρ) Q) (l : Lies K mg H0 H c σ ρ) : Fin K mg m H0 H d Q :=
  fun v H0' H' fp s1 s2 s3 s4 ow nd new => h v H0' H' c (Step.growth s1 s2 s4) (l.grow s1 s2 s3 s4) ⟨fp, ow, nd, fun a ha => l.nc (new a ha).1, fun a ha => (new a ha).2.1, fun a ha => (new a ha).2.2, fun a ha => .inl (new a ha).1⟩
/-- the heap as it is -/
theorem Fin.at {m : Md} (h : Fin K mg m H0 H d Q) (s : Same H0 H) (o : Ow K mg H0 H d m v []) : Q v H := h v H0 H [] (Same.refl _) (Same.refl _) s (fun _ _ e => .inl ⟨_, e⟩) o List.nodup_nil (by simp)
theorem Fin.frz (h : Fin K mg .z H0 H d Q) (s : Same H0 H) (f : Fz K mg H0 d v) : Q v H := h.at s (Ow.zero.mpr ⟨rfl, f⟩)
theorem ow_of_atom {m : Md} (f : Fz K mg H0 d v) (a : atom d = true) : Ow K mg H0 H d m v [] := by
  cases m with
  | z => exact Ow.zero.mpr ⟨rfl, f⟩
  | o k => cases d <;> first | exact ⟨rfl, f⟩ | cases a
  | f k => cases d <;> first | exact ⟨rfl, f⟩ | cases a
  | t => cases d <;> first | exact ⟨rfl, f⟩ | cases a
theorem Fin.atom {m : Md} (h : Fin K mg m H0 H d Q) (s : Same H0 H) (f : Fz K mg H0 d v) (a : atom d = true) : Q v H := h.at s (ow_of_atom f a)
theorem same_upd0 {H : Hp} {p : Addr} {o : HO} (hp : H p = none) : Same H (upd H p o) := fun b u e => by
  rw [upd_ne (ne_of_none e hp)]; exact e
theorem same_upd2 {p : Addr} {o : HO} (s : Same H0 H) : Same (upd H0 p o) (upd H p o) := fun b u e => by
  by_cases h : b = p
  · rw [h, upd_same] at e ⊢; exact e
  · rw [upd_ne h] at e ⊢; exact s b u e
/-- one new frozen object -/
theorem Fin.newz {o : HO} (h : Fin K mg .z H0 H d Q) (s : Same H0 H) (hp : H p = none) (f : Fz K mg (upd H0 p o) d (.ref p)) : Q (.ref p) (upd H p o) :=
  h (.ref p) (upd H0 p o) (upd H p o) [] (same_upd0 hp) (same_upd0 (s.free hp)) (same_upd2 s) (fun a u e => by
    by_cases z : a = p
    · exact .inr (by rw [z]; exact hp)
    · rw [upd_ne z] at e; exact .inl ⟨u, e⟩) (Ow.zero.mpr ⟨rfl, f⟩) List.nodup_nil (by simp)
/-- one new owned object -/
theorem Fin.newo {m : Md} {o : HO} (h : Fin K mg m H0 H d Q) (s : Same H0 H) (hp : H p = none) (f : Ow K mg H0 (upd H p o) d m (.ref p) [p]) : Q (.ref p) (upd H p o) :=
  h (.ref p) H0 (upd H p o) [p] (same_upd0 hp) (Same.refl _) (s.trans (same_upd0 hp)) (fun a u e => .inl ⟨u, e⟩) f (by simp) (fun a ha => by
    rw [List.mem_singleton.mp ha]
    exact ⟨hp, s.free hp, o, upd_same⟩)
/-- frozen, or a node of one's own over frozen ones -/
def ZO (m : Md) : Prop := m = .z ∨ m = m1
theorem Fin.lst {m : Md} (hm : ZO m) (h : Fin K mg m H0 H (.lst ds) Q) (s : Same H0 H) (f : Fzs K mg H0 ds vs) (hp : H p = none) : Q (.ref p) (upd H p (.lst vs)) := by
  rcases hm with rfl | rfl
  · exact h.newz s hp ⟨p, vs, rfl, upd_same, Fzs.mono (same_upd0 (s.free hp)) ds vs f⟩
  · exact h.newo s hp ⟨p, vs, [], rfl, upd_same, rfl, Ows.all_z.mpr ⟨rfl, f⟩⟩
theorem Fin.tup {m : Md} (hm : ZO m) (h : Fin K mg m H0 H (.tup ds) Q) (s : Same H0 H) (f : Fzs K mg H0 ds vs) (hp : H p = none) : Q (.ref p) (upd H p (.tup vs)) := by
  rcases hm with rfl | rfl
  · exact h.newz s hp ⟨p, vs, rfl, .inl (.inl upd_same), Fzs.mono (same_upd0 (s.free hp)) ds vs f⟩
  · exact h.newo s hp ⟨p, vs, [], rfl, upd_same, rfl, Ows.all_z.mpr ⟨rfl, f⟩⟩
end
/-- a rule of two values serves o -/
def Ru2 (G : GC) (r : R2) (m : Md) (o : D → D → Option D) : Prop :=
  ∀ H0 H d1 d2 x y d Q, Same H0 H → Sh G.K G.mg H0 H d1 x → Sh G.K G.mg H0 H d2 y → o d1 d2 = some d → Fin G.K G.mg m H0 H d Q → r x y H Q
def fOp2 (o : D → D → Option D) (fa fb : M D) : M D := fun r => (fa r).bind fun x r => (fb r).bind fun y => rM (o x y)
theorem or_l {a b : Bool} (h : a = true) : (a || b) = true := by rw [h]; rfl
theorem or_r {a b : Bool} (h : b = true) : (a || b) = true := by rw [h, Bool.or_true]
abbrev Dj (bs ms : Ms) : Prop := ∀ i, bs i = true → ms i = false
theorem VE.bin {K : PySem.W.Frag} {mg : MG} {W : WX} {σ : L2.St} {H : Hp} {Q : VK} {r : R2} {o : D → D → Option D} (hK : K = G.K) (hm : mg = G.mg) (ru : Ru2 G r m o) (dj : Dj bs1 ms2)
    (h : tR K mg W (FO K mg m (msU ms1 ms2)) (msU ms1 ms2) (fOp2 o fa fb) σ H Q) : tR K mg W (FB K mg bs1) ms1 fa σ H fun x H1 => tR K mg W (FB K mg bs2) ms2 fb σ H1 fun y H2 => r x y H2 Q := by
  subst hK hm
  obtain ⟨ρ, H0, c, l, h⟩ := h
  refine ⟨ρ, H0, c, l, (Out.bind (G := FB G.K G.mg bs1) (ms1 := ms1) back_FO h fun i e => or_l e).imp fun x H1 ⟨d1, H01, c1, ρ1, e1, s1, l1, b1, h1⟩ => ?_⟩
  refine ⟨ρ1, H01, c1, l1, (Out.bind (G := FB G.K G.mg bs2) (ms1 := ms2) back_FO h1 fun i e => or_r e).imp fun y H2 ⟨d2, H02, c2, ρ2, e2, s2, l2, b2, h2⟩ => ?_⟩
  cases eo : o d1 d2 with
  | none => rw [eo] at h2; exact h2.elim
  | some d =>
    rw [eo] at h2
    exact ru H02 H2 d1 d2 x y d Q l2.sub ((b1.on s2 dj).sh l2.sub) (b2.sh l2.sub) eo (Out.fin h2 l2)
theorem VO.op {op : Operator} {r : R2} {o : D → D → Option D} (ho : ∀ R, At G.mg.hx S N (mkX G N R) → OpR (mkX G N R) (binaryOp op) r) (ru : Ru2 G r m o) (ha : VB G N S bs1 ms1 a fa) (hb : VB G N S bs2 ms2 b fb) (dj : Dj bs1 ms2 := by intro i h; first | rfl | exact absurd h Bool.false_ne_true | (simp [lentM] at h ⊢ <;> omega)) :
    VO G N S m (msU ms1 ms2) (.BinOp a op b pos) (fOp2 o fa fb) := fun R a W t => (pe_op (ho R a) (ha R a W t) (hb R a W t)).imp fun σ H Q h => VE.bin rfl rfl ru dj h
theorem VO.cmp {op : CmpOp} {r : R2} {o : D → D → Option D} (ho : ∀ R, At G.mg.hx S N (mkX G N R) → OpR (mkX G N R) (compareOp op) r) (ru : Ru2 G r m o) (ha : VB G N S bs1 ms1 a fa) (hb : VB G N S bs2 ms2 b fb) (dj : Dj bs1 ms2 := by intro i h; first | rfl | exact absurd h Bool.false_ne_true | (simp [lentM] at h ⊢ <;> omega))
    (hm : behindInMarks op b = false := by first | exact nomark _ | rfl) : VO G N S m (msU ms1 ms2) (.Compare a [op] [b] pos) (fOp2 o fa fb) := fun R a W t => (pe_cmpR (ho R a) (ha R a W t) (hb R a W t) hm).imp fun σ H Q h => VE.bin rfl rfl ru dj h
end
end Vm
set_option Elab.async false
set_option linter.all false
set_option maxRecDepth 100000
set_option maxHeartbeats 4000000
namespace Vm
open PySem PySem.Spec PyProof.Rows L2

/-! ### data as the library's data; equality, order -/
mutual
def toPy : D → PyData
  | .non => .none
  | .bl b => .bool b
  | .int i => .int i
  | .str s => .str ⟨s.toArray⟩
  | .tup ds => .tuple (toPys ds)
  | .lst ds => .list (toPys ds)
  | .dct _ _ => .dict []
  | .dnt _ _ => .dict []
  | .ins _ _ _ => .dict []
  | .scr _ => .dict []
  | .exn _ _ _ => .dict []
  | .unk => .dict []
def toPys : List D → List PyData
  | [] => []
  | d :: ds => toPy d :: toPys ds
end
mutual
/-- no dict, no object in it -/
def plain : D → Bool
  | .non => true
  | .bl _ => true
  | .int _ => true
  | .str _ => true
  | .tup ds => plains ds
  | .lst ds => plains ds
  | .dct _ _ => false
  | .dnt _ _ => false
  | .ins _ _ _ => false
  | .scr _ => false
  | .exn _ _ _ => false
  | .unk => false
def plains : List D → Bool
  | [] => true
  | d :: ds => plain d && plains ds
end
mutual
def dep : D → Nat
  | .non => 0
  | .bl _ => 0
  | .int _ => 0
  | .str _ => 0
  | .tup ds => deps ds + 1
  | .lst ds => deps ds + 1
  | .dct _ _ => 1
  | .dnt _ _ => 1
  | .ins _ _ _ => 1
  | .scr _ => 1
  | .exn _ _ _ => 1
  | .unk => 1
def deps : List D → Nat
  | [] => 0
  | d :: ds => max (dep d) (deps ds)
end
def b2I (b : Bool) : Int := if b = true then 1 else 0
mutual
def eqD : D → D → Bool
  | .non, e => match e with | .non => true | _ => false
  | .bl a, e => match e with | .bl b => a == b | .int j => b2I a == j | _ => false
  | .int i, e => match e with | .int j => i == j | .bl b => i == b2I b | _ => false
  | .str s, e => match e with | .str t => s == t | _ => false
  | .tup xs, e => match e with | .tup ys => eqDs xs ys | _ => false
  | .lst xs, e => match e with | .lst ys => eqDs xs ys | _ => false
  | .dct _ _, _ => false
  | .dnt _ _, _ => false
  | .ins _ _ _, _ => false
  | .scr _, _ => false
  | .exn _ _ _, _ => false
  | .unk, _ => false
def eqDs : List D → List D → Bool
  | [], ys => match ys with | [] => true | _ :: _ => false
  | x :: xs, ys => match ys with | y :: ys => eqD x y && eqDs xs ys | [] => false
end
theorem str_beq (s t : List Nat) : ((⟨s.toArray⟩ : Str) == ⟨t.toArray⟩) = (s == t) := by
  by_cases h : s = t
  · subst h; simp
  · have h2 : ¬ (⟨s.toArray⟩ : Str) = ⟨t.toArray⟩ := fun e => h (by
      have := congrArg (fun x : Str => x.cps.toList) e
      simpa using this)
    rw [beq_eq_false_iff_ne.mpr h, beq_eq_false_iff_ne.mpr h2]
mutual
theorem eqv_eqD : ∀ d e : D, PyData.eqv (toPy d) (toPy e) = eqD d e
  | .non, e => by cases e <;> rfl
  | .bl a, e => by cases e <;> rfl
  | .int a, e => by cases e <;> rfl
  | .str a, e => by cases e <;> first | rfl | exact str_beq _ _
  | .tup xs, e => by cases e <;> first | rfl | exact eqv_eqDs _ _
  | .lst xs, e => by cases e <;> first | rfl | exact eqv_eqDs _ _
  | .dct _ _, e => by cases e <;> rfl
  | .dnt _ _, e => by cases e <;> rfl
  | .ins _ _ _, e => by cases e <;> rfl
  | .scr _, e => by cases e <;> rfl
  | .exn _ _ _, e => by cases e <;> rfl
  | .unk, e => by cases e <;> rfl
theorem eqv_eqDs : ∀ ds es : List D, PyData.eqvAll (toPys ds) (toPys es) = eqDs ds es
  | [], es => by cases es <;> rfl
  | d :: ds, es => by
    cases es with
    | nil => rfl
    | cons e es =>
      show (PyData.eqv (toPy d) (toPy e) && PyData.eqvAll (toPys ds) (toPys es)) = (eqD d e && eqDs ds es)
      rw [eqv_eqD, eqv_eqDs]
end
mutual
theorem dep_py : ∀ d : D, (toPy d).depth ≤ dep d
  | .non => Nat.le_refl _
  | .bl _ => Nat.le_refl _
  | .int _ => Nat.le_refl _
  | .str _ => Nat.le_refl _
  | .tup ds => by simp only [toPy, PyData.depth, dep]; exact Nat.succ_le_succ (deps_py ds)
  | .lst ds => by simp only [toPy, PyData.depth, dep]; exact Nat.succ_le_succ (deps_py ds)
  | .dct _ _ => by simp [toPy, PyData.depth, PyData.depthKv, dep]
  | .dnt _ _ => by simp [toPy, PyData.depth, PyData.depthKv, dep]
  | .ins _ _ _ => by simp [toPy, PyData.depth, PyData.depthKv, dep]
  | .scr _ => by simp [toPy, PyData.depth, PyData.depthKv, dep]
  | .exn _ _ _ => by simp [toPy, PyData.depth, PyData.depthKv, dep]
  | .unk => by simp [toPy, PyData.depth, PyData.depthKv, dep]
theorem deps_py : ∀ ds : List D, PyData.depthAll (toPys ds) ≤ deps ds
  | [] => Nat.le_refl _
  | d :: ds => by
    have h1 := dep_py d
    have h2 := deps_py ds
    simp only [toPys, PyData.depthAll, deps]
    omega
end
section
variable {K : PySem.W.Frag} {mg : MG} {H H0 : Hp}
mutual
theorem Fz.dp : ∀ (d : D) (v : V), Fz K mg H d v → plain d = true → Dp K H v (toPy d)
  | .non, _, h, _ => by cases h; exact .non
  | .bl _, _, h, _ => by cases h; exact .bl _
  | .int _, _, h, _ => by cases h; exact .int _
  | .str _, _, h, _ => by rw [h.1]; exact .str _
  | .tup ds, _, ⟨a, vs, e, h, r⟩, p => by subst e; exact .tup h (Fzs.dp ds vs r p)
  | .lst ds, _, ⟨a, vs, e, h, r⟩, p => by subst e; exact .lst (.of h) (Fzs.dp ds vs r p)
  | .dct _ _, _, _, p => by cases p
  | .dnt _ _, _, _, p => by cases p
  | .ins _ _ _, _, _, p => by cases p
  | .scr _, _, _, p => by cases p
  | .exn _ _ _, _, _, p => by cases p
  | .unk, _, _, p => by cases p
theorem Fzs.dp : ∀ (ds : List D) (vs : List V), Fzs K mg H ds vs → plains ds = true → DpAll K H vs (toPys ds)
  | [], _, h, _ => by cases h; exact .nil
  | d :: ds, _, ⟨v, r, e, h, t⟩, p => by
    subst e
    have p := Bool.and_eq_true_iff.mp p
    exact .cons (Fz.dp d v h p.1) (Fzs.dp ds r t p.2)
end
theorem sOk_str {s : List Nat} (h : sOk s = true) : PyData.strOk ⟨s.toArray⟩ = true := by
  have h := (Bool.and_eq_true_iff.mp h).2
  unfold PyData.strOk
  simpa using h
mutual
theorem Fz.lay : ∀ (d : D) (v : V), Fz K mg H d v → plain d = true → (toPy d).canLay0 = true
  | .non, _, h, _ => rfl
  | .bl _, _, h, _ => rfl
  | .int _, _, h, _ => rfl
  | .str _, _, h, _ => sOk_str h.2
  | .tup ds, _, ⟨a, vs, e, h, r⟩, p => Fzs.lay ds vs r p
  | .lst ds, _, ⟨a, vs, e, h, r⟩, p => Fzs.lay ds vs r p
  | .dct _ _, _, _, p => by cases p
  | .dnt _ _, _, _, p => by cases p
  | .ins _ _ _, _, _, p => by cases p
  | .scr _, _, _, p => by cases p
  | .exn _ _ _, _, _, p => by cases p
  | .unk, _, _, p => by cases p
theorem Fzs.lay : ∀ (ds : List D) (vs : List V), Fzs K mg H ds vs → plains ds = true → PyData.canLayAll0 (toPys ds) = true
  | [], _, h, _ => rfl
  | d :: ds, _, ⟨v, r, e, h, t⟩, p => by
    have p := Bool.and_eq_true_iff.mp p
    show (PyData.canLay0 (toPy d) && PyData.canLayAll0 (toPys ds)) = true
    rw [Fz.lay d v h p.1, Fzs.lay ds r t p.2]; rfl
end
end
section
variable {G : GC} {N : List Str} {S : SC} {X : Cx}
/-! ### == and != -/
def eqOk (d e : D) : Bool := plain d && plain e && decide (min (dep d) (dep e) ≤ 64)
def oEq (d e : D) : Option D := if eqOk d e = true then some (.bl (eqD d e)) else none
def oNe (d e : D) : Option D := if eqOk d e = true then some (.bl (!eqD d e)) else none
def rEqV (K : PySem.W.Frag) : R2 := fun x y H Q => ∃ d e, Dp K H x d ∧ Dp K H y e ∧ d.canLay0 = true ∧ e.canLay0 = true ∧ min d.depth e.depth ≤ 64 ∧ Q (.bl (PyData.eqv d e)) H
def rNeV (K : PySem.W.Frag) : R2 := fun x y H Q => ∃ d e, Dp K H x d ∧ Dp K H y e ∧ d.canLay0 = true ∧ e.canLay0 = true ∧ min d.depth e.depth ≤ 64 ∧ Q (.bl (!PyData.eqv d e)) H
theorem op_eqV (hu : X.A.units + 100 < cLine) : OpR X (compareOp .Eq) (rEqV X.K) := by
  intro pins s σ H x y v u Q I rx ry h
  obtain ⟨d, e, hd, he, sd, se, hm, q⟩ := h
  obtain ⟨as, r1⟩ := Dp.reads I d x v hd rx
  obtain ⟨bs, r2⟩ := Dp.reads I e y u he ry
  exact SeqAt.compareEq_reads r1 r2 sd se (by omega) ⟨.bl _, H, I, rfl, q⟩
theorem op_neV (hu : X.A.units + 100 < cLine) : OpR X (compareOp .NotEq) (rNeV X.K) := by
  intro pins s σ H x y v u Q I rx ry h
  obtain ⟨d, e, hd, he, sd, se, hm, q⟩ := h
  obtain ⟨as, r1⟩ := Dp.reads I d x v hd rx
  obtain ⟨bs, r2⟩ := Dp.reads I e y u he ry
  exact SeqAt.compareNe_reads r1 r2 sd se (by omega) ⟨.bl _, H, I, rfl, q⟩
theorem eqOk_of {d e : D} (h : eqOk d e = true) : plain d = true ∧ plain e = true ∧ min (toPy d).depth (toPy e).depth ≤ 64 := by
  unfold eqOk at h
  simp only [Bool.and_eq_true, decide_eq_true_eq] at h
  have h1 := dep_py d
  have h2 := dep_py e
  exact ⟨h.1.1, h.1.2, by omega⟩
theorem ru_eq : Ru2 G (rEqV G.K) .z oEq := by
  intro H0 H d1 d2 x y d Q s h1 h2 ho f
  unfold oEq at ho
  split at ho
  · rename_i hk
    obtain ⟨p1, p2, p3⟩ := eqOk_of hk
    cases ho
    have z1 := h1.fz s
    have z2 := h2.fz s
    refine ⟨toPy d1, toPy d2, Fz.dp d1 x z1 p1, Fz.dp d2 y z2 p2, Fz.lay d1 x z1 p1, Fz.lay d2 y z2 p2, p3, ?_⟩
    rw [eqv_eqD]
    exact f.frz s rfl
  · cases ho
theorem ru_ne : Ru2 G (rNeV G.K) .z oNe := by
  intro H0 H d1 d2 x y d Q s h1 h2 ho f
  unfold oNe at ho
  split at ho
  · rename_i hk
    obtain ⟨p1, p2, p3⟩ := eqOk_of hk
    cases ho
    have z1 := h1.fz s
    have z2 := h2.fz s
    refine ⟨toPy d1, toPy d2, Fz.dp d1 x z1 p1, Fz.dp d2 y z2 p2, Fz.lay d1 x z1 p1, Fz.lay d2 y z2 p2, p3, ?_⟩
    rw [eqv_eqD]
    exact f.frz s rfl
  · cases ho

/-! ### numbers -/
def oI2 (C : Int → Int → Bool) (g : Int → Int → D) (d e : D) : Option D := match d, e with
  | .int i, .int j => if C i j = true then some (g i j) else none
  | _, _ => none
theorem sh_str {K : PySem.W.Frag} {mg : MG} {H0 H : Hp} {i : List Nat} {x : V} (h : Sh K mg H0 H (.str i) x) : x = sV i ∧ sOk i = true := h
theorem ru_I2 {m : Md} {C : Int → Int → Bool} {P : Int → Int → Prop} {g : Int → Int → D} {gv : Int → Int → V} (hC : ∀ i j, C i j = true → P i j) (hg : ∀ i j, atom (g i j) = true ∧ ∀ H, Fz G.K G.mg H (g i j) (gv i j)) :
    Ru2 G (rI P gv) m (oI2 C g) := by
  intro H0 H d1 d2 x y d Q s h1 h2 ho f
  unfold oI2 at ho
  split at ho
  · rename_i i j
    split at ho
    · rename_i hc
      cases ho
      exact ⟨i, j, h1, h2, hC i j hc, f.atom s ((hg i j).2 _) (hg i j).1⟩
    · cases ho
  · cases ho
def mulOk (i j : Int) : Bool := decide (i.natAbs < 18446744073709551616) || (decide (j.natAbs < 18446744073709551616) || decide (i.natAbs.log2 + j.natAbs.log2 < 1000000))
def divOk (_ j : Int) : Bool := decide (0 < j) && decide (j.natAbs.log2 < 9000)
def modOk (_ j : Int) : Bool := decide (0 < j)
abbrev yes2 (_ _ : Int) : Bool := true
def oSub : D → D → Option D := oI2 yes2 fun i j => .int (i - j)
def oFdiv : D → D → Option D := oI2 divOk fun i j => .int (i / j)
def oMod : D → D → Option D := oI2 modOk fun i j => .int (i % j)
def rI0' (g : Int → Int → V) : R2 := rI (fun _ _ => True) g
theorem op_rI0 {f : Value → Value → Sem Value} {g : Int → Int → V} (h : OpR X f (rI0 g)) : OpR X f (rI0' g) := fun pins s σ H x y v u Q I rx ry ⟨i, j, e1, e2, _, q⟩ => h pins s σ H x y v u Q I rx ry ⟨i, j, e1, e2, q⟩
theorem ru_sub {m : Md} : Ru2 G (rI0' fun i j => .int (i - j)) m oSub := ru_I2 (fun _ _ _ => trivial) fun _ _ => ⟨rfl, fun _ => rfl⟩
theorem ru_fdiv {m : Md} : Ru2 G (rI CDivW fun i j => .int (i / j)) m oFdiv := ru_I2 (fun i j h => by
  unfold divOk at h
  simp only [Bool.and_eq_true, decide_eq_true_eq] at h
  exact h) fun _ _ => ⟨rfl, fun _ => rfl⟩
theorem ru_mod {m : Md} : Ru2 G (rI (fun _ j => 0 < j) fun i j => .int (i % j)) m oMod := ru_I2 (fun i j h => of_decide_eq_true h) fun _ _ => ⟨rfl, fun _ => rfl⟩
/-- comparisons of ints -/
def oLtI : D → D → Option D := oI2 yes2 fun i j => .bl (decide (i < j))
def oLeI : D → D → Option D := oI2 yes2 fun i j => .bl (decide (i ≤ j))
def oGtI : D → D → Option D := oI2 yes2 fun i j => .bl (decide (j < i))
def oGeI : D → D → Option D := oI2 yes2 fun i j => .bl (decide (j ≤ i))
theorem ru_ltI {m : Md} : Ru2 G (rI0' fun i j => .bl (decide (i < j))) m oLtI := ru_I2 (fun _ _ _ => trivial) fun _ _ => ⟨rfl, fun _ => rfl⟩
theorem ru_leI {m : Md} : Ru2 G (rI0' fun i j => .bl (decide (i ≤ j))) m oLeI := ru_I2 (fun _ _ _ => trivial) fun _ _ => ⟨rfl, fun _ => rfl⟩
theorem ru_gtI {m : Md} : Ru2 G (rI0' fun i j => .bl (decide (j < i))) m oGtI := ru_I2 (fun _ _ _ => trivial) fun _ _ => ⟨rfl, fun _ => rfl⟩
theorem ru_geI {m : Md} : Ru2 G (rI0' fun i j => .bl (decide (j ≤ i))) m oGeI := ru_I2 (fun _ _ _ => trivial) fun _ _ => ⟨rfl, fun _ => rfl⟩

/-! ### + -/
theorem Fzs.append {K : PySem.W.Frag} {mg : MG} {H : Hp} : ∀ {ds es : List D} {vs ws : List V}, Fzs K mg H ds vs → Fzs K mg H es ws → Fzs K mg H (ds ++ es) (vs ++ ws)
  | [], es, vs, ws, h, g => by rw [show vs = [] from h]; exact g
  | d :: ds, es, vs, ws, ⟨v, r, e, h, t⟩, g => by subst e; exact ⟨v, r ++ ws, rfl, h, Fzs.append t g⟩
theorem Fzs.length {K : PySem.W.Frag} {mg : MG} {H : Hp} : ∀ {ds : List D} {vs : List V}, Fzs K mg H ds vs → vs.length = ds.length
  | [], vs, h => by rw [show vs = [] from h]; rfl
  | d :: ds, vs, ⟨v, r, e, h, t⟩ => by subst e; simp [Fzs.length t]
abbrev lnOk (n : Nat) : Bool := decide (n ≤ 16777216)
def oAdd (d e : D) : Option D := match d, e with
  | .int i, .int j => some (.int (i + j))
  | .str s, .str t => if lnOk (s.length + t.length) = true then some (.str (s ++ t)) else none
  | .lst s, .lst t => if lnOk (s.length + t.length) = true then some (.lst (s ++ t)) else none
  | .tup s, .tup t => if lnOk (s.length + t.length) = true then some (.tup (s ++ t)) else none
  | _, _ => none
def oAddL (d e : D) : Option D := match d, e with
  | .lst s, .lst t => if lnOk (s.length + t.length) = true then some (.lst (s ++ t)) else none
  | _, _ => none
abbrev rOr (r r' : R2) : R2 := fun x y H Q => r x y H Q ∨ r' x y H Q
abbrev rAddS : R2 := fun x y H Q => ∃ i j, x = .str i ∧ y = .str j ∧ i.length + j.length ≤ sizeLine ∧ Q (.str (i ++ j)) H
abbrev rAddV (K : PySem.W.Frag) : R2 := rOr (rI0' fun i j => .int (i + j)) (rOr rAddS (rOr rCat (rCatA K)))
theorem op_addV : OpR X (binaryOp .Add) (rAddV X.K) := (op_rI0 op_add).or (op_add_str.or (op_cat.or op_catA))
theorem str_app (s t : List Nat) : ((⟨s.toArray⟩ : Str) ++ ⟨t.toArray⟩) = ⟨(s ++ t).toArray⟩ := by
  show (Str.mk (s.toArray ++ t.toArray)) = _
  congr 1
  simp
theorem str_len (s : List Nat) : (⟨s.toArray⟩ : Str).length = s.length := by simp [Str.length]
theorem sOk_app {s t : List Nat} (h1 : sOk s = true) (h2 : sOk t = true) (h : s.length + t.length ≤ 16777216) : sOk (s ++ t) = true := by
  unfold sOk at *
  simp only [Bool.and_eq_true, decide_eq_true_eq, List.all_append, List.length_append] at *
  exact ⟨h, h1.2, h2.2⟩
theorem ru_add : Ru2 G (rAddV G.K) .z oAdd := by
  intro H0 H d1 d2 x y d Q s h1 h2 ho f
  unfold oAdd at ho
  split at ho
  · rename_i i j
    cases ho
    exact .inl ⟨i, j, h1, h2, trivial, f.atom s rfl rfl⟩
  · rename_i a b
    split at ho
    · rename_i hl
      cases ho
      have hl := of_decide_eq_true hl
      obtain ⟨e1, k1⟩ := sh_str h1
      obtain ⟨e2, k2⟩ := sh_str h2
      refine .inr (.inl ⟨_, _, e1, e2, ?_, ?_⟩)
      · rw [str_len, str_len, sizeLine_eq]; exact hl
      · rw [str_app]
        exact f.atom s ⟨rfl, sOk_app k1 k2 hl⟩ rfl
    · cases ho
  · rename_i a b
    split at ho
    · rename_i hl
      cases ho
      have hl := of_decide_eq_true hl
      obtain ⟨a1, vs, e1, k1, f1⟩ := h1
      obtain ⟨a2, ws, e2, k2, f2⟩ := h2
      refine .inr (.inr (.inl ⟨a1, a2, vs, ws, e1, e2, k1, k2, ?_, fun p hp => f.lst (.inl rfl) s (f1.append f2) hp⟩))
      rw [f1.length, f2.length, sizeLine_eq]; exact hl
    · cases ho
  · rename_i a b
    split at ho
    · rename_i hl
      cases ho
      have hl := of_decide_eq_true hl
      obtain ⟨a1, vs, e1, k1, f1⟩ := id h1
      obtain ⟨a2, ws, e2, k2, f2⟩ := id h2
      have l1 := f1.length
      have l2 := f2.length
      refine .inr (.inr (.inr ⟨a1, a2, vs, ws, e1, e2, same_t s k1, same_t s k2, ?_, fun hx => ?_, fun hx hy => ?_, fun hx hy p hp => f.tup (.inl rfl) s (f1.append f2) hp⟩))
      · rw [l1, l2, sizeLine_eq]; exact hl
      · have z : a = [] := by
          rw [hx] at l1
          exact List.eq_nil_of_length_eq_zero l1.symm
        rw [z] at f
        exact f.frz s (by rw [← e2]; exact h2)
      · have z : b = [] := by
          rw [hy] at l2
          exact List.eq_nil_of_length_eq_zero l2.symm
        rw [z, List.append_nil] at f
        exact f.frz s (by rw [← e1]; exact h1)
    · cases ho
  · cases ho
end
end Vm
set_option Elab.async false
set_option linter.all false
set_option maxRecDepth 100000
set_option maxHeartbeats 4000000
namespace Vm
open PySem PySem.Spec PyProof.Rows L2
section
variable {G : GC} {N : List Str} {S : SC} {X : Cx}
theorem ru_addL : Ru2 G rCat m1 oAddL := by
  intro H0 H d1 d2 x y d Q s h1 h2 ho f
  unfold oAddL at ho
  split at ho
  · rename_i a b
    split at ho
    · rename_i hl
      cases ho
      have hl := of_decide_eq_true hl
      obtain ⟨a1, vs, e1, k1, f1⟩ := h1
      obtain ⟨a2, ws, e2, k2, f2⟩ := h2
      refine ⟨a1, a2, vs, ws, e1, e2, k1, k2, ?_, fun p hp => f.lst (.inr rfl) s (f1.append f2) hp⟩
      rw [f1.length, f2.length, sizeLine_eq]; exact hl
    · cases ho
  · cases ho

/-! ### * -/
def repS (s : List Nat) : Nat → List Nat
  | 0 => []
  | n + 1 => s ++ repS s n
def oMul (d e : D) : Option D := match d, e with
  | .int i, .int j => if mulOk i j = true then some (.int (i * j)) else none
  | .str s, .int n => if decide (0 ≤ n) && decide (n ≤ 1000) && decide (s.length ≤ 1000) = true then some (.str (repS s n.toNat)) else none
  | _, _ => none
/-! ### in, not in -/
def inOk (d : D) (cs : List D) : Bool := plain d && plains cs && decide (min (deps cs) (dep d) ≤ 64)
def oIn (d c : D) : Option D := match c with
  | .lst cs => if inOk d cs = true then some (.bl (cs.any fun y => eqD y d)) else none
  | .tup cs => if inOk d cs = true then some (.bl (cs.any fun y => eqD y d)) else none
  | .str t => match d with
    | .str [c] => some (.bl (decide (c ∈ t)))
    | _ => none
  | _ => none
def oNotIn (d c : D) : Option D := match oIn d c with
  | some (.bl b) => some (.bl (!b))
  | _ => none
def rInV (K : PySem.W.Frag) (neg : Bool) : R2 := fun x y H Q =>
  (∃ d ds, Dp K H x d ∧ (Dp K H y (.list ds) ∨ Dp K H y (.tuple ds)) ∧ d.canLay0 = true ∧ PyData.canLayAll0 ds = true ∧ min (PyData.depthAll ds) d.depth ≤ 64 ∧ Q (.bl (if neg then !ds.any (fun z => PyData.eqv z d) else ds.any fun z => PyData.eqv z d)) H) ∨
  ∃ (c : Nat) (z : List Nat), x = .str ⟨#[c]⟩ ∧ y = .str ⟨z.toArray⟩ ∧ Q (.bl (if neg then !decide (c ∈ z) else decide (c ∈ z))) H
theorem op_inV (hu : X.A.units + 100 < cLine) : OpR X (compareOp .In) (rInV X.K false) := by
  intro pins s σ H x y v u Q I rx ry h
  rcases h with ⟨d, ds, hd, he, sd, se, hm, q⟩ | ⟨c, z, e1, e2, q⟩
  · obtain ⟨as, r1⟩ := Dp.reads I d x v hd rx
    rcases he with he | he
    · obtain ⟨bs, r2⟩ := Dp.reads I _ y u he ry
      exact SeqAt.in_list_reads r2 r1 se sd (by omega) ⟨.bl _, H, I, rfl, q⟩
    · obtain ⟨bs, r2⟩ := Dp.reads I _ y u he ry
      exact SeqAt.in_tuple_reads r2 r1 se sd (by omega) ⟨.bl _, H, I, rfl, q⟩
  · exact op_in_sign pins s σ H x y v u Q I rx ry ⟨c, _, e1, e2, by simpa using q⟩
theorem op_notInV (hu : X.A.units + 100 < cLine) : OpR X (compareOp .NotIn) (rInV X.K true) := by
  intro pins s σ H x y v u Q I rx ry h
  rcases h with ⟨d, ds, hd, he, sd, se, hm, q⟩ | ⟨c, z, e1, e2, q⟩
  · obtain ⟨as, r1⟩ := Dp.reads I d x v hd rx
    rcases he with he | he
    · obtain ⟨bs, r2⟩ := Dp.reads I _ y u he ry
      exact SeqAt.notIn_list_reads r2 r1 se sd (by omega) ⟨.bl _, H, I, rfl, q⟩
    · obtain ⟨bs, r2⟩ := Dp.reads I _ y u he ry
      exact SeqAt.notIn_tuple_reads r2 r1 se sd (by omega) ⟨.bl _, H, I, rfl, q⟩
  · exact op_notIn_sign pins s σ H x y v u Q I rx ry ⟨c, _, e1, e2, by simpa using q⟩
theorem inOk_of {d : D} {cs : List D} (h : inOk d cs = true) : plain d = true ∧ plains cs = true ∧ min (PyData.depthAll (toPys cs)) (toPy d).depth ≤ 64 := by
  unfold inOk at h
  simp only [Bool.and_eq_true, decide_eq_true_eq] at h
  have h1 := dep_py d
  have h2 := deps_py cs
  exact ⟨h.1.1, h.1.2, by omega⟩
theorem any_toPys (d : D) : ∀ cs : List D, (toPys cs).any (fun z => PyData.eqv z (toPy d)) = cs.any fun y => eqD y d
  | [] => rfl
  | c :: cs => by
    show (PyData.eqv (toPy c) (toPy d) || _) = _
    rw [eqv_eqD, any_toPys d cs]; rfl
theorem in_core {neg : Bool} {H0 H : Hp} {d c : D} {x y : V} {b : Bool} {Q : VK} (s : Same H0 H) (h1 : Sh G.K G.mg H0 H d x) (h2 : Sh G.K G.mg H0 H c y) (ho : oIn d c = some (.bl b)) (q : Q (.bl (if neg then !b else b)) H) : rInV G.K neg x y H Q := by
  have z1 := h1.fz s
  have z2 := h2.fz s
  unfold oIn at ho
  split at ho
  · split at ho
    · rename_i hk
      obtain ⟨p1, p2, p3⟩ := inOk_of hk
      cases ho
      obtain ⟨a, vs, e, k, f⟩ := id z2
      refine .inl ⟨toPy d, _, Fz.dp d x z1 p1, .inl (Fz.dp (.lst _) y z2 p2), Fz.lay d x z1 p1, Fzs.lay _ vs f p2, p3, ?_⟩
      rw [any_toPys]; exact q
    · cases ho
  · split at ho
    · rename_i hk
      obtain ⟨p1, p2, p3⟩ := inOk_of hk
      cases ho
      obtain ⟨a, vs, e, k, f⟩ := id z2
      refine .inl ⟨toPy d, _, Fz.dp d x z1 p1, .inr (Fz.dp (.tup _) y z2 p2), Fz.lay d x z1 p1, Fzs.lay _ vs f p2, p3, ?_⟩
      rw [any_toPys]; exact q
    · cases ho
  · split at ho
    · cases ho
      exact .inr ⟨_, _, (sh_str h1).1, (sh_str h2).1, q⟩
    · cases ho
  · cases ho
theorem oIn_bl {d c e : D} (h : oIn d c = some e) : ∃ b, e = .bl b := by
  unfold oIn at h
  split at h
  · split at h
    · cases h; exact ⟨_, rfl⟩
    · cases h
  · split at h
    · cases h; exact ⟨_, rfl⟩
    · cases h
  · split at h
    · cases h; exact ⟨_, rfl⟩
    · cases h
  · cases h
theorem ru_in : Ru2 G (rInV G.K false) .z oIn := by
  intro H0 H d1 d2 x y d Q s h1 h2 ho f
  obtain ⟨b, e⟩ := oIn_bl ho
  subst e
  exact in_core s h1 h2 ho (f.frz s rfl)
theorem ru_notIn : Ru2 G (rInV G.K true) .z oNotIn := by
  intro H0 H d1 d2 x y d Q s h1 h2 ho f
  unfold oNotIn at ho
  split at ho
  · rename_i hi
    cases ho
    exact in_core s h1 h2 hi (f.frz s rfl)
  · cases ho

/-! ### is, is not -/
def isNon : D → Bool
  | .non => true
  | _ => false
def oIs (d e : D) : Option D := match e with
  | .non => some (.bl (isNon d))
  | .bl b => match d with
    | .bl a => some (.bl (decide (a = b)))
    | _ => none
  | _ => none
def oIsNot (d e : D) : Option D := match e with
  | .non => some (.bl (!isNon d))
  | .bl b => match d with
    | .bl a => some (.bl (!decide (a = b)))
    | _ => none
  | _ => none
abbrev rIsV : R2 := rOr (fun x y H Q => y = .non ∧ Q (.bl (decide (x = .non))) H) rIsB
theorem op_isV : OpR X (compareOp .Is) rIsV := op_isN.or op_isBl
theorem sh_non {H0 H : Hp} {d : D} {x : V} (h : Sh G.K G.mg H0 H d x) : decide (x = V.non) = isNon d := by
  cases d with
  | non => rw [show x = V.non from h]; rfl
  | bl b => rw [show x = V.bl b from h]; rfl
  | int b => rw [show x = V.int b from h]; rfl
  | str b => rw [(sh_str h).1]; rfl
  | tup b => obtain ⟨a, vs, e, _⟩ := id h; rw [e]; rfl
  | lst b => obtain ⟨a, vs, e, _⟩ := id h; rw [e]; rfl
  | dct b _ => obtain ⟨a, vs, e, _⟩ := id h; rw [e]; rfl
  | dnt b _ => obtain ⟨a, _, vs, e, _⟩ := id h; rw [e]; rfl
  | ins b _ _ => obtain ⟨a, _, _, vs, e, _⟩ := id h; rw [e]; rfl
  | scr _ => obtain ⟨a, e, _⟩ := id h; rw [e]; rfl
  | exn _ _ _ => obtain ⟨a, _, e, _⟩ := id h; rw [e]; rfl
  | unk => obtain ⟨a, e⟩ := id h; rw [e]; rfl
theorem ru_is {m : Md} : Ru2 G rIsV m oIs := by
  intro H0 H d1 d2 x y d Q s h1 h2 ho f
  unfold oIs at ho
  split at ho
  · cases ho
    refine .inl ⟨h2, ?_⟩
    rw [sh_non h1]
    exact f.atom s rfl rfl
  · split at ho
    · cases ho
      exact .inr ⟨_, _, h1, h2, f.atom s rfl rfl⟩
    · cases ho
  · cases ho
/-! ### an item -/
def oIx (d e : D) : Option D := match d, e with
  | .lst ds, .int i => atI ds i
  | .tup ds, .int i => atI ds i
  | .str s, .int i => (atI s i).map fun c => .str [c]
  | .scr ns, .int i => (atI ns i).map .int
  | _, _ => none
theorem Fzs.get {K : PySem.W.Frag} {mg : MG} {H : Hp} : ∀ {ds : List D} {vs : List V} {j : Nat} {d : D}, Fzs K mg H ds vs → ds[j]? = some d → ∃ v, vs[j]? = some v ∧ Fz K mg H d v
  | [], _, _, _, _, h => by simp at h
  | d :: ds, vs, 0, d', ⟨v, r, e, h, t⟩, q => by
    subst e
    simp at q
    subst q
    exact ⟨v, rfl, h⟩
  | d :: ds, vs, j + 1, d', ⟨v, r, e, h, t⟩, q => by
    subst e
    obtain ⟨w, h1, h2⟩ := Fzs.get (j := j) t (by simpa using q)
    exact ⟨w, by simpa using h1, h2⟩
theorem Fzs.atI {K : PySem.W.Frag} {mg : MG} {H : Hp} {ds : List D} {vs : List V} {i : Int} {d : D} (f : Fzs K mg H ds vs) (h : L2.atI ds i = some d) : ∃ v, L2.atI vs i = some v ∧ Fz K mg H d v := by
  unfold L2.atI at h ⊢
  rw [f.length]
  cases e : ixN ds.length i with
  | none => rw [e] at h; cases h
  | some j =>
    rw [e] at h
    exact f.get h
theorem atI_mem {α : Type} {xs : List α} {i : Int} {c : α} (h : L2.atI xs i = some c) : c ∈ xs := by
  unfold L2.atI at h
  cases hq : ixN xs.length i with
  | none => rw [hq] at h; cases h
  | some j => rw [hq] at h; exact List.mem_of_getElem? (show xs[j]? = some c from h)
theorem atI_map {α β : Type} {g : α → β} {xs : List α} {i : Int} : L2.atI (xs.map g) i = (L2.atI xs i).map g := by
  unfold L2.atI
  rw [List.length_map]
  cases hq : ixN xs.length i with
  | none => rfl
  | some j =>
    show (xs.map g)[j]? = (xs[j]?).map g
    rw [List.getElem?_map]
theorem ru_ix : Ru2 G (rIx G.K) .z oIx := by
  intro H0 H d1 d2 x y d Q s h1 h2 ho f
  unfold oIx at ho
  split at ho
  · obtain ⟨a, vs, e, k, g⟩ := h1
    obtain ⟨v, e1, e2⟩ := g.atI ho
    exact .inl ⟨a, vs, _, v, e, h2, .of k, e1, f.frz s e2⟩
  · obtain ⟨a, vs, e, k, g⟩ := h1
    obtain ⟨v, e1, e2⟩ := g.atI ho
    exact .inr (.inl ⟨a, vs, _, v, e, h2, same_t s k, e1, f.frz s e2⟩)
  · obtain ⟨c, e1, e2⟩ := Option.map_eq_some_iff.mp ho
    obtain ⟨e3, k⟩ := sh_str h1
    subst e2
    refine .inr (.inr ⟨_, _, c, e3, h2, ?_, by simpa using e1, f.frz s ⟨rfl, ?_⟩⟩)
    · rw [str_len, sizeLine_eq]
      unfold sOk at k
      simp only [Bool.and_eq_true, decide_eq_true_eq] at k
      exact k.1
    · unfold sOk at k ⊢
      simp only [Bool.and_eq_true, decide_eq_true_eq, List.all_eq_true] at k ⊢
      refine ⟨by simp, fun y hy => ?_⟩
      rw [List.mem_singleton.mp hy]
      exact k.2 c (atI_mem e1)
  · obtain ⟨n, e1, e2⟩ := Option.map_eq_some_iff.mp ho
    obtain ⟨a, e3, k⟩ := h1
    subst e2
    exact .inl ⟨a, _, _, .int n, e3, h2, k, by rw [atI_map, e1]; rfl, f.frz s rfl⟩
  · cases ho
end
section
variable {G : GC} {N : List Str} {S : SC} {bs bs1 bs2 ms ms1 ms2 ms3 : Ms} {m : Md} {e a b : Expr} {es : List Expr} {f fa fb : M D} {pos : Pos}
theorem VO.ix {r : R2} {o : D → D → Option D} (ho : ∀ R, At G.mg.hx S N (mkX G N R) → IxR (mkX G N R) r) (ru : Ru2 G r m o) (ha : VB G N S bs1 ms1 a fa) (hb : VB G N S bs2 ms2 b fb) (dj : Dj bs1 ms2 := by intro i h; first | rfl | exact absurd h Bool.false_ne_true | (simp [lentM] at h ⊢ <;> omega)) (hp : PlainIx b := by exact fun _ _ => rfl) :
    VO G N S m (msU ms1 ms2) (.Subscript a b pos) (fOp2 o fa fb) := fun R a W t => (pe_ix (ho R a) (ha R a W t) (hb R a W t) hp).imp fun σ H Q h => VE.bin rfl rfl ru dj h
end
end Vm
set_option Elab.async false
set_option linter.all false
set_option maxRecDepth 100000
set_option maxHeartbeats 4000000
namespace Vm
open PySem PySem.Spec PyProof.Rows L2

def Shs (K : PySem.W.Frag) (mg : MG) (H0 H : Hp) : List D → List V → Prop
  | [], vs => vs = []
  | d :: ds, vs => ∃ v r, vs = v :: r ∧ Sh K mg H0 H d v ∧ Shs K mg H0 H ds r
/-! ### children, arguments -/
def fNil : M (List D) := fun r => .ok [] r
def fCons (fe : M D) (fr : M (List D)) : M (List D) := fun r => (fe r).bind fun d r => (fr r).bind fun ds r => .ok (d :: ds) r
theorem Bw.more {K : PySem.W.Frag} {mg : MG} {bs1 bs2 : Ms} {H0 H : Hp} {c : Co} {d : D} {v : V} (h : Bw K mg bs1 H0 H c d v) (q : ∀ i, bs1 i = true → bs2 i = true) : Bw K mg bs2 H0 H c d v := by
  rcases h with h | ⟨fp, i, hi, r⟩
  · exact .inl h
  · exact .inr ⟨fp, i, q i hi, r⟩
theorem Bws.more {K : PySem.W.Frag} {mg : MG} {bs1 bs2 : Ms} {H0 H : Hp} {c : Co} (q : ∀ i, bs1 i = true → bs2 i = true) : ∀ {ds : List D} {vs : List V}, Bws K mg bs1 H0 H c ds vs → Bws K mg bs2 H0 H c ds vs
  | [], vs, h => h
  | d :: ds, vs, ⟨v, r, e, h, t⟩ => ⟨v, r, e, h.more q, Bws.more q t⟩
theorem Ows.length {K : PySem.W.Frag} {mg : MG} {H0 H : Hp} : ∀ {ds : List D} {k : Kd} {vs : List V} {fp : List Addr}, Ows K mg H0 H ds k vs fp → vs.length = ds.length
  | [], _, _, _, h => by rw [h.1]; rfl
  | d :: ds, k, _, _, ⟨v, r, f, g, e, ef, h, t⟩ => by rw [e]; simp [Ows.length t]
/-- new nodes, then more of them -/
theorem Fresh.app {ms1 ms2 ms : Ms} {H0 H H1 H02 H2 : Hp} {H01 : Hp} {c c1 c2 : Co} {fp1 fp2 : List Addr} (f1 : Fresh ms1 H c H02 H2 c2 fp1) (t1 : ∀ a ∈ fp1, ∃ o, H1 a = some o) (n1 : ∀ a ∈ fp1, c1 a = none) (f2 : Fresh ms2 H1 c1 H02 H2 c2 fp2)
    (q1 : ∀ i, ms1 i = true → ms i = true) (q2 : ∀ i, ms2 i = true → ms i = true) (s : Step ms H0 H c H01 H1 c1) : Fresh ms H c H02 H2 c2 (fp1 ++ fp2) := by
  have f1 := f1.mono q1
  have f2' := Fresh.back s (f2.mono q2)
  have ap : ∀ {P : Addr → Prop}, (∀ a ∈ fp1, P a) → (∀ a ∈ fp2, P a) → ∀ a ∈ fp1 ++ fp2, P a := fun h1 h2 a ha => (List.mem_append.mp ha).elim (h1 a) (h2 a)
  refine ⟨List.nodup_append.mpr ⟨f1.nd, f2.nd, fun a ha b hb e => ?_⟩, ap f1.nc f2'.nc, ap f1.n0 f2'.n0, ap f1.there f2'.there, ap f1.new f2'.new⟩
  subst e
  obtain ⟨o, e1⟩ := t1 a ha
  rcases f2.new a hb with z | ⟨i, z, _⟩
  · rw [e1] at z; cases z
  · rw [n1 a ha] at z; cases z
section
variable {G : GC} {N : List Str} {S : SC} {bs bs1 bs2 ms ms1 ms2 ms3 : Ms} {m : Md} {k : Kd} {e a b : Expr} {es : List Expr} {f fa fb : M D} {fs : M (List D)} {pos : Pos}
def VLs (G : GC) (N : List Str) (S : SC) (k : Kd) (ms : Ms) (es : List Expr) (f : M (List D)) : Prop := VL G N S k ms es f ∧ ∀ r ds r', f r = .ok ds r' → ds.length = es.length
theorem VLs.nil : VLs G N S k ms0 [] fNil := by
  refine ⟨fun R a W t => pa_nil.imp fun σ H Q ⟨ρ, H0, c, l, o⟩ => o [] H0 H c .refl l ⟨[], ⟨rfl, rfl⟩, .nil⟩, fun r ds r' h => ?_⟩
  cases h; rfl
theorem VLs.cons (he : VO G N S k.hd ms1 e f) (hr : VLs G N S k.tl ms2 es fs) (hs : ∀ env, starEach (e :: es) env = (false, eval e env) :: starEach es env := by intro _; rfl) : VLs G N S k (msU ms1 ms2) (e :: es) (fCons f fs) := by
  refine ⟨fun R a W t => (pa_cons (he R a W t) (hr.1 R a W t) (hs _)).imp fun σ H Q ⟨ρ, H0, c, l, h⟩ => ?_, fun r ds r' h => ?_⟩
  · refine ⟨ρ, H0, c, l, (Out.bind (G := FO G.K G.mg k.hd ms1) (ms1 := ms1) back_FOs h fun i e => or_l e).imp fun x H1 ⟨d1, H01, c1, ρ1, e1, s1, l1, ⟨fp1, o1, f1⟩, h1⟩ => ?_⟩
    refine ⟨ρ1, H01, c1, l1, (Out.bind (G := FOs G.K G.mg k.tl ms2) (ms1 := ms2) back_FOs h1 fun i e => or_r e).imp fun y H2 ⟨d2, H02, c2, ρ2, e2, s2, l2, ⟨fp2, o2, f2⟩, h2⟩ => ?_⟩
    obtain ⟨f1', hk⟩ := f1.on s2
    have hh : Out G.K G.mg W (FOs G.K G.mg k (msU ms1 ms2)) (msU ms1 ms2) H0 H c σ (.ok (d1 :: d2) ρ2) Q := by
      have z : fCons f fs ρ = .ok (d1 :: d2) ρ2 := by unfold fCons; rw [e1, bind_ok, e2, bind_ok]
      rw [← z]; exact h
    have s1' := s1.mono (ms' := msU ms1 ms2) fun i e => or_l e
    have s2' := s2.mono (ms' := msU ms1 ms2) fun i e => or_r e
    refine hh (x :: y) H02 H2 c2 (s1'.trans s2') l2 ⟨fp1 ++ fp2, ⟨x, y, fp1, fp2, rfl, rfl, Ow.mono s2.grow d1 k.hd x fp1 hk o1, o2⟩, ?_⟩
    exact Fresh.app f1' (f1.there) (f1.nc) f2 (fun i e => or_l e) (fun i e => or_r e) s1'
  · unfold fCons at h
    cases e1 : f r with
    | ok d r1 =>
      rw [e1, bind_ok] at h
      cases e2 : fs r1 with
      | ok ds2 r2 =>
        rw [e2, bind_ok] at h
        cases h
        rw [List.length_cons, List.length_cons, hr.2 _ _ _ e2]
      | exc => rw [e2] at h; cases h
      | bad => rw [e2] at h; cases h
    | exc => rw [e1] at h; cases h
    | bad => rw [e1] at h; cases h
theorem VA.nil : VA G N S ms0 ms0 [] fNil := fun R a W t => pa_nil.imp fun σ H Q ⟨ρ, H0, c, l, o⟩ => o [] H0 H c .refl l rfl
theorem VA.cons (he : VB G N S bs1 ms1 e f) (hr : VA G N S bs2 ms2 es fs) (dj : Dj bs1 ms2 := by intro i h; first | rfl | exact absurd h Bool.false_ne_true | (simp [lentM] at h ⊢ <;> omega)) (hs : ∀ env, starEach (e :: es) env = (false, eval e env) :: starEach es env := by intro _; rfl) : VA G N S (msU bs1 bs2) (msU ms1 ms2) (e :: es) (fCons f fs) := by
  refine fun R a W t => (pa_cons (he R a W t) (hr R a W t) (hs _)).imp fun σ H Q ⟨ρ, H0, c, l, h⟩ => ?_
  refine ⟨ρ, H0, c, l, (Out.bind (G := FB G.K G.mg bs1) (ms1 := ms1) back_FBs h fun i e => or_l e).imp fun x H1 ⟨d1, H01, c1, ρ1, e1, s1, l1, b1, h1⟩ => ?_⟩
  refine ⟨ρ1, H01, c1, l1, (Out.bind (G := FBs G.K G.mg bs2) (ms1 := ms2) back_FBs h1 fun i e => or_r e).imp fun y H2 ⟨d2, H02, c2, ρ2, e2, s2, l2, b2, h2⟩ => ?_⟩
  exact h2 (x :: y) H02 H2 c2 .refl l2 ⟨x, y, rfl, (b1.on s2 dj).more fun i e => or_l e, Bws.more (fun i e => or_r e) b2⟩
/-! ### displays -/
def fLst (f : M (List D)) : M D := fun r => (f r).bind fun ds r => .ok (.lst ds) r
def fTup (f : M (List D)) : M D := fun r => (f r).bind fun ds r => .ok (.tup ds) r
theorem VO.lst (h : VLs G N S k ms es fs) (hl : decide (es.length ≤ 1000) = true := by rfl) : VO G N S (.o k) ms (.List es pos) (fLst fs) := by
  refine fun R a W t => (pe_lst (h.1 R a W t)).imp fun σ H Q ⟨ρ, H0, c, l, o⟩ => ?_
  refine ⟨ρ, H0, c, l, (Out.bind (G := FOs G.K G.mg k ms) (ms1 := ms) back_FO o fun i e => e).imp fun xs H1 ⟨ds, H01, c1, ρ1, e1, s1, l1, ⟨g, o1, f1⟩, h1⟩ => ⟨?_, fun p hp => ?_⟩⟩
  · rw [o1.length, h.2 _ _ _ e1, sizeLine_eq]
    have := of_decide_eq_true hl
    omega
  · have hh : Out G.K G.mg W (FO G.K G.mg (.o k) ms) ms H0 H c σ (.ok (.lst ds) ρ1) Q := by
      have z : fLst fs ρ = .ok (.lst ds) ρ1 := by unfold fLst; rw [e1, bind_ok]
      rw [← z]; exact o
    refine Out.node (Hs := H) (cs := c) hh s1 l1 hp f1 ⟨p, xs, g, rfl, upd_same, rfl, Ows.mono (Same.refl _) ds k xs g (fun b hb => ?_) o1⟩
    obtain ⟨u, e⟩ := f1.there b hb
    exact upd_ne (ne_of_none e hp)
theorem VO.tup {x1} (h : VLs G N S k ms es fs) (hl : decide (es.length ≤ 1000) = true := by rfl) : VO G N S (.o k) ms (.Tuple es x1 pos) (fTup fs) := by
  refine fun R a W t => (pe_tup (h.1 R a W t)).imp fun σ H Q ⟨ρ, H0, c, l, o⟩ => ?_
  refine ⟨ρ, H0, c, l, (Out.bind (G := FOs G.K G.mg k ms) (ms1 := ms) back_FO o fun i e => e).imp fun xs H1 ⟨ds, H01, c1, ρ1, e1, s1, l1, ⟨g, o1, f1⟩, h1⟩ => ⟨?_, fun p hp => ?_⟩⟩
  · rw [o1.length, h.2 _ _ _ e1, sizeLine_eq]
    have := of_decide_eq_true hl
    omega
  · have hh : Out G.K G.mg W (FO G.K G.mg (.o k) ms) ms H0 H c σ (.ok (.tup ds) ρ1) Q := by
      have z : fTup fs ρ = .ok (.tup ds) ρ1 := by unfold fTup; rw [e1, bind_ok]
      rw [← z]; exact o
    refine Out.node (Hs := H) (cs := c) hh s1 l1 hp f1 ⟨p, xs, g, rfl, upd_same, rfl, Ows.mono (Same.refl _) ds k xs g (fun b hb => ?_) o1⟩
    obtain ⟨u, e⟩ := f1.there b hb
    exact upd_ne (ne_of_none e hp)

/-! ### tests -/
def fB (f : M D) : M D := fun r => (f r).bind fun d r => match d with
  | .bl b => .ok (.bl b) r
  | _ => .bad
theorem VT.of (h : VO G N S .z ms e f) (he : ∀ env whole, isTrue e env whole = (do let v ← whole; standAt e.pos; holding [v] (truthy v)) := by intro _ _; rfl) : VT G N S ms e (fB f) := by
  refine fun R a W t => (pt_val (h R a W t) (he _)).imp fun σ H Q ⟨ρ, H0, c, l, o⟩ => ?_
  refine ⟨ρ, H0, c, l, (Out.bind (G := FO G.K G.mg .z ms) (ms1 := ms) back_FT o fun i e => e).imp fun x H1 ⟨d, H01, c1, ρ1, e1, s1, l1, ⟨g, o1, f1⟩, h1⟩ => ?_⟩
  have z := (Ow.zero.mp o1).2
  cases d with
  | bl b => exact ⟨b, z, h1 b H01 H1 c1 .refl l1 rfl⟩
  | _ => exact h1.elim
theorem VT.cmp {op : CmpOp} {r : R2} {o : D → D → Option D} {bs1 bs2 ms1 ms2 : Ms} (ho : ∀ R, At G.mg.hx S N (mkX G N R) → OpR (mkX G N R) (compareOp op) r) (ru : Ru2 G r .z o) (ha : VB G N S bs1 ms1 a fa) (hb : VB G N S bs2 ms2 b fb) (dj : Dj bs1 ms2 := by intro i h; first | rfl | exact absurd h Bool.false_ne_true | (simp [lentM] at h ⊢ <;> omega))
    (hm : behindInMarks op b = false := by first | exact nomark _ | rfl) : VT G N S (msU ms1 ms2) (.Compare a [op] [b] pos) (fB (fOp2 o fa fb)) := by
  refine fun R a W t => (pt_cmpR (ho R a) (ha R a W t) (hb R a W t) hm).imp fun σ H Q ⟨ρ, H0, c, l, h⟩ => ?_
  refine VE.bin (m := .z) rfl rfl ru dj ⟨ρ, H0, c, l, (Out.bind (G := FO G.K G.mg .z (msU ms1 ms2)) (ms1 := msU ms1 ms2) back_FT h fun i e => e).imp fun x H1 ⟨d, H01, c1, ρ1, e1, s1, l1, ⟨g, o1, f1⟩, h1⟩ => ?_⟩
  have z := (Ow.zero.mp o1).2
  cases d with
  | bl b => exact ⟨b, z, h1 b H01 H1 c1 .refl l1 rfl⟩
  | _ => exact h1.elim
/-- a and b, a or b; not a -/
def fAnd (fa fb : M D) : M D := fun r => (fa r).bind fun d r => match d with
  | .bl true => fb r
  | .bl false => .ok (.bl false) r
  | _ => .bad
def fOr (fa fb : M D) : M D := fun r => (fa r).bind fun d r => match d with
  | .bl true => .ok (.bl true) r
  | .bl false => fb r
  | _ => .bad
def fNot (fa : M D) : M D := fun r => (fa r).bind fun d r => match d with
  | .bl b => .ok (.bl (!b)) r
  | _ => .bad
theorem VW.pt (h : VW G N S ms e f) : VT G N S ms e f := fun R a W t => PW.pt (h R a W t)
theorem VW.or1 (h : VT G N S ms a f) : VW G N S ms (.BoolOp .Or [a] pos) f := fun R s W t => pw_or1 (h R s W t)
theorem PW.imp {X : Cx} {e : Expr} {t t' : TT} (h : PW X e t) (q : ∀ σ H Q, t' σ H Q → t σ H Q) : PW X e t' := ⟨fun w pins s σ H Q I z => h.run w pins s σ H Q I (q σ H Q z)⟩
theorem VW.and {rest : List Expr} (ha : VT G N S ms1 a fa) (hb : VW G N S ms2 (.BoolOp .And (b :: rest) pos) fb) : VW G N S (msU ms1 ms2) (.BoolOp .And (a :: b :: rest) pos) (fAnd fa fb) := by
  refine fun R s W t => PW.imp (pw_and (ha R s W t) (hb R s W t)) fun σ H Q ⟨ρ, H0, c, l, o⟩ => ?_
  refine ⟨ρ, H0, c, l, (Out.bind (G := FT) (ms1 := ms1) back_FT o fun i e => or_l e).imp fun x H1 ⟨d, H01, c1, ρ1, e1, s1, l1, z, h1⟩ => ?_⟩
  have z : d = .bl x := z
  subst z
  cases x with
  | true => rw [if_pos rfl]; exact ⟨ρ1, H01, c1, l1, h1.mono (fun i e => or_r e) fun _ _ _ _ _ h => h⟩
  | false => rw [if_neg Bool.false_ne_true]; exact h1 false H01 H1 c1 .refl l1 rfl
theorem VW.or {rest : List Expr} (ha : VT G N S ms1 a fa) (hb : VW G N S ms2 (.BoolOp .Or (b :: rest) pos) fb) : VW G N S (msU ms1 ms2) (.BoolOp .Or (a :: b :: rest) pos) (fOr fa fb) := by
  refine fun R s W t => PW.imp (pw_or (ha R s W t) (hb R s W t)) fun σ H Q ⟨ρ, H0, c, l, o⟩ => ?_
  refine ⟨ρ, H0, c, l, (Out.bind (G := FT) (ms1 := ms1) back_FT o fun i e => or_l e).imp fun x H1 ⟨d, H01, c1, ρ1, e1, s1, l1, z, h1⟩ => ?_⟩
  have z : d = .bl x := z
  subst z
  cases x with
  | false => rw [if_neg Bool.false_ne_true]; exact ⟨ρ1, H01, c1, l1, h1.mono (fun i e => or_r e) fun _ _ _ _ _ h => h⟩
  | true => rw [if_pos rfl]; exact h1 true H01 H1 c1 .refl l1 rfl
theorem VT.not (ha : VT G N S ms a fa) : VT G N S ms (.UnaryOp .Not a pos) (fNot fa) := by
  refine fun R s W t => (pt_not (ha R s W t)).imp fun σ H Q ⟨ρ, H0, c, l, o⟩ => ?_
  refine ⟨ρ, H0, c, l, (Out.bind (G := FT) (ms1 := ms) back_FT o fun i e => e).imp fun x H1 ⟨d, H01, c1, ρ1, e1, s1, l1, z, h1⟩ => ?_⟩
  have z : d = .bl x := z
  subst z
  exact h1 (!x) H01 H1 c1 .refl l1 rfl
/-- .. as values -/
theorem VO.one {op} (h : VO G N S m ms a f) : VO G N S m ms (.BoolOp op [a] pos) f := fun R s W t => pe_one (h R s W t)
theorem VO.and {rest : List Expr} (ha : VO G N S .z ms1 a fa) (hb : VO G N S .z ms2 (.BoolOp .And (b :: rest) pos) fb) : VO G N S .z (msU ms1 ms2) (.BoolOp .And (a :: b :: rest) pos) (fAnd fa fb) := by
  refine fun R s W t => (pe_and (ha R s W t) (hb R s W t)).imp fun σ H Q ⟨ρ, H0, c, l, o⟩ => ?_
  refine ⟨ρ, H0, c, l, (Out.bind (G := FO G.K G.mg .z ms1) (ms1 := ms1) back_FO o fun i e => or_l e).imp fun x H1 ⟨d, H01, c1, ρ1, e1, s1, l1, ⟨g, o1, f1⟩, h1⟩ => ?_⟩
  have z := (Ow.zero.mp o1).2
  cases d with
  | bl b =>
    refine ⟨b, z, ?_⟩
    cases b with
    | true => rw [if_pos rfl]; exact ⟨ρ1, H01, c1, l1, h1.mono (fun i e => or_r e) fun _ _ _ _ _ h => fo_mono (fun i e => or_r e) h⟩
    | false => rw [if_neg Bool.false_ne_true]; exact h1.here l1 rfl
  | _ => exact h1.elim
theorem VO.or {rest : List Expr} (ha : VO G N S .z ms1 a fa) (hb : VO G N S .z ms2 (.BoolOp .Or (b :: rest) pos) fb) : VO G N S .z (msU ms1 ms2) (.BoolOp .Or (a :: b :: rest) pos) (fOr fa fb) := by
  refine fun R s W t => (pe_or (ha R s W t) (hb R s W t)).imp fun σ H Q ⟨ρ, H0, c, l, o⟩ => ?_
  refine ⟨ρ, H0, c, l, (Out.bind (G := FO G.K G.mg .z ms1) (ms1 := ms1) back_FO o fun i e => or_l e).imp fun x H1 ⟨d, H01, c1, ρ1, e1, s1, l1, ⟨g, o1, f1⟩, h1⟩ => ?_⟩
  have z := (Ow.zero.mp o1).2
  cases d with
  | bl b =>
    refine ⟨b, z, ?_⟩
    cases b with
    | false => rw [if_neg Bool.false_ne_true]; exact ⟨ρ1, H01, c1, l1, h1.mono (fun i e => or_r e) fun _ _ _ _ _ h => fo_mono (fun i e => or_r e) h⟩
    | true => rw [if_pos rfl]; exact h1.here l1 rfl
  | _ => exact h1.elim
theorem VO.not (ha : VO G N S .z ms a fa) : VO G N S .z ms (.UnaryOp .Not a pos) (fNot fa) := by
  refine fun R s W t => (pe_not (ha R s W t)).imp fun σ H Q ⟨ρ, H0, c, l, o⟩ => ?_
  refine ⟨ρ, H0, c, l, (Out.bind (G := FO G.K G.mg .z ms) (ms1 := ms) back_FO o fun i e => e).imp fun x H1 ⟨d, H01, c1, ρ1, e1, s1, l1, ⟨g, o1, f1⟩, h1⟩ => ?_⟩
  have z := (Ow.zero.mp o1).2
  cases d with
  | bl b => exact ⟨b, z, h1.here l1 rfl⟩
  | _ => exact h1.elim
/-- a if t else b -/
def fIf {α : Type} (ft : M D) (fa fb : M α) : M α := fun r => (ft r).bind fun d r => match d with
  | .bl true => fa r
  | .bl false => fb r
  | _ => .bad
theorem VO.ite {t : Expr} {ft : M D} {ms0' : Ms} (ht : VT G N S ms0' t ft) (ha : VO G N S m ms1 a fa) (hb : VO G N S m ms2 b fb) : VO G N S m (msU ms0' (msU ms1 ms2)) (.IfExp t a b pos) (fIf ft fa fb) := by
  refine fun R s W tk => (pe_ifExp (ht R s W tk) (ha R s W tk) (hb R s W tk)).imp fun σ H Q ⟨ρ, H0, c, l, o⟩ => ?_
  refine ⟨ρ, H0, c, l, (Out.bind (G := FT) (ms1 := ms0') back_FO o fun i e => or_l e).imp fun x H1 ⟨d, H01, c1, ρ1, e1, s1, l1, z, h1⟩ => ?_⟩
  have z : d = .bl x := z
  subst z
  cases x with
  | true => rw [if_pos rfl]; exact ⟨ρ1, H01, c1, l1, h1.mono (fun i e => or_r (or_l e)) fun _ _ _ _ _ h => fo_mono (fun i e => or_r (or_l e)) h⟩
  | false => rw [if_neg Bool.false_ne_true]; exact ⟨ρ1, H01, c1, l1, h1.mono (fun i e => or_r (or_r e)) fun _ _ _ _ _ h => fo_mono (fun i e => or_r (or_r e)) h⟩
/-- -a -/
def fNeg (fa : M D) : M D := fun r => (fa r).bind fun d r => match d with
  | .int i => .ok (.int (-i)) r
  | _ => .bad
theorem VO.neg (ha : VO G N S .z ms a fa) : VO G N S .z ms (.UnaryOp .USub a pos) (fNeg fa) := by
  refine fun R s W t => (pe_un un_neg (ha R s W t)).imp fun σ H Q ⟨ρ, H0, c, l, o⟩ => ?_
  refine ⟨ρ, H0, c, l, (Out.bind (G := FO G.K G.mg .z ms) (ms1 := ms) back_FO o fun i e => e).imp fun x H1 ⟨d, H01, c1, ρ1, e1, s1, l1, ⟨g, o1, f1⟩, h1⟩ => ?_⟩
  have z := (Ow.zero.mp o1).2
  cases d with
  | int i => exact ⟨i, z, h1.here l1 rfl⟩
  | _ => exact h1.elim

/-! ### calls of built-ins -/
def RuA (G : GC) (r : List V → Hp → VK → Prop) (m : Md) (o : List D → Option D) : Prop :=
  ∀ H0 H ds xs d Q, Same H0 H → Shs G.K G.mg H0 H ds xs → o ds = some d → Fin G.K G.mg m H0 H d Q → r xs H Q
def fA (o : List D → Option D) (f : M (List D)) : M D := fun r => (f r).bind fun ds => rM (o ds)
theorem Bws.shs {K : PySem.W.Frag} {mg : MG} {bs : Ms} {H0 H : Hp} {c : Co} (s : Same H0 H) : ∀ {ds : List D} {vs : List V}, Bws K mg bs H0 H c ds vs → Shs K mg H0 H ds vs
  | [], vs, h => h
  | d :: ds, vs, ⟨v, r, e, h, t⟩ => ⟨v, r, e, h.sh s, Bws.shs s t⟩
theorem VE.args {K : PySem.W.Frag} {mg : MG} {W : WX} {σ : L2.St} {H : Hp} {Q : VK} {r : List V → Hp → VK → Prop} {o : List D → Option D} (hK : K = G.K) (hm : mg = G.mg) (ru : RuA G r m o)
    (h : tR K mg W (FO K mg m ms) ms (fA o fs) σ H Q) : tR K mg W (FBs K mg bs) ms fs σ H fun xs H1 => r xs H1 Q := by
  subst hK hm
  obtain ⟨ρ, H0, c, l, h⟩ := h
  refine ⟨ρ, H0, c, l, (Out.bind (G := FBs G.K G.mg bs) (ms1 := ms) back_FO h fun i e => e).imp fun xs H1 ⟨ds, H01, c1, ρ1, e1, s1, l1, b1, h1⟩ => ?_⟩
  cases eo : o ds with
  | none => rw [eo] at h1; exact h1.elim
  | some d => rw [eo] at h1; exact ru H01 H1 ds xs d Q l1.sub (b1.shs l1.sub) eo (Out.fin h1 l1)
variable {x : Str} {p : Pos} {id : String} {r : List V → Hp → VK → Prop} {o : List D → Option D}
theorem VO.callB (hc : ∀ R, At G.mg.hx S N (mkX G N R) → CallR (mkX G N R) (.builtin id) r) (ru : RuA G r m o) (hm : G.mg x = none) (hv : bootBuiltins x = some (.builtin id)) (ha : VA G N S bs ms (e :: es) fs) (hg : Glb S x := by rfl)
    (hn : x ≠ "__name__" := by decide) (hdb : (x == ("__debug__" : Str)) = false := by decide) (he : ∀ env, starEach (e :: es) env = (false, eval e env) :: starEach es env := by intro _; rfl) (hpl : ∀ env, (backTo pos (starEach es env)).any (·.1) = false := by intro _; rfl) :
    VO G N S m ms (.Call (.Name x p) (e :: es) [] pos) (fA o fs) := fun R a W t => (pe_callB (hc R a) (a.gl hg) hm hv (ha R a W t) hn hdb (he _) (hpl _)).imp fun σ H Q h => VE.args rfl rfl ru h
theorem VO.callTy {T : String} (hc : ∀ R, At G.mg.hx S N (mkX G N R) → CallR (mkX G N R) (.type T) r) (ru : RuA G r m o) (hm : G.mg x = none) (hv : bootBuiltins x = some (.type T)) (ha : VA G N S bs ms (e :: es) fs) (hg : Glb S x := by rfl)
    (hn : x ≠ "__name__" := by decide) (hdb : (x == ("__debug__" : Str)) = false := by decide) (he : ∀ env, starEach (e :: es) env = (false, eval e env) :: starEach es env := by intro _; rfl) (hpl : ∀ env, (backTo pos (starEach es env)).any (·.1) = false := by intro _; rfl) :
    VO G N S m ms (.Call (.Name x p) (e :: es) [] pos) (fA o fs) := fun R a W t => (pe_callTy (hc R a) (a.gl hg) hm hv (ha R a W t) hn hdb (he _) (hpl _)).imp fun σ H Q h => VE.args rfl rfl ru h
end
end Vm
set_option Elab.async false
set_option linter.all false
set_option maxRecDepth 100000
set_option maxHeartbeats 4000000
namespace Vm
open PySem PySem.Spec PyProof.Rows L2

/-! ### isinstance against a built-in type -/
inductive PyT where
  | int | bool | str | list | tuple | dict
def PyT.nm : PyT → String
  | .int => "int"
  | .bool => "bool"
  | .str => "str"
  | .list => "list"
  | .tuple => "tuple"
  | .dict => "dict"
def isT : PyT → D → Option Bool
  | .int, .int _ => some true
  | .int, .bl _ => some true
  | .bool, .bl _ => some true
  | .str, .str _ => some true
  | .list, .lst _ => some true
  | .list, .scr _ => some true
  | .tuple, .tup _ => some true
  | .dict, .dct _ _ => some true
  | _, .ins _ _ _ => none
  | _, .dnt _ _ => none
  | _, .exn _ _ _ => none
  | _, .unk => none
  | _, _ => some false
def tyD : D → String
  | .non => "NoneType"
  | .bl _ => "bool"
  | .int _ => "int"
  | .str _ => "str"
  | .lst _ => "list"
  | .scr _ => "list"
  | .tup _ => "tuple"
  | .dct _ _ => "dict"
  | .dnt _ _ => ""
  | .ins _ _ _ => ""
  | .exn _ _ _ => ""
  | .unk => ""
theorem isT_kit {K : PySem.W.Frag} (T : PyT) (d : D) {b : Bool} (h : isT T d = some b) : PySem.W.kitOne K (.type (tyD d)) (.type T.nm) = some b := by
  cases T <;> cases d <;> first
    | (cases h; simp only [tyD, PyT.nm]; exact kit_ty (by decide +kernel))
    | cases h
section
variable {G : GC} {N : List Str} {S : SC} {bs bs1 bs2 ms ms1 ms2 ms3 : Ms} {m : Md} {k : Kd} {e a b : Expr} {es : List Expr} {f fa fb : M D} {fs : M (List D)} {pos : Pos} {X : Cx}
theorem tyX_of {K : PySem.W.Frag} {mg : MG} {H : Hp} : ∀ {d : D} {v : V}, Fz K mg H d v → (∃ T b, isT T d = some b) → TyX K H v (.type (tyD d))
  | .non, _, h, _ => by cases h; exact .base .non
  | .bl _, _, h, _ => by cases h; exact .base (.bl _)
  | .int _, _, h, _ => by cases h; exact .base (.int _)
  | .str _, _, h, _ => by rw [h.1]; exact .base (.str _)
  | .lst _, _, ⟨a, vs, e, h, _⟩, _ => by subst e; exact .base (.lst h)
  | .scr _, _, ⟨a, e, h⟩, _ => by
    subst e
    rcases h with (h | ⟨o, h⟩) | ⟨o, its, n, h, hc, _⟩
    · exact .base (.lst h)
    · exact .base (.frz h)
    · exact .kList h hc
  | .tup _, _, ⟨a, vs, e, h, _⟩, _ => by
    subst e
    rcases h with (h | ⟨o, h⟩) | ⟨o, its, n, h, hc, _⟩
    · exact .base (.tup h)
    · exact .fTuple h
    · exact .kTuple h hc
  | .dct _ _, _, ⟨a, vs, e, h, _⟩, _ => by
    subst e
    obtain ⟨kvs, h, _⟩ := h
    rcases h with h | ⟨o, h⟩
    · exact .base (.dK h)
    · exact .fDict h
  | .ins _ _ _, _, _, h => by obtain ⟨T, b, h⟩ := h; cases T <;> cases h
  | .dnt _ _, _, _, h => by obtain ⟨T, b, h⟩ := h; cases T <;> cases h
  | .exn _ _ _, _, _, h => by obtain ⟨T, b, h⟩ := h; cases T <;> cases h
  | .unk, _, _, h => by obtain ⟨T, b, h⟩ := h; cases T <;> cases h
def fIsi (T : PyT) (f : M D) : M D := fun r => (f r).bind fun d => rM ((isT T d).map .bl)
theorem VO.isi (T : PyT) {x : Str} {p p2 : Pos} (hm : G.mg "isinstance" = none) (hx : G.mg x = none) (ha : VB G N S bs ms e f) (hg : Glb S "isinstance" := by rfl) (hgx : Glb S x := by rfl) (hv : bootBuiltins x = some (.type T.nm) := by decide +kernel)
    (hs : ∀ env, starEach (e :: [.Name x p2]) env = (false, eval e env) :: starEach [.Name x p2] env := by intro _; rfl) (hn : x ≠ "__name__" := by decide) (hd : (x == ("__debug__" : Str)) = false := by decide) :
    VO G N S .z ms (.Call (.Name "isinstance" p) [e, .Name x p2] [] pos) (fIsi T f) := by
  refine fun R a W t => (pe_callB call_isi (a.gl hg) hm (by decide +kernel) (pa_cons (ha R a W t) (pa_cons (pe_bltn (v := .ty T.nm) (a.gl hgx) hx hv rfl hn hd) pa_nil) (hs _)) (he := hs _)).imp fun σ H Q ⟨ρ, H0, c, l, o⟩ => ?_
  refine ⟨ρ, H0, c, l, (Out.bind (G := FB G.K G.mg bs) (ms1 := ms) back_FO o fun i e => e).imp fun x H1 ⟨d, H01, c1, ρ1, e1, s1, l1, b1, h1⟩ => ?_⟩
  have z := (b1.sh l1.sub).fz l1.sub
  cases ht : isT T d with
  | none => rw [ht] at h1; exact h1.elim
  | some b =>
    rw [ht] at h1
    refine ⟨x, .ty T.nm, _, _, b, rfl, .ty _, tyX_of z ⟨T, b, ht⟩, isT_kit T d ht, h1.here l1 rfl⟩

/-! ### len -/
def oLen : List D → Option D
  | [.str s] => some (.int s.length)
  | [.lst ds] => some (.int ds.length)
  | [.tup ds] => some (.int ds.length)
  | [.scr ns] => some (.int ns.length)
  | _ => none
abbrev rLen (K : PySem.W.Frag) : List V → Hp → VK → Prop := fun xs H Q => ∃ x n, xs = [x] ∧ LenV K x H n ∧ Q (.int n) H
theorem shs_one {K : PySem.W.Frag} {mg : MG} {H0 H : Hp} {d : D} {xs : List V} (h : Shs K mg H0 H [d] xs) : ∃ x, xs = [x] ∧ Sh K mg H0 H d x := by
  obtain ⟨v, r, e, h1, h2⟩ := h
  rw [show r = [] from h2] at e
  exact ⟨v, e, h1⟩
theorem sOk_len {s : List Nat} (h : sOk s = true) : s.length ≤ 16777216 := by
  unfold sOk at h
  simp only [Bool.and_eq_true, decide_eq_true_eq] at h
  exact h.1
theorem ru_len {m : Md} : RuA G (rLen G.K) m oLen := by
  intro H0 H ds xs d Q s h ho f
  unfold oLen at ho
  split at ho
  · obtain ⟨x, e, h1⟩ := shs_one h
    cases ho
    obtain ⟨e1, k⟩ := sh_str h1
    refine ⟨x, _, e, ?_, f.atom s rfl rfl⟩
    rw [e1]
    refine ⟨?_, (str_len _).symm⟩
    rw [str_len, sizeLine_eq]; exact sOk_len k
  · obtain ⟨x, e, a, vs, e1, k, g⟩ := shs_one h
    cases ho
    refine ⟨x, _, e, ?_, f.atom s rfl rfl⟩
    rw [e1]
    exact .inl ⟨vs, .of k, g.length.symm⟩
  · obtain ⟨x, e, a, vs, e1, k, g⟩ := shs_one h
    cases ho
    refine ⟨x, _, e, ?_, f.atom s rfl rfl⟩
    rw [e1]
    exact .inr ⟨vs, same_t s k, g.length.symm⟩
  · obtain ⟨x, e, a, e1, k⟩ := shs_one h
    cases ho
    refine ⟨x, _, e, ?_, f.atom s rfl rfl⟩
    rw [e1]
    exact .inl ⟨_, k, by simp⟩
  · cases ho

/-! ### any, all -/
def bls : List D → Option (List Bool)
  | [] => some []
  | .bl b :: ds => (bls ds).map (b :: ·)
  | _ => none
def oAll : List D → Option D
  | [.lst ds] => (bls ds).map fun bs => .bl (bs.all id)
  | _ => none
def oAny : List D → Option D
  | [.lst ds] => (bls ds).map fun bs => .bl (bs.any id)
  | _ => none
theorem bls_fz {K : PySem.W.Frag} {mg : MG} {H : Hp} : ∀ {ds : List D} {vs : List V} {bs : List Bool}, Fzs K mg H ds vs → bls ds = some bs → vs = bs.map V.bl
  | [], vs, bs, h, e => by cases e; exact h
  | .bl b :: ds, vs, bs, ⟨v, r, e, h, t⟩, q => by
    obtain ⟨cs, e1, e2⟩ := Option.map_eq_some_iff.mp q
    subst e2
    rw [e, show v = V.bl b from h, bls_fz t e1]; rfl
  | .non :: _, _, _, _, q => by cases q
  | .int _ :: _, _, _, _, q => by cases q
  | .str _ :: _, _, _, _, q => by cases q
  | .tup _ :: _, _, _, _, q => by cases q
  | .lst _ :: _, _, _, _, q => by cases q
  | .dct _ _ :: _, _, _, _, q => by cases q
  | .dnt _ _ :: _, _, _, _, q => by cases q
  | .ins _ _ _ :: _, _, _, _, q => by cases q
  | .scr _ :: _, _, _, _, q => by cases q
  | .exn _ _ _ :: _, _, _, _, q => by cases q
  | .unk :: _, _, _, _, q => by cases q
theorem ru_all {m : Md} : RuA G (rAll G.K) m oAll := by
  intro H0 H ds xs d Q s h ho f
  unfold oAll at ho
  split at ho
  · obtain ⟨x, e, a, vs, e1, k, g⟩ := shs_one h
    obtain ⟨bs, e2, e3⟩ := Option.map_eq_some_iff.mp ho
    subst e3
    exact ⟨a, bs, by rw [e, e1], by rw [← bls_fz g e2]; exact .of k, f.atom s rfl rfl⟩
  · cases ho
theorem ru_any {m : Md} : RuA G (rAny G.K) m oAny := by
  intro H0 H ds xs d Q s h ho f
  unfold oAny at ho
  split at ho
  · obtain ⟨x, e, a, vs, e1, k, g⟩ := shs_one h
    obtain ⟨bs, e2, e3⟩ := Option.map_eq_some_iff.mp ho
    subst e3
    exact ⟨a, bs, by rw [e, e1], by rw [← bls_fz g e2]; exact .of k, f.atom s rfl rfl⟩
  · cases ho

/-! ### list, tuple -/
def oList : List D → Option D
  | [.lst ds] => some (.lst ds)
  | [.tup ds] => some (.lst ds)
  | [.scr ns] => some (.lst (ns.map .int))
  | _ => none
def oTuple : List D → Option D
  | [.lst ds] => some (.tup ds)
  | [.tup ds] => some (.tup ds)
  | _ => none
abbrev rListOf (K : PySem.W.Frag) : List V → Hp → VK → Prop := fun xs H Q => ∃ p ys, xs = [.ref p] ∧ (SqL K H p ys ∨ SqT K H p ys) ∧ ∀ l, H l = none → Q (.ref l) (upd H l (.lst ys))
abbrev rTupleOf (K : PySem.W.Frag) : List V → Hp → VK → Prop := fun xs H Q => ∃ p ys, xs = [.ref p] ∧ ((SqL K H p ys ∧ ∀ l, H l = none → Q (.ref l) (upd H l (.tup ys))) ∨ (SqT K H p ys ∧ Q (.ref p) H))
theorem fzs_ints {K : PySem.W.Frag} {mg : MG} {H : Hp} : ∀ ns : List Int, Fzs K mg H (ns.map D.int) (ns.map V.int)
  | [] => rfl
  | n :: ns => ⟨_, _, rfl, rfl, fzs_ints ns⟩
theorem ru_list {m : Md} (hm : ZO m) : RuA G (rListOf G.K) m oList := by
  intro H0 H ds xs d Q s h ho f
  unfold oList at ho
  split at ho
  · obtain ⟨x, e, a, vs, e1, k, g⟩ := shs_one h
    cases ho
    exact ⟨a, vs, by rw [e, e1], .inl (.of k), fun p hp => f.lst hm s g hp⟩
  · obtain ⟨x, e, a, vs, e1, k, g⟩ := shs_one h
    cases ho
    exact ⟨a, vs, by rw [e, e1], .inr (same_t s k), fun p hp => f.lst hm s g hp⟩
  · obtain ⟨x, e, a, e1, k⟩ := shs_one h
    cases ho
    exact ⟨a, _, by rw [e, e1], .inl k, fun p hp => f.lst hm s (fzs_ints _) hp⟩
  · cases ho
theorem ru_tuple : RuA G (rTupleOf G.K) .z oTuple := by
  intro H0 H ds xs d Q s h ho f
  unfold oTuple at ho
  split at ho
  · obtain ⟨x, e, a, vs, e1, k, g⟩ := shs_one h
    cases ho
    exact ⟨a, vs, by rw [e, e1], .inl ⟨.of k, fun p hp => f.tup (.inl rfl) s g hp⟩⟩
  · obtain ⟨x, e, h1⟩ := shs_one h
    obtain ⟨a, vs, e1, k, g⟩ := id h1
    cases ho
    exact ⟨a, vs, by rw [e, e1], .inr ⟨same_t s k, f.frz s (by rw [← e1]; exact h1)⟩⟩
  · cases ho

/-! ### slices -/
def cutL {α : Type} (xs : List α) (lo hi : Option Int) : List α := (xs.drop (HT.sIx xs.length 0 lo)).take (HT.sIx xs.length xs.length hi - HT.sIx xs.length 0 lo)
def oCut (d : D) (lo hi : Option Int) : Option D := match d with
  | .str s => some (.str (cutL s lo hi))
  | .lst ds => some (.lst (cutL ds lo hi))
  | .tup ds => some (.tup (cutL ds lo hi))
  | .scr ns => some (.lst (cutL (ns.map .int) lo hi))
  | _ => none
def oCutL (d : D) (lo hi : Option Int) : Option D := match d with
  | .lst ds => some (.lst (cutL ds lo hi))
  | .scr ns => some (.lst (cutL (ns.map .int) lo hi))
  | _ => none
/-- a part of a slice -/
abbrev VP (G : GC) (N : List Str) (S : SC) (ms : Ms) (e : Option Expr) (f : M (Option Int)) : Prop := VE G N S (fun X t => PO X e t) (fun _ _ d _ _ _ v => v = d) ms f
def fNoP : M (Option Int) := fun r => .ok none r
def fPart (f : M D) : M (Option Int) := fun r => (f r).bind fun d r => match d with
  | .int i => .ok (some i) r
  | _ => .bad
theorem PO.imp {X : Cx} {e : Option Expr} {t t' : TO} (h : PO X e t) (q : ∀ σ H Q, t' σ H Q → t σ H Q) : PO X e t' := ⟨fun pins s σ H Q I z => h.run pins s σ H Q I (q σ H Q z)⟩
theorem back_eq {α : Type} {ms : Ms} : Back ms (fun _ _ (d : α) _ _ _ v => v = d) := fun _ _ _ _ _ _ _ _ _ _ _ _ h => h
theorem VP.none : VP G N S ms0 none fNoP := fun R a W t => PO.imp po_none fun σ H Q ⟨ρ, H0, c, l, o⟩ => o _ H0 H c .refl l rfl
theorem VP.some (h : VO G N S .z ms e f) : VP G N S ms (some e) (fPart f) := by
  refine fun R a W t => PO.imp (po_some (h R a W t)) fun σ H Q ⟨ρ, H0, c, l, o⟩ => ?_
  refine ⟨ρ, H0, c, l, (Out.bind (G := FO G.K G.mg .z ms) (ms1 := ms) back_eq o fun i e => e).imp fun x H1 ⟨d, H01, c1, ρ1, e1, s1, l1, ⟨g, o1, f1⟩, h1⟩ => ?_⟩
  have z := (Ow.zero.mp o1).2
  cases d with
  | int i => exact ⟨i, z, h1 _ H01 H1 c1 .refl l1 rfl⟩
  | _ => exact h1.elim
def RuS (G : GC) (r : V → Option Int → Option Int → Hp → VK → Prop) (m : Md) (o : D → Option Int → Option Int → Option D) : Prop :=
  ∀ H0 H d1 x lo hi d Q, Same H0 H → Sh G.K G.mg H0 H d1 x → o d1 lo hi = some d → Fin G.K G.mg m H0 H d Q → r x lo hi H Q
def fSl (o : D → Option Int → Option Int → Option D) (f : M D) (fl fh : M (Option Int)) : M D := fun r => (f r).bind fun d r => (fl r).bind fun lo r => (fh r).bind fun hi => rM (o d lo hi)
theorem VO.sl {lo hi : Option Expr} {fl fh : M (Option Int)} {p2 : Pos} {r : V → Option Int → Option Int → Hp → VK → Prop} {o : D → Option Int → Option Int → Option D} (hr : ∀ R, At G.mg.hx S N (mkX G N R) → SlR (mkX G N R) r) (ru : RuS G r m o)
    (ha : VB G N S bs1 ms1 e f) (hl : VP G N S ms2 lo fl) (hh : VP G N S ms3 hi fh) (dj : Dj bs1 ms2 := by intro i h; first | rfl | exact absurd h Bool.false_ne_true | (simp [lentM] at h ⊢ <;> omega)) (dj2 : Dj bs1 ms3 := by intro i h; first | rfl | exact absurd h Bool.false_ne_true | (simp [lentM] at h ⊢ <;> omega)) :
    VO G N S m (msU ms1 (msU ms2 ms3)) (.Subscript e (.Slice lo hi none p2) pos) (fSl o f fl fh) := by
  refine fun R a W t => (pe_slice (hr R a) (ha R a W t) (hl R a W t) (hh R a W t)).imp fun σ H Q ⟨ρ, H0, c, l, h⟩ => ?_
  refine ⟨ρ, H0, c, l, (Out.bind (G := FB G.K G.mg bs1) (ms1 := ms1) back_FO h fun i e => or_l e).imp fun x H1 ⟨d1, H01, c1, ρ1, e1, s1, l1, b1, h1⟩ => ?_⟩
  refine ⟨ρ1, H01, c1, l1, (Out.bind (G := fun _ _ d _ _ _ v => v = d) (ms1 := ms2) back_FO h1 fun i e => or_r (or_l e)).imp fun y H2 ⟨d2, H02, c2, ρ2, e2, s2, l2, b2, h2⟩ => ?_⟩
  refine ⟨ρ2, H02, c2, l2, (Out.bind (G := fun _ _ d _ _ _ v => v = d) (ms1 := ms3) back_FO h2 fun i e => or_r (or_r e)).imp fun z H3 ⟨d3, H03, c3, ρ3, e3, s3, l3, b3, h3⟩ => ?_⟩
  subst b2 b3
  cases eo : o d1 y z with
  | none => rw [eo] at h3; exact h3.elim
  | some d =>
    rw [eo] at h3
    exact ru H03 H3 d1 x y z d Q l3.sub (((b1.on s2 dj).on s3 dj2).sh l3.sub) eo (Out.fin h3 l3)
theorem Fzs.take {K : PySem.W.Frag} {mg : MG} {H : Hp} : ∀ {ds : List D} {vs : List V} (n : Nat), Fzs K mg H ds vs → Fzs K mg H (ds.take n) (vs.take n)
  | ds, vs, 0, h => rfl
  | [], vs, n + 1, h => by rw [show vs = [] from h]; rfl
  | d :: ds, vs, n + 1, ⟨v, r, e, h, t⟩ => by subst e; exact ⟨v, r.take n, rfl, h, Fzs.take n t⟩
theorem Fzs.drop {K : PySem.W.Frag} {mg : MG} {H : Hp} : ∀ {ds : List D} {vs : List V} (n : Nat), Fzs K mg H ds vs → Fzs K mg H (ds.drop n) (vs.drop n)
  | ds, vs, 0, h => h
  | [], vs, n + 1, h => by rw [show vs = [] from h]; rfl
  | d :: ds, vs, n + 1, ⟨v, r, e, h, t⟩ => by subst e; exact Fzs.drop n t
theorem Fzs.cut {K : PySem.W.Frag} {mg : MG} {H : Hp} {ds : List D} {vs : List V} (lo hi : Option Int) (h : Fzs K mg H ds vs) : Fzs K mg H (cutL ds lo hi) (cutV vs lo hi) := by
  unfold cutL cutV
  rw [h.length]
  exact Fzs.take _ (Fzs.drop _ h)
abbrev rSlV (K : PySem.W.Frag) : V → Option Int → Option Int → Hp → VK → Prop := fun x lo hi H Q => rSlS x lo hi H Q ∨ rSlL K x lo hi H Q ∨ rSlA K x lo hi H Q
theorem sl_V : SlR X (rSlV X.K) := sl_str.or (sl_list.or sl_tupA)
theorem sOk_cut {s : List Nat} {lo hi : Option Int} (h : sOk s = true) : sOk (cutL s lo hi) = true := by
  unfold sOk at h ⊢
  simp only [Bool.and_eq_true, decide_eq_true_eq, List.all_eq_true] at h ⊢
  unfold cutL
  refine ⟨?_, fun x hx => h.2 x (List.mem_of_mem_drop (List.mem_of_mem_take hx))⟩
  rw [List.length_take, List.length_drop]
  omega
theorem ru_cut : RuS G (rSlV G.K) .z oCut := by
  intro H0 H d1 x lo hi d Q s h ho f
  unfold oCut at ho
  split at ho
  · cases ho
    obtain ⟨e1, k⟩ := sh_str h
    refine .inl ⟨_, e1, ?_, f.frz s ⟨?_, sOk_cut k⟩⟩
    · rw [str_len, sizeLine_eq]; exact sOk_len k
    · unfold cutS cutL
      rw [str_len]
  · cases ho
    obtain ⟨a, vs, e1, k, g⟩ := h
    exact .inr (.inl ⟨a, vs, e1, .of k, fun p hp => f.lst (.inl rfl) s (g.cut lo hi) hp⟩)
  · cases ho
    obtain ⟨a, vs, e1, k, g⟩ := id h
    have hl := g.length
    refine .inr (.inr ⟨a, vs, e1, same_t s k, fun hw => ?_, fun hw p hp => f.tup (.inl rfl) s (g.cut lo hi) hp⟩)
    rw [hl] at hw
    refine f.frz s ?_
    rw [show cutL _ lo hi = _ from by unfold cutL; rw [hw.1, hw.2, List.drop_zero, Nat.sub_zero, List.take_length], ← e1]
    exact h
  · cases ho
    obtain ⟨a, e1, k⟩ := h
    exact .inr (.inl ⟨a, _, e1, k, fun p hp => f.lst (.inl rfl) s ((fzs_ints _).cut lo hi) hp⟩)
  · cases ho
theorem ru_cutL {m : Md} (hm : ZO m) : RuS G (rSlL G.K) m oCutL := by
  intro H0 H d1 x lo hi d Q s h ho f
  unfold oCutL at ho
  split at ho
  · cases ho
    obtain ⟨a, vs, e1, k, g⟩ := h
    exact ⟨a, vs, e1, .of k, fun p hp => f.lst hm s (g.cut lo hi) hp⟩
  · cases ho
    obtain ⟨a, e1, k⟩ := h
    exact ⟨a, _, e1, k, fun p hp => f.lst hm s ((fzs_ints _).cut lo hi) hp⟩
  · cases ho
end
end Vm
set_option Elab.async false
set_option linter.all false
set_option maxRecDepth 100000
set_option maxHeartbeats 4000000
namespace Vm
open PySem PySem.Spec PyProof.Rows L2

/-! ### statements -/
inductive Fl where
  | nx | bk | ct
  | rt (d : D)
/-- the slots' values stay but those of as -/
def Agr (as : Ms) (σ σ' : L2.St) : Prop := σ'.length = σ.length ∧ ∀ i, as i = false → σ'[i]? = σ[i]?
theorem Agr.refl {as : Ms} {σ : L2.St} : Agr as σ σ := ⟨rfl, fun _ _ => rfl⟩
theorem Agr.trans {as : Ms} {σ σ1 σ2 : L2.St} (a : Agr as σ σ1) (b : Agr as σ1 σ2) : Agr as σ σ2 := ⟨b.1.trans a.1, fun i h => (b.2 i h).trans (a.2 i h)⟩
theorem Agr.mono {as as' : Ms} {σ σ' : L2.St} (a : Agr as σ σ') (h : ∀ i, as i = true → as' i = true) : Agr as' σ σ' := ⟨a.1, fun i e => a.2 i (by
  cases q : as i with
  | false => rfl
  | true => rw [h i q] at e; cases e)⟩
/-- what must hold so that the end x of a statement brings D -/
def OutS (K : PySem.W.Frag) (mg : MG) (W : WX) (rm : Md) (ms as : Ms) (H0 H : Hp) (c : Co) (σ : L2.St) (x : Res Fl) (D : Ends) : Prop := match x with
  | .ok .nx ρ' => ∀ σ' H0' H' c', Step ms H0 H c H0' H' c' → Lies K mg H0' H' c' σ' ρ' → Agr as σ σ' → D.nx σ' H'
  | .ok .bk ρ' => ∀ σ' H0' H' c', Step ms H0 H c H0' H' c' → Lies K mg H0' H' c' σ' ρ' → Agr as σ σ' → D.bk σ' H'
  | .ok .ct ρ' => ∀ σ' H0' H' c', Step ms H0 H c H0' H' c' → Lies K mg H0' H' c' σ' ρ' → Agr as σ σ' → D.ct σ' H'
  | .ok (.rt d) ρ' => ∀ v σ' H0' H' c', Step ms H0 H c H0' H' c' → Lies K mg H0' H' c' σ' ρ' → Agr as σ σ' → FO K mg rm msA H c d H0' H' c' v → D.rt v H'
  | .exc n ns vs ρ' => ∀ cls dx σ' H0' H' c', Step ms H0 H c H0' H' c' → Lies K mg H0' H' c' σ' ρ' → Agr as σ σ' → ExcAt K mg H0' n ns vs cls dx → W cls dx σ' H'
  | .bad => False
def tS (K : PySem.W.Frag) (mg : MG) (W : WX) (rm : Md) (as : Ms) (g : M Fl) : TS := fun D σ H => ∃ ρ H0 c, Lies K mg H0 H c σ ρ ∧ OutS K mg W rm msA as H0 H c σ (g ρ) D
section
variable {K : PySem.W.Frag} {mg : MG} {W : WX} {rm m : Md} {as as1 as2 ms ms1 ms2 : Ms} {H0 H H0' H' : Hp} {c c' : Co} {σ σ' : L2.St} {ρ ρ' : En} {x : Res Fl} {D D' : Ends} {d : Vm.D} {v : V}
theorem OutS.imp (h : OutS K mg W rm ms as H0 H c σ x D) (h1 : ∀ σ H, D.nx σ H → D'.nx σ H) (h2 : ∀ σ H, D.bk σ H → D'.bk σ H) (h3 : ∀ σ H, D.ct σ H → D'.ct σ H) (h4 : ∀ v H, D.rt v H → D'.rt v H) : OutS K mg W rm ms as H0 H c σ x D' := by
  cases x with
  | ok f r => cases f with
    | nx => exact fun σ' H0' H' c' s l a => h1 _ _ (h σ' H0' H' c' s l a)
    | bk => exact fun σ' H0' H' c' s l a => h2 _ _ (h σ' H0' H' c' s l a)
    | ct => exact fun σ' H0' H' c' s l a => h3 _ _ (h σ' H0' H' c' s l a)
    | rt d => exact fun v σ' H0' H' c' s l a f => h4 _ _ (h v σ' H0' H' c' s l a f)
  | exc n ns vs r => exact h
  | bad => exact h
theorem OutS.on (h : OutS K mg W rm ms as H0 H c σ x D) (s : Step ms H0 H c H0' H' c') (a : Agr as σ σ') : OutS K mg W rm ms as H0' H' c' σ' x D := by
  cases x with
  | ok f r => cases f with
    | nx => exact fun σ' H0' H' c' t l b => h σ' H0' H' c' (s.trans t) l (a.trans b)
    | bk => exact fun σ' H0' H' c' t l b => h σ' H0' H' c' (s.trans t) l (a.trans b)
    | ct => exact fun σ' H0' H' c' t l b => h σ' H0' H' c' (s.trans t) l (a.trans b)
    | rt d => exact fun v σ' H0' H' c' t l b f => h v σ' H0' H' c' (s.trans t) l (a.trans b) (back_FO _ _ _ _ _ _ _ _ _ _ _ (s.mono fun _ _ => rfl) f)
  | exc n ns vs r => exact fun cls dx σ' H0' H' c' t l b e => h cls dx σ' H0' H' c' (s.trans t) l (a.trans b) e
  | bad => exact h
theorem OutS.mono (h : OutS K mg W rm ms2 as2 H0 H c σ x D) (q : ∀ i, as1 i = true → as2 i = true) (p : ∀ i, ms1 i = true → ms2 i = true) : OutS K mg W rm ms1 as1 H0 H c σ x D := by
  cases x with
  | ok f r => cases f with
    | nx => exact fun σ' H0' H' c' t l b => h σ' H0' H' c' (t.mono p) l (b.mono q)
    | bk => exact fun σ' H0' H' c' t l b => h σ' H0' H' c' (t.mono p) l (b.mono q)
    | ct => exact fun σ' H0' H' c' t l b => h σ' H0' H' c' (t.mono p) l (b.mono q)
    | rt d => exact fun v σ' H0' H' c' t l b f => h v σ' H0' H' c' (t.mono p) l (b.mono q) f
  | exc n ns vs r => exact fun cls dx σ' H0' H' c' t l b e => h cls dx σ' H0' H' c' (t.mono p) l (b.mono q) e
  | bad => exact h
/-- an expression, then a flow -/
theorem OutS.expr {α β : Type} {F : Fam α β} {f : Res α} {g : α → M Fl} (h : OutS K mg W rm msA as H0 H c σ (f.bind g) D) :
    Out K mg W F ms H0 H c σ f fun v H1 => ∃ d H01 c1 ρ1, f = .ok d ρ1 ∧ Step ms H0 H c H01 H1 c1 ∧ Lies K mg H01 H1 c1 σ ρ1 ∧ F H c d H01 H1 c1 v ∧ OutS K mg W rm msA as H01 H1 c1 σ (g d ρ1) D := by
  cases f with
  | ok d r => exact fun v H0' H' c' s l f => ⟨d, H0', c', r, rfl, s, l, f, h.on (s.mono fun _ _ => rfl) .refl⟩
  | exc n ns vs r => exact fun cls dx H0' H' c' s l e => h cls dx σ H0' H' c' (s.mono fun _ _ => rfl) l .refl e
  | bad => exact h
/-- one statement, then what follows -/
def gSeq (g1 g2 : M Fl) : M Fl := fun r => (g1 r).bind fun f r => match f with
  | .nx => g2 r
  | .bk => .ok .bk r
  | .ct => .ok .ct r
  | .rt d => .ok (.rt d) r
theorem OutS.seq {g : Res Fl} {g2 : M Fl} (h : OutS K mg W rm ms as H0 H c σ (g.bind fun f r => match f with
  | .nx => g2 r
  | .bk => .ok .bk r
  | .ct => .ok .ct r
  | .rt d => .ok (.rt d) r) D) :
    OutS K mg W rm ms as H0 H c σ g { D with nx := fun σ' H' => ∃ ρ1 H01 c1, Lies K mg H01 H' c1 σ' ρ1 ∧ Step ms H0 H c H01 H' c1 ∧ Agr as σ σ' ∧ OutS K mg W rm ms as H01 H' c1 σ' (g2 ρ1) D } := by
  cases g with
  | ok f r => cases f with
    | nx => exact fun σ' H0' H' c' s l a => ⟨r, H0', c', l, s, a, h.on s a⟩
    | bk => exact h
    | ct => exact h
    | rt d => exact h
  | exc n ns vs r => exact h
  | bad => exact h
end
/-- statements -/
abbrev VS (G : GC) (N : List Str) (S : SC) (rm : Md) (as : Ms) (st : Stmt) (g : M Fl) : Prop := ∀ R, At G.mg.hx S N (mkX G N R) → ∀ W, L2N.Takes (mkX G N R) W → PS (mkX G N R) st (tS G.K G.mg W rm as g)
abbrev VSs (G : GC) (N : List Str) (S : SC) (rm : Md) (as : Ms) (st : List Stmt) (g : M Fl) : Prop := ∀ R, At G.mg.hx S N (mkX G N R) → ∀ W, L2N.Takes (mkX G N R) W → PSs (mkX G N R) st (tS G.K G.mg W rm as g)
def gNx : M Fl := fun r => .ok .nx r
def gBk : M Fl := fun r => .ok .bk r
def gCt : M Fl := fun r => .ok .ct r
section
variable {G : GC} {N : List Str} {S : SC} {bs bs1 bs2 ms ms1 ms2 ms3 as as1 as2 : Ms} {m rm : Md} {k : Kd} {e a b : Expr} {es : List Expr} {f fa fb : M D} {fs : M (List D)} {pos : Pos} {g g1 g2 : M Fl} {st : Stmt} {rest st1 st2 : List Stmt}
theorem VS.mono (h : VS G N S rm as1 st g) (q : ∀ i, as1 i = true → as2 i = true) : VS G N S rm as2 st g := fun R a W t => (h R a W t).imp fun D σ H ⟨ρ, H0, c, l, o⟩ => ⟨ρ, H0, c, l, o.mono q fun _ h => h⟩
theorem VSs.mono (h : VSs G N S rm as1 rest g) (q : ∀ i, as1 i = true → as2 i = true) : VSs G N S rm as2 rest g := fun R a W t => (h R a W t).imp fun D σ H ⟨ρ, H0, c, l, o⟩ => ⟨ρ, H0, c, l, o.mono q fun _ h => h⟩
theorem VSs.nil : VSs G N S rm ms0 [] gNx := fun R a W t => pss_nil.imp fun D σ H ⟨ρ, H0, c, l, o⟩ => o σ H0 H c .refl l .refl
theorem VSs.one (h : VS G N S rm as st g) : VSs G N S rm as [st] g := fun R a W t => pss_one (h R a W t)
theorem VSs.cons (h1 : VS G N S rm as1 st g1) (h2 : VSs G N S rm as2 rest g2) : VSs G N S rm (msU as1 as2) (st :: rest) (gSeq g1 g2) := by
  refine fun R a W t => (pss_cons (h1 R a W t) (h2 R a W t)).imp fun D σ H ⟨ρ, H0, c, l, o⟩ => ?_
  exact ⟨ρ, H0, c, l, ((OutS.seq o).mono (fun i e => or_l e) fun _ h => h).imp (fun σ' H' ⟨ρ1, H01, c1, l1, s1, a1, o1⟩ => ⟨ρ1, H01, c1, l1, o1.mono (fun i e => or_r e) fun _ h => h⟩) (fun _ _ h => h) (fun _ _ h => h) (fun _ _ h => h)⟩
theorem VS.brk : VS G N S rm ms0 (.Break pos) gBk := fun R a W t => ps_break.imp fun D σ H ⟨ρ, H0, c, l, o⟩ => o σ H0 H c .refl l .refl
theorem VS.cont : VS G N S rm ms0 (.Continue pos) gCt := fun R a W t => ps_continue.imp fun D σ H ⟨ρ, H0, c, l, o⟩ => o σ H0 H c .refl l .refl
theorem VS.doc {x j pos'} : VS G N S rm ms0 (.Expr (.Constant (.str x) j pos) pos') gNx := fun R a W t => ps_doc.imp fun D σ H ⟨ρ, H0, c, l, o⟩ => o σ H0 H c .refl l .refl
/-- an expression for what it does -/
def gDo (f : M D) : M Fl := fun r => (f r).bind fun _ r => .ok .nx r
theorem VS.expr (h : VO G N S m ms e f) (hs : ∀ env, swapsWith e none pos.line env = pure false := by intro _; rfl) : VS G N S rm ms0 (.Expr e pos) (gDo f) := by
  refine fun R a W t => (ps_expr (h R a W t) (hs _)).imp fun D σ H ⟨ρ, H0, c, l, o⟩ => ?_
  exact ⟨ρ, H0, c, l, (OutS.expr o).imp fun x H1 ⟨d, H01, c1, ρ1, e1, s1, l1, f1, h1⟩ => h1 σ H01 H1 c1 .refl l1 .refl⟩
def gRet (f : M D) : M Fl := fun r => (f r).bind fun d r => .ok (.rt d) r
theorem VS.ret (h : VO G N S rm ms e f) : VS G N S rm ms0 (.Return (some e) pos) (gRet f) := by
  refine fun R a W t => (ps_ret (h R a W t)).imp fun D σ H ⟨ρ, H0, c, l, o⟩ => ⟨ρ, H0, c, l, ?_⟩
  show Out _ _ _ _ _ _ _ _ _ _ D.rt
  unfold gRet at o
  cases e1 : f ρ with
  | ok d r =>
    rw [e1, bind_ok] at o
    exact fun v H0' H' c' s l' f => o v σ H0' H' c' (s.mono fun _ _ => rfl) l' .refl (fo_mono (fun _ _ => rfl) f)
  | exc n ns vs r =>
    rw [e1] at o
    exact fun cls dx H0' H' c' s l' e => o cls dx σ H0' H' c' (s.mono fun _ _ => rfl) l' .refl e
  | bad => rw [e1] at o; exact o
def gRetN : M Fl := fun r => .ok (.rt .non) r
theorem VS.retN : VS G N S rm ms0 (.Return none pos) gRetN := fun R a W t => ps_retN.imp fun D σ H ⟨ρ, H0, c, l, o⟩ => o .non σ H0 H c .refl l .refl ⟨[], ow_of_atom rfl rfl, .nil⟩
theorem VS.ite {t : Expr} {ft : M D} (ht : VT G N S ms t ft) (h1 : VSs G N S rm as1 st1 g1) (h2 : VSs G N S rm as2 st2 g2) : VS G N S rm (msU as1 as2) (.If t st1 st2 pos) (fIf ft g1 g2) := by
  refine fun R a W tk => (ps_if (ht R a W tk) (h1 R a W tk) (h2 R a W tk)).imp fun D σ H ⟨ρ, H0, c, l, o⟩ => ?_
  refine ⟨ρ, H0, c, l, (OutS.expr (F := FT) o).imp fun x H1 ⟨d, H01, c1, ρ1, e1, s1, l1, z, o1⟩ => ?_⟩
  have z : d = .bl x := z
  subst z
  cases x with
  | true => rw [if_pos rfl]; exact ⟨ρ1, H01, c1, l1, o1.mono (fun i e => or_l e) fun _ h => h⟩
  | false => rw [if_neg Bool.false_ne_true]; exact ⟨ρ1, H01, c1, l1, o1.mono (fun i e => or_r e) fun _ h => h⟩

/-! ### a slot is stored -/
theorem getS_set_eq {r : En} {i : Nat} {s : Sl} (h : i < r.length) : getS (r.set i s) i = s := by
  simp [getS, List.getD_eq_getElem?_getD, List.getElem?_set_self h]
theorem getS_set_ne {r : En} {i j : Nat} {s : Sl} (h : i ≠ j) : getS (r.set i s) j = getS r j := by
  simp [getS, List.getD_eq_getElem?_getD, List.getElem?_set_ne h]
def coSet (c : Co) (i : Nat) (fp : List Addr) : Co := fun a => if a ∈ fp then some i else if c a = some i then none else c a
section
variable {K : PySem.W.Frag} {mg : MG} {H0 H H0' H' : Hp} {c c' : Co} {σ : L2.St} {ρ : En} {d : D} {v : V} {i : Nat} {fp : List Addr}
theorem coSet_in {a : Addr} (h : a ∈ fp) : coSet c i fp a = some i := by unfold coSet; rw [if_pos h]
theorem coSet_out {a : Addr} {j : Nat} (h : a ∉ fp) (e : coSet c i fp a = some j) : c a = some j ∧ j ≠ i := by
  unfold coSet at e
  rw [if_neg h] at e
  split at e
  · cases e
  · rename_i n
    exact ⟨e, fun z => n (by rw [e, z])⟩
theorem Lies.set (l : Lies K mg H0 H c σ ρ) (o : Ow K mg H0 H d m v fp) (nd : fp.Nodup) (nc : ∀ a ∈ fp, c a = none ∨ c a = some i) (n0 : ∀ a ∈ fp, H0 a = none) (th : ∀ a ∈ fp, ∃ o, H a = some o) :
    Lies K mg H0 H (coSet c i fp) (σ.set i (some v)) (ρ.set i (some (m, d))) := by
  refine ⟨l.sub, l.hot, fun a j e => ?_, fun a j e => ?_, by rw [List.length_set, List.length_set]; exact l.len, fun j m' d' e => ?_⟩
  · by_cases h : a ∈ fp
    · exact n0 a h
    · exact l.apart a j (coSet_out h e).1
  · by_cases h : a ∈ fp
    · exact th a h
    · exact l.there a j (coSet_out h e).1
  · by_cases h : i = j
    · subst h
      by_cases hi : i < ρ.length
      · rw [getS_set_eq hi] at e
        cases e
        exact ⟨v, fp, List.getElem?_set_self (by rw [← l.len]; exact hi), o, nd, fun a ha => coSet_in ha⟩
      · have : getS (ρ.set i (some (m, d))) i = none := by
          simp [getS, List.getD_eq_getElem?_getD, hi]
        rw [this] at e; cases e
    · rw [getS_set_ne h] at e
      obtain ⟨w, g, e1, o', nd', hc⟩ := l.slot j m' d' e
      refine ⟨w, g, by rw [List.getElem?_set_ne h]; exact e1, o', nd', fun a ha => ?_⟩
      have e2 := hc a ha
      unfold coSet
      by_cases z : a ∈ fp
      · rcases nc a z with q | q
        · rw [e2] at q; cases q
        · rw [e2] at q; exact absurd (Option.some.inj q).symm h
      · rw [if_neg z, if_neg (by rw [e2]; exact fun q => h (Option.some.inj q).symm)]
        exact e2
end
theorem Agr.set {σ : L2.St} {i : Nat} {v : V} : Agr (msO i) σ (σ.set i (some v)) := ⟨by rw [List.length_set], fun j h => by
  have : i ≠ j := fun e => by rw [e] at h; simp at h
  exact List.getElem?_set_ne this⟩
/-- the owners behind a store -/
theorem Step.store {K : PySem.W.Frag} {mg : MG} {H0 H H0' H' : Hp} {c c' : Co} {fp : List Addr} {i : Nat} (s : Step ms H0 H c H0' H' c') (f : Fresh ms H c H0' H' c' fp) (hi : ms i = true := by first | rfl | simp) : Step ms H0 H c H0' H' (coSet c' i fp) := by
  refine ⟨s.keep, fun a o e k => ?_, s.grow, s.new0, fun a j e => ?_⟩
  · have e2 := s.col a o e k
    have hn : a ∉ fp := fun z => by
      rcases f.new a z with w | ⟨j, w, q⟩
      · rw [e] at w; cases w
      · rw [k j w] at q; cases q
    unfold coSet
    rw [if_neg hn, e2]
    by_cases z : c a = some i
    · rw [k i z] at hi; cases hi
    · rw [if_neg z]
  · by_cases h : a ∈ fp
    · have ej : j = i := by rw [coSet_in h] at e; exact (Option.some.inj e).symm
      refine .inr ⟨by rw [ej]; exact hi, ?_⟩
      rcases f.new a h with w | ⟨j, w, q⟩
      · exact .inl w
      · exact .inr ⟨j, w, q⟩
    · exact s.newc a j (coSet_out h e).1
def Loc' (S : SC) (x : Str) : Prop := (S.sc.names.lookup x = some .local) ∨ (S.sc.names.lookup x = some .cell ∧ S.fn x = true)
theorem At.loc {X : Cx} {x : Str} (a : At hx S N X) (h : Loc' S x) : Loc X.env.scope x ∧ (X.fn x = true ∨ X.env.scope.names.lookup x = some .local) := by
  rw [a.sc, a.fn]
  rcases h with h | ⟨h, q⟩
  · exact ⟨.inl h, .inr h⟩
  · exact ⟨.inr h, .inl q⟩
/-- x = e, the slot's tree owned at mode m -/
def gSet (i : Nat) (m : Md) (f : M D) : M Fl := fun r => (f r).bind fun d r => .ok .nx (r.set i (some (m, d)))
theorem VS.set {i : Nat} {x : Str} {p : Pos} (h : VO G N S m ms e f) (hi : N[i]? = some x := by rfl) (hx : Loc' S x := by first | exact Or.inl rfl | exact Or.inr ⟨rfl, rfl⟩) (hs : ∀ env, swapsWith e (some (.Name x p)) pos.line env = pure false := by intro _; rfl) :
    VS G N S rm (msO i) (.Assign [.Name x p] e pos) (gSet i m f) := by
  refine fun R a W t => (ps_set (i := i) a.nd hi (a.loc hx).1 (h R a W t) (hs _) (a.loc hx).2).imp fun D σ H ⟨ρ, H0, c, l, o⟩ => ⟨ρ, H0, c, l, ?_⟩
  show Out _ _ _ _ _ _ _ _ _ _ fun x H1 => D.nx (σ.set i (some x)) H1
  unfold gSet at o
  cases e1 : f ρ with
  | ok d r =>
    rw [e1, bind_ok] at o
    refine fun v H0' H' c' s l' ⟨fp, ow, fr⟩ => ?_
    have s' := s.mono (ms' := msA) fun _ _ => rfl
    have fr' := fr.mono (ms2 := msA) fun _ _ => rfl
    exact o (σ.set i (some v)) H0' H' (coSet c' i fp) (Step.store (K := G.K) (mg := G.mg) s' fr') (l'.set ow fr.nd (fun a ha => .inl (fr.nc a ha)) fr.n0 fr.there) Agr.set
  | exc n ns vs r =>
    rw [e1] at o
    exact fun cls dx H0' H' c' s l' e => o cls dx σ H0' H' c' (s.mono fun _ _ => rfl) l' .refl e
  | bad => rw [e1] at o; exact o

/-! ### targets -/
/-- a target's reading: the value is frozen data -/
def tG (K : PySem.W.Frag) (mg : MG) (as : Ms) (gt : D → M Fl) : TG := fun v σ H Q => ∃ (W : WX) (E : Ends), ∃ rm ρ H0 c d, Lies K mg H0 H c σ ρ ∧ Fz K mg H0 d v ∧ OutS K mg W rm as as H0 H c σ (gt d ρ) E ∧ ∀ σ' H', E.nx σ' H' → Q σ' H'
abbrev VG (G : GC) (N : List Str) (S : SC) (as : Ms) (tg : Expr) (gt : D → M Fl) : Prop := ∀ R, At G.mg.hx S N (mkX G N R) → PG (mkX G N R) tg (tG G.K G.mg as gt)
def tGs (K : PySem.W.Frag) (mg : MG) (as : Ms) (gt : List D → M Fl) : TGs := fun vs σ H Q => ∃ (W : WX) (E : Ends), ∃ rm ρ H0 c ds, Lies K mg H0 H c σ ρ ∧ Fzs K mg H0 ds vs ∧ OutS K mg W rm as as H0 H c σ (gt ds ρ) E ∧ ∀ σ' H', E.nx σ' H' → Q σ' H'
abbrev VGs (G : GC) (N : List Str) (S : SC) (as : Ms) (tg : List Expr) (gt : List D → M Fl) : Prop := ∀ R, At G.mg.hx S N (mkX G N R) → PGs (mkX G N R) tg (tGs G.K G.mg as gt)
theorem PG.imp {X : Cx} {e : Expr} {t t' : TG} (h : PG X e t) (q : ∀ v σ H Q, t' v σ H Q → t v σ H Q) : PG X e t' := ⟨fun pins s σ H v u Q I r z => h.run pins s σ H v u Q I r (q v σ H Q z)⟩
theorem PGs.imp {X : Cx} {e : List Expr} {t t' : TGs} (h : PGs X e t) (q : ∀ v σ H Q, t' v σ H Q → t v σ H Q) : PGs X e t' := ⟨fun pins s σ H v u Q I r z => h.run pins s σ H v u Q I r (q v σ H Q z)⟩
def tName (i : Nat) : D → M Fl := fun d r => .ok .nx (r.set i (some (.z, d)))
theorem VG.name {i : Nat} {x : Str} (hi : N[i]? = some x := by rfl) (hx : Loc' S x := by first | exact Or.inl rfl | exact Or.inr ⟨rfl, rfl⟩) : VG G N S (msO i) (.Name x pos) (tName i) := by
  refine fun R a => PG.imp (pg_name (i := i) a.nd hi (a.loc hx).1 (a.loc hx).2) fun v σ H Q ⟨W, E, rm, ρ, H0, c, d, l, fz, o, q⟩ => ?_
  refine q _ _ ?_
  exact o (σ.set i (some v)) H0 H (coSet c i []) (Step.store (K := G.K) (mg := G.mg) .refl .nil) (l.set (Ow.zero.mpr ⟨rfl, fz⟩) List.nodup_nil (by simp) (by simp) (by simp)) Agr.set
def tNil : List D → M Fl := fun ds r => match ds with
  | [] => .ok .nx r
  | _ :: _ => .bad
def tCon (gt : D → M Fl) (gs : List D → M Fl) : List D → M Fl := fun ds => match ds with
  | d :: ds => gSeq (gt d) (gs ds)
  | [] => fun _ => .bad
theorem VGs.nil : VGs G N S ms0 [] tNil := by
  refine fun R a => PGs.imp pgs_nil fun v σ H Q ⟨W, E, rm, ρ, H0, c, ds, l, fz, o, q⟩ => ?_
  cases ds with
  | nil => exact ⟨fz, q _ _ (o σ H0 H c .refl l .refl)⟩
  | cons => exact o.elim
theorem VGs.cons {gt : D → M Fl} {gs : List D → M Fl} (h1 : VG G N S as1 e gt) (h2 : VGs G N S as2 es gs) (hs : ∀ env, (assignEach (e :: es) env).map (·.2) = assign e env :: (assignEach es env).map (·.2) := by intro _; rfl) :
    VGs G N S (msU as1 as2) (e :: es) (tCon gt gs) := by
  refine fun R a => PGs.imp (pgs_cons (h1 R a) (h2 R a) (hs _)) fun vs σ H Q ⟨W, E, rm, ρ, H0, c, ds, l, fz, o, q⟩ => ?_
  cases ds with
  | nil => exact o.elim
  | cons d ds =>
    obtain ⟨v, r, ev, fv, fr⟩ := fz
    refine ⟨v, r, ev, W, _, rm, ρ, H0, c, d, l, fv, OutS.mono (OutS.seq o) (fun i e => or_l e) fun i e => or_l e, fun σ' H' ⟨ρ1, H01, c1, l1, s1, a1, o1⟩ => ?_⟩
    exact ⟨W, E, rm, ρ1, H01, c1, ds, l1, Fzs.mono s1.grow ds r fr, o1.mono (fun i e => or_r e) fun i e => or_r e, q⟩
def tTupl (n : Nat) (gs : List D → M Fl) : D → M Fl := fun d => match d with
  | .tup ds => if ds.length = n then gs ds else fun _ => .bad
  | _ => fun _ => .bad
theorem VG.tup {n : Nat} {kk : Nat} {gs : List D → M Fl} (h : VGs G N S as es gs) (hc : S.cm = true := by rfl) (hn : ∀ env, (assignEach es env).length = n := by intro _; rfl) (hst : ∀ env, (assignEach es env).findIdx? (·.1) = none := by intro _; rfl) :
    VG G N S as (.Tuple es kk pos) (tTupl n gs) := by
  refine fun R a => PG.imp (pg_tup (n := n) (a.calm.trans hc) (h R a) (hn _) (hst _)) fun v σ H Q ⟨W, E, rm, ρ, H0, c, d, l, fz, o, q⟩ => ?_
  cases d with
  | tup ds =>
    obtain ⟨b, vs, e, k, g⟩ := fz
    by_cases hl : ds.length = n
    · have o' : OutS G.K G.mg W rm as as H0 H c σ ((if ds.length = n then gs ds else fun _ => .bad) ρ) E := o
      rw [if_pos hl] at o'
      exact ⟨b, vs, e, same_t l.sub k, g.length.trans hl, W, E, rm, ρ, H0, c, ds, l, g, o', q⟩
    · have o' : OutS G.K G.mg W rm as as H0 H c σ ((if ds.length = n then gs ds else fun _ => .bad) ρ) E := o
      rw [if_neg hl] at o'
      exact o'.elim
  | _ => exact o.elim
/-- targets = e, e frozen data -/
def gAsg (gt : D → M Fl) (f : M D) : M Fl := fun r => (f r).bind gt
/-! ### what is walked -/
/-- how large a list may be -/
abbrev LIM : Nat := 16777216
/-- it yields the data ds, one after another, while the frozen heap only grows and P stays -/
def ItOk (K : PySem.W.Frag) (mg : MG) (J : It) (H0 : Hp) (ds : List D) (P : Hp → Co → Prop) : Prop := ∀ H0' H c, Same H0 H0' → Same H0' H → P H c →
  (∀ i d, ds[i]? = some d → J.go i H ∧ ∀ x H', J.yld i H x H' → ∃ H0'', Same H H' ∧ Same H0' H0'' ∧ Same H0'' H' ∧ (∀ a o, H0'' a = some o → (∃ u, H0' a = some u) ∨ H a = none) ∧ Fz K mg H0'' d x) ∧ J.stop ds.length H
/-- it stays through steps that leave the slots bs alone, and where an object of no slot is changed -/
structure Stays (bs : Ms) (P : Hp → Co → Prop) : Prop where
  run : ∀ (ms : Ms) (H0 H : Hp) (c : Co) (H0' H' : Hp) (c' : Co), (∀ i, bs i = true → ms i = false) → P H c → Step ms H0 H c H0' H' c' → P H' c'
  oth : ∀ (H : Hp) (c : Co) (a : Addr) (o : HO), c a = none → P H c → P (upd H a o) c
def FI (K : PySem.W.Frag) (mg : MG) (bs : Ms) : Fam (List D) It := fun _ _ ds H0' H' c' J => ds.length ≤ LIM ∧ ∃ P, P H' c' ∧ Stays bs P ∧ ItOk K mg J H0' ds P
theorem back_FI {K : PySem.W.Frag} {mg : MG} : Back ms (FI K mg bs) := fun _ _ _ _ _ _ _ _ _ _ _ _ h => h
abbrev VI (G : GC) (N : List Str) (S : SC) (bs ms : Ms) (tg e : Expr) (f : M (List D)) : Prop := VE G N S (fun X t => PI X tg e t) (FI G.K G.mg bs) ms f
theorem PI.imp {X : Cx} {tg e : Expr} {t t' : TI} (h : PI X tg e t) (q : ∀ σ H Q, t' σ H Q → t σ H Q) : PI X tg e t' := ⟨fun pins s σ H Q I z => h.run pins s σ H Q I (q σ H Q z)⟩
/-- what stands in the heap is not too large -/
theorem pe_small {X : Cx} {e : Expr} {t : TE} (h : PE X e t) : PE X e fun σ H Q => t σ H fun v H' => (∀ a xs, v = .ref a → (SqL X.K H' a xs ∨ SqT X.K H' a xs) → xs.length ≤ LIM) → Q v H' := by
  refine ⟨fun pins s σ H Q I w => ?_⟩
  refine thn (h.run pins s σ H _ I w) fun u s1 ⟨v, H1, I1, r1, q⟩ => ⟨v, H1, I1, r1, q fun a xs e k => ?_⟩
  rcases k with k | k
  · obtain ⟨_, _, _, z⟩ := I1.list k
    rw [sizeLine_eq] at z; exact z
  · obtain ⟨_, _, _, z⟩ := I1.tuple k
    rw [sizeLine_eq] at z; exact z
theorem ItOk.list {K : PySem.W.Frag} {mg : MG} {H0 : Hp} {a : Addr} {ds : List D} {vs : List V} {P : Hp → Co → Prop} (h : ∀ H0' H c, Same H0 H0' → Same H0' H → P H c → SqL K H a vs) (f : Fzs K mg H0 ds vs) : ItOk K mg (Itl K a) H0 ds P := fun H0' H c s1 s2 p => by
  have hq : SqL K H a vs := h H0' H c s1 s2 p
  refine ⟨fun i d e => ?_, ⟨vs, hq, by rw [f.length]; exact Nat.le_refl _⟩⟩
  obtain ⟨v, e1, e2⟩ := f.get e
  refine ⟨⟨vs, v, hq, e1⟩, fun x H' ⟨e3, e4⟩ => ?_⟩
  subst e3
  have e5 := e4 vs hq
  rw [e1] at e5
  cases e5
  exact ⟨H0', Same.refl _, Same.refl _, s2, fun a o q => .inl ⟨o, q⟩, Fz.mono s1 d v e2⟩
theorem ItOk.tup {K : PySem.W.Frag} {mg : MG} {H0 : Hp} {a : Addr} {ds : List D} {vs : List V} {P : Hp → Co → Prop} (h : ∀ H0' H c, Same H0 H0' → Same H0' H → P H c → SqT K H a vs) (f : Fzs K mg H0 ds vs) : ItOk K mg (Itt K a) H0 ds P := fun H0' H c s1 s2 p => by
  have hq : SqT K H a vs := h H0' H c s1 s2 p
  refine ⟨fun i d e => ?_, ⟨vs, hq, by rw [f.length]; exact Nat.le_refl _⟩⟩
  obtain ⟨v, e1, e2⟩ := f.get e
  refine ⟨⟨vs, v, hq, e1⟩, fun x H' ⟨e3, e4⟩ => ?_⟩
  subst e3
  have e5 := e4 vs hq
  rw [e1] at e5
  cases e5
  exact ⟨H0', Same.refl _, Same.refl _, s2, fun a o q => .inl ⟨o, q⟩, Fz.mono s1 d v e2⟩
theorem Stays.tt : Stays bs (fun _ _ => True) := ⟨fun _ _ _ _ _ _ _ _ _ _ => trivial, fun _ _ _ _ _ _ => trivial⟩
theorem Stays.own {a : Addr} {o : HO} {i : Nat} (hi : bs i = true) : Stays bs (fun H c => H a = some o ∧ c a = some i) := ⟨fun ms H0 H c H0' H' c' dj ⟨h1, h2⟩ s =>
  ⟨s.keep a o h1 fun j e => by rw [h2] at e; cases e; exact dj i hi, (s.col a o h1 fun j e => by rw [h2] at e; cases e; exact dj i hi).trans h2⟩,
  fun H c b u h ⟨h1, h2⟩ => ⟨by rw [upd_ne fun e => by rw [e, h] at h2; cases h2]; exact h1, h2⟩⟩
/-- over a list, the script -/
def iLst (f : M D) : M (List D) := fun r => (f r).bind fun d r => match d with
  | .lst ds => .ok ds r
  | .scr ns => .ok (ns.map .int) r
  | _ => .bad
theorem FI.lst {K : PySem.W.Frag} {mg : MG} {H0 H Hh : Hp} {c cc : Co} {d : D} {ds : List D} {v : V} (s : Same H0 H) (b : Bw K mg bs H0 H c d v) (hd : (∃ ds', d = .lst ds' ∧ ds = ds') ∨ ∃ ns, d = .scr ns ∧ ds = ns.map .int) (hs : ∀ a xs, v = .ref a → (SqL K H a xs ∨ SqT K H a xs) → xs.length ≤ LIM) :
    ∃ a, v = .ref a ∧ (∃ vs, SqL K H a vs) ∧ FI K mg bs Hh cc ds H0 H c (Itl K a) := by
  rcases hd with ⟨ds', rfl, rfl⟩ | ⟨ns, rfl, rfl⟩
  · rcases b with ⟨a, vs, e, k, g⟩ | ⟨fp, i, hi, hl, ⟨a, vs, g, e, k, ef, r⟩, hc⟩
    · have q : SqL K H a vs := .of (s _ _ k)
      refine ⟨a, e, ⟨vs, q⟩, by rw [← g.length]; exact hs a vs e (.inl q), fun _ _ => True, trivial, .tt, ItOk.list (fun H0' H c s1 s2 _ => .of (s2 _ _ (s1 _ _ k))) g⟩
    · have q : SqL K H a vs := .of k
      have gz := (Ows.all_z.mp r).2
      refine ⟨a, e, ⟨vs, q⟩, by rw [← gz.length]; exact hs a vs e (.inl q), fun H c => H a = some (.lst vs) ∧ c a = some i, ⟨k, hc a (by rw [ef]; exact List.mem_cons_self)⟩, .own hi, ItOk.list (fun H0' H c s1 s2 p => .of p.1) gz⟩
  · have z : Fz K mg H0 (.scr ns) v := by
      rcases b with z | ⟨fp, i, hi, hl, _⟩
      · exact z
      · cases hl
    obtain ⟨a, e, k⟩ := z
    exact ⟨a, e, ⟨_, s.seq k⟩, by rw [List.length_map, ← List.length_map (f := V.int)]; exact hs a _ e (.inl (s.seq k)), fun _ _ => True, trivial, .tt, ItOk.list (fun H0' H c s1 s2 _ => s2.seq (s1.seq k)) (fzs_ints _)⟩
theorem VI.lst {tg : Expr} (h : VB G N S bs ms e f) : VI G N S bs ms tg e (iLst f) := by
  refine fun R a W t => PI.imp (pi_list (pe_small (h R a W t))) fun σ H Q ⟨ρ, H0, c, l, o⟩ => ?_
  refine ⟨ρ, H0, c, l, (Out.bind (G := FB G.K G.mg bs) (ms1 := ms) back_FI o fun i e => e).imp fun x H1 ⟨d, H01, c1, ρ1, e1, s1, l1, b1, h1⟩ hs => ?_⟩
  cases d with
  | lst ds =>
    obtain ⟨b, e, q, fi⟩ := FI.lst (Hh := H1) (cc := c1) l1.sub b1 (.inl ⟨ds, rfl, rfl⟩) hs
    exact ⟨b, e, q, h1 _ H01 H1 c1 .refl l1 fi⟩
  | scr ns =>
    obtain ⟨b, e, q, fi⟩ := FI.lst (Hh := H1) (cc := c1) l1.sub b1 (.inr ⟨ns, rfl, rfl⟩) hs
    exact ⟨b, e, q, h1 _ H01 H1 c1 .refl l1 fi⟩
  | _ => exact h1.elim
/-- over a tuple -/
def iTup (f : M D) : M (List D) := fun r => (f r).bind fun d r => match d with
  | .tup ds => .ok ds r
  | _ => .bad
theorem VI.tup {tg : Expr} (h : VO G N S .z ms e f) : VI G N S ms0 ms tg e (iTup f) := by
  refine fun R a W t => PI.imp (pi_tup (pe_small (h R a W t))) fun σ H Q ⟨ρ, H0, c, l, o⟩ => ?_
  refine ⟨ρ, H0, c, l, (Out.bind (G := FO G.K G.mg .z ms) (ms1 := ms) back_FI o fun i e => e).imp fun x H1 ⟨d, H01, c1, ρ1, e1, s1, l1, ⟨fp, o1, f1⟩, h1⟩ hs => ?_⟩
  have z := (Ow.zero.mp o1).2
  cases d with
  | tup ds =>
    obtain ⟨b, vs, e, k, g⟩ := z
    exact ⟨b, e, ⟨vs, same_t l1.sub k⟩, h1 _ H01 H1 c1 .refl l1 ⟨by rw [← g.length]; exact hs b vs e (.inr (same_t l1.sub k)), fun _ _ => True, trivial, .tt, ItOk.tup (fun H0' H c s1 s2 _ => same_t s2 (same_t s1 k)) g⟩⟩
  | _ => exact h1.elim
/-- for -/
def lpK (k : M Fl) : Fl → M Fl := fun fl r => match fl with
  | .nx => k r
  | .ct => k r
  | .bk => .ok .nx r
  | .rt d => .ok (.rt d) r
def gLoop (gt : D → M Fl) (gb : M Fl) : List D → M Fl
  | [] => gNx
  | d :: ds => fun r => (gt d r).bind fun _ r => (gb r).bind (lpK (gLoop gt gb ds))
def gFor (fi : M (List D)) (gt : D → M Fl) (gb : M Fl) : M Fl := fun r => (fi r).bind (gLoop gt gb)
theorem VS.for_ {tg it : Expr} {body : List Stmt} {fi : M (List D)} {gt : D → M Fl} {gb : M Fl} (hi : VI G N S ms0 ms tg it fi) (hg : VG G N S as1 tg gt) (hb : VSs G N S rm as2 body gb) (hc : S.cm = true := by rfl) (hs : ∀ env x, foldedSetIterable it env x = pure x := by intro _ _; rfl) :
    VS G N S rm (msU as1 as2) (.For tg it body [] pos) (gFor fi gt gb) := by
  refine fun R a W t => (ps_for a.po (a.calm.trans hc) (hi R a W t) (hg R a) (hb R a W t) (hs _)).imp fun D σ H ⟨ρ, H0, c, l, o⟩ => ?_
  refine ⟨ρ, H0, c, l, (OutS.expr (F := FI G.K G.mg ms0) o).imp fun J H1 ⟨ds, H01, c1, ρ1, e1, s1, l1, ⟨_, P, p1, sP, hJ⟩, o1⟩ => ?_⟩
  refine ⟨fun i m σ H => m = ds.length - i ∧ i ≤ ds.length ∧ ∃ ρ H0 c, Lies G.K G.mg H0 H c σ ρ ∧ (Same H01 H0 ∧ P H c) ∧ OutS G.K G.mg W rm msA (msU as1 as2) H0 H c σ (gLoop gt gb (ds.drop i) ρ) D,
    ⟨ds.length, rfl, Nat.zero_le _, ρ1, H01, c1, l1, ⟨Same.refl _, p1⟩, o1⟩, fun i m σ H ⟨em, hi, ρ, H0, c, l, ⟨s, pH⟩, o⟩ => ?_⟩
  obtain ⟨hgo, hst⟩ := hJ H0 H c s l.sub pH
  by_cases hlt : i < ds.length
  · have ed : ds.drop i = ds[i] :: ds.drop (i + 1) := List.drop_eq_getElem_cons hlt
    rw [ed] at o
    obtain ⟨go, step⟩ := hgo i ds[i] (List.getElem?_eq_getElem hlt)
    refine .inr ⟨go, fun σ' H' => ∃ ρ H0 c, Lies G.K G.mg H0 H' c σ' ρ ∧ (Same H01 H0 ∧ P H' c) ∧ OutS G.K G.mg W rm msA (msU as1 as2) H0 H' c σ' (gLoop gt gb (ds.drop (i + 1)) ρ) D, fun σ' H' ⟨ρ, H0, c, l, s, o⟩ => ⟨ds.length - (i + 1), by omega, rfl, hlt, ρ, H0, c, l, s, o⟩, fun x H' hy => ?_⟩
    obtain ⟨H0', k1, k2, k3, k4, fz⟩ := step x H' hy
    have l' := l.grow k1 k2 k3 k4
    have gr : Step msA H0 H c H0' H' c := Step.growth k1 k2 k4
    have pH' : P H' c := sP.run msA _ _ _ _ _ _ (fun _ z => by cases z) pH gr
    have o' := o.on gr Agr.refl
    -- the target, then the body
    have e2 : OutS G.K G.mg W rm as1 as1 H0' H' c σ (gt ds[i] ρ) { D with nx := fun σ2 H2 => ∃ ρ2 H02 c2, Lies G.K G.mg H02 H2 c2 σ2 ρ2 ∧ (Same H01 H02 ∧ P H2 c2) ∧ OutS G.K G.mg W rm msA (msU as1 as2) H02 H2 c2 σ2 ((gb ρ2).bind (lpK (gLoop gt gb (ds.drop (i + 1))))) D, bk := fun _ _ => True, ct := fun _ _ => True, rt := fun _ _ => True } := by
      have o2 : OutS G.K G.mg W rm msA (msU as1 as2) H0' H' c σ ((gt ds[i] ρ).bind fun _ r => (gb r).bind (lpK (gLoop gt gb (ds.drop (i + 1))))) D := o'
      cases hh : gt ds[i] ρ with
      | ok fl r =>
        rw [hh, bind_ok] at o2
        cases fl with
        | nx => exact fun σ2 H02 H2 c2 t l2 a2 => ⟨r, H02, c2, l2, ⟨s.trans (k2.trans t.grow), sP.run msA _ _ _ _ _ _ (fun _ z => by cases z) pH' (t.mono fun _ _ => rfl)⟩, o2.on (t.mono fun _ _ => rfl) (a2.mono fun i e => or_l e)⟩
        | bk => exact fun _ _ _ _ _ _ _ => trivial
        | ct => exact fun _ _ _ _ _ _ _ => trivial
        | rt d => exact fun _ _ _ _ _ _ _ _ _ => trivial
      | exc n ns vs r =>
        rw [hh, bind_exc] at o2
        exact fun cls dx σ2 H02 H2 c2 t l2 a2 e => o2 cls dx σ2 H02 H2 c2 (t.mono fun _ _ => rfl) l2 (a2.mono fun i e => or_l e) e
      | bad => rw [hh, bind_bad] at o2; exact o2.elim
    refine ⟨W, _, rm, ρ, H0', c, ds[i], l', fz, e2, fun σ2 H2 ⟨ρ2, H02, c2, l2, ⟨s2, pH2⟩, o2⟩ => ?_⟩
    refine ⟨ρ2, H02, c2, l2, ?_⟩
    cases hh : gb ρ2 with
    | ok fl r =>
      rw [hh, bind_ok] at o2
      cases fl with
      | nx => exact fun σ3 H03 H3 c3 t l3 a3 => ⟨r, H03, c3, l3, ⟨s2.trans t.grow, sP.run msA _ _ _ _ _ _ (fun _ z => by cases z) pH2 t⟩, o2.on t (a3.mono fun i e => or_r e)⟩
      | ct => exact fun σ3 H03 H3 c3 t l3 a3 => ⟨r, H03, c3, l3, ⟨s2.trans t.grow, sP.run msA _ _ _ _ _ _ (fun _ z => by cases z) pH2 t⟩, o2.on t (a3.mono fun i e => or_r e)⟩
      | bk => exact fun σ3 H03 H3 c3 t l3 a3 => o2 σ3 H03 H3 c3 t l3 (a3.mono fun i e => or_r e)
      | rt d => exact fun v σ3 H03 H3 c3 t l3 a3 f => o2 v σ3 H03 H3 c3 t l3 (a3.mono fun i e => or_r e) f
    | exc n ns vs r =>
      rw [hh, bind_exc] at o2
      exact fun cls dx σ3 H03 H3 c3 t l3 a3 e => o2 cls dx σ3 H03 H3 c3 t l3 (a3.mono fun i e => or_r e) e
    | bad => rw [hh, bind_bad] at o2; exact o2.elim
  · have e : i = ds.length := by omega
    subst e
    rw [List.drop_length] at o
    exact .inl ⟨hst, o σ H0 H c .refl l .refl⟩
/-- while, with so many turns at most -/
def gWhile (ft : M D) (gb : M Fl) : Nat → M Fl
  | 0 => fun _ => .bad
  | n + 1 => fun r => (ft r).bind fun d r => match d with
    | .bl true => (gb r).bind (lpK (gWhile ft gb n))
    | .bl false => .ok .nx r
    | _ => .bad
theorem VS.while_ {t : Expr} {body : List Stmt} {ft : M D} {gb : M Fl} (n : Nat) (ht : VT G N S ms t ft) (hb : VSs G N S rm as body gb) : VS G N S rm as (.While t body [] pos) (gWhile ft gb n) := by
  refine fun R a W tk => (ps_while a.po (ht R a W tk) (hb R a W tk)).imp fun D σ H ⟨ρ, H0, c, l, o⟩ => ?_
  refine ⟨fun m σ H => ∃ ρ H0 c, Lies G.K G.mg H0 H c σ ρ ∧ OutS G.K G.mg W rm msA as H0 H c σ (gWhile ft gb m ρ) D, ⟨n, ρ, H0, c, l, o⟩, fun m σ H ⟨ρ, H0, c, l, o⟩ => ?_⟩
  cases m with
  | zero => exact o.elim
  | succ m =>
    refine ⟨ρ, H0, c, l, (OutS.expr (F := FT) o).imp fun x H1 ⟨d, H01, c1, ρ1, e1, s1, l1, z, o1⟩ => ?_⟩
    have z : d = .bl x := z
    subst z
    cases x with
    | false => rw [if_neg Bool.false_ne_true]; exact o1 σ H01 H1 c1 .refl l1 .refl
    | true =>
      rw [if_pos rfl]
      refine ⟨fun σ' H' => ∃ ρ H0 c, Lies G.K G.mg H0 H' c σ' ρ ∧ OutS G.K G.mg W rm msA as H0 H' c σ' (gWhile ft gb m ρ) D, fun σ' H' h => ⟨m, Nat.lt_succ_self _, h⟩, ρ1, H01, c1, l1, ?_⟩
      have o2 : OutS G.K G.mg W rm msA as H01 H1 c1 σ ((gb ρ1).bind (lpK (gWhile ft gb m))) D := o1
      cases hh : gb ρ1 with
      | ok fl r =>
        rw [hh, bind_ok] at o2
        cases fl with
        | nx => exact fun σ3 H03 H3 c3 t l3 a3 => ⟨r, H03, c3, l3, o2.on t a3⟩
        | ct => exact fun σ3 H03 H3 c3 t l3 a3 => ⟨r, H03, c3, l3, o2.on t a3⟩
        | bk => exact fun σ3 H03 H3 c3 t l3 a3 => o2 σ3 H03 H3 c3 t l3 a3
        | rt d => exact fun v σ3 H03 H3 c3 t l3 a3 f => o2 v σ3 H03 H3 c3 t l3 a3 f
      | exc n ns vs r =>
        rw [hh, bind_exc] at o2
        exact fun cls dx σ3 H03 H3 c3 t l3 a3 e => o2 cls dx σ3 H03 H3 c3 t l3 a3 e
      | bad => rw [hh, bind_bad] at o2; exact o2.elim
end
end Vm
set_option Elab.async false
set_option linter.all false
set_option maxRecDepth 100000
set_option maxHeartbeats 4000000
namespace Vm
open PySem PySem.Spec PyProof.Rows L2

/-! ### a def by its data -/
/-- what a def leaves in the slots that were lent to it -/
def ioEnd : List Bool → Nat → En → En
  | [], _, _ => []
  | b :: bs, i, r => (if b = true then getS r i else none) :: ioEnd bs (i + 1) r
theorem ioEnd_len : ∀ (io : List Bool) (i : Nat) (r : En), (ioEnd io i r).length = io.length
  | [], _, _ => rfl
  | b :: bs, i, r => by simp [ioEnd, ioEnd_len bs (i + 1) r]
theorem ioEnd_get : ∀ (io : List Bool) (i : Nat) (r : En) (j : Nat) (s : Md × D), getS (ioEnd io i r) j = some s → io.getD j false = true ∧ getS r (i + j) = some s
  | [], _, _, j, s, h => by simp [ioEnd, getS] at h
  | b :: bs, i, r, 0, s, h => by
    cases b with
    | true => exact ⟨rfl, by simpa [ioEnd, getS] using h⟩
    | false => simp [ioEnd, getS] at h
  | b :: bs, i, r, j + 1, s, h => by
    have h' : getS (ioEnd bs (i + 1) r) j = some s := by simpa [ioEnd, getS] using h
    obtain ⟨h1, h2⟩ := ioEnd_get bs (i + 1) r j s h'
    exact ⟨by simpa using h1, by rw [show i + (j + 1) = i + 1 + j by omega]; exact h2⟩
def fnRun (io : List Bool) (n : Nat) (g : M Fl) : M D := fun r => match g (r ++ List.replicate n none) with
  | .ok (.rt d) r => .ok d (ioEnd io 0 r)
  | .ok .nx r => .ok .non (ioEnd io 0 r)
  | .ok _ _ => .bad
  | .exc c ns vs r => .exc c ns vs (ioEnd io 0 r)
  | .bad => .bad
def spV (G : GC) (F : M D) (p : Nat) (rm : Md) : Sp := fun vs H Q E => vs.length = p ∧ tR G.K G.mg (fun cls dx _ H => E cls dx H) (FO G.K G.mg rm msA) msA F (vs.map some) H Q
/-- what a def promises where nothing is being shown -/
structure FnK (P : Program) (w : World) (K : PySem.W.Frag) (mg : Str → Option Value) (base : Heap) (CX : CXT) (k : Nat) (f : Addr) (fd : FuncData) (ps : List Str) (sp : Sp) : Prop where
  len : ∀ vs H Q E, sp vs H Q E → vs.length = ps.length
  run : ∀ (A : Around) (outer : List Env) (s : Shared) (H : Hp) (ar : Args) (us : List Value) (vs : List V) (Q : VK) (E : XK), A.guards = some [] → Room k A → Env0 P w K mg base A outer s H → BindsTo s fd ar (ps.zip us) → Vals vs us → sp vs H Q E →
    codeAny (model P w) A (.call (.ref f) ar) (CR CX outer P w H s Q E) s
theorem fnk_of {CX : CXT} {P : Program} {w : World} {K : PySem.W.Frag} {mg : Str → Option Value} {base : Heap} {k : Nat} {f : Addr} {nm qual : Str} {params : Arguments} {body : List Stmt} {scope : Scope} {dV kV doc pm cdv ct oc : Value} {an od : Option Addr}
    {osl : Array (Option Value)} {N ps : List Str} {sp : Sp} (lk : K.lookup f = some ⟨oc, od, .func (PySem.W.fnOf nm qual params body scope dV kV doc pm an cdv ct), osl⟩) (hcode : PySem.W.codeIn K cdv qual = true) (Sc : FnScope N ps scope)
    (len : ∀ vs H Q E, sp vs H Q E → vs.length = ps.length)
    (hb : ∀ (A : Around) (outer : List Env) (s : Shared) (H : Hp) (vs : List V) (Q : VK) (E : XK), (A.deeper (envOfC qual scope s.heap.objs.size f cdv)).guards = some [] → Room k (A.deeper (envOfC qual scope s.heap.objs.size f cdv)) → sp vs H Q E →
      ∃ t, PSs (cxOf CX P w K mg base N qual scope f cdv A outer s H E) body t ∧ t { nx := fun _ H' => Q .non H', rt := Q } (L2.start N vs) H) :
    FnK P w K mg base CX (k + 1) f (PySem.W.fnOf nm qual params body scope dV kV doc pm an cdv ct) ps sp := by
  refine ⟨len, fun A outer s H ar us vs Q E hg hr e1 hbi r hsp => ?_⟩
  have hlen := len _ _ _ _ hsp
  have inK : K.In s.heap := e1.mod.kin.keeps fun b o e => (e1.bs b o e).1
  have nolim : s.heap.NoLimit := e1.mod.nolimit.keeps fun b o e => (e1.bs b o e).1
  have kinds : ∀ y ∈ ps.zip us, scope.names.lookup y.1 = some .local ∨ (scope.names.lookup y.1 = some .cell ∧ ((cellsFrom (s.heap.objs.size + 1) scope.names []).lookup y.1).isSome = true) := fun ⟨n, v⟩ hy => by
    rcases Sc.par n (List.of_mem_zip hy).1 with q | q
    · exact .inl q
    · exact .inr ⟨q, PySem.W.cellsFrom_some _ _ _ (.inl q)⟩
  refine codeAny_call_function hr.depth (inK _ _ lk) rfl Sc.co Sc.gen rfl (PySem.W.codeRec_of inK hcode) (hbi _ _ _ _ ?_)
  refine wpAny_newFunctionEnv_cells Sc.kind kinds fun env he s1 x => ?_
  subst he
  refine ⟨nolim.keeps x.toInCall.keep, codeAny_func ?_⟩
  obtain ⟨t, ht, hq⟩ := hb A outer s H vs Q E hg (hr.deeper _) hsp
  have I : Inv (cxOf CX P w K mg base N qual scope f cdv A outer s H E) [] (L2.start N vs) H s1 := inv_start Sc hr.hd e1 hlen r x
  refine wpAny_mono (ht.run [] s1 (L2.start N vs) H _ I hq) (fun fl s' hs => ?_) fun e s' hs => hs
  have done : ∀ {σ' : L2.St} {H' : Hp} {v : V} {u : Value}, Inv (cxOf CX P w K mg base N qual scope f cdv A outer s H E) [] σ' H' s' → RelV v u → Q v H' → CE outer P w H s Q u s' :=
    fun {σ' H' v u} J rv q => ⟨v, H', J.os, J.bare, J.base, J.hok, rv, q⟩
  cases fl with
  | ret u =>
    obtain ⟨v, σ', H', J, rv, q⟩ := hs
    exact done J rv q
  | next =>
    obtain ⟨σ', H', J, q⟩ := hs
    exact done (v := V.non) (u := Value.none) J rfl q
  | brk =>
    obtain ⟨_, _, _, q⟩ := hs
    exact q.elim
  | cont =>
    obtain ⟨_, _, _, q⟩ := hs
    exact q.elim
theorem FunD.okG {CX : CXT} {P : Program} {w : World} {K : PySem.W.Frag} {mg : Str → Option Value} {base : Heap} {x qual : Str} {params : Arguments} {body : List Stmt} {scope : Scope} {dvs : List V} {kws : List (Str × V)} {f : Addr} {fd : FuncData} {N ps : List Str} {k : Nat} {sp : Sp} (F : FunD K x qual params body scope dvs kws f fd) (Sc : FnScope N ps scope) (len : ∀ vs H Q E, sp vs H Q E → vs.length = ps.length)
    (hb : ∀ (cdv : Value) (A : Around) (outer : List Env) (s : Shared) (H : Hp) (vs : List V) (Q : VK) (E : XK), (A.deeper (envOfC qual scope s.heap.objs.size f cdv)).guards = some [] → Room k (A.deeper (envOfC qual scope s.heap.objs.size f cdv)) → sp vs H Q E →
      ∃ t, PSs (cxOf CX P w K mg base N qual scope f cdv A outer s H E) body t ∧ t { nx := fun _ H' => Q .non H', rt := Q } (L2.start N vs) H) : FnK P w K mg base CX (k + 1) f fd ps sp := by
  obtain ⟨oc, od, dV, kV, doc, pm, an, cdv, ct, osl, rfl, lk, hcode, _, _⟩ := F.ex
  exact fnk_of lk hcode Sc len fun A outer s H vs Q E hg hr hsp => hb cdv A outer s H vs Q E hg hr hsp
section
variable {X : Cx} {CX : CXT} {k : Nat} {f : Addr} {fd : FuncData} {ps : List Str} {sp : Sp} {E : L2.St → XK} {x : Str} {p pos : Pos} {e : Expr} {es : List Expr} {t : TA}
theorem run_fnG {pins : List (Addr × Obj)} {σ : L2.St} {H : Hp} {s : Shared} {Q : VK} {us : List Value} {vs : List V} (F : FnK X.prog X.w X.K X.mg X.base CX k f fd ps sp) (hgd : X.A.guards = some []) (hr : Room k X.A) (hb : Binds X.K fd ps []) (hx : PassesAt CX X σ (E σ))
    (I : Inv X pins σ H s) (r : Vals vs us) (h : sp vs H Q (E σ)) : wpAny (model X.prog X.w) X.A (call (.ref f) us) (EP X pins σ Q) X.xe s := by
  have hlen : us.length = ps.length := by rw [← r.length]; exact F.len _ _ _ _ h
  have bd := hb s us I.kIn (by rw [List.append_nil]; exact hlen)
  rw [List.append_nil] at bd
  refine wpAny_call (codeAny_mono (F.run X.A X.stack s H ⟨us, []⟩ us vs Q (E σ) hgd hr I.env0 bd r h) fun r s' hq => ?_)
  cases r with
  | error e => exact hx pins H s e s' I hq
  | ok fl =>
    cases fl with
    | ret u => exact I.after hq
    | next => exact hq.elim
    | brk => exact hq.elim
    | cont => exact hq.elim
theorem pe_callG (F : FnK X.prog X.w X.K X.mg X.base CX k f fd ps sp) (hgd : X.A.guards = some []) (hr : Room k X.A) (hg : Gl X x) (hm : X.mg x = some (.ref f)) (hkp : PySem.W.keepIn X.K (.ref f) = true) (hb : Binds X.K fd ps []) (hx : ∀ σ, PassesAt CX X σ (E σ))
    (ha : PA X (e :: es) t) (hdb : (x == ("__debug__" : Str)) = false := by decide) (he : starEach (e :: es) X.env = (false, eval e X.env) :: starEach es X.env := by rfl) (hpl : (backTo pos (starEach es X.env)).any (·.1) = false := by rfl) :
    PE X (.Call (.Name x p) (e :: es) [] pos) (tCallS sp E t) := by
  refine ⟨fun pins s σ H Q I hh => ?_⟩
  refine wpAny_Call_Name_kw (ld_glob I hg hm ?_ hdb)
  refine PySem.W.callWith_K (h₀ := X.base) I.ok.mod.kin hkp (thn (ha.run pos pins s σ H _ I hh) fun us s1 ⟨vs, H1, I1, r, q⟩ => ⟨I1.kIn, ?_⟩) he hpl
  exact run_fnG F hgd hr hb (hx σ) I1 r q
end
/-- a def of the text that does F -/
abbrev FnV (G : GC) (k : Nat) (f : Addr) (fd : FuncData) (ps : List Str) (rm : Md) (F : M D) : Prop := FnK G.P G.w G.K G.mg G.base (L2N.CX G.P G.w) k f fd ps (spV G F ps.length rm)
theorem FnV.mk {G : GC} {k : Nat} {f : Addr} {fd : FuncData} {N ps : List Str} {rm : Md} {g : M Fl} {x qual : Str} {params : Arguments} {body : List Stmt} {scope : Scope} {dvs : List V} {kws : List (Str × V)} {as : Ms} (F : FunD G.K x qual params body scope dvs kws f fd) (Sc : FnScope N ps scope) (io : List Bool) (n : Nat)
    (hb : VSs G N ⟨scope, fun _ => true, k, true, true⟩ rm as body g) (hio : io.length = ps.length := by rfl) (hn : N.length = ps.length + n := by rfl) (has : ∀ i, io.getD i false = true → as i = false := by intro i h; rcases i with _ | _ | _ | _ | _ | _ | i <;> first | rfl | (cases h)) :
    FnV G (k + 1) f fd ps rm (fnRun io n g) := by
  refine FunD.okG F Sc (fun vs H Q E h => h.1) (fun cdv A outer s H vs Q E hgd hr ⟨hl, ρ, H0, c, l, o⟩ => ?_)
  have hlen : ρ.length = vs.length := by rw [l.len, List.length_map]
  refine ⟨tS G.K G.mg (fun cls d _ H => E cls d H) rm as g, hb ⟨A.deeper (envOfC qual scope s.heap.objs.size f cdv), s, H, envOfC qual scope s.heap.objs.size f cdv, outer, envOfC qual scope s.heap.objs.size f cdv :: outer, [], fun _ => true, true, [],
    fun e s' => wpAny (model G.P G.w) (A.deeper (envOfC qual scope s.heap.objs.size f cdv)) (leaving (envOfC qual scope s.heap.objs.size f cdv) e) (fun _ s'' => L2N.CX G.P G.w outer H s E e s'') (fun e' s'' => L2N.CX G.P G.w outer H s E e' s'') s'⟩
    ⟨rfl, rfl, Sc.nd, rfl, fun _ => hr, (fun z => by cases z), L2H.roomH_of hr, hgd, fun _ => ⟨rfl, rfl, rfl⟩, PassesOwn.leaving⟩ _ (L2N.takes_of rfl rfl rfl rfl), ρ ++ List.replicate n none, H0, c, ?_, ?_⟩
  · refine ⟨l.sub, l.hot, l.apart, l.there, ?_, fun i m d e => ?_⟩
    · unfold L2.start
      simp only [List.length_append, List.length_map, List.length_replicate]
      omega
    · have hi : i < ρ.length := by
        rcases Nat.lt_or_ge i ρ.length with h | h
        · exact h
        · exfalso
          have z : getS (ρ ++ List.replicate n none) i = none := by
            simp only [getS, List.getD_eq_getElem?_getD]
            rw [List.getElem?_append_right h, List.getElem?_replicate]
            split <;> rfl
          rw [z] at e; cases e
      have e' : getS ρ i = some (m, d) := by
        simp only [getS, List.getD_eq_getElem?_getD] at e ⊢
        rw [List.getElem?_append_left hi] at e
        exact e
      obtain ⟨v, fp, e1, ow, nd, hc⟩ := l.slot i m d e'
      refine ⟨v, fp, ?_, ow, nd, hc⟩
      unfold L2.start
      rw [List.getElem?_append_left (by rw [List.length_map]; omega)]
      exact e1
  · have back : ∀ {r : En} {σ' : L2.St} {H0' H' : Hp} {c' : Co}, Lies G.K G.mg H0' H' c' σ' r → Agr as (L2.start N vs) σ' → Lies G.K G.mg H0' H' c' (vs.map some) (ioEnd io 0 r) := fun {r σ' H0' H' c'} l' a' => by
      refine ⟨l'.sub, l'.hot, l'.apart, l'.there, by rw [ioEnd_len, hio, List.length_map, hl], fun i m d e => ?_⟩
      obtain ⟨q1, q2⟩ := ioEnd_get io 0 r i (m, d) e
      rw [Nat.zero_add] at q2
      obtain ⟨v, fp, e1, ow, nd, hc⟩ := l'.slot i m d q2
      have hi : i < io.length := by
        rcases Nat.lt_or_ge i io.length with h | h
        · exact h
        · rw [List.getD_eq_getElem?_getD, List.getElem?_eq_none h] at q1; cases q1
      rw [a'.2 i (has i q1)] at e1
      refine ⟨v, fp, ?_, ow, nd, hc⟩
      unfold L2.start at e1
      rw [List.getElem?_append_left (by rw [List.length_map]; omega)] at e1
      exact e1
    unfold fnRun at o
    cases hg : g (ρ ++ List.replicate n none) with
    | ok fl r =>
      rw [hg] at o
      cases fl with
      | nx => exact fun σ' H0' H' c' t l' a' => o .non H0' H' c' t (back l' a') ⟨[], ow_of_atom rfl rfl, .nil⟩
      | bk => exact o.elim
      | ct => exact o.elim
      | rt d => exact fun v σ' H0' H' c' t l' a' f => o v H0' H' c' t (back l' a') f
    | exc nn ns es r =>
      rw [hg] at o
      exact fun cls dx σ' H0' H' c' t l' a' e => o cls dx H0' H' c' t (back l' a') e
    | bad => rw [hg] at o; exact o

/-! ### calls -/
/-- arguments: frozen data, or a slot lent -/
def AMr (K : PySem.W.Frag) (mg : MG) (H0 : Hp) (σ : L2.St) : List (Option Nat) → List D → List V → Prop
  | [], ds, vs => ds = [] ∧ vs = []
  | none :: ls, ds, vs => ∃ d r v w, ds = d :: r ∧ vs = v :: w ∧ Fz K mg H0 d v ∧ AMr K mg H0 σ ls r w
  | some i :: ls, ds, vs => ∃ v w, vs = v :: w ∧ σ[i]? = some (some v) ∧ AMr K mg H0 σ ls ds w
def FAM (K : PySem.W.Frag) (mg : MG) (σ : L2.St) (ls : List (Option Nat)) : Fam (List D) (List V) := fun _ _ ds H0' _ _ vs => AMr K mg H0' σ ls ds vs
def tAM (K : PySem.W.Frag) (mg : MG) (W : WX) (ls : List (Option Nat)) (ms : Ms) (f : M (List D)) : TA := fun σ H Q => ∃ ρ H0 c, Lies K mg H0 H c σ ρ ∧ Out K mg W (FAM K mg σ ls) ms H0 H c σ (f ρ) Q
abbrev VM (G : GC) (N : List Str) (S : SC) (ls : List (Option Nat)) (ms : Ms) (es : List Expr) (f : M (List D)) : Prop := ∀ R, At G.mg.hx S N (mkX G N R) → ∀ W, L2N.Takes (mkX G N R) W → PA (mkX G N R) es (tAM G.K G.mg W ls ms f)
theorem back_FAM {K : PySem.W.Frag} {mg : MG} {σ : L2.St} {ls : List (Option Nat)} {ms : Ms} : Back ms (FAM K mg σ ls) := fun _ _ _ _ _ _ _ _ _ _ _ _ h => h
theorem AMr.mono {K : PySem.W.Frag} {mg : MG} {H0 H0' : Hp} {σ : L2.St} (s : Same H0 H0') : ∀ {ls : List (Option Nat)} {ds : List D} {vs : List V}, AMr K mg H0 σ ls ds vs → AMr K mg H0' σ ls ds vs
  | [], _, _, h => h
  | none :: ls, _, _, ⟨d, r, v, w, e1, e2, f, h⟩ => ⟨d, r, v, w, e1, e2, Fz.mono s d v f, AMr.mono s h⟩
  | some i :: ls, _, _, ⟨v, w, e1, e2, h⟩ => ⟨v, w, e1, e2, AMr.mono s h⟩
/-- the callee's slots -/
def mkArgs : List (Option Nat) → List D → En → En
  | [], _, _ => []
  | none :: ls, [], r => none :: mkArgs ls [] r
  | none :: ls, d :: ds, r => some (.z, d) :: mkArgs ls ds r
  | some i :: ls, ds, r => getS r i :: mkArgs ls ds r
def putBack : List (Option Nat) → En → En → En
  | [], _, r => r
  | none :: ls, rp, r => putBack ls rp.tail r
  | some i :: ls, rp, r => putBack ls rp.tail (r.set i (getS rp 0))
def fCall (F : M D) (ls : List (Option Nat)) (f : M (List D)) : M D := fun r => (f r).bind fun ds r => match F (mkArgs ls ds r) with
  | .ok d rp => .ok d (putBack ls rp r)
  | .exc n ns vs rp => .exc n ns vs (putBack ls rp r)
  | .bad => .bad
section
variable {G : GC} {N : List Str} {S : SC} {bs bs1 bs2 ms ms1 ms2 ms3 as as1 as2 : Ms} {m rm : Md} {k : Kd} {e a b : Expr} {es : List Expr} {f fa fb : M D} {fs : M (List D)} {pos : Pos} {ls : List (Option Nat)}
theorem VM.nil : VM G N S [] ms0 [] fNil := fun R a W t => pa_nil.imp fun σ H Q ⟨ρ, H0, c, l, o⟩ => o [] H0 H c .refl l ⟨rfl, rfl⟩
theorem VM.frz (he : VO G N S .z ms1 e f) (hr : VM G N S ls ms2 es fs) (hs : ∀ env, starEach (e :: es) env = (false, eval e env) :: starEach es env := by intro _; rfl) : VM G N S (none :: ls) (msU ms1 ms2) (e :: es) (fCons f fs) := by
  refine fun R a W t => (pa_cons (he R a W t) (hr R a W t) (hs _)).imp fun σ H Q ⟨ρ, H0, c, l, h⟩ => ?_
  refine ⟨ρ, H0, c, l, (Out.bind (G := FO G.K G.mg .z ms1) (ms1 := ms1) back_FAM h fun i e => or_l e).imp fun x H1 ⟨d1, H01, c1, ρ1, e1, s1, l1, ⟨fp, b1, _⟩, h1⟩ => ?_⟩
  refine ⟨ρ1, H01, c1, l1, (Out.bind (G := FAM G.K G.mg σ ls) (ms1 := ms2) back_FAM h1 fun i e => or_r e).imp fun y H2 ⟨d2, H02, c2, ρ2, e2, s2, l2, b2, h2⟩ => ?_⟩
  exact h2 (x :: y) H02 H2 c2 .refl l2 ⟨d1, d2, x, y, rfl, rfl, Fz.mono s2.grow d1 x (Ow.zero.mp b1).2, b2⟩
theorem VM.lent {i : Nat} {x : Str} {p : Pos} (hr : VM G N S ls ms2 es fs) (hN : N[i]? = some x := by rfl) (hv : Vis S.sc x := by first | exact Or.inl rfl | exact Or.inr (Or.inl rfl) | exact Or.inr (Or.inr rfl))
    (hs : ∀ env, starEach (.Name x p :: es) env = (false, eval (.Name x p) env) :: starEach es env := by intro _; rfl) (hd : (x == ("__debug__" : Str)) = false := by decide) (hcd : (x == ("__classdict__" : Str)) = false := by decide) :
    VM G N S (some i :: ls) ms2 (.Name x p :: es) (fun r => match getS r i with | some _ => fs r | none => .bad) := by
  refine fun R a W t => (pa_cons (pe_var (i := i) hN (a.vis hv) hd hcd) (hr R a W t) (hs _)).imp fun σ H Q ⟨ρ, H0, c, l, h⟩ => ?_
  cases es : getS ρ i with
  | none =>
    have h' : Out G.K G.mg W (FAM G.K G.mg σ (some i :: ls)) ms2 H0 H c σ (match getS ρ i with | some _ => fs ρ | none => .bad) Q := h
    rw [es] at h'; exact h'.elim
  | some md =>
    have h' : Out G.K G.mg W (FAM G.K G.mg σ (some i :: ls)) ms2 H0 H c σ (match getS ρ i with | some _ => fs ρ | none => .bad) Q := h
    rw [es] at h'
    obtain ⟨m, d⟩ := md
    obtain ⟨v, fp, e1, _⟩ := l.slot i m d es
    refine ⟨v, e1, ρ, H0, c, l, ?_⟩
    have h2 : Out G.K G.mg W (FAM G.K G.mg σ (some i :: ls)) ms2 H0 H c σ (fs ρ) Q := h'
    cases hf : fs ρ with
    | ok ds r => rw [hf] at h2; exact fun w H0' H' c' s l' q => h2 (v :: w) H0' H' c' s l' ⟨v, w, rfl, e1, q⟩
    | exc n ns vs r => rw [hf] at h2; exact h2
    | bad => rw [hf] at h2; exact h2
end
section
variable {K : PySem.W.Frag} {mg : MG} {H0 H : Hp} {σ : L2.St} {ls : List (Option Nat)} {ds : List D} {vs : List V} {ρ rp r : En}
theorem mkArgs_len : ∀ {ls : List (Option Nat)} {ds : List D} {vs : List V}, AMr K mg H0 σ ls ds vs → (mkArgs ls ds r).length = ls.length ∧ vs.length = ls.length
  | [], _, _, h => by rw [h.2]; exact ⟨rfl, rfl⟩
  | none :: ls, _, _, ⟨d, _, v, w, e1, e2, f, h⟩ => by
    subst e1 e2
    obtain ⟨h1, h2⟩ := mkArgs_len h
    exact ⟨by simp [mkArgs, h1], by simp [h2]⟩
  | some i :: ls, _, _, ⟨v, w, e1, e2, h⟩ => by
    subst e1
    obtain ⟨h1, h2⟩ := mkArgs_len h
    exact ⟨by simp [mkArgs, h1], by simp [h2]⟩
theorem mkArgs_get : ∀ {ls : List (Option Nat)} {ds : List D} {vs : List V} {j : Nat} {s : Md × D}, AMr K mg H0 σ ls ds vs → getS (mkArgs ls ds r) j = some s →
    (ls[j]? = some none ∧ ∃ v, vs[j]? = some v ∧ s.1 = .z ∧ Fz K mg H0 s.2 v) ∨ ∃ i v, ls[j]? = some (some i) ∧ vs[j]? = some v ∧ σ[i]? = some (some v) ∧ getS r i = some s
  | [], _, _, j, s, h, e => by simp [mkArgs, getS] at e
  | none :: ls, _, _, 0, s, ⟨d, _, v, w, e1, e2, f, h⟩, e => by
    subst e1 e2
    have e : some (Md.z, d) = some s := by simpa [mkArgs, getS] using e
    cases e
    exact .inl ⟨rfl, v, rfl, rfl, f⟩
  | some i :: ls, _, _, 0, s, ⟨v, w, e1, e2, h⟩, e => by
    subst e1
    exact .inr ⟨i, v, rfl, rfl, e2, by simpa [mkArgs, getS] using e⟩
  | none :: ls, _, _, j + 1, s, ⟨d, dr, v, w, e1, e2, f, h⟩, e => by
    subst e1 e2
    have e : getS (mkArgs ls dr r) j = some s := by simpa [mkArgs, getS] using e
    rcases mkArgs_get h e with ⟨q1, v', q2, q3⟩ | ⟨i', v', q1, q2, q3⟩
    · exact .inl ⟨by simpa using q1, v', by simpa using q2, q3⟩
    · exact .inr ⟨i', v', by simpa using q1, by simpa using q2, q3⟩
  | some i :: ls, ds, _, j + 1, s, ⟨v, w, e1, e2, h⟩, e => by
    subst e1
    have e : getS (mkArgs ls ds r) j = some s := by simpa [mkArgs, getS] using e
    rcases mkArgs_get h e with ⟨q1, v', q2, q3⟩ | ⟨i', v', q1, q2, q3⟩
    · exact .inl ⟨by simpa using q1, v', by simpa using q2, q3⟩
    · exact .inr ⟨i', v', by simpa using q1, by simpa using q2, q3⟩
theorem AMr.get : ∀ {ls : List (Option Nat)} {ds : List D} {vs : List V} {j i : Nat}, AMr K mg H0 σ ls ds vs → ls[j]? = some (some i) → ∃ v, vs[j]? = some v ∧ σ[i]? = some (some v)
  | [], _, _, j, i, h, e => by simp at e
  | none :: ls, _, _, 0, i, ⟨d, _, v, w, e1, e2, f, h⟩, e => by simp at e
  | some i' :: ls, _, _, 0, i, ⟨v, w, e1, e2, h⟩, e => by
    subst e1
    simp at e
    subst e
    exact ⟨v, rfl, e2⟩
  | none :: ls, _, _, j + 1, i, ⟨d, _, v, w, e1, e2, f, h⟩, e => by
    subst e2
    simpa using AMr.get h (by simpa using e)
  | some i' :: ls, _, _, j + 1, i, ⟨v, w, e1, e2, h⟩, e => by
    subst e1
    simpa using AMr.get h (by simpa using e)
theorem putBack_len : ∀ (ls : List (Option Nat)) (rp r : En), (putBack ls rp r).length = r.length
  | [], _, _ => rfl
  | none :: ls, rp, r => putBack_len ls rp.tail r
  | some i :: ls, rp, r => by
    show (putBack ls rp.tail (r.set i (getS rp 0))).length = _
    rw [putBack_len ls rp.tail _, List.length_set]
theorem getS_tail (rp : En) (j : Nat) : getS rp.tail j = getS rp (j + 1) := by
  cases rp with
  | nil => simp [getS]
  | cons a r => simp [getS]
/-- a slot behind a call: it was not lent, or it is what the callee left -/
theorem putBack_get : ∀ {ls : List (Option Nat)} {rp r : En} {i : Nat}, (ls.filterMap id).Nodup → i < r.length →
    (lentM ls i = false ∧ getS (putBack ls rp r) i = getS r i) ∨ ∃ j, ls[j]? = some (some i) ∧ getS (putBack ls rp r) i = getS rp j
  | [], rp, r, i, _, _ => .inl ⟨rfl, rfl⟩
  | none :: ls, rp, r, i, nd, hi => by
    rcases putBack_get (ls := ls) (rp := rp.tail) (r := r) (i := i) (by simpa using nd) hi with ⟨h1, h2⟩ | ⟨j, h1, h2⟩
    · exact .inl ⟨by simpa [lentM] using h1, h2⟩
    · exact .inr ⟨j + 1, by simpa using h1, by rw [← getS_tail]; exact h2⟩
  | some i' :: ls, rp, r, i, nd, hi => by
    have nd' : i' ∉ ls.filterMap id ∧ (ls.filterMap id).Nodup := by simpa using nd
    rcases putBack_get (ls := ls) (rp := rp.tail) (r := r.set i' (getS rp 0)) (i := i) nd'.2 (by rw [List.length_set]; exact hi) with ⟨h1, h2⟩ | ⟨j, h1, h2⟩
    · by_cases e : i' = i
      · subst e
        exact .inr ⟨0, rfl, by show getS (putBack ls rp.tail (r.set i' (getS rp 0))) i' = _; rw [h2, getS_set_eq hi]⟩
      · refine .inl ⟨?_, by show getS (putBack ls rp.tail (r.set i' (getS rp 0))) i = _; rw [h2, getS_set_ne e]⟩
        unfold lentM at h1 ⊢
        rw [List.any_cons, h1]
        simp [e]
    · exact .inr ⟨j + 1, by simpa using h1, by rw [← getS_tail]; exact h2⟩
/-- the callee's owners -/
def coIn (ls : List (Option Nat)) (c : Co) : Co := fun a => match c a with
  | some i => ls.findIdx? fun l => l == some i
  | none => none
/-- .. back again -/
def coOut (ls : List (Option Nat)) (c cc : Co) : Co := fun a => match cc a with
  | some j => (ls[j]?).join
  | none => match c a with
    | some i => if lentM ls i = true then none else some i
    | none => none
theorem coIn_some {c : Co} {a : Addr} {j : Nat} (h : coIn ls c a = some j) : ∃ i, c a = some i ∧ ls[j]? = some (some i) ∧ lentM ls i = true := by
  unfold coIn at h
  split at h
  · rename_i i e
    obtain ⟨h1, h2, h3⟩ := List.findIdx?_eq_some_iff_getElem.mp h
    have h2 : ls[j] = some i := by simpa using h2
    refine ⟨i, e, by rw [List.getElem?_eq_getElem h1, h2], ?_⟩
    unfold lentM
    rw [List.any_eq_true]
    exact ⟨ls[j], List.getElem_mem h1, by simp [h2]⟩
  · cases h
theorem coIn_none {c : Co} {a : Addr} (h : ∀ i, c a = some i → lentM ls i = false) : coIn ls c a = none := by
  cases q : coIn ls c a with
  | none => rfl
  | some j =>
    obtain ⟨i, e, _, h2⟩ := coIn_some q
    rw [h i e] at h2; cases h2
theorem lent_of {i j : Nat} (h : ls[j]? = some (some i)) : lentM ls i = true := by
  unfold lentM
  rw [List.any_eq_true]
  exact ⟨some i, List.mem_of_getElem? h, by simp⟩
theorem coOut_some {c cc : Co} {a : Addr} {i : Nat} (h : coOut ls c cc a = some i) : (∃ j, cc a = some j ∧ ls[j]? = some (some i)) ∨ (cc a = none ∧ c a = some i ∧ lentM ls i = false) := by
  unfold coOut at h
  split at h
  · rename_i j e
    refine .inl ⟨j, e, ?_⟩
    cases q : ls[j]? with
    | none => rw [q] at h; cases h
    | some o => rw [q] at h; rw [show o = some i from h]
  · rename_i e
    split at h
    · rename_i i' e'
      split at h
      · cases h
      · rename_i n
        cases h
        refine .inr ⟨e, e', ?_⟩
        cases q : lentM ls i with
        | false => rfl
        | true => exact absurd q n
    · cases h
theorem findIdx_nodup : ∀ {ls : List (Option Nat)} {j i : Nat}, (ls.filterMap id).Nodup → ls[j]? = some (some i) → ls.findIdx? (fun l => l == some i) = some j
  | [], j, i, _, h => by simp at h
  | none :: ls, 0, i, _, h => by simp at h
  | none :: ls, j + 1, i, nd, h => by
    have := findIdx_nodup (ls := ls) (j := j) (i := i) (by simpa using nd) (by simpa using h)
    rw [List.findIdx?_cons, this]
    simp
  | some i' :: ls, 0, i, _, h => by
    have e : i' = i := by simpa using h
    subst e
    rw [List.findIdx?_cons]; simp
  | some i' :: ls, j + 1, i, nd, h => by
    have nd' : i' ∉ ls.filterMap id ∧ (ls.filterMap id).Nodup := by simpa using nd
    have h' : ls[j]? = some (some i) := by simpa using h
    have ne : i' ≠ i := fun e => nd'.1 (by
      subst e
      exact List.mem_filterMap.mpr ⟨some i', List.mem_of_getElem? h', rfl⟩)
    have := findIdx_nodup nd'.2 h'
    rw [List.findIdx?_cons, this]
    simp [ne]
/-- the callee's view -/
theorem Lies.enter {c : Co} (l : Lies K mg H0 H c σ ρ) (nd : (ls.filterMap id).Nodup) (am : AMr K mg H0 σ ls ds vs) : Lies K mg H0 H (coIn ls c) (vs.map some) (mkArgs ls ds ρ) := by
  refine ⟨l.sub, l.hot, fun a j e => ?_, fun a j e => ?_, ?_, fun j m d e => ?_⟩
  · obtain ⟨i, e1, _⟩ := coIn_some e
    exact l.apart a i e1
  · obtain ⟨i, e1, _⟩ := coIn_some e
    exact l.there a i e1
  · obtain ⟨h1, h2⟩ := mkArgs_len (r := ρ) am
    rw [h1, List.length_map, h2]
  · rcases mkArgs_get am e with ⟨h1, v, h2, h3, h4⟩ | ⟨i, v, h1, h2, h3, h4⟩
    · have h3 : m = .z := h3
      subst h3
      exact ⟨v, [], by rw [List.getElem?_map, h2]; rfl, Ow.zero.mpr ⟨rfl, h4⟩, List.nodup_nil, by simp⟩
    · obtain ⟨v', fp, e1, ow, nd', hc⟩ := l.slot i m d h4
      rw [h3] at e1
      cases e1
      refine ⟨v, fp, by rw [List.getElem?_map, h2]; rfl, ow, nd', fun a ha => ?_⟩
      unfold coIn
      rw [hc a ha]
      exact findIdx_nodup nd h1
theorem Lies.leave {H0' H' : Hp} {c cc : Co} (l : Lies K mg H0 H c σ ρ) (nd : (ls.filterMap id).Nodup) (am : AMr K mg H0 σ ls ds vs) (s : Step msA H0 H (coIn ls c) H0' H' cc) (l' : Lies K mg H0' H' cc (vs.map some) rp) :
    Lies K mg H0' H' (coOut ls c cc) σ (putBack ls rp ρ) := by
  have keep : ∀ a i, c a = some i → lentM ls i = false → ∃ o, H a = some o ∧ H' a = some o ∧ cc a = none := fun a i e h => by
    obtain ⟨o, ho⟩ := l.there a i e
    have cn : coIn ls c a = none := coIn_none fun i' e' => by rw [e] at e'; cases e'; exact h
    refine ⟨o, ho, s.keep a o ho (fun j q => by rw [cn] at q; cases q), ?_⟩
    rw [s.col a o ho fun j q => by rw [cn] at q; cases q]
    exact cn
  refine ⟨l'.sub, l'.hot, fun a i e => ?_, fun a i e => ?_, by rw [putBack_len]; exact l.len, fun i m d e => ?_⟩
  · rcases coOut_some e with ⟨j, e1, e2⟩ | ⟨e1, e2, e3⟩
    · exact l'.apart a j e1
    · obtain ⟨o, h1, h2, h3⟩ := keep a i e2 e3
      cases q : H0' a with
      | none => rfl
      | some u =>
        rcases s.new0 a u q with ⟨w, z⟩ | z | ⟨j, z, _⟩
        · rw [l.apart a i e2] at z; cases z
        · rw [h1] at z; cases z
        · obtain ⟨i', z1, _, z2⟩ := coIn_some z
          rw [e2] at z1; cases z1
          rw [e3] at z2; cases z2
  · rcases coOut_some e with ⟨j, e1, e2⟩ | ⟨e1, e2, e3⟩
    · exact l'.there a j e1
    · obtain ⟨o, h1, h2, h3⟩ := keep a i e2 e3
      exact ⟨o, h2⟩
  · have hi : i < ρ.length := by
      rcases Nat.lt_or_ge i ρ.length with h | h
      · exact h
      · rw [getS, List.getD_eq_getElem?_getD, List.getElem?_eq_none (by rw [putBack_len]; exact h)] at e; cases e
    rcases putBack_get (rp := rp) nd hi with ⟨h1, h2⟩ | ⟨j, h1, h2⟩
    · rw [h2] at e
      obtain ⟨v, fp, e1, ow, nd', hc⟩ := l.slot i m d e
      refine ⟨v, fp, e1, Ow.mono s.grow d m v fp (fun a ha => ?_) ow, nd', fun a ha => ?_⟩
      · obtain ⟨o, q1, q2, q3⟩ := keep a i (hc a ha) h1
        rw [q1, q2]
      · obtain ⟨o, q1, q2, q3⟩ := keep a i (hc a ha) h1
        unfold coOut
        rw [q3, hc a ha]
        simp [h1]
    · rw [h2] at e
      obtain ⟨v, fp, e1, ow, nd', hc⟩ := l'.slot j m d e
      obtain ⟨v', q1, q2⟩ := am.get h1
      rw [List.getElem?_map, q1] at e1
      have e1 : v' = v := by simpa using e1
      subst e1
      refine ⟨v', fp, q2, ow, nd', fun a ha => ?_⟩
      unfold coOut
      rw [hc a ha]
      show (ls[j]?).join = some i
      rw [h1]; rfl
theorem Step.leave {H0' H' : Hp} {c cc : Co} (l : Lies K mg H0 H c σ ρ) (s : Step msA H0 H (coIn ls c) H0' H' cc) : Step (lentM ls) H0 H c H0' H' (coOut ls c cc) := by
  have cn : ∀ a, (∀ i, c a = some i → lentM ls i = false) → coIn ls c a = none := fun a h => coIn_none h
  refine ⟨fun a o e k => s.keep a o e (fun j q => by rw [cn a k] at q; cases q), fun a o e k => ?_, s.grow, fun a o e => ?_, fun a i e => ?_⟩
  · have q := s.col a o e fun j q => by rw [cn a k] at q; cases q
    rw [cn a k] at q
    unfold coOut
    rw [q]
    cases z : c a with
    | none => rfl
    | some i => simp [k i z]
  · rcases s.new0 a o e with z | z | ⟨j, z, _⟩
    · exact .inl z
    · exact .inr (.inl z)
    · obtain ⟨i, z1, _, z2⟩ := coIn_some z
      exact .inr (.inr ⟨i, z1, z2⟩)
  · rcases coOut_some e with ⟨j, e1, e2⟩ | ⟨e1, e2, e3⟩
    · rcases s.newc a j e1 with z | ⟨_, z | ⟨j', z, _⟩⟩
      · obtain ⟨i', z1, z2, z3⟩ := coIn_some z
        rw [e2] at z2
        cases z2
        exact .inl z1
      · exact .inr ⟨lent_of e2, .inl z⟩
      · obtain ⟨i', z1, _, z3⟩ := coIn_some z
        exact .inr ⟨lent_of e2, .inr ⟨i', z1, z3⟩⟩
    · exact .inl e2
theorem Fresh.leave {H0' H' : Hp} {c cc : Co} {fp : List Addr} (l : Lies K mg H0 H c σ ρ) (f : Fresh msA H (coIn ls c) H0' H' cc fp) : Fresh (lentM ls) H c H0' H' (coOut ls c cc) fp := by
  refine ⟨f.nd, fun a ha => ?_, f.n0, f.there, fun a ha => ?_⟩
  · unfold coOut
    rw [f.nc a ha]
    cases z : c a with
    | none => rfl
    | some i =>
      rcases f.new a ha with w | ⟨j, w, _⟩
      · obtain ⟨o, q⟩ := l.there a i z
        rw [w] at q; cases q
      · obtain ⟨i', z1, _, z3⟩ := coIn_some w
        rw [z] at z1; cases z1
        simp [z3]
  · rcases f.new a ha with w | ⟨j, w, _⟩
    · exact .inl w
    · obtain ⟨i', z1, _, z3⟩ := coIn_some w
      exact .inr ⟨i', z1, z3⟩
end
section
variable {G : GC} {N : List Str} {S : SC} {bs bs1 bs2 ms ms1 ms2 ms3 as as1 as2 : Ms} {m rm : Md} {k : Nat} {e a b : Expr} {es : List Expr} {fs : M (List D)} {pos p : Pos} {ls : List (Option Nat)} {F : M D} {f : Addr} {fd : FuncData} {ps : List Str} {x : Str}
/-- arguments, then the callee -/
theorem call_core {W : WX} {σ : L2.St} {H : Hp} {Q : VK} (nd : (ls.filterMap id).Nodup) (hl : ls.length = ps.length) (h : tR G.K G.mg W (FO G.K G.mg rm (msU ms (lentM ls))) (msU ms (lentM ls)) (fCall F ls fs) σ H Q) :
    tAM G.K G.mg W ls ms fs σ H fun vs H1 => spV G F ps.length rm vs H1 Q (WE W σ) := by
  obtain ⟨ρ, H0, c, l, o⟩ := h
  refine ⟨ρ, H0, c, l, (Out.bind (G := FAM G.K G.mg σ ls) (ms1 := ms) back_FO o fun i e => or_l e).imp fun vs H1 ⟨ds, H01, c1, ρ1, e1, s1, l1, am, o1⟩ => ?_⟩
  obtain ⟨_, hv⟩ := mkArgs_len (r := ρ1) am
  refine ⟨hv.trans hl, mkArgs ls ds ρ1, H01, coIn ls c1, l1.enter nd am, ?_⟩
  cases hF : F (mkArgs ls ds ρ1) with
  | ok d rp =>
    rw [hF] at o1
    intro v H0' H' cc s l' ⟨fp, ow, fr⟩
    exact o1 v H0' H' (coOut ls c1 cc) ((Step.leave l1 s).mono fun i e => or_r e) (l1.leave nd am s l') ⟨fp, ow, (Fresh.leave l1 fr).mono fun i e => or_r e⟩
  | exc n ns vs rp =>
    rw [hF] at o1
    intro cls dx H0' H' cc s l' ex
    exact o1 cls dx H0' H' (coOut ls c1 cc) ((Step.leave l1 s).mono fun i e => or_r e) (l1.leave nd am s l') ex
  | bad => rw [hF] at o1; exact o1
theorem VO.call (hF : FnV G k f fd ps rm F) (hm : G.mg x = some (.ref f)) (hk : PySem.W.keepIn G.K (.ref f) = true) (hb : Binds G.K fd ps []) (ha : VM G N S ls ms (e :: es) fs) (hk' : k ≤ S.k := by decide) (hc : S.cm = true := by rfl) (nd : (ls.filterMap id).Nodup := by decide) (hl : ls.length = ps.length := by rfl) (hg : Glb S x := by rfl)
    (hdb : (x == ("__debug__" : Str)) = false := by decide) (he : ∀ env, starEach (e :: es) env = (false, eval e env) :: starEach es env := by intro _; rfl) (hpl : ∀ env, (backTo pos (starEach es env)).any (·.1) = false := by intro _; rfl) :
    VO G N S rm (msU ms (lentM ls)) (.Call (.Name x p) (e :: es) [] pos) (fCall F ls fs) := by
  refine fun R a W t => (pe_callG hF a.gd ((a.room hc).mono hk') (a.gl hg) hm hk hb (fun σ => L2N.passAt t σ) (ha R a W t) hdb (he _) (hpl _)).imp fun σ H Q h => ?_
  exact call_core nd hl h
end
end Vm
set_option Elab.async false
set_option linter.all false
set_option maxRecDepth 100000
set_option maxHeartbeats 4000000
namespace Vm
open PySem PySem.Spec PyProof.Rows L2

/-! ### list comprehensions -/
def wipeE : List Nat → En → En
  | [], r => r
  | i :: is, r => (wipeE is r).set i none
def restE (r0 : En) : List Nat → En → En
  | [], r => r
  | i :: is, r => (restE r0 is r).set i (match getS r0 i with
    | some (.z, d) => some (.z, d)
    | _ => none)
theorem wipeE_len (r : En) : ∀ vs : List Nat, (wipeE vs r).length = r.length
  | [] => rfl
  | v :: vs => by unfold wipeE; rw [List.length_set, wipeE_len r vs]
theorem restE_len (r0 r : En) : ∀ vs : List Nat, (restE r0 vs r).length = r.length
  | [] => rfl
  | v :: vs => by unfold restE; rw [List.length_set, restE_len r0 r vs]
theorem getS_set_out {r : En} {i : Nat} {s : Sl} (h : ¬ i < r.length) : getS (r.set i s) i = none := by
  simp [getS, List.getD_eq_getElem?_getD, h]
theorem wipeE_some {r : En} {i : Nat} {s : Md × D} : ∀ {vs : List Nat}, getS (wipeE vs r) i = some s → getS r i = some s ∧ i ∉ vs
  | [], h => ⟨h, by simp⟩
  | v :: vs, h => by
    unfold wipeE at h
    by_cases e : v = i
    · subst e
      by_cases hv : v < (wipeE vs r).length
      · rw [getS_set_eq hv] at h; cases h
      · rw [getS_set_out hv] at h; cases h
    · rw [getS_set_ne e] at h
      obtain ⟨h1, h2⟩ := wipeE_some h
      exact ⟨h1, by simp only [List.mem_cons, not_or]; exact ⟨fun z => e z.symm, h2⟩⟩
theorem restE_some {r0 r : En} {i : Nat} {s : Md × D} : ∀ {vs : List Nat}, getS (restE r0 vs r) i = some s → (getS r0 i = some s ∧ s.1 = .z) ∨ (getS r i = some s ∧ i ∉ vs)
  | [], h => .inr ⟨h, by simp⟩
  | v :: vs, h => by
    unfold restE at h
    by_cases e : v = i
    · subst e
      by_cases hv : v < (restE r0 vs r).length
      · rw [getS_set_eq hv] at h
        split at h
        · rename_i d q
          cases h
          exact .inl ⟨q, rfl⟩
        · cases h
      · rw [getS_set_out hv] at h; cases h
    · rw [getS_set_ne e] at h
      rcases restE_some h with h | ⟨h1, h2⟩
      · exact .inl h
      · exact .inr ⟨h1, by simp only [List.mem_cons, not_or]; exact ⟨fun z => e z.symm, h2⟩⟩
section
variable {K : PySem.W.Frag} {mg : MG} {H0 H H0' H' : Hp} {c c' : Co} {σ σ' : L2.St} {ρ ρ' : En} {own : List Nat} {ms : Ms}
theorem Lies.wipe (l : Lies K mg H0 H c σ ρ) (own : List Nat) : Lies K mg H0 H c (L2.wipe σ own) (wipeE own ρ) := by
  refine ⟨l.sub, l.hot, l.apart, l.there, by rw [wipeE_len, wipe_length]; exact l.len, fun i m d e => ?_⟩
  obtain ⟨e1, e2⟩ := wipeE_some e
  obtain ⟨v, fp, q, r⟩ := l.slot i m d e1
  exact ⟨v, fp, by rw [wipe_out e2]; exact q, r⟩
theorem Lies.rest (l : Lies K mg H0 H c σ ρ) (l' : Lies K mg H0' H' c' σ' ρ') (s : Same H0 H0') (hl : σ'.length = σ.length) (hw : ∀ i, i ∉ own → ∀ v, σ'[i]? = some (some v) → σ[i]? = some (some v)) : Lies K mg H0' H' c' σ (restE ρ own ρ') := by
  refine ⟨l'.sub, l'.hot, l'.apart, l'.there, by rw [restE_len, l'.len, hl], fun i m d e => ?_⟩
  rcases restE_some e with ⟨e1, e2⟩ | ⟨e1, e2⟩
  · have e2 : m = .z := e2
    subst e2
    obtain ⟨v, fp, q, o, nd, hc⟩ := l.slot i .z d e1
    exact ⟨v, [], q, Ow.zero.mpr ⟨rfl, Fz.mono s d v (Ow.zero.mp o).2⟩, List.nodup_nil, by simp⟩
  · obtain ⟨v, fp, q, r⟩ := l'.slot i m d e1
    exact ⟨v, fp, hw i e2 v q, r⟩
/-- an object of no one's is changed -/
theorem Lies.other {a : Addr} {o : HO} (l : Lies K mg H0 H c σ ρ) (hc : c a = none) (h0 : H0 a = none) : Lies K mg H0 (upd H a o) c σ ρ := by
  have hne : ∀ b i, c b = some i → b ≠ a := fun b i e z => by rw [z, hc] at e; cases e
  refine ⟨fun b u e => by rw [upd_ne (fun z => by rw [z, h0] at e; cases e)]; exact l.sub b u e, l.hot, l.apart, fun b i e => ?_, l.len, fun i m d e => ?_⟩
  · obtain ⟨u, q⟩ := l.there b i e
    exact ⟨u, by rw [upd_ne (hne b i e)]; exact q⟩
  · obtain ⟨v, fp, e1, ow, nd, hq⟩ := l.slot i m d e
    exact ⟨v, fp, e1, Ow.mono (Same.refl _) d m v fp (fun b hb => upd_ne (hne b i (hq b hb))) ow, nd, hq⟩
theorem Step.other {a : Addr} {o : HO} (s : Step ms H0 H c H0' H' c') (hn : H a = none) : Step ms H0 H c H0' (upd H' a o) c' :=
  ⟨fun b u e k => by rw [upd_ne (ne_of_none e hn)]; exact s.keep b u e k, s.col, s.grow, s.new0, s.newc⟩
theorem Ows.snoc {H0 H : Hp} {m : Md} {d : D} {v : V} {f : List Addr} : ∀ {ds : List D} {vs : List V} {g : List Addr}, Ows K mg H0 H ds (.all m) vs g → Ow K mg H0 H d m v f → Ows K mg H0 H (ds ++ [d]) (.all m) (vs ++ [v]) (g ++ f)
  | [], vs, g, ⟨e1, e2⟩, h => by
    subst e1 e2
    exact ⟨v, [], f, [], rfl, by simp, h, rfl, rfl⟩
  | x :: ds, _, _, ⟨w, r, f1, g1, e1, e2, h1, h2⟩, h => by
    subst e1 e2
    exact ⟨w, r ++ [v], f1, g1 ++ f, rfl, by rw [List.append_assoc], h1, Ows.snoc h2 h⟩
end
def noX {α : Type} : Res α → Res α
  | .ok a r => .ok a r
  | .exc _ _ _ _ => .bad
  | .bad => .bad
@[simp] theorem noX_ok {α : Type} (a : α) (r : En) : noX (.ok a r) = .ok a r := rfl
@[simp] theorem noX_exc {α : Type} (c : Str) (ns : List Str) (vs : List D) (r : En) : (noX (.exc c ns vs r) : Res α) = .bad := rfl
@[simp] theorem noX_bad {α : Type} : (noX .bad : Res α) = .bad := rfl
/-- no exception comes out -/
abbrev WNo : WX := fun _ _ _ _ => False
theorem Out.noX {α β : Type} {K : PySem.W.Frag} {mg : MG} {W : WX} {F : Fam α β} {ms : Ms} {H0 H : Hp} {c : Co} {σ : L2.St} {x : Res α} {Q : β → Hp → Prop} (h : Out K mg W F ms H0 H c σ (noX x) Q) : Out K mg WNo F ms H0 H c σ x Q := by
  cases x with
  | ok d r => exact h
  | exc n ns vs r => exact h.elim
  | bad => exact h.elim
/-- the turns: what is gathered -/
def lcT (own : List Nat) (fe : M D) (k : M (List D)) : D → M (List D) := fun b r => match b with
  | .bl true => (noX (fe r)).bind fun y r => (k (wipeE own r)).bind fun ys r => .ok (y :: ys) r
  | .bl false => k (wipeE own r)
  | _ => .bad
def gLc (own : List Nat) (gt : D → M Fl) (ft fe : M D) : List D → M (List D)
  | [] => fun r => .ok [] r
  | d :: ds => fun r => (noX (gt d r)).bind fun _ r => (noX (ft r)).bind (lcT own fe (gLc own gt ft fe ds))
def fLc (own : List Nat) (fi : M (List D)) (gt : D → M Fl) (ft fe : M D) : M D := fun r => (fi r).bind fun ds r => (gLc own gt ft fe ds (wipeE own r)).bind fun ys r' => .ok (.lst ys) (restE r own r')
/-- tests of a clause -/
abbrev VTs (G : GC) (N : List Str) (S : SC) (ms : Ms) (es : List Expr) (f : M D) : Prop := VE G N S (fun X t => PTs X es t) FT ms f
theorem PTs.imp {X : Cx} {e : List Expr} {t t' : TT} (h : PTs X e t) (q : ∀ σ H Q, t' σ H Q → t σ H Q) : PTs X e t' := ⟨fun pins s σ H Q I w => h.run pins s σ H Q I (q σ H Q w)⟩
def ftY : M D := fun r => .ok (.bl true) r
@[simp] theorem ftY_def (r : En) : ftY r = .ok (.bl true) r := rfl
section
variable {G : GC} {N : List Str} {S : SC} {bs bs1 bs2 ms ms1 ms2 ms3 as as1 as2 : Ms} {m me rm : Md} {k : Kd} {e a b : Expr} {es : List Expr} {f fa fb : M D} {fs : M (List D)} {pos : Pos}
theorem VTs.nil : VTs G N S ms0 [] ftY := fun R a W t => PTs.imp pts_nil fun σ H Q ⟨ρ, H0, c, l, o⟩ => o true H0 H c .refl l rfl
theorem VTs.one (h : VT G N S ms e f) : VTs G N S ms [e] f := fun R a W t => pts_one (h R a W t)
abbrev blkS (S : SC) (scope : Scope) : SC := ⟨relS scope S.sc, fun x => scope.names.lookup x == some .cell, S.k, S.cm, false⟩
theorem takes_no {X : Cx} : L2N.Takes X WNo := fun u s' ⟨a, B, sI, pins, σ, H, cls, d, e, I, nb, up, sky, na, os, ag, w⟩ => w.elim
theorem At.blk {R : Rs} (a : At G.mg.hx S N (mkX G N R)) (scope : Scope) (s : Shared) (H : Hp) (C : Addr) (cl : List (Str × Addr)) (fp : List Addr) :
    ∃ R', (mkX G N R).blk s H scope (compEnvC scope cl C (mkX G N R).env) fp = mkX G N R' ∧ At G.mg.hx (blkS S scope) N (mkX G N R') := by
  refine ⟨{ R with s_0 := s, H_0 := H, env := compEnvC scope cl C R.env, outer := R.stack, ex := fp, fn := fun x => scope.names.lookup x == some .cell, pn := [], xe := fun _ _ => False }, rfl, ?_, rfl, a.nd, a.calm, a.room, a.hot, a.rh, a.gd, (fun z => by cases z), PassesOwn.never⟩
  show relS scope R.env.scope = relS scope S.sc
  rw [show R.env.scope = S.sc from a.sc]
theorem wipe_agr {as : Ms} {σ σ2 : L2.St} {own : List Nat} (h : Agr as (L2.wipe σ own) σ2) (ho : ∀ i, as i = true → i ∈ own) : L2.wipe σ2 own = L2.wipe σ own := by
  apply List.ext_getElem?
  intro i
  have hl : (L2.wipe σ2 own).length = (L2.wipe σ own).length := by rw [wipe_length, h.1]
  by_cases hi : i ∈ own
  · have key : ∀ (σ : L2.St) (i : Nat), i ∈ own → i < σ.length → (L2.wipe σ own)[i]? = some none := by
      intro σ
      clear h ho hl hi
      induction own with
      | nil => exact fun i hi _ => by cases hi
      | cons v vs ih =>
        intro i hi hlt
        unfold L2.wipe
        by_cases e : v = i
        · subst e; rw [List.getElem?_set_self (by rw [wipe_length]; exact hlt)]
        · rw [List.getElem?_set_ne e]
          exact ih i ((List.mem_cons.mp hi).resolve_left fun z => e z.symm) hlt
    have l2 : σ2.length = σ.length := by rw [h.1, wipe_length]
    by_cases hlt : i < σ.length
    · rw [key σ2 i hi (by rw [l2]; exact hlt), key σ i hi hlt]
    · rw [List.getElem?_eq_none (by rw [wipe_length, l2]; omega), List.getElem?_eq_none (by rw [wipe_length]; omega)]
  · rw [wipe_out hi]
    exact h.2 i (by
      cases q : as i with
      | false => rfl
      | true => exact absurd (ho i q) hi)
/-- what holds between the turns -/
structure LcF (K : PySem.W.Frag) (mg : MG) (me : Md) (L : Ms) (P : Hp → Co → Prop) (H01 H1 : Hp) (c1 : Co) (B : Addr) (done : List D) (acc : List V) (g : List Addr) (H0 H : Hp) (c : Co) : Prop where
  st : Step L H01 H1 c1 H0 H c
  hD : H B = some (.lst acc)
  cD : c B = none
  D0 : H0 B = none
  ow : Ows K mg H0 H done (.all me) acc g
  fr : Fresh L H1 c1 H0 H c g
  dg : B ∉ g
  pH : P H c
theorem LcF.adv {K : PySem.W.Frag} {mg : MG} {L msx : Ms} {P : Hp → Co → Prop} {H01 H1 H0 H H0' H' : Hp} {c1 c c' : Co} {B : Addr} {done : List D} {acc : List V} {g : List Addr} (f : LcF K mg me L P H01 H1 c1 B done acc g H0 H c)
    (s : Step msx H0 H c H0' H' c') (h : ∀ i, msx i = true → L i = true) (dj : Dj bs msx) (sP : Stays bs P) : LcF K mg me L P H01 H1 c1 B done acc g H0' H' c' := by
  have cc : ∀ i, c B = some i → msx i = false := fun i e => by rw [f.cD] at e; cases e
  obtain ⟨f2, hk⟩ := f.fr.on s
  refine ⟨f.st.trans (s.mono h), s.keep B _ f.hD cc, (s.col B _ f.hD cc).trans f.cD, ?_, Ows.mono s.grow done _ acc g hk f.ow, f2, f.dg, sP.run _ _ _ _ _ _ _ dj f.pH s⟩
  cases e : H0' B with
  | none => rfl
  | some u =>
    rcases s.new0 B u e with ⟨w, z⟩ | z | ⟨i, z, _⟩
    · rw [f.D0] at z; cases z
    · rw [f.hD] at z; cases z
    · rw [f.cD] at z; cases z
theorem Fresh.other {ms : Ms} {H H0' H' : Hp} {c c' : Co} {fp : List Addr} {a : Addr} {o : HO} (f : Fresh ms H c H0' H' c' fp) : Fresh ms H c H0' (upd H' a o) c' fp :=
  ⟨f.nd, f.nc, f.n0, fun b hb => by
    by_cases e : b = a
    · rw [e]; exact ⟨o, upd_same⟩
    · rw [upd_ne e]; exact f.there b hb, f.new⟩
theorem VO.lc {tg iter : Expr} {ifs : List Expr} {scope : Scope} {fi : M (List D)} {gt : D → M Fl} {ft fe : M D} (own : List (Str × Nat)) (hi : VI G N S bs ms1 tg iter fi) (hg : VG G N (blkS S scope) as tg gt) (ht : VTs G N (blkS S scope) ms2 ifs ft) (he : VO G N (blkS S scope) me ms3 e fe)
    (dj : Dj bs (msU as (msU ms2 ms3)) := by intro i h; first | rfl | exact absurd h Bool.false_ne_true | (simp [lentM] at h ⊢ <;> omega)) (hc : S.cm = true := by rfl) (hb : blkC N S.sc scope own = true := by decide +kernel) (ho : ∀ i, as i = true → i ∈ own.map (·.2) := by intro i h; simpa using h) (hs : ∀ env x, foldedSetIterable iter env x = pure x := by intro _ _; rfl) :
    VO G N S (.o (.all me)) (msU ms1 (msU as (msU ms2 ms3))) (.ListComp e [⟨tg, iter, ifs, 0⟩] scope pos) (fLc (own.map (·.2)) fi gt ft fe) := by
  refine fun R a W t => ?_
  have ok : BlkOk (mkX G N R).N (mkX G N R).env.scope scope own := by
    rw [show (mkX G N R).env.scope = S.sc from a.sc]
    exact blkOk_by hb
  refine (pe_lc (own := own) (a.calm.trans hc) a.nd (hi R a W t) ok (g := tG G.K G.mg as gt) (tt := tR G.K G.mg WNo FT ms2 ft) (te := tR G.K G.mg WNo (FO G.K G.mg me ms3) ms3 fe)
    (fun s H C cl fp => ?_) (fun s H C cl fp => ?_) (fun s H C cl fp => ?_) (hs _)).imp fun σ H Q ⟨ρ, H0, c, l, o⟩ => ?_
  · obtain ⟨R', e1, a'⟩ := a.blk scope s H C cl fp
    rw [e1]; exact hg R' a'
  · obtain ⟨R', e1, a'⟩ := a.blk scope s H C cl fp
    rw [e1]; exact ht R' a' _ takes_no
  · obtain ⟨R', e1, a'⟩ := a.blk scope s H C cl fp
    rw [e1]; exact he R' a' _ takes_no
  generalize hO : own.map (·.2) = ow at ho o ⊢
  generalize hL : msU ms1 (msU as (msU ms2 ms3)) = L at o
  have iL1 : ∀ i, ms1 i = true → L i = true := fun i e => by rw [← hL]; exact or_l e
  have iLa : ∀ i, as i = true → L i = true := fun i e => by rw [← hL]; exact or_r (or_l e)
  have iL2 : ∀ i, ms2 i = true → L i = true := fun i e => by rw [← hL]; exact or_r (or_r (or_l e))
  have iL3 : ∀ i, ms3 i = true → L i = true := fun i e => by rw [← hL]; exact or_r (or_r (or_r e))
  have dja : Dj bs as := fun i h => (Bool.or_eq_false_iff.mp (dj i h)).1
  have dj2 : Dj bs ms2 := fun i h => (Bool.or_eq_false_iff.mp (Bool.or_eq_false_iff.mp (dj i h)).2).1
  have dj3 : Dj bs ms3 := fun i h => (Bool.or_eq_false_iff.mp (Bool.or_eq_false_iff.mp (dj i h)).2).2
  have dj0 : Dj bs ms0 := fun i h => rfl
  refine ⟨ρ, H0, c, l, (Out.bind (G := FI G.K G.mg bs) (ms1 := ms1) back_FO o iL1).imp fun J H1 ⟨ds, H01, c1, ρ1, e1, s1, l1, ⟨hlen, P, p1, sP, hJ⟩, o1⟩ B hD => ?_⟩
  have f0 : LcF G.K G.mg me L P H01 H1 c1 B [] [] [] H01 (upd H1 B (.lst [])) c1 := ⟨.new hD, upd_same, l1.nc hD, l1.n0 hD, ⟨rfl, rfl⟩, .nil, by simp, sP.run ms0 H01 H1 c1 H01 _ c1 dj0 p1 (.new hD)⟩
  refine ⟨fun i n H => n = ds.length - i ∧ i ≤ ds.length ∧ ∃ ρ H0 c acc g done, Lies G.K G.mg H0 H c (L2.wipe σ ow) ρ ∧ LcF G.K G.mg me L P H01 H1 c1 B done acc g H0 H c ∧ done.length ≤ i ∧
      Out G.K G.mg W (FO G.K G.mg (.o (.all me)) L) L H01 H1 c1 σ ((gLc ow gt ft fe (ds.drop i) ρ).bind fun ys r => .ok (.lst (done ++ ys)) (restE ρ1 ow r)) Q,
    ⟨ds.length, rfl, Nat.zero_le _, wipeE ow ρ1, H01, c1, [], [], [], (l1.upd_new hD).wipe ow, f0, Nat.zero_le _, o1⟩, ?_⟩
  rintro i n H ⟨em, hi, ρ, H0, c, acc, g, done, l, F, dl, o⟩
  obtain ⟨hgo, hst⟩ := hJ H0 H c F.st.grow l.sub F.pH
  by_cases hlt : i < ds.length
  · have ed : ds.drop i = ds[i] :: ds.drop (i + 1) := List.drop_eq_getElem_cons hlt
    rw [ed] at o
    unfold gLc at o
    obtain ⟨go, step⟩ := hgo i ds[i] (List.getElem?_eq_getElem hlt)
    refine .inr ⟨go, fun H => ∃ ρ H0 c acc g done, Lies G.K G.mg H0 H c (L2.wipe σ ow) ρ ∧ LcF G.K G.mg me L P H01 H1 c1 B done acc g H0 H c ∧ done.length ≤ i + 1 ∧
      Out G.K G.mg W (FO G.K G.mg (.o (.all me)) L) L H01 H1 c1 σ ((gLc ow gt ft fe (ds.drop (i + 1)) ρ).bind fun ys r => .ok (.lst (done ++ ys)) (restE ρ1 ow r)) Q, fun H' h => ⟨ds.length - (i + 1), by omega, rfl, hlt, h⟩, fun x H' hy => ?_⟩
    obtain ⟨H0', k1, k2, k3, k4, fz⟩ := step x H' hy
    have l' := l.grow k1 k2 k3 k4
    have gr : Step ms0 H0 H c H0' H' c := Step.growth k1 k2 k4
    have F' := F.adv gr (fun i e => by cases e) dj0 sP
    refine ⟨WNo, { nx := fun σ2 H2 => ∃ ρ2 H02 c2, Lies G.K G.mg H02 H2 c2 σ2 ρ2 ∧ LcF G.K G.mg me L P H01 H1 c1 B done acc g H02 H2 c2 ∧ Agr as (L2.wipe σ ow) σ2 ∧  Out G.K G.mg W (FO G.K G.mg (.o (.all me)) L) L H01 H1 c1 σ (((Vm.noX (ft ρ2)).bind (lcT ow fe (gLc ow gt ft fe (ds.drop (i + 1))))).bind fun ys r => .ok (.lst (done ++ ys)) (restE ρ1 ow r)) Q, bk := fun _ _ => True, ct := fun _ _ => True, rt := fun _ _ => True }, .z, ρ, H0', c, ds[i], l', fz, ?_, ?_⟩
    · cases hh : gt ds[i] ρ with
      | ok fl r =>
        rw [hh, noX_ok, bind_ok] at o
        cases fl with
        | nx => exact fun σ2 H02 H2 c2 t l2 a2 => ⟨r, H02, c2, l2, F'.adv t iLa dja sP, a2, o⟩
        | bk => exact fun _ _ _ _ _ _ _ => trivial
        | ct => exact fun _ _ _ _ _ _ _ => trivial
        | rt d => exact fun _ _ _ _ _ _ _ _ _ => trivial
      | exc n ns vs r => rw [hh, noX_exc, bind_bad, bind_bad] at o; exact o.elim
      | bad => rw [hh, noX_bad, bind_bad, bind_bad] at o; exact o.elim
    · rintro σ2 H2 ⟨ρ2, H02, c2, l2, F2, a2, o2⟩
      have hw := wipe_agr a2 ho
      refine ⟨hw, ρ2, H02, c2, l2, ?_⟩
      cases hh : ft ρ2 with
      | exc n ns vs r => rw [hh, noX_exc, bind_bad, bind_bad] at o2; exact o2.elim
      | bad => rw [hh, noX_bad, bind_bad, bind_bad] at o2; exact o2.elim
      | ok d r =>
        rw [hh, noX_ok, bind_ok] at o2
        intro b H03 H3 c3 s3 l3 z
        have z : d = .bl b := z
        subst z
        have F3 := F2.adv s3 iL2 dj2 sP
        cases b with
        | false =>
          rw [if_neg Bool.false_ne_true]
          exact ⟨wipeE ow r, H03, c3, acc, g, done, by rw [← hw]; exact l3.wipe ow, F3, Nat.le_succ_of_le dl, o2⟩
        | true =>
          rw [if_pos rfl]
          refine ⟨r, H03, c3, l3, ?_⟩
          have o3 : Out G.K G.mg W (FO G.K G.mg (.o (.all me)) L) L H01 H1 c1 σ (((Vm.noX (fe r)).bind fun y r => (gLc ow gt ft fe (ds.drop (i + 1)) (wipeE ow r)).bind fun ys r => .ok (y :: ys) r).bind fun ys r => .ok (.lst (done ++ ys)) (restE ρ1 ow r)) Q := o2
          cases hh : fe r with
          | exc n ns vs r => rw [hh, noX_exc, bind_bad, bind_bad] at o3; exact o3.elim
          | bad => rw [hh, noX_bad, bind_bad, bind_bad] at o3; exact o3.elim
          | ok y r2 =>
            rw [hh, noX_ok, bind_ok] at o3
            intro v H04 H4 c4 s4 l4 ⟨fp, oy, fy⟩
            have F4 := F3.adv s4 iL3 dj3 sP
            have dfp : B ∉ fp := fun z => by
              rcases fy.new B z with w | ⟨j, w, _⟩
              · rw [F3.hD] at w; cases w
              · rw [F3.cD] at w; cases w
            refine ⟨acc, F4.hD, ?_, wipeE ow r2, H04, c4, acc ++ [v], g ++ fp, done ++ [y], ?_, ?_, ?_, ?_⟩
            · rw [F4.ow.length, sizeLine_eq]
              have : ds.length ≤ 16777216 := hlen
              omega
            · rw [← hw]; exact (l4.other F4.cD F4.D0).wipe ow
            · refine ⟨F4.st.other hD, upd_same, F4.cD, F4.D0, Ows.snoc (Ows.mono (Same.refl _) done _ acc g (fun b hb => upd_ne fun e => F4.dg (e ▸ hb)) F4.ow) (Ow.mono (Same.refl _) y me v fp (fun b hb => upd_ne fun e => dfp (e ▸ hb)) oy), ?_, ?_, ?_⟩
              · exact Fresh.other (Fresh.app F4.fr F3.fr.there F3.fr.nc fy (fun _ e => e) iL3 F3.st)
              · exact fun h => (List.mem_append.mp h).elim F4.dg dfp
              · exact sP.oth _ _ _ _ F4.cD F4.pH
            · rw [List.length_append]; exact Nat.succ_le_succ dl
            · cases hq : gLc ow gt ft fe (ds.drop (i + 1)) (wipeE ow r2) with
              | ok ys r3 =>
                rw [hq, bind_ok, bind_ok] at o3
                rw [bind_ok, List.append_assoc]
                exact o3
              | exc n ns vs r3 => rw [hq] at o3; exact o3
              | bad => rw [hq] at o3; exact o3
  · have e : i = ds.length := by omega
    subst e
    rw [List.drop_length] at o
    refine .inl ⟨hst, ?_⟩
    have o' : Out G.K G.mg W (FO G.K G.mg (.o (.all me)) L) L H01 H1 c1 σ (.ok (.lst (done ++ [])) (restE ρ1 ow ρ)) Q := o
    rw [List.append_nil] at o'
    refine o' (.ref B) H0 H c F.st (l1.rest l F.st.grow (wipe_length _ _) fun i hi v e => (wipe_some e).1) ⟨B :: g, ⟨B, acc, g, rfl, F.hD, rfl, F.ow⟩, ?_⟩
    refine ⟨List.nodup_cons.mpr ⟨F.dg, F.fr.nd⟩, ?_, ?_, ?_, ?_⟩ <;> intro b hb <;> rcases List.mem_cons.mp hb with z | hb
    · rw [z]; exact F.cD
    · exact F.fr.nc b hb
    · rw [z]; exact F.D0
    · exact F.fr.n0 b hb
    · rw [z]; exact ⟨_, F.hD⟩
    · exact F.fr.there b hb
    · rw [z]; exact .inl hD
    · exact F.fr.new b hb
end
end Vm
set_option Elab.async false
set_option linter.all false
set_option maxRecDepth 100000
set_option maxHeartbeats 4000000
namespace Vm
open PySem PySem.Spec PyProof.Rows L2

/-! ### more that is walked -/
def rngD (lo : Int) : Nat → List D
  | 0 => []
  | n + 1 => .int lo :: rngD (lo + 1) n
theorem rngD_len : ∀ (n : Nat) (lo : Int), (rngD lo n).length = n
  | 0, _ => rfl
  | n + 1, lo => by simp [rngD, rngD_len n]
theorem rngD_get : ∀ (n : Nat) (lo : Int) (i : Nat) (d : D), (rngD lo n)[i]? = some d → i < n ∧ d = .int (lo + i)
  | 0, _, _, _, h => by simp [rngD] at h
  | n + 1, lo, 0, d, h => by
    simp [rngD] at h
    exact ⟨Nat.succ_pos _, by rw [← h]; simp⟩
  | n + 1, lo, i + 1, d, h => by
    obtain ⟨h1, h2⟩ := rngD_get n (lo + 1) i d (by simpa [rngD] using h)
    refine ⟨Nat.succ_lt_succ h1, ?_⟩
    rw [h2]
    congr 1
    push_cast
    omega
def enumD : Int → List D → List D
  | _, [] => []
  | k, d :: ds => .tup [.int k, d] :: enumD (k + 1) ds
def zipD : List D → List D → List D
  | x :: xs, y :: ys => .tup [x, y] :: zipD xs ys
  | _, _ => []
section
variable {G : GC} {N : List Str} {S : SC} {bs bs1 bs2 ms ms1 ms2 ms3 as : Ms} {m : Md} {k : Kd} {e a b : Expr} {es : List Expr} {f fa fb : M D} {fs : M (List D)} {pos : Pos} {tg : Expr}
theorem ItOk.rng {K : PySem.W.Frag} {mg : MG} {H0 : Hp} {lo : Int} {n : Nat} {P : Hp → Co → Prop} : ItOk K mg (Itr lo n) H0 (rngD lo n) P := fun H0' H c s1 s2 p => by
  refine ⟨fun i d e => ?_, by rw [rngD_len]; exact Nat.le_refl _⟩
  obtain ⟨h1, h2⟩ := rngD_get n lo i d e
  refine ⟨h1, fun x H' ⟨e3, e4⟩ => ?_⟩
  subst e3 e4 h2
  exact ⟨H0', Same.refl _, Same.refl _, s2, fun a o q => .inl ⟨o, q⟩, rfl⟩
def iRng (f : M D) : M (List D) := fun r => (f r).bind fun d r => match d with
  | .int j => if j ≤ 16777216 ∧ -4611686018427387904 ≤ j then .ok (rngD 0 j.toNat) r else .bad
  | _ => .bad
theorem VI.rng {p : Pos} (h : VO G N S .z ms e f) (hm : G.mg "range" = none) (hg : Glb S "range" := by rfl) (hs : ∀ env, starEach [e] env = [(false, eval e env)] := by intro _; rfl) : VI G N S bs ms tg (.Call (.Name "range" p) [e] [] pos) (iRng f) := by
  refine fun R a W t => PI.imp (pi_range1 (a.gl hg) hm (pa_cons (h R a W t) pa_nil (hs _)) (hs _)) fun σ H Q ⟨ρ, H0, c, l, o⟩ => ?_
  refine ⟨ρ, H0, c, l, (Out.bind (G := FO G.K G.mg .z ms) (ms1 := ms) back_FI o fun i e => e).imp fun x H1 ⟨d, H01, c1, ρ1, e1, s1, l1, ⟨fp, o1, f1⟩, h1⟩ => ?_⟩
  have z := (Ow.zero.mp o1).2
  cases d with
  | int j =>
    have z : x = .int j := z
    subst z
    have h1' : Out G.K G.mg W (FI G.K G.mg bs) ms H01 H1 c1 σ (if j ≤ 16777216 ∧ -4611686018427387904 ≤ j then .ok (rngD 0 j.toNat) ρ1 else .bad) Q := h1
    by_cases hj : j ≤ 16777216 ∧ -4611686018427387904 ≤ j
    · rw [if_pos hj] at h1'
      exact ⟨j, rfl, by omega, by omega, h1' _ H01 H1 c1 .refl l1 ⟨by rw [rngD_len]; show j.toNat ≤ 16777216; omega, fun _ _ => True, trivial, .tt, .rng⟩⟩
    · rw [if_neg hj] at h1'
      exact h1'.elim
  | _ => exact h1.elim
def iRng2 (fa fb : M D) : M (List D) := fun r => (fa r).bind fun x r => (fb r).bind fun y r => match x, y with
  | .int i, .int j => if j - i ≤ 16777216 ∧ -2305843009213693952 ≤ i ∧ i ≤ 2305843009213693952 ∧ -2305843009213693952 ≤ j then .ok (rngD i (j - i).toNat) r else .bad
  | _, _ => .bad
/-- a list that is walked: frozen or lent -/
def LSrc (K : PySem.W.Frag) (mg : MG) (bs : Ms) (H0 H : Hp) (c : Co) (ds : List D) (v : V) : Prop :=
  ∃ a vs P, v = .ref a ∧ SqL K H a vs ∧ Fzs K mg H0 ds vs ∧ ds.length ≤ LIM ∧ P H c ∧ Stays bs P ∧ ∀ H0' H c, Same H0 H0' → Same H0' H → P H c → SqL K H a vs
theorem LSrc.of {K : PySem.W.Frag} {mg : MG} {H0 H : Hp} {c : Co} {d : D} {ds : List D} {v : V} (s : Same H0 H) (b : Bw K mg bs H0 H c d v) (hd : (∃ ds', d = .lst ds' ∧ ds = ds') ∨ ∃ ns, d = .scr ns ∧ ds = ns.map .int) (hs : ∀ a xs, v = .ref a → (SqL K H a xs ∨ SqT K H a xs) → xs.length ≤ LIM) :
    LSrc K mg bs H0 H c ds v := by
  rcases hd with ⟨ds', rfl, rfl⟩ | ⟨ns, rfl, rfl⟩
  · rcases b with ⟨a, vs, e, k, g⟩ | ⟨fp, i, hi, hl, ⟨a, vs, g, e, k, ef, r⟩, hc⟩
    · have q : SqL K H a vs := .of (s _ _ k)
      exact ⟨a, vs, fun _ _ => True, e, q, g, by rw [← g.length]; exact hs a vs e (.inl q), trivial, .tt, fun H0' H c s1 s2 _ => .of (s2 _ _ (s1 _ _ k))⟩
    · have q : SqL K H a vs := .of k
      have gz := (Ows.all_z.mp r).2
      exact ⟨a, vs, fun H c => H a = some (.lst vs) ∧ c a = some i, e, q, gz, by rw [← gz.length]; exact hs a vs e (.inl q), ⟨k, hc a (by rw [ef]; exact List.mem_cons_self)⟩, .own hi, fun H0' H c s1 s2 p => .of p.1⟩
  · have z : Fz K mg H0 (.scr ns) v := by
      rcases b with z | ⟨fp, i, hi, hl, _⟩
      · exact z
      · cases hl
    obtain ⟨a, e, k⟩ := z
    exact ⟨a, _, fun _ _ => True, e, s.seq k, fzs_ints _, by rw [List.length_map, ← List.length_map (f := V.int)]; exact hs a _ e (.inl (s.seq k)), trivial, .tt, fun H0' H c s1 s2 _ => s2.seq (s1.seq k)⟩
def asLst : D → Option (List D)
  | .lst ds => some ds
  | .scr ns => some (ns.map .int)
  | _ => none
def iEnm (f : M D) : M (List D) := fun r => (f r).bind fun d => rM ((asLst d).map (enumD 0))
def iZp (fa fb : M D) : M (List D) := fun r => (fa r).bind fun x r => (fb r).bind fun y => rM ((asLst x).bind fun xs => (asLst y).map fun ys => zipD xs ys)
theorem LSrc.on {K : PySem.W.Frag} {mg : MG} {H0 H H0' H' : Hp} {c c' : Co} {ds : List D} {v : V} (h : LSrc K mg bs H0 H c ds v) (s : Step ms H0 H c H0' H' c') (l : Same H0' H') (dj : Dj bs ms) : LSrc K mg bs H0' H' c' ds v := by
  obtain ⟨a, vs, P, e, q, fz, hl, p, sP, kp⟩ := h
  have p' := sP.run _ _ _ _ _ _ _ dj p s
  exact ⟨a, vs, P, e, kp H0' H' c' s.grow l p', Fzs.mono s.grow ds vs fz, hl, p', sP, fun H0'' H'' c'' s1 s2 p => kp H0'' H'' c'' (s.grow.trans s1) s2 p⟩
theorem Stays.and {P1 P2 : Hp → Co → Prop} (h1 : Stays bs1 P1) (h2 : Stays bs2 P2) : Stays (msU bs1 bs2) (fun H c => P1 H c ∧ P2 H c) :=
  ⟨fun ms H0 H c H0' H' c' dj p s => ⟨h1.run ms _ _ _ _ _ _ (fun i e => dj i (or_l e)) p.1 s, h2.run ms _ _ _ _ _ _ (fun i e => dj i (or_r e)) p.2 s⟩, fun H c a o h p => ⟨h1.oth H c a o h p.1, h2.oth H c a o h p.2⟩⟩
def iStrs (f : M D) : M (List D) := fun r => (f r).bind fun d r => match d with
  | .str s => .ok (s.map fun c => .str [c]) r
  | _ => .bad
theorem VI.str (h : VO G N S .z ms e f) : VI G N S bs ms tg e (iStrs f) := by
  refine fun R a W t => PI.imp (pi_str (h R a W t)) fun σ H Q ⟨ρ, H0, c, l, o⟩ => ?_
  refine ⟨ρ, H0, c, l, (Out.bind (G := FO G.K G.mg .z ms) (ms1 := ms) back_FI o fun i e => e).imp fun x H1 ⟨d, H01, c1, ρ1, e1, s1, l1, ⟨fp, o1, f1⟩, h1⟩ => ?_⟩
  have z := (Ow.zero.mp o1).2
  cases d with
  | str s =>
    obtain ⟨z1, z2⟩ : x = sV s ∧ sOk s = true := z
    have hk := z2
    unfold sOk at hk
    simp only [Bool.and_eq_true, decide_eq_true_eq, List.all_eq_true] at hk
    refine ⟨_, z1, h1 _ H01 H1 c1 .refl l1 ⟨by rw [List.length_map]; exact hk.1, fun _ _ => True, trivial, .tt, fun H0' H c s1 s2 p => ⟨fun i d e => ?_, ?_⟩⟩⟩
    · rw [List.getElem?_map] at e
      cases hg : s[i]? with
      | none => rw [hg] at e; cases e
      | some ch =>
        rw [hg] at e
        cases e
        obtain ⟨hi, hg2⟩ := List.getElem?_eq_some_iff.mp hg
        refine ⟨by show i < s.toArray.size; simpa using hi, fun x H' ⟨e3, c', e4, e5⟩ => ?_⟩
        have e4 : s.toArray[i]? = some c' := e4
        rw [List.getElem?_toArray, hg] at e4
        cases e4
        subst e3 e5
        refine ⟨H0', Same.refl _, Same.refl _, s2, fun a o q => .inl ⟨o, q⟩, rfl, ?_⟩
        unfold sOk
        simp only [List.length_singleton, List.all_cons, List.all_nil, Bool.and_true, Bool.and_eq_true, decide_eq_true_eq]
        exact ⟨by omega, by have := hk.2 ch (by rw [← hg2]; exact List.getElem_mem hi); simpa using this⟩
    · show s.toArray.size ≤ _
      simp
  | _ => exact h1.elim
def iRevd (f : M D) : M (List D) := fun r => (f r).bind fun d => rM ((asLst d).map List.reverse)
end
end Vm
set_option Elab.async false
set_option linter.all false
set_option maxRecDepth 100000
set_option maxHeartbeats 4000000
namespace Vm
open PySem PySem.Spec PyProof.Rows L2
section
variable {G : GC} {N : List Str} {S : SC} {bs bs1 bs2 ms ms1 ms2 ms3 as : Ms} {m : Md} {k : Kd} {e a b : Expr} {es : List Expr} {f fa fb : M D} {fs : M (List D)} {pos : Pos} {tg : Expr}
/-- a new dict: of int, str keys -/
theorem VO.dct0 : VO G N S (.o k) ms0 (.Dict [] [] pos) (eC (.dct [] [])) := by
  refine fun R a W t => pe_dnewK.imp fun σ H Q ⟨ρ, H0, c, l, o⟩ => ?_
  intro p hp
  refine Out.new o l hp ⟨p, [], [], rfl, rfl, ⟨[], upd_same, rfl, rfl, rfl⟩, rfl, rfl⟩
end
end Vm
set_option Elab.async false
set_option linter.all false
set_option maxRecDepth 100000
set_option maxHeartbeats 4000000
namespace Vm
open PySem PySem.Spec PyProof.Rows L2

/-! ### what stands in the module -/
mutual
def relD (K : PySem.W.Frag) : D → Value → Bool
  | .non, .none => true
  | .bl b, .bool c => b == c
  | .int i, .int j _ => decide (i = j)
  | .str s, .str x _ => decide (x = ⟨s.toArray⟩) && sOk s
  | .tup ds, .ref a => match K.lookup a with
    | some ⟨.type c, _, .seq its _, _⟩ => decide (c = "tuple") && (decide (its.size ≤ sizeLine) && relDs K ds its.toList)
    | _ => false
  | _, _ => false
def relDs (K : PySem.W.Frag) : List D → List Value → Bool
  | [], [] => true
  | d :: ds, u :: us => relD K d u && relDs K ds us
  | _, _ => false
end
mutual
theorem relD_ok {K : PySem.W.Frag} {mg : MG} {H : Hp} : ∀ (d : D) (u : Value), relD K d u = true → ∃ v, RelV v u ∧ Fz K mg H d v
  | .non, u, h => by cases u <;> first | exact ⟨.non, rfl, rfl⟩ | cases h
  | .bl b, u, h => by
    cases u <;> first | cases h | skip
    rename_i c
    have e : b = c := eq_of_beq (show (b == c) = true from h)
    exact ⟨.bl b, by rw [e]; rfl, rfl⟩
  | .int i, u, h => by
    cases u <;> first | cases h | skip
    rename_i j t
    have e : i = j := of_decide_eq_true h
    exact ⟨.int i, ⟨t, by rw [e]⟩, rfl⟩
  | .str s, u, h => by
    cases u <;> first | cases h | skip
    rename_i x t
    obtain ⟨h1, h2⟩ := He.ba (show (decide (x = ⟨s.toArray⟩) && sOk s) = true from h)
    exact ⟨sV s, ⟨t, by rw [of_decide_eq_true h1]⟩, rfl, h2⟩
  | .tup ds, u, h => by
    cases u <;> first | cases h | skip
    rename_i a
    unfold relD at h
    cases q : K.lookup a with
    | none => rw [q] at h; cases h
    | some o =>
      obtain ⟨oc, od, dt, osl⟩ := o
      rw [q] at h
      cases oc <;> first | cases h | skip
      rename_i c
      cases dt <;> first | cases h | skip
      rename_i its n
      obtain ⟨h1, h2⟩ := He.ba (show (decide (c = "tuple") && (decide (its.size ≤ sizeLine) && relDs K ds its.toList)) = true from h)
      obtain ⟨h3, h4⟩ := He.ba h2
      obtain ⟨vs, r, f⟩ := relDs_ok (mg := mg) (H := H) ds its.toList h4
      exact ⟨.ref a, rfl, a, vs, rfl, .inr ⟨_, its, n, q, congrArg Value.type (of_decide_eq_true h1), rfl, of_decide_eq_true h3, r⟩, f⟩
  | .lst _, u, h => by cases u <;> cases h
  | .dct _ _, u, h => by cases u <;> cases h
  | .dnt _ _, u, h => by cases u <;> cases h
  | .ins _ _ _, u, h => by cases u <;> cases h
  | .scr _, u, h => by cases u <;> cases h
  | .exn _ _ _, u, h => by cases u <;> cases h
  | .unk, u, h => by cases u <;> cases h
theorem relDs_ok {K : PySem.W.Frag} {mg : MG} {H : Hp} : ∀ (ds : List D) (us : List Value), relDs K ds us = true → ∃ vs, Vals vs us ∧ Fzs K mg H ds vs
  | [], [], _ => ⟨[], .nil, rfl⟩
  | d :: ds, u :: us, h => by
    obtain ⟨h1, h2⟩ := He.ba (show (relD K d u && relDs K ds us) = true from h)
    obtain ⟨v, r, f⟩ := relD_ok (mg := mg) (H := H) d u h1
    obtain ⟨vs, rs, fs⟩ := relDs_ok (mg := mg) (H := H) ds us h2
    exact ⟨v :: vs, .cons r rs, v, vs, rfl, f, fs⟩
  | [], _ :: _, h => by cases h
  | _ :: _, [], h => by cases h
end
/-- what the class D of one's own must say as an exception -/
def excB (K : PySem.W.Frag) (D : Addr) : Bool :=
  decide (PySem.W.findIn K (.ref D) "__getattribute__" = some (some (.builtin "BaseException.__getattribute__"))) && (decide (PySem.W.findIn K (.ref D) "__getattr__" = some none) && (decide (PySem.W.subIn K (.ref D) (.type "BaseException") = some true) && (PySem.W.hasDictIn K D &&
    (decide (PySem.W.findIn K (.ref D) "__class__" = some (some (.builtin "object.__class__"))) && (decide (PySem.W.specialIn K (.builtin "object.__class__") "__get__" = some (some (.builtin "getset_descriptor.__get__"))) && (decide (PySem.W.takesIn K (.builtin "object.__class__") = some true) && decide (PySem.W.mroIn K D (.type "object") = some true)))))))
/-- what the class C of one's own over B must say as an exception with an __init__ that sets the fields ns -/
def oexB1 (K : PySem.W.Frag) (C : Addr) : Bool := match K.lookup C with
  | some ⟨.type "type", _, .cls cd, sl⟩ => (match cd.mro, sl.toList with
    | .ref C' :: bm, [_, _, _, _, some (.builtin n), _] => C' == C && n == "ValueError.__new__" && !cd.hasDel && cd.hasDict && PySem.HandSPX.refsVE bm
    | _, _ => false)
  | _ => false
def oexB (K : PySem.W.Frag) (C B : Addr) (ns : List Str) : Bool :=
  oexB1 K C && (decide (PySem.W.findIn K (.ref C) "__setattr__" = some (some (.builtin "object.__setattr__"))) && (decide (PySem.W.subIn K (.ref C) (.type "BaseException") = some true) && (decide (PySem.W.typeIn K (.ref C) = some (.type "type")) && (PySem.W.keepIn K (.ref C) &&
    (decide (PySem.W.findIn K (.ref C) "__init__" = some (some (.ref (He.ma K C "__init__")))) && (decide (PySem.W.typeIn K (.ref (He.ma K C "__init__")) = some (.type "function")) && (ns.all (fun f => decide (PySem.W.findIn K (.ref C) f = some none)) &&
    (PySem.W.readsIn K B (.type "type") && (decide (PySem.W.specialIn K (.ref B) "__getattribute__" = some (some (.builtin "type.__getattribute__"))) && (match PySem.W.findCls K (.ref B) (.type "type") "__init__" with
      | some (.val (.builtin n)) => decide (n = "ValueError.__init__")
      | _ => false))))))))))
/-- a fact of the class x: "exc": it is an exception; "isa": which classes of one's own it lies beneath; "ve": it lies beneath ValueError -/
def xfB (K : PySem.W.Frag) (x t : Str) (ns : List Str) (vs : List D) : Bool :=
  if t = "exc" then excB K (He.ga K x)
  else if t = "isa" then (ns.zip vs).all fun p => match p.2 with
    | .bl b => decide (PySem.W.kitOne K (.ref (He.ga K x)) (.ref (He.ga K p.1)) = some b)
    | _ => false
  else if t = "ve" then decide (PySem.W.kitOne K (.ref (He.ga K x)) (.type "ValueError") = some true)
  else if t = "oex" then (match ns with
    | b :: fs => oexB K (He.ga K x) (He.ga K b) fs
    | [] => false)
  else false
def isExn : D → Bool
  | .exn _ _ _ => true
  | _ => false
def glbB (K : PySem.W.Frag) (p : Str × D) : Bool := match p.2 with
  | .exn t ns vs => xfB K p.1 t ns vs
  | d => match PySem.W.nsIn K mainGlobals p.1 with
    | some (some u) => relD K d u
    | _ => false
theorem glbB_of {K : PySem.W.Frag} {x : Str} {d : D} (h : isExn d = false) : glbB K (x, d) = match PySem.W.nsIn K mainGlobals x with
    | some (some u) => relD K d u
    | _ => false := by cases d <;> first | rfl | cases h
/-- what the top has written -/
structure Says (fa : List He.Fa) (fn : List He.DefD) (cs : List (Str × D)) (K : PySem.W.Frag) : Prop where
  d : He.SaysD fa fn K
  c : (cs.all fun p => glbB K p) = true
abbrev AlV : Type := He.AlD × Bool
def obsV (n : Nat) (fa : List He.Fa) (fn : List He.DefD) (cs : List (Str × D)) (g : Addr → Option Obj) : AlV := (He.obsD fa fn (He.frG g (cStatics :: He.asD g n)), cs.all fun p => glbB (He.frG g (cStatics :: He.asD g n)) p)
def hookV (n : Nat) (fa : List He.Fa) (fn : List He.DefD) (cs : List (Str × D)) : PySem.W.Hook where
  α := AlV
  obs := fun s => obsV n fa fn cs s.heap.get?
  val := fun _ => (He.valD fn, true)
  says := fun _ h => ∃ K : PySem.W.Frag, K.In h ∧ Says fa fn cs K
  of := fun _ _ e => ⟨_, He.frG_in, congrArg (fun z : AlV => z.1) e, congrArg (fun z : AlV => z.2) e⟩
  keeps := fun _ _ _ ⟨K, hK, c⟩ k => ⟨K, PySem.W.Frag.In.keeps hK k, c⟩
theorem obsV_eq {n : Nat} {fa : List He.Fa} {fn : List He.DefD} {cs : List (Str × D)} {g : Addr → Option Obj} {s : Shared} (h : ∀ a, g a = s.heap.get? a) : obsV n fa fn cs g = (hookV n fa fn cs).obs s := by
  have e : g = s.heap.get? := funext h
  rw [e] <;> rfl
/-- where one stands: a world in which the top has written this -/
structure Ye (fa : List He.Fa) (fn : List He.DefD) (cs : List (Str × D)) (G : GC) : Prop where
  h : ∃ h : Heap, G.K.In h ∧ h.Ns mainGlobals G.mg
  s : Says fa fn cs G.K
/-- a def of the module -/
structure Fx (G : GC) (k : Nat) (x : Str) (ps : List Str) (rm : Md) (F : M D) : Prop where
  ex : ∃ f fd, G.mg x = some (.ref f) ∧ PySem.W.keepIn G.K (.ref f) = true ∧ Binds G.K fd ps [] ∧ FnV G k f fd ps rm F ∧ (∃ o od sl, G.K.lookup f = some ⟨o, od, .func fd, sl⟩) ∧ ∀ (s : Shared) (us : List Value), us.length = ps.length → BindsTo s fd ⟨us, []⟩ (ps.zip us)
section
variable {fa : List He.Fa} {fn : List He.DefD} {cs : List (Str × D)} {G : GC}
theorem Ye.fact (Y : Ye fa fn cs G) (i : Nat) {f : He.Fa} (h : fa[i]? = some f := by rfl) : f.ok G.K = true := Y.s.d.fact i h
theorem Ye.free (Y : Ye fa fn cs G) (i : Nat) {x : Str} (h : fa[i]? = some (.free x) := by rfl) : G.mg x = none := by
  obtain ⟨h0, X, N⟩ := Y.h
  exact He.free_ok X N (Y.fact i h)
theorem Ye.xf (Y : Ye fa fn cs G) (i : Nat) {x t : Str} {ns : List Str} {vs : List D} (h : cs[i]? = some (x, .exn t ns vs)) : xfB G.K x t ns vs = true := List.all_eq_true.mp Y.s.c _ (List.mem_of_getElem? h)
theorem Ye.glob (Y : Ye fa fn cs G) (i : Nat) {x : Str} {d : D} (h : cs[i]? = some (x, d) := by rfl) (hd : isExn d = false := by rfl) : GlobC G x d := by
  obtain ⟨h0, X, N⟩ := Y.h
  have c := List.all_eq_true.mp Y.s.c _ (List.mem_of_getElem? h)
  rw [glbB_of hd] at c
  cases e : PySem.W.nsIn G.K mainGlobals x with
  | none => simp only [e] at c; cases c
  | some r =>
    simp only [e] at c
    cases r with
    | none => cases c
    | some u =>
      obtain ⟨v, r, f⟩ := relD_ok (mg := G.mg) (H := Hp0) d u c
      exact ⟨v, u, PySem.W.mg_of X N e, r, f⟩
theorem Fx.mk' (Y : Ye fa fn cs G) (i j : Nat) {d : He.DefD} {x : Str} {k : Nat} {N ps : List Str} {rm : Md} {g : M Fl} {as : Ms} (io : List Bool) (n : Nat) (hb : VSs G N ⟨d.scope, fun _ => true, k, true, true⟩ rm as d.body g)
    (hbi : ∀ (kV doc pm : Value) (an : Option Addr) (cdv ct : Value) (us : List Value), us.length = ps.length → bindArgs (PySem.W.fnOf d.name d.qual d.params d.body d.scope .none kV doc pm an cdv ct) ⟨us, []⟩ = pure (ps.zip us))
    (Sc : FnScope N ps d.scope) (hd : fn[i]? = some d := by rfl) (hj : fa[j]? = some (.glo x) := by rfl) (hx : d.at_ = (x, none) := by rfl) (h0 : d.dfl = [] := by rfl) (hio : io.length = ps.length := by rfl) (hn : N.length = ps.length + n := by rfl)
    (has : ∀ i, io.getD i false = true → as i = false := by intro i h; rcases i with _ | _ | _ | _ | _ | _ | i <;> first | rfl | (cases h)) : Fx G (k + 1) x ps rm (fnRun io n g) := by
  obtain ⟨h, X, Nn⟩ := Y.h
  obtain ⟨fd, F⟩ := Y.s.d.def_ i hd
  have e : G.mg x = some (.ref (He.fAd G.K d.at_)) := by
    rw [hx]
    exact He.glo_ok X Nn (Y.fact j hj)
  have e0 : d.dvs G.K = [] := by unfold He.DefD.dvs; rw [h0]; rfl
  rw [e0] at F
  refine ⟨_, fd, e, F.kp, F.bindsN hbi, FnV.mk F Sc io n hb hio hn has, ?_, F.bindsA hbi⟩
  obtain ⟨oc, od, dV, kV, doc, pm, an, cdv, ct, osl, _, lk, _⟩ := F.ex
  exact ⟨oc, od, osl, lk⟩
variable {N : List Str} {S : SC} {bs ms ms1 ms2 : Ms} {rm : Md} {k : Nat} {e : Expr} {es : List Expr} {fs : M (List D)} {pos p : Pos} {ls : List (Option Nat)} {F : M D} {ps : List Str} {x : Str}
theorem VO.callX (hF : Fx G k x ps rm F) (ha : VM G N S ls ms (e :: es) fs) (hk' : k ≤ S.k := by decide) (hc : S.cm = true := by rfl) (nd : (ls.filterMap id).Nodup := by decide) (hl : ls.length = ps.length := by rfl) (hg : Glb S x := by rfl)
    (hdb : (x == ("__debug__" : Str)) = false := by decide) (he : ∀ env, starEach (e :: es) env = (false, eval e env) :: starEach es env := by intro _; rfl) (hpl : ∀ env, (backTo pos (starEach es env)).any (·.1) = false := by intro _; rfl) :
    VO G N S rm (msU ms (lentM ls)) (.Call (.Name x p) (e :: es) [] pos) (fCall F ls fs) := by
  obtain ⟨f, fd, h1, h2, h3, h4, _⟩ := hF.ex
  exact VO.call h4 h1 h2 h3 ha hk' hc nd hl hg hdb he hpl
end
/-- nothing is tracked but the script -/
def OnlyS (H : Hp) : Prop := ∀ b, H b = none ∨ ∃ o xs, H b = some (.frz o (.lst xs))
theorem law_callG {P : Program} {w : World} {K : PySem.W.Frag} {mg mb : Str → Option Value} {CX : CXT} {k : Nat} {fl_ a : Addr} {fd : FuncData} {x : Str} {sp : Sp} {t1 : Shared} {ws : List Value} {ns : List Int}
    (kx : K.In t1.heap) (hmain : t1.heap.Ns mainGlobals mg) (hb : t1.heap.Ns builtinsNs mb) (hboot : ∀ x : Str, x ≠ "__name__" → mb x = bootBuiltins x) (hnl : t1.heap.NoLimit) (hg : t1.gens = #[])
    (ha : t1.heap.get? a = some { cls := .type "list", data := .seq ws.toArray }) (hints : IntsAre ws ns) (hl : ns.length ≤ sizeLine) (hr : Room k callerA)
    (F : ∀ base : Heap, K.In base → base.Ns mainGlobals mg → FnK P w K mg base CX k fl_ fd [x] sp) (hbinds : ∀ (s : Shared) (u : Value), BindsTo s fd ⟨[u], []⟩ [(x, u)])
    (hprom : ∀ H : Hp, OnlyS H → SqL K H a (ns.map V.int) → sp [.ref a] H (fun v _ => v = .bl true) fun _ _ _ => False)
    (hnone : ∀ H e s', CX [] H t1 (fun _ _ _ => False) e s' → False) :
    codeAny (model P w) callerA (.call (.ref fl_) ⟨[.ref a], []⟩) (fun r s' => r = .ok (.ret (.bool true)) ∧ OldK t1.heap s'.heap ∧ s'.os = t1.os ∧ AllBare s'.gens) t1 := by
  have rvs := vals_ints hints
  have lenW := hints.length
  -- from an abstract heap in which nothing but the script may be tracked
  have main_ : ∀ H : Hp, OnlyS H → SqL K H a (ns.map V.int) → HOk P w H t1.heap → (∀ b, H b ≠ none → b = a) → (H a ≠ none → K.lookup a = none) →
      codeAny (model P w) callerA (.call (.ref fl_) ⟨[.ref a], []⟩) (fun r s' => r = .ok (.ret (.bool true)) ∧ OldK t1.heap s'.heap ∧ s'.os = t1.os ∧ AllBare s'.gens) t1 := by
    intro H hOn hSq hHok hAd hKn
    have ofBase : ∀ {b : Addr} {o : Obj}, t1.heap.get? b = some o → H b = none → (hidT t1.heap H).get? b = some o := fun e n => hidT_get e n
    have notA : ∀ {b : Addr} {o : Obj} {ents : Array DictEntry} {ep : Nat}, t1.heap.get? b = some o → o.data = .dict ents ep → H b = none := fun {b o ents ep} e d => by
      cases q : H b with
      | none => rfl
      | some u =>
        have e' : b = a := hAd b (by rw [q]; simp)
        subst e'
        rw [ha] at e; cases e
        have d' : Data.seq ws.toArray _ = Data.dict ents ep := d
        cases d'
    have nsKeep : ∀ {b : Addr} {m : Str → Option Value}, t1.heap.Ns b m → (hidT t1.heap H).Ns b m := fun {b m} ⟨o, ents, ep, e, d, r⟩ => ⟨o, ents, ep, ofBase e (notA e d), d, r⟩
    have kbase : K.In (hidT t1.heap H) := fun b o e => ofBase (kx b o e) (by
      cases q : H b with
      | none => rfl
      | some u =>
        have e' : b = a := hAd b (by rw [q]; simp)
        subst e'
        rw [hKn (by rw [q]; simp)] at e; cases e)
    have hmod : Mod K mg (hidT t1.heap H) := ⟨kbase, nsKeep hmain, ⟨mb, nsKeep hb, hboot⟩, let ⟨mc, h1, h2⟩ := hnl; ⟨mc, nsKeep h1, h2⟩⟩
    have env0_ : Env0 P w K mg (hidT t1.heap H) callerA [] t1 H := ⟨rfl, hmod, fun b o e => of_hidT e, Nat.le_of_eq (hidT_size _ _), trivial, fun b hb => absurd (show b ∈ ([] : List Addr) from hb) (by simp), hHok, .of_eq hg⟩
    refine codeAny_mono ((F _ kbase (nsKeep hmain)).run callerA [] t1 H ⟨[.ref a], []⟩ [.ref a] [.ref a] _ _ rfl hr env0_ (hbinds t1 (.ref a)) (.cons rfl .nil) (hprom H hOn hSq)) fun r s' h => ?_
    cases r with
    | error e => exact (hnone H e s' h).elim
    | ok fl =>
      cases fl with
      | next => exact False.elim h
      | brk => exact False.elim h
      | cont => exact False.elim h
      | ret u =>
        obtain ⟨v, H', os, bare, un, hok', r', q⟩ := h
        have q' : v = .bl true := q
        subst q'
        obtain rfl : u = Value.bool true := r'
        refine ⟨rfl, OldK.of_keep fun b o e => ?_, os, bare⟩
        cases q : H b with
        | none => exact un.keep b o e q (by intro z; exact absurd (show b ∈ ([] : List Addr) from z) (by simp)) (by simp)
        | some u =>
          rcases hOn b with z | ⟨ob, xs, z⟩
          · rw [q] at z; cases z
          · have z2 := un.frzs b ob _ z
            obtain ⟨e1, _⟩ := hHok b _ z
            obtain ⟨e2, _⟩ := hok' b _ z2
            rw [e] at e1; cases e1
            exact e2
  cases hk : K.lookup a with
  | some o =>
    -- the script is one of the module's own objects
    have e := kx a o hk
    rw [ha] at e
    cases e
    refine main_ (fun _ => none) (fun _ => .inl rfl) (.inr ⟨_, ws.toArray, _, hk, rfl, rfl, rfl, by rw [List.size_toArray, lenW]; exact hl, by simpa using rvs⟩) (fun b u z => by have z' : (none : Option HO) = some u := z; cases z') (fun b z => absurd rfl z) fun z => absurd rfl z
  | none =>
    refine main_ (fun b => if b = a then some (.frz { cls := .type "list", data := .seq ws.toArray } (.lst (ns.map V.int))) else none) (fun b => ?_) (.inl (.inr ⟨{ cls := .type "list", data := .seq ws.toArray }, if_pos rfl⟩)) (fun b u z => ?_) (fun b z => ?_) fun _ => hk
    · by_cases hb : b = a
      · exact .inr ⟨_, _, if_pos hb⟩
      · exact .inl (if_neg hb)
    · by_cases hb : b = a
      · have z' := (if_pos hb).symm.trans z
        cases z'
        subst hb
        exact ⟨ha, by rw [List.length_map]; exact hl, ws, _, rvs, ha⟩
      · have z' := (if_neg hb).symm.trans z
        cases z'
    · by_cases hb : b = a
      · exact hb
      · exact absurd (if_neg hb) z

/-! ### a law's end -/
theorem lawEnd {l : PySem.W.OpenLaw} {n k : Nat} {q : Program} {loose : List Str} {XP : (Str → Option Value) → Heap → Prop} {d : DefRec} {x : Str} {fa : List He.Fa} {fn : List He.DefD} {cs : List (Str × D)} {N : Nat}
    (hn : l.most = some n) (hn2 : n ≤ sizeLine) (hd : d.params.defaults = []) (hr : Room k callerA) (F : M D) (hx : d.name = ("law" : Str))
    (hF : ∀ (G : GC), G.P = l.prog → Ye fa fn cs G → Fx G k ("law" : Str) [x] .z F)
    (hp : ∀ ns : List Int, ns.length ≤ n → (∀ z ∈ ns, Builtin.Int.intBits z ≤ 1048576) → ∃ r, F [some (.z, .scr ns)] = .ok (.bl true) r) :
    PySem.W.WalkO q loose XP (hookV N fa fn cs).says l.row.toRowW d [] (fun f vs => PySem.call f vs) := by
  refine Att.attach_callB hn hd fun w t0 t1 mg mb f obj pm cd doc adr xs ns gr says ho ho2 hcd hf hadr hints hlen hbits hgen => ?_
  obtain ⟨K, KX, c⟩ := says
  rw [hx] at hf
  have gy : ∀ base : Heap, K.In base → base.Ns mainGlobals mg → Ye fa fn cs (⟨l.prog, K, ⟨mg, none, w⟩, base⟩ : GC) := fun base b1 b2 => ⟨⟨base, b1, b2⟩, c⟩
  have gn := gr.T.g
  obtain ⟨f', fd, e1, _, _, _, ⟨o1, od1, sl1, lk1⟩, bt⟩ := (hF ⟨l.prog, K, ⟨mg, none, w⟩, t1.heap⟩ rfl (gy _ KX gn)).ex
  have e1 : mg ("law" : Str) = some (.ref f') := e1
  rw [hf] at e1
  cases e1
  refine law_callG KX gn gr.T.b gr.T.builtins gr.T.nolimit hgen hadr hints (Nat.le_trans hlen hn2) hr (CX := L2N.CX l.prog w) (fd := fd) (sp := spV ⟨l.prog, K, ⟨mg, none, w⟩, t1.heap⟩ F 1 .z) (fun base b1 b2 => ?_) (fun s u => bt s [u] rfl) (fun H _ hS => ?_) fun H e s' z => ?_
  · obtain ⟨f2, fd2, e2, _, _, h4, ⟨o2, od2, sl2, lk2⟩, _⟩ := (hF ⟨l.prog, K, ⟨mg, none, w⟩, base⟩ rfl (gy base b1 b2)).ex
    have e2 : mg ("law" : Str) = some (.ref f2) := e2
    rw [hf] at e2
    cases e2
    have lk2 : K.lookup f = some ⟨o2, od2, .func fd2, sl2⟩ := lk2
    have lk1 : K.lookup f = some ⟨o1, od1, .func fd, sl1⟩ := lk1
    rw [lk1] at lk2
    cases lk2
    exact h4
  · obtain ⟨r, hr⟩ := hp ns hlen hbits
    refine ⟨rfl, [some (.z, .scr ns)], H, fun _ => none, ⟨Same.refl _, fun _ z => (by cases z), fun _ _ z => (by cases z), fun _ _ z => (by cases z), rfl, fun i m d e => ?_⟩, ?_⟩
    · rcases i with _ | i
      · cases e
        exact ⟨.ref adr, [], rfl, ⟨rfl, adr, rfl, hS⟩, List.nodup_nil, by simp⟩
      · simp [getS] at e
    · rw [hr]
      intro v H0' H' c' _ _ ⟨fp, o, _⟩
      exact (Ow.zero.mp o).2
  · obtain ⟨a, B, H', cls, dd, _, _, _, _, _, _, _, z⟩ := z
    exact z
end Vm
set_option Elab.async false
set_option linter.all false
set_option maxRecDepth 100000
set_option maxHeartbeats 4000000
namespace Vm
open PySem PySem.Spec PyProof.Rows L2
section
variable {G : GC} {N : List Str} {S : SC} {bs bs1 bs2 ms ms1 ms2 ms3 as : Ms} {m : Md} {k : Kd} {e a b : Expr} {es : List Expr} {f fa fb : M D} {fs : M (List D)} {pos : Pos} {tg : Expr}
theorem At.u100 {X : Cx} (a : At hx S N X) (hc : True := trivial) : X.A.units + 100 < cLine := by
  have := a.rh.un
  omega
/-! ### operators by name -/
theorem VO.add (ha : VB G N S bs1 ms1 a fa) (hb : VB G N S bs2 ms2 b fb) (dj : Dj bs1 ms2 := by intro i h; first | rfl | exact absurd h Bool.false_ne_true | (simp [lentM] at h ⊢ <;> omega)) : VO G N S .z (msU ms1 ms2) (.BinOp a .Add b pos) (fOp2 oAdd fa fb) := .op (fun _ _ => op_addV) ru_add ha hb dj
theorem VO.addL (ha : VB G N S bs1 ms1 a fa) (hb : VB G N S bs2 ms2 b fb) (dj : Dj bs1 ms2 := by intro i h; first | rfl | exact absurd h Bool.false_ne_true | (simp [lentM] at h ⊢ <;> omega)) : VO G N S m1 (msU ms1 ms2) (.BinOp a .Add b pos) (fOp2 oAddL fa fb) := .op (fun _ _ => op_cat) ru_addL ha hb dj
theorem VO.sub (ha : VB G N S bs1 ms1 a fa) (hb : VB G N S bs2 ms2 b fb) (dj : Dj bs1 ms2 := by intro i h; first | rfl | exact absurd h Bool.false_ne_true | (simp [lentM] at h ⊢ <;> omega)) : VO G N S .z (msU ms1 ms2) (.BinOp a .Sub b pos) (fOp2 oSub fa fb) := .op (fun _ _ => op_rI0 op_sub) ru_sub ha hb dj
theorem VO.fdiv (ha : VB G N S bs1 ms1 a fa) (hb : VB G N S bs2 ms2 b fb) (dj : Dj bs1 ms2 := by intro i h; first | rfl | exact absurd h Bool.false_ne_true | (simp [lentM] at h ⊢ <;> omega)) : VO G N S .z (msU ms1 ms2) (.BinOp a .FloorDiv b pos) (fOp2 oFdiv fa fb) := .op (fun _ _ => op_fdivW) ru_fdiv ha hb dj
theorem VO.mod (ha : VB G N S bs1 ms1 a fa) (hb : VB G N S bs2 ms2 b fb) (dj : Dj bs1 ms2 := by intro i h; first | rfl | exact absurd h Bool.false_ne_true | (simp [lentM] at h ⊢ <;> omega)) : VO G N S .z (msU ms1 ms2) (.BinOp a .Mod b pos) (fOp2 oMod fa fb) := .op (fun _ _ => op_mod) ru_mod ha hb dj
/-- a comparison by name, as a value and as a test -/
structure Cm (G : GC) (N : List Str) (S : SC) (op : CmpOp) (o : D → D → Option D) : Prop where
  ex : ∃ r, (∀ R, At G.mg.hx S N (mkX G N R) → OpR (mkX G N R) (compareOp op) r) ∧ Ru2 G r .z o
theorem Cm.eq (hc : True := trivial) : Cm G N S .Eq oEq := ⟨_, fun _ a => op_eqV (a.u100 hc), ru_eq⟩
theorem Cm.ne (hc : True := trivial) : Cm G N S .NotEq oNe := ⟨_, fun _ a => op_neV (a.u100 hc), ru_ne⟩
theorem Cm.lt : Cm G N S .Lt oLtI := ⟨_, fun _ _ => op_rI0 op_lt, ru_ltI⟩
theorem Cm.le : Cm G N S .LtE oLeI := ⟨_, fun _ _ => op_rI0 op_le, ru_leI⟩
theorem Cm.gt : Cm G N S .Gt oGtI := ⟨_, fun _ _ => op_rI0 op_gt, ru_gtI⟩
theorem Cm.ge : Cm G N S .GtE oGeI := ⟨_, fun _ _ => op_rI0 op_ge, ru_geI⟩
theorem Cm.is : Cm G N S .Is oIs := ⟨_, fun _ _ => op_isV, ru_is⟩
theorem VO.cp {op : CmpOp} {o : D → D → Option D} (c : Cm G N S op o) (ha : VB G N S bs1 ms1 a fa) (hb : VB G N S bs2 ms2 b fb) (dj : Dj bs1 ms2 := by intro i h; first | rfl | exact absurd h Bool.false_ne_true | (simp [lentM] at h ⊢ <;> omega)) (hm : behindInMarks op b = false := by first | exact nomark _ | rfl) : VO G N S .z (msU ms1 ms2) (.Compare a [op] [b] pos) (fOp2 o fa fb) := by
  obtain ⟨r, h1, h2⟩ := c.ex
  exact .cmp h1 h2 ha hb dj hm
theorem VT.cp {op : CmpOp} {o : D → D → Option D} (c : Cm G N S op o) (ha : VB G N S bs1 ms1 a fa) (hb : VB G N S bs2 ms2 b fb) (dj : Dj bs1 ms2 := by intro i h; first | rfl | exact absurd h Bool.false_ne_true | (simp [lentM] at h ⊢ <;> omega)) (hm : behindInMarks op b = false := by first | exact nomark _ | rfl) : VT G N S (msU ms1 ms2) (.Compare a [op] [b] pos) (fB (fOp2 o fa fb)) := by
  obtain ⟨r, h1, h2⟩ := c.ex
  exact .cmp h1 h2 ha hb dj hm
theorem VO.item (ha : VB G N S bs1 ms1 a fa) (hb : VB G N S bs2 ms2 b fb) (dj : Dj bs1 ms2 := by intro i h; first | rfl | exact absurd h Bool.false_ne_true | (simp [lentM] at h ⊢ <;> omega)) (hp : PlainIx b := by exact fun _ _ => rfl) : VO G N S .z (msU ms1 ms2) (.Subscript a b pos) (fOp2 oIx fa fb) := .ix (fun _ _ => ix_seq) ru_ix ha hb dj hp
theorem VO.cut {lo hi : Option Expr} {fl fh : M (Option Int)} {p2 : Pos} (ha : VB G N S bs1 ms1 e f) (hl : VP G N S ms2 lo fl) (hh : VP G N S ms3 hi fh) (dj : Dj bs1 ms2 := by intro i h; first | rfl | exact absurd h Bool.false_ne_true | (simp [lentM] at h ⊢ <;> omega)) (dj2 : Dj bs1 ms3 := by intro i h; first | rfl | exact absurd h Bool.false_ne_true | (simp [lentM] at h ⊢ <;> omega)) :
    VO G N S .z (msU ms1 (msU ms2 ms3)) (.Subscript e (.Slice lo hi none p2) pos) (fSl oCut f fl fh) := .sl (fun _ _ => sl_V) ru_cut ha hl hh dj dj2
theorem VO.cutL {lo hi : Option Expr} {fl fh : M (Option Int)} {p2 : Pos} (ha : VB G N S bs1 ms1 e f) (hl : VP G N S ms2 lo fl) (hh : VP G N S ms3 hi fh) (dj : Dj bs1 ms2 := by intro i h; first | rfl | exact absurd h Bool.false_ne_true | (simp [lentM] at h ⊢ <;> omega)) (dj2 : Dj bs1 ms3 := by intro i h; first | rfl | exact absurd h Bool.false_ne_true | (simp [lentM] at h ⊢ <;> omega)) :
    VO G N S m1 (msU ms1 (msU ms2 ms3)) (.Subscript e (.Slice lo hi none p2) pos) (fSl oCutL f fl fh) := .sl (fun _ _ => sl_list) (ru_cutL (.inr rfl)) ha hl hh dj dj2
/-! ### built-ins by name -/
variable {p : Pos}
theorem VO.len (hm : G.mg "len" = none) (ha : VA G N S bs ms (e :: es) fs) (hg : Glb S "len" := by rfl) (he : ∀ env, starEach (e :: es) env = (false, eval e env) :: starEach es env := by intro _; rfl) (hpl : ∀ env, (backTo pos (starEach es env)).any (·.1) = false := by intro _; rfl) :
    VO G N S .z ms (.Call (.Name "len" p) (e :: es) [] pos) (fA oLen fs) := .callB (fun _ _ => call_len) ru_len hm boot_len ha hg (by decide) (by decide) he hpl
theorem VO.all (hm : G.mg "all" = none) (ha : VA G N S bs ms (e :: es) fs) (hc : S.cm = true := by rfl) (hg : Glb S "all" := by rfl) (he : ∀ env, starEach (e :: es) env = (false, eval e env) :: starEach es env := by intro _; rfl) (hpl : ∀ env, (backTo pos (starEach es env)).any (·.1) = false := by intro _; rfl) :
    VO G N S .z ms (.Call (.Name "all" p) (e :: es) [] pos) (fA oAll fs) := .callB (fun _ a => cr_all (a.calm.trans hc)) ru_all hm (by decide +kernel) ha hg (by decide) (by decide) he hpl
theorem VO.any (hm : G.mg "any" = none) (ha : VA G N S bs ms (e :: es) fs) (hc : S.cm = true := by rfl) (hg : Glb S "any" := by rfl) (he : ∀ env, starEach (e :: es) env = (false, eval e env) :: starEach es env := by intro _; rfl) (hpl : ∀ env, (backTo pos (starEach es env)).any (·.1) = false := by intro _; rfl) :
    VO G N S .z ms (.Call (.Name "any" p) (e :: es) [] pos) (fA oAny fs) := .callB (fun _ a => cr_any (a.calm.trans hc)) ru_any hm (by decide +kernel) ha hg (by decide) (by decide) he hpl
theorem VO.list (hm : G.mg "list" = none) (ha : VA G N S bs ms (e :: es) fs) (hg : Glb S "list" := by rfl) (he : ∀ env, starEach (e :: es) env = (false, eval e env) :: starEach es env := by intro _; rfl) (hpl : ∀ env, (backTo pos (starEach es env)).any (·.1) = false := by intro _; rfl) :
    VO G N S m1 ms (.Call (.Name "list" p) (e :: es) [] pos) (fA oList fs) := .callTy (fun _ _ => call_list_of) (ru_list (.inr rfl)) hm (by decide +kernel) ha hg (by decide) (by decide) he hpl
theorem VO.tuple (hm : G.mg "tuple" = none) (ha : VA G N S bs ms (e :: es) fs) (hg : Glb S "tuple" := by rfl) (he : ∀ env, starEach (e :: es) env = (false, eval e env) :: starEach es env := by intro _; rfl) (hpl : ∀ env, (backTo pos (starEach es env)).any (·.1) = false := by intro _; rfl) :
    VO G N S .z ms (.Call (.Name "tuple" p) (e :: es) [] pos) (fA oTuple fs) := .callTy (fun _ _ => call_tuple_of) ru_tuple hm (by decide +kernel) ha hg (by decide) (by decide) he hpl
/-! ### walked: a list, a tuple, a text -/
def anyL : D → Option (List D)
  | .lst ds => some ds
  | .scr ns => some (ns.map .int)
  | .tup ds => some ds
  | .str s => some (s.map fun c => .str [c])
  | _ => none
def iAny (f : M D) : M (List D) := fun r => (f r).bind fun d => rM (anyL d)
theorem PI.or {X : Cx} {tg e : Expr} {t t' : TI} (h : PI X tg e t) (h' : PI X tg e t') : PI X tg e fun σ H R => t σ H R ∨ t' σ H R :=
  ⟨fun pins s σ H Q I w => w.elim (h.run pins s σ H Q I) (h'.run pins s σ H Q I)⟩
theorem VI.any (h : VO G N S .z ms e f) : VI G N S ms0 ms tg e (iAny f) := by
  refine fun R a W t => PI.imp (PI.or ((VI.lst (tg := tg) h.vb) R a W t) (PI.or ((VI.tup (tg := tg) h) R a W t) ((VI.str (bs := ms0) (tg := tg) h) R a W t))) fun σ H Q ⟨ρ, H0, c, l, o⟩ => ?_
  cases hf : f ρ with
  | ok d r =>
    have e1 : iAny f ρ = rM (anyL d) r := by unfold iAny; rw [hf]; rfl
    rw [e1] at o
    cases d with
    | lst ds => exact .inl ⟨ρ, H0, c, l, by unfold iLst; rw [hf]; exact o⟩
    | scr ds => exact .inl ⟨ρ, H0, c, l, by unfold iLst; rw [hf]; exact o⟩
    | tup ds => exact .inr (.inl ⟨ρ, H0, c, l, by unfold iTup; rw [hf]; exact o⟩)
    | str ds => exact .inr (.inr ⟨ρ, H0, c, l, by unfold iStrs; rw [hf]; exact o⟩)
    | _ => exact o.elim
  | exc n ns vs r => exact .inl ⟨ρ, H0, c, l, by unfold iLst; unfold iAny at o; rw [hf] at o ⊢; exact o⟩
  | bad => exact .inl ⟨ρ, H0, c, l, by unfold iLst; unfold iAny at o; rw [hf] at o ⊢; exact o⟩
end
end Vm
set_option Elab.async false
set_option linter.all false
set_option maxRecDepth 100000
set_option maxHeartbeats 4000000
namespace Vm
open L2
/-! ### the readings, applied -/
section
variable {α : Type} (s0 : Sl) (r : En) (f fa fb : M D) (fs : M (List D)) (fi : M (List D)) (g g1 g2 gb : M Fl) (gt : D → M Fl) (o : D → D → Option D) (oa : List D → Option D) (os : D → Option Int → Option Int → Option D) (i : Nat) (m : Md) (d : D) (ds : List D)
/-- a number goes on -/
def onI (k : Int → M α) (d : D) : M α := fun r => match d with
  | .int i => k i r
  | _ => .bad
@[simp] theorem onI_int (k : Int → M α) (j : Int) : onI k (.int j) r = k j r := rfl
@[simp] theorem eC_ap : eC d (s0 :: r) = .ok d (s0 :: r) := rfl
def evS : Sl → M D
  | some (.z, d) => fun r => .ok d r
  | some (_, d) => fun r => if atom d = true then .ok d r else .bad
  | none => fun _ => .bad
def ebS : Sl → M D
  | some (.z, d) => fun r => .ok d r
  | some (.o (.all .z), d) => fun r => if lend d = true then .ok d r else .bad
  | _ => fun _ => .bad
theorem eVar_def : eVar i r = evS (getS r i) r := by
  unfold eVar evS
  cases getS r i with
  | none => rfl
  | some p =>
    obtain ⟨m, d⟩ := p
    cases m <;> rfl
theorem eBor_def : eBor i r = ebS (getS r i) r := by
  unfold eBor ebS
  cases getS r i with
  | none => rfl
  | some p =>
    obtain ⟨m, d⟩ := p
    cases m with
    | z => rfl
    | f k => rfl
    | t => rfl
    | o k => cases k with
      | all m => cases m <;> rfl
      | one => rfl
@[simp] theorem eVar_ap : eVar i (s0 :: r) = evS (getS (s0 :: r) i) (s0 :: r) := eVar_def _ _
@[simp] theorem eBor_ap : eBor i (s0 :: r) = ebS (getS (s0 :: r) i) (s0 :: r) := eBor_def _ _
@[simp] theorem evS_z : evS (some (.z, d)) r = .ok d r := rfl
@[simp] theorem evS_o (k : Kd) : evS (some (.o k, d)) r = if atom d = true then .ok d r else .bad := rfl
@[simp] theorem ebS_z : ebS (some (.z, d)) r = .ok d r := rfl
@[simp] theorem ebS_o : ebS (some (.o (.all .z), d)) r = if lend d = true then .ok d r else .bad := rfl
@[simp] theorem lend_lst : lend (.lst ds) = true := rfl
@[simp] theorem fOp2_ap : fOp2 o fa fb (s0 :: r) = (fa (s0 :: r)).bind fun x r => (fb r).bind fun y r => rM (o x y) r := rfl
@[simp] theorem fNil_ap : fNil (s0 :: r) = .ok [] (s0 :: r) := rfl
@[simp] theorem fCons_ap : fCons f fs (s0 :: r) = (f (s0 :: r)).bind fun d r => (fs r).bind fun ds r => .ok (d :: ds) r := rfl
@[simp] theorem fLst_ap : fLst fs (s0 :: r) = (fs (s0 :: r)).bind fun ds r => .ok (.lst ds) r := rfl
@[simp] theorem fTup_ap : fTup fs (s0 :: r) = (fs (s0 :: r)).bind fun ds r => .ok (.tup ds) r := rfl
/-- a truth goes on -/
def onB (k : Bool → M α) (d : D) : M α := fun r => match d with
  | .bl b => k b r
  | _ => .bad
@[simp] theorem onB_bl (k : Bool → M α) (b : Bool) : onB k (.bl b) r = k b r := rfl
@[simp] theorem fB_ap : fB f (s0 :: r) = (f (s0 :: r)).bind fun d r => onB (fun b r => .ok (.bl b) r) d r := by
  unfold fB
  congr 1
@[simp] theorem fAnd_ap : fAnd fa fb (s0 :: r) = (fa (s0 :: r)).bind fun d r => onB (fun b r => if b = true then fb r else .ok (.bl false) r) d r := by
  unfold fAnd
  congr 1
  funext d r
  cases d with
  | bl b => cases b <;> rfl
  | _ => rfl
@[simp] theorem fOr_ap : fOr fa fb (s0 :: r) = (fa (s0 :: r)).bind fun d r => onB (fun b r => if b = true then .ok (.bl true) r else fb r) d r := by
  unfold fOr
  congr 1
  funext d r
  cases d with
  | bl b => cases b <;> rfl
  | _ => rfl
@[simp] theorem fNot_ap : fNot fa (s0 :: r) = (fa (s0 :: r)).bind fun d r => onB (fun b r => .ok (.bl !b) r) d r := by
  unfold fNot
  congr 1
@[simp] theorem fIf_ap (ft : M D) (ga gb : M α) : fIf ft ga gb (s0 :: r) = (ft (s0 :: r)).bind fun d r => onB (fun b r => if b = true then ga r else gb r) d r := by
  unfold fIf
  congr 1
  funext d r
  cases d with
  | bl b => cases b <;> rfl
  | _ => rfl
@[simp] theorem fNeg_ap : fNeg fa (s0 :: r) = (fa (s0 :: r)).bind fun d r => onI (fun i r => .ok (.int (-i)) r) d r := rfl
@[simp] theorem fA_ap : fA oa fs (s0 :: r) = (fs (s0 :: r)).bind fun ds r => rM (oa ds) r := rfl
@[simp] theorem fIsi_ap (T : PyT) : fIsi T f (s0 :: r) = (f (s0 :: r)).bind fun d r => rM ((isT T d).map .bl) r := rfl
@[simp] theorem fNoP_ap : fNoP (s0 :: r) = .ok none (s0 :: r) := rfl
@[simp] theorem fPart_ap : fPart f (s0 :: r) = (f (s0 :: r)).bind fun d r => onI (fun i r => .ok (some i) r) d r := rfl
@[simp] theorem fSl_ap (fl fh : M (Option Int)) : fSl os f fl fh (s0 :: r) = (f (s0 :: r)).bind fun d r => (fl r).bind fun lo r => (fh r).bind fun hi r => rM (os d lo hi) r := rfl
/-- a statement's end goes on -/
def onF (k : M Fl) (fl : Fl) : M Fl := fun r => match fl with
  | .nx => k r
  | .bk => .ok .bk r
  | .ct => .ok .ct r
  | .rt d => .ok (.rt d) r
@[simp] theorem onF_nx (k : M Fl) : onF k .nx r = k r := rfl
@[simp] theorem onF_bk (k : M Fl) : onF k .bk r = .ok .bk r := rfl
@[simp] theorem onF_ct (k : M Fl) : onF k .ct r = .ok .ct r := rfl
@[simp] theorem onF_rt (k : M Fl) : onF k (.rt d) r = .ok (.rt d) r := rfl
@[simp] theorem gSeq_ap : gSeq g1 g2 (s0 :: r) = (g1 (s0 :: r)).bind (onF g2) := rfl
@[simp] theorem gNx_ap : gNx (s0 :: r) = .ok .nx (s0 :: r) := rfl
@[simp] theorem gBk_ap : gBk (s0 :: r) = .ok .bk (s0 :: r) := rfl
@[simp] theorem gCt_ap : gCt (s0 :: r) = .ok .ct (s0 :: r) := rfl
@[simp] theorem gDo_ap : gDo f (s0 :: r) = (f (s0 :: r)).bind fun _ r => .ok .nx r := rfl
@[simp] theorem gRet_ap : gRet f (s0 :: r) = (f (s0 :: r)).bind fun d r => .ok (.rt d) r := rfl
@[simp] theorem gRetN_ap : gRetN (s0 :: r) = .ok (.rt .non) (s0 :: r) := rfl
@[simp] theorem gSet_ap : gSet i m f (s0 :: r) = (f (s0 :: r)).bind fun d r => .ok .nx (r.set i (some (m, d))) := rfl
@[simp] theorem gAsg_ap : gAsg gt f (s0 :: r) = (f (s0 :: r)).bind gt := rfl
@[simp] theorem tName_ap : tName i d (s0 :: r) = .ok .nx ((s0 :: r).set i (some (.z, d))) := rfl
@[simp] theorem tNil_ap : tNil [] (s0 :: r) = .ok .nx (s0 :: r) := rfl
@[simp] theorem tCon_ap (gs : List D → M Fl) : tCon gt gs (d :: ds) (s0 :: r) = (gt d (s0 :: r)).bind (onF (gs ds)) := rfl
@[simp] theorem tTupl_ap (n : Nat) (gs : List D → M Fl) : tTupl n gs (.tup ds) (s0 :: r) = if ds.length = n then gs ds (s0 :: r) else .bad := by
  show (if ds.length = n then gs ds else fun _ => Res.bad) (s0 :: r) = _
  split <;> rfl
@[simp] theorem gFor_ap : gFor fi gt gb (s0 :: r) = (fi (s0 :: r)).bind fun ds r => gLoop gt gb ds r := rfl
@[simp] theorem lpK_nx (k : M Fl) : lpK k .nx r = k r := rfl
@[simp] theorem lpK_ct (k : M Fl) : lpK k .ct r = k r := rfl
@[simp] theorem lpK_bk (k : M Fl) : lpK k .bk r = .ok .nx r := rfl
@[simp] theorem lpK_rt (k : M Fl) : lpK k (.rt d) r = .ok (.rt d) r := rfl
@[simp] theorem iAny_ap : iAny f (s0 :: r) = (f (s0 :: r)).bind fun d r => rM (anyL d) r := rfl
@[simp] theorem iLst_ap : iLst f (s0 :: r) = (f (s0 :: r)).bind fun d r => rM (asLst d) r := by
  unfold iLst
  congr 1
  funext d r
  cases d <;> rfl
@[simp] theorem iEnm_ap : iEnm f (s0 :: r) = (f (s0 :: r)).bind fun d r => rM ((asLst d).map (enumD 0)) r := rfl
@[simp] theorem iZp_ap : iZp fa fb (s0 :: r) = (fa (s0 :: r)).bind fun x r => (fb r).bind fun y r => rM ((asLst x).bind fun xs => (asLst y).map fun ys => zipD xs ys) r := rfl
@[simp] theorem iRevd_ap : iRevd f (s0 :: r) = (f (s0 :: r)).bind fun d r => rM ((asLst d).map List.reverse) r := rfl
@[simp] theorem iRng_ap : iRng f (s0 :: r) = (f (s0 :: r)).bind fun d r => onI (fun j r => if j ≤ 16777216 ∧ -4611686018427387904 ≤ j then .ok (rngD 0 j.toNat) r else .bad) d r := by
  unfold iRng
  congr 1
@[simp] theorem iRng2_ap : iRng2 fa fb (s0 :: r) = (fa (s0 :: r)).bind fun x r => (fb r).bind fun y r => onI (fun i r => onI (fun j r => if j - i ≤ 16777216 ∧ -2305843009213693952 ≤ i ∧ i ≤ 2305843009213693952 ∧ -2305843009213693952 ≤ j then .ok (rngD i (j - i).toNat) r else .bad) y r) x r := by
  unfold iRng2
  congr 1
  funext x r
  congr 1
  funext y r
  cases x <;> cases y <;> rfl
@[simp] theorem anyL_lst : anyL (.lst ds) = some ds := rfl
@[simp] theorem anyL_tup : anyL (.tup ds) = some ds := rfl
@[simp] theorem anyL_str (s : List Nat) : anyL (.str s) = some (s.map fun c => .str [c]) := rfl
@[simp] theorem anyL_scr (s : List Int) : anyL (.scr s) = some (s.map .int) := rfl
@[simp] theorem asLst_lst : asLst (.lst ds) = some ds := rfl
@[simp] theorem asLst_scr (s : List Int) : asLst (.scr s) = some (s.map .int) := rfl
@[simp] theorem fCall_ap (F : M D) (ls : List (Option Nat)) : fCall F ls fs (s0 :: r) = (fs (s0 :: r)).bind fun ds r => match F (mkArgs ls ds r) with
  | .ok d rp => .ok d (putBack ls rp r)
  | .exc n ns vs rp => .exc n ns vs (putBack ls rp r)
  | .bad => .bad := rfl
@[simp] theorem mkArgs_nil : mkArgs [] ds r = [] := rfl
@[simp] theorem mkArgs_z (ls : List (Option Nat)) : mkArgs (none :: ls) (d :: ds) r = some (.z, d) :: mkArgs ls ds r := rfl
@[simp] theorem mkArgs_l (ls : List (Option Nat)) : mkArgs (some i :: ls) ds r = getS r i :: mkArgs ls ds r := rfl
@[simp] theorem putBack_nil (rp : En) : putBack [] rp r = r := rfl
@[simp] theorem putBack_z (ls : List (Option Nat)) (rp : En) : putBack (none :: ls) rp r = putBack ls rp.tail r := rfl
@[simp] theorem putBack_l (ls : List (Option Nat)) (rp : En) : putBack (some i :: ls) rp r = putBack ls rp.tail (r.set i (getS rp 0)) := rfl
@[simp] theorem fLc_ap (own : List Nat) (ft fe : M D) : fLc own fi gt ft fe (s0 :: r) = (fi (s0 :: r)).bind fun ds r => (gLc own gt ft fe ds (wipeE own r)).bind fun ys r' => .ok (.lst ys) (restE r own r') := rfl
@[simp] theorem lcT_ap (own : List Nat) (fe : M D) (k : M (List D)) (b : Bool) : lcT own fe k (.bl b) r = if b = true then (noX (fe r)).bind fun y r => (k (wipeE own r)).bind fun ys r => .ok (y :: ys) r else k (wipeE own r) := by
  cases b <;> rfl
@[simp] theorem wipeE_nil : wipeE [] r = r := rfl
@[simp] theorem wipeE_cons (is : List Nat) : wipeE (i :: is) r = (wipeE is r).set i none := rfl
/-- what is given back -/
def bkS : Sl → Sl
  | some (.z, d) => some (.z, d)
  | _ => none
@[simp] theorem bkS_none : bkS none = none := rfl
@[simp] theorem bkS_z : bkS (some (.z, d)) = some (.z, d) := rfl
@[simp] theorem restE_nil (r0 : En) : restE r0 [] r = r := rfl
@[simp] theorem restE_cons (r0 : En) (is : List Nat) : restE r0 (i :: is) r = (restE r0 is r).set i (bkS (getS r0 i)) := by
  show (restE r0 is r).set i _ = _
  congr 1
/-- a def's end -/
def onR (io : List Bool) : Res Fl → Res D
  | .ok (.rt d) r => .ok d (ioEnd io 0 r)
  | .ok .nx r => .ok .non (ioEnd io 0 r)
  | .ok _ _ => .bad
  | .exc c ns vs r => .exc c ns vs (ioEnd io 0 r)
  | .bad => .bad
@[simp] theorem onR_rt (io : List Bool) : onR io (.ok (.rt d) r) = .ok d (ioEnd io 0 r) := rfl
@[simp] theorem onR_nx (io : List Bool) : onR io (.ok .nx r) = .ok .non (ioEnd io 0 r) := rfl
@[simp] theorem onR_bad (io : List Bool) : onR io .bad = .bad := rfl
@[simp] theorem onR_exc (io : List Bool) (c : PySem.Str) (ns : List PySem.Str) (vs : List D) : onR io (.exc c ns vs r) = .exc c ns vs (ioEnd io 0 r) := rfl
theorem fnRun_ap (io : List Bool) (n : Nat) : fnRun io n g r = onR io (g (r ++ List.replicate n none)) := by
  unfold fnRun
  cases g (r ++ List.replicate n none) with
  | ok fl r => cases fl <;> rfl
  | _ => rfl
end
/-! ### cases -/
section
variable {α β : Type} {x y : Res α} {d d' : D} {r r' : En} {fl fl' : Fl}
@[simp] theorem bind_ite {c : Prop} [Decidable c] {f : α → M β} : (if c then x else y).bind f = if c then x.bind f else y.bind f := by split <;> rfl
@[simp] theorem rM_ite {c : Prop} [Decidable c] {a b : Option α} : rM (if c then a else b) r = if c then rM a r else rM b r := by split <;> rfl
@[simp] theorem noX_ite {c : Prop} [Decidable c] : noX (if c then x else y) = if c then noX x else noX y := by split <;> rfl
end
/-! ### equality, by kinds -/
@[simp] theorem plain_non : plain .non = true := rfl
@[simp] theorem plain_bl (b : Bool) : plain (.bl b) = true := rfl
@[simp] theorem plain_int (b : Int) : plain (.int b) = true := rfl
@[simp] theorem plain_str (b : List Nat) : plain (.str b) = true := rfl
@[simp] theorem plain_tup (b : List D) : plain (.tup b) = plains b := rfl
@[simp] theorem plain_lst (b : List D) : plain (.lst b) = plains b := rfl
@[simp] theorem plain_dct (b c : List D) : plain (.dct b c) = false := rfl
@[simp] theorem plain_dnt (b c : List D) : plain (.dnt b c) = false := rfl
@[simp] theorem plains_nil : plains [] = true := rfl
@[simp] theorem plains_cons (d : D) (ds : List D) : plains (d :: ds) = (plain d && plains ds) := rfl
@[simp] theorem dep_non : dep .non = 0 := rfl
@[simp] theorem dep_bl (b : Bool) : dep (.bl b) = 0 := rfl
@[simp] theorem dep_int (b : Int) : dep (.int b) = 0 := rfl
@[simp] theorem dep_str (b : List Nat) : dep (.str b) = 0 := rfl
@[simp] theorem dep_tup (b : List D) : dep (.tup b) = deps b + 1 := rfl
@[simp] theorem dep_lst (b : List D) : dep (.lst b) = deps b + 1 := rfl
@[simp] theorem deps_nil : deps [] = 0 := rfl
@[simp] theorem deps_cons (d : D) (ds : List D) : deps (d :: ds) = max (dep d) (deps ds) := rfl
@[simp] theorem eqD_int (i j : Int) : eqD (.int i) (.int j) = (i == j) := rfl
@[simp] theorem eqD_bl (i j : Bool) : eqD (.bl i) (.bl j) = (i == j) := rfl
@[simp] theorem eqD_str (i j : List Nat) : eqD (.str i) (.str j) = (i == j) := rfl
@[simp] theorem eqD_lst (i j : List D) : eqD (.lst i) (.lst j) = eqDs i j := rfl
@[simp] theorem eqD_tup (i j : List D) : eqD (.tup i) (.tup j) = eqDs i j := rfl
@[simp] theorem eqD_is (i : Int) (j : List Nat) : eqD (.int i) (.str j) = false := rfl
@[simp] theorem eqD_si (i : Int) (j : List Nat) : eqD (.str j) (.int i) = false := rfl
@[simp] theorem eqD_ls (i : List D) (j : List Nat) : eqD (.lst i) (.str j) = false := rfl
@[simp] theorem eqD_ts (i : List D) (j : List Nat) : eqD (.tup i) (.str j) = false := rfl
@[simp] theorem eqD_sl (i : List D) (j : List Nat) : eqD (.str j) (.lst i) = false := rfl
@[simp] theorem eqD_st (i : List D) (j : List Nat) : eqD (.str j) (.tup i) = false := rfl
@[simp] theorem eqDs_nil : eqDs [] [] = true := rfl
@[simp] theorem eqDs_nc (d : D) (ds : List D) : eqDs [] (d :: ds) = false := rfl
@[simp] theorem eqDs_cn (d : D) (ds : List D) : eqDs (d :: ds) [] = false := rfl
@[simp] theorem eqDs_cons (d e : D) (ds es : List D) : eqDs (d :: ds) (e :: es) = (eqD d e && eqDs ds es) := rfl
@[simp] theorem oEq_str (s t : List Nat) : oEq (.str s) (.str t) = some (.bl (s == t)) := rfl
@[simp] theorem oEq_int (s t : Int) : oEq (.int s) (.int t) = some (.bl (s == t)) := rfl
@[simp] theorem oEq_bl (s t : Bool) : oEq (.bl s) (.bl t) = some (.bl (s == t)) := rfl
@[simp] theorem oNe_str (s t : List Nat) : oNe (.str s) (.str t) = some (.bl (!(s == t))) := rfl
@[simp] theorem oNe_int (s t : Int) : oNe (.int s) (.int t) = some (.bl (!(s == t))) := rfl
@[simp] theorem oNe_bl (s t : Bool) : oNe (.bl s) (.bl t) = some (.bl (!(s == t))) := rfl
@[simp] theorem oLtI_int (i j : Int) : oLtI (.int i) (.int j) = some (.bl (decide (i < j))) := rfl
@[simp] theorem oLeI_int (i j : Int) : oLeI (.int i) (.int j) = some (.bl (decide (i ≤ j))) := rfl
@[simp] theorem oGtI_int (i j : Int) : oGtI (.int i) (.int j) = some (.bl (decide (j < i))) := rfl
@[simp] theorem oGeI_int (i j : Int) : oGeI (.int i) (.int j) = some (.bl (decide (j ≤ i))) := rfl
@[simp] theorem oSub_int (i j : Int) : oSub (.int i) (.int j) = some (.int (i - j)) := rfl
@[simp] theorem oAdd_int (i j : Int) : oAdd (.int i) (.int j) = some (.int (i + j)) := rfl
@[simp] theorem oAdd_str (i j : List Nat) : oAdd (.str i) (.str j) = if i.length + j.length ≤ 16777216 then some (.str (i ++ j)) else none := by simp [oAdd]
@[simp] theorem oAdd_lst (i j : List D) : oAdd (.lst i) (.lst j) = if i.length + j.length ≤ 16777216 then some (.lst (i ++ j)) else none := by simp [oAdd]
@[simp] theorem oAdd_tup (i j : List D) : oAdd (.tup i) (.tup j) = if i.length + j.length ≤ 16777216 then some (.tup (i ++ j)) else none := by simp [oAdd]
@[simp] theorem oFdiv_int (i j : Int) : oFdiv (.int i) (.int j) = if divOk i j = true then some (.int (i / j)) else none := rfl
@[simp] theorem oMod_int (i j : Int) : oMod (.int i) (.int j) = if 0 < j then some (.int (i % j)) else none := by simp [oMod, oI2, modOk]
@[simp] theorem oMul_int (i j : Int) : oMul (.int i) (.int j) = if mulOk i j = true then some (.int (i * j)) else none := rfl
@[simp] theorem oLen_str (s : List Nat) : oLen [.str s] = some (.int s.length) := rfl
@[simp] theorem oLen_lst (s : List D) : oLen [.lst s] = some (.int s.length) := rfl
@[simp] theorem oLen_tup (s : List D) : oLen [.tup s] = some (.int s.length) := rfl
@[simp] theorem oLen_scr (s : List Int) : oLen [.scr s] = some (.int s.length) := rfl
@[simp] theorem oIx_lst (s : List D) (i : Int) : oIx (.lst s) (.int i) = atI s i := rfl
@[simp] theorem oIx_tup (s : List D) (i : Int) : oIx (.tup s) (.int i) = atI s i := rfl
@[simp] theorem oIx_str (s : List Nat) (i : Int) : oIx (.str s) (.int i) = (atI s i).map fun c => .str [c] := rfl
@[simp] theorem oIx_scr (s : List Int) (i : Int) : oIx (.scr s) (.int i) = (atI s i).map .int := rfl
@[simp] theorem oCut_str (s : List Nat) (lo hi : Option Int) : oCut (.str s) lo hi = some (.str (cutL s lo hi)) := rfl
@[simp] theorem oCut_lst (s : List D) (lo hi : Option Int) : oCut (.lst s) lo hi = some (.lst (cutL s lo hi)) := rfl
@[simp] theorem oCut_tup (s : List D) (lo hi : Option Int) : oCut (.tup s) lo hi = some (.tup (cutL s lo hi)) := rfl
@[simp] theorem oCut_scr (s : List Int) (lo hi : Option Int) : oCut (.scr s) lo hi = some (.lst (cutL (s.map .int) lo hi)) := rfl
@[simp] theorem oIn_tup (d : D) (cs : List D) : oIn d (.tup cs) = if inOk d cs = true then some (.bl (cs.any fun y => eqD y d)) else none := rfl
@[simp] theorem oIn_lst (d : D) (cs : List D) : oIn d (.lst cs) = if inOk d cs = true then some (.bl (cs.any fun y => eqD y d)) else none := rfl
@[simp] theorem oIn_str (c : Nat) (s : List Nat) : oIn (.str [c]) (.str s) = some (.bl (decide (c ∈ s))) := rfl
@[simp] theorem oNotIn_tup (d : D) (cs : List D) : oNotIn d (.tup cs) = if inOk d cs = true then some (.bl (!(cs.any fun y => eqD y d))) else none := by
  unfold oNotIn
  rw [oIn_tup]
  by_cases h : inOk d cs = true
  · rw [if_pos h, if_pos h]
  · rw [if_neg h, if_neg h]
@[simp] theorem oNotIn_lst (d : D) (cs : List D) : oNotIn d (.lst cs) = if inOk d cs = true then some (.bl (!(cs.any fun y => eqD y d))) else none := by
  unfold oNotIn
  rw [oIn_lst]
  by_cases h : inOk d cs = true
  · rw [if_pos h, if_pos h]
  · rw [if_neg h, if_neg h]
@[simp] theorem oNotIn_str (c : Nat) (s : List Nat) : oNotIn (.str [c]) (.str s) = some (.bl (!decide (c ∈ s))) := rfl
/-- texts of one sign, atoms: they may be compared -/
theorem plains_of {ds : List D} (h : ∀ d ∈ ds, plain d = true) : plains ds = true := by
  induction ds with
  | nil => rfl
  | cons d ds ih => rw [plains_cons, h d List.mem_cons_self, ih fun e he => h e (List.mem_cons_of_mem _ he)]; rfl
theorem deps_of {ds : List D} {n : Nat} (h : ∀ d ∈ ds, dep d ≤ n) : deps ds ≤ n := by
  induction ds with
  | nil => exact Nat.zero_le _
  | cons d ds ih => rw [deps_cons]; exact Nat.max_le.mpr ⟨h d List.mem_cons_self, ih fun e he => h e (List.mem_cons_of_mem _ he)⟩
@[simp] theorem bls_map (f : D → Bool) : ∀ ds : List D, bls (ds.map fun d => .bl (f d)) = some (ds.map f)
  | [] => rfl
  | d :: ds => by rw [List.map_cons, List.map_cons, bls, bls_map f ds]; rfl
theorem cutL_len {α : Type} (xs : List α) (lo hi : Option Int) : (cutL xs lo hi).length ≤ xs.length := by
  unfold cutL
  rw [List.length_take, List.length_drop]
  omega
@[simp] theorem oMul_str (s : List Nat) (n : Int) : oMul (.str s) (.int n) = if 0 ≤ n ∧ n ≤ 1000 ∧ s.length ≤ 1000 then some (.str (repS s n.toNat)) else none := by
  simp [oMul, and_assoc]
@[simp] theorem divOk_s (i j : Int) (h : 0 < j) (h2 : j < 4611686018427387904) : divOk i j = true := by
  unfold divOk
  rw [decide_eq_true h, Bool.true_and]
  refine decide_eq_true ?_
  have h3 : j.natAbs ≠ 0 := by omega
  have : j.natAbs.log2 < 62 := (Nat.log2_lt h3).mpr (by omega)
  omega
@[simp] theorem mulOk_r (i j : Int) (h : j.natAbs < 18446744073709551616) : mulOk i j = true := by
  unfold mulOk
  rw [decide_eq_true h]; simp
@[simp] theorem mulOk_l (i j : Int) (h : i.natAbs < 18446744073709551616) : mulOk i j = true := by
  unfold mulOk
  rw [decide_eq_true h]; simp
@[simp] theorem gLoop_nil (gt : D → M Fl) (gb : M Fl) (r : En) : gLoop gt gb [] r = .ok .nx r := rfl
@[simp] theorem gLoop_cons (gt : D → M Fl) (gb : M Fl) (d : D) (ds : List D) (r : En) : gLoop gt gb (d :: ds) r = (gt d r).bind fun _ r => (gb r).bind (lpK (gLoop gt gb ds)) := rfl
@[simp] theorem gLc_nil (own : List Nat) (gt : D → M Fl) (ft fe : M D) (r : En) : gLc own gt ft fe [] r = .ok [] r := rfl
@[simp] theorem gLc_cons (own : List Nat) (gt : D → M Fl) (ft fe : M D) (d : D) (ds : List D) (r : En) : gLc own gt ft fe (d :: ds) r = (noX (gt d r)).bind fun _ r => (noX (ft r)).bind (lcT own fe (gLc own gt ft fe ds)) := rfl
@[simp] theorem isT_bb (b : Bool) : isT .bool (.bl b) = some true := rfl
@[simp] theorem oIs_bb (a b : Bool) : oIs (.bl a) (.bl b) = some (.bl (decide (a = b))) := rfl
/-! ### loops by an invariant -/
theorem gLoop_inv {gt : D → M Fl} {gb : M Fl} (I : Nat → En → Prop) : ∀ (ds : List D) (k : Nat), (∀ i d r, ds[i]? = some d → I (k + i) r → ∃ r', (gt d r).bind (fun _ r => gb r) = .ok .nx r' ∧ I (k + i + 1) r') → ∀ r, I k r → ∃ r', gLoop gt gb ds r = .ok .nx r' ∧ I (k + ds.length) r'
  | [], k, _, r, h => ⟨r, rfl, h⟩
  | d :: ds, k, st, r, h => by
    obtain ⟨r1, e1, h1⟩ := st 0 d r rfl h
    obtain ⟨r2, e2, h2⟩ := gLoop_inv I ds (k + 1) (fun i d' r' hd hi => by
      have := st (i + 1) d' r' (by simpa using hd) (by rw [show k + (i + 1) = k + 1 + i by omega]; exact hi)
      rw [show k + (i + 1) = k + 1 + i by omega] at this
      exact this) r1 h1
    refine ⟨r2, ?_, by rw [List.length_cons, show k + (ds.length + 1) = k + 1 + ds.length by omega]; exact h2⟩
    have e0 : gLoop gt gb (d :: ds) r = ((gt d r).bind fun _ r => gb r).bind (lpK (gLoop gt gb ds)) := by
      show (gt d r).bind (fun _ r => (gb r).bind (lpK (gLoop gt gb ds))) = _
      cases gt d r <;> rfl
    rw [e0, e1]
    exact e2
/-- gathered: each one tested and told by plain functions -/
theorem gLc_map {own : List Nat} {gt : D → M Fl} {ft fe : M D} {p : D → Bool} {h : D → D} (W : En → Prop) : ∀ (ds : List D), (∀ d ∈ ds, ∀ r, W r → ∃ r1 r2, (noX (gt d r)) = .ok .nx r1 ∧ noX (ft r1) = .ok (.bl (p d)) r2 ∧ (p d = false → W (wipeE own r2)) ∧ (p d = true → ∃ r3, noX (fe r2) = .ok (h d) r3 ∧ W (wipeE own r3))) →
    ∀ r, W r → ∃ r', gLc own gt ft fe ds r = .ok ((ds.filter p).map h) r' ∧ W r'
  | [], _, r, w => ⟨r, rfl, w⟩
  | d :: ds, st, r, w => by
    obtain ⟨r1, r2, e1, e2, hf, ht⟩ := st d List.mem_cons_self r w
    have ih := gLc_map W ds (fun d' hd => st d' (List.mem_cons_of_mem _ hd))
    have e0 : gLc own gt ft fe (d :: ds) r = lcT own fe (gLc own gt ft fe ds) (.bl (p d)) r2 := by
      show (noX (gt d r)).bind (fun _ r => (noX (ft r)).bind (lcT own fe (gLc own gt ft fe ds))) = _
      rw [e1, bind_ok, e2, bind_ok]
    rw [e0, lcT_ap]
    cases hp : p d with
    | false =>
      rw [if_neg Bool.false_ne_true]
      obtain ⟨r', e3, w'⟩ := ih _ (hf hp)
      exact ⟨r', by rw [e3, List.filter_cons, hp]; rfl, w'⟩
    | true =>
      rw [if_pos rfl]
      obtain ⟨r3, e3, w3⟩ := ht hp
      obtain ⟨r', e4, w'⟩ := ih _ w3
      exact ⟨r', by rw [e3, bind_ok, e4, bind_ok, List.filter_cons, hp]; rfl, w'⟩
end Vm
set_option Elab.async false
set_option linter.all false
set_option maxRecDepth 100000
set_option maxHeartbeats 4000000
namespace Vm
open PySem PySem.Spec PyProof.Rows L2

/-! ### changed in place -/
mutual
def mdEq : Md → Md → Bool
  | .z, .z => true
  | .o a, .o b => kdEq a b
  | .f a, .f b => kdEq a b
  | .t, .t => true
  | _, _ => false
def kdEq : Kd → Kd → Bool
  | .all a, .all b => mdEq a b
  | .one a k, .one b l => mdEq a b && kdEq k l
  | _, _ => false
end
mutual
theorem mdEq_ok : ∀ {a b : Md}, mdEq a b = true → a = b
  | .z, .z, _ => rfl
  | .o a, .o b, h => by rw [kdEq_ok (a := a) (b := b) h]
  | .f a, .f b, h => by rw [kdEq_ok (a := a) (b := b) h]
  | .z, .o _, h => by cases h
  | .o _, .z, h => by cases h
  | .z, .f _, h => by cases h
  | .f _, .z, h => by cases h
  | .o _, .f _, h => by cases h
  | .f _, .o _, h => by cases h
  | .t, .t, _ => rfl
  | .t, .z, h => by cases h
  | .z, .t, h => by cases h
  | .t, .o _, h => by cases h
  | .o _, .t, h => by cases h
  | .t, .f _, h => by cases h
  | .f _, .t, h => by cases h
theorem kdEq_ok : ∀ {a b : Kd}, kdEq a b = true → a = b
  | .all a, .all b, h => by rw [mdEq_ok (a := a) (b := b) h]
  | .one a k, .one b l, h => by
    obtain ⟨h1, h2⟩ := Bool.and_eq_true_iff.mp (show (mdEq a b && kdEq k l) = true from h)
    rw [mdEq_ok h1, kdEq_ok h2]
  | .all _, .one _ _, h => by cases h
  | .one _ _, .all _, h => by cases h
end
section
variable {K : PySem.W.Frag} {mg : MG} {ms : Ms} {H0 H H0' H' : Hp} {c c' : Co} {σ : L2.St} {ρ : En} {d d' : D} {m m' : Md} {v : V} {i : Nat} {fp : List Addr}
/-- nodes of the slot i change, new ones are laid: the slot is given up -/
theorem Lies.chg (l : Lies K mg H0 H c σ ρ) (ch : ∀ a, H' a ≠ H a → c a = some i ∨ (c a = none ∧ H0 a = none)) (th : ∀ a o, H a = some o → ∃ o', H' a = some o') : Lies K mg H0 H' c σ (ρ.set i none) := by
  have k0 : ∀ a o, H0 a = some o → H' a = H a := fun a o e => Classical.byContradiction fun n => by
    rcases ch a n with z | ⟨_, z⟩
    · rw [l.apart a i z] at e; cases e
    · rw [z] at e; cases e
  refine ⟨fun a o e => by rw [k0 a o e]; exact l.sub a o e, l.hot, l.apart, fun a j e => ?_, by rw [List.length_set]; exact l.len, fun j m d e => ?_⟩
  · obtain ⟨o, q⟩ := l.there a j e
    exact th a o q
  · by_cases h : i = j
    · subst h
      by_cases hi : i < ρ.length
      · rw [getS_set_eq hi] at e; cases e
      · have : getS (ρ.set i none) i = none := by simp [getS, List.getD_eq_getElem?_getD, hi]
        rw [this] at e; cases e
    · rw [getS_set_ne h] at e
      obtain ⟨w, g, e1, o', nd', hc⟩ := l.slot j m d e
      refine ⟨w, g, e1, Ow.mono (Same.refl _) d m w g (fun a ha => Classical.byContradiction fun n => ?_) o', nd', hc⟩
      rcases ch a n with z | ⟨z, _⟩
      · rw [hc a ha] at z; exact h (Option.some.inj z).symm
      · rw [hc a ha] at z; cases z
theorem set_same {α : Type} {l : List α} {i : Nat} {x : α} (h : l[i]? = some x) : l.set i x = l := by
  apply List.ext_getElem?
  intro j
  by_cases e : i = j
  · subst e
    obtain ⟨hi, _⟩ := List.getElem?_eq_some_iff.mp h
    rw [List.getElem?_set_self hi, h]
  · rw [List.getElem?_set_ne e]
theorem Lies.modify (l : Lies K mg H0 H c σ ρ) (hs : σ[i]? = some (some v)) (ch : ∀ a, H' a ≠ H a → c a = some i ∨ (c a = none ∧ H0 a = none)) (th : ∀ a o, H a = some o → ∃ o', H' a = some o') (ow : Ow K mg H0 H' d' m' v fp) (nd : fp.Nodup)
    (nc : ∀ a ∈ fp, c a = none ∨ c a = some i) (n0 : ∀ a ∈ fp, H0 a = none) (ht : ∀ a ∈ fp, ∃ o, H' a = some o) : Lies K mg H0 H' (coSet c i fp) σ (ρ.set i (some (m', d'))) := by
  have l1 := (l.chg ch th).set ow nd nc n0 ht
  rw [set_same hs, List.set_set] at l1
  exact l1
theorem Step.modify {H1 : Hp} (s : Step ms H0 H c H0' H1 c') (hi : ms i = true) (ch : ∀ a, H' a ≠ H1 a → c' a = some i ∨ H a = none) (hf : ∀ a ∈ fp, c' a = some i ∨ H a = none ∨ ∃ j, c a = some j ∧ ms j = true) : Step ms H0 H c H0' H' (coSet c' i fp) := by
  have no : ∀ a o, H a = some o → (∀ j, c a = some j → ms j = false) → c' a ≠ some i := fun a o e k z => by
    rw [s.col a o e k] at z
    rw [k i z] at hi; cases hi
  refine ⟨fun a o e k => ?_, fun a o e k => ?_, s.grow, s.new0, fun a j e => ?_⟩
  · have e1 := s.keep a o e k
    rw [← e1]
    refine Classical.byContradiction fun n => ?_
    rcases ch a n with z | z
    · exact no a o e k z
    · rw [e] at z; cases z
  · have e2 := s.col a o e k
    have n1 := no a o e k
    have hn : a ∉ fp := fun z => by
      rcases hf a z with w | w | ⟨j, w, q⟩
      · exact n1 w
      · rw [e] at w; cases w
      · rw [k j w] at q; cases q
    unfold coSet
    rw [if_neg hn, if_neg n1, e2]
  · by_cases h : a ∈ fp
    · have ej : j = i := by rw [coSet_in h] at e; exact (Option.some.inj e).symm
      subst ej
      rcases hf a h with w | w | w
      · exact s.newc a _ w
      · exact .inr ⟨hi, .inl w⟩
      · exact .inr ⟨hi, .inr w⟩
    · exact s.newc a j (coSet_out h e).1
end
/-- the slot i holds a list -/
def isLs : D → Bool
  | .lst _ => true
  | _ => false
def rcvS : Sl → Bool
  | some (.o _, d) => isLs d
  | _ => false
def rcv {α : Type} (i : Nat) (k : M α) : M α := fun r => if rcvS (getS r i) = true then k r else .bad
/-- a list of one's own, its items at mode me -/
def lsS (me : Md) : Sl → Option (List D)
  | some (.o (.all m), .lst ds) => if mdEq m me = true then some ds else none
  | _ => none
theorem lsS_ok {me : Md} {s : Sl} {ds : List D} (h : lsS me s = some ds) : s = some (.o (.all me), .lst ds) := by
  unfold lsS at h
  split at h
  · split at h
    · rename_i q
      cases h
      rw [mdEq_ok q]
    · cases h
  · cases h
/-- a list of one's own is changed by what comes -/
def gMt (i : Nat) (me : Md) (g : D → List D → Option (List D)) (f : M D) : M Fl := rcv i fun r => (f r).bind fun d r => (rM (lsS me (getS r i)) r).bind fun ds r => (rM (g d ds) r).bind fun ds' r => .ok .nx (r.set i (some (.o (.all me), .lst ds')))
section
variable {G : GC} {N : List Str} {S : SC} {bs bs1 bs2 ms ms1 ms2 ms3 as as1 as2 : Ms} {m me rm : Md} {k : Kd} {e a b : Expr} {es : List Expr} {f fa fb : M D} {fs : M (List D)} {pos p apos : Pos} {i : Nat} {x : Str}
theorem rcv_at {K : PySem.W.Frag} {mg : MG} {H0 H : Hp} {c : Co} {σ : L2.St} {ρ : En} (l : Lies K mg H0 H c σ ρ) (h : rcvS (getS ρ i) = true) : ∃ q vs, σ[i]? = some (some (.ref q)) ∧ H q = some (.lst vs) ∧ c q = some i := by
  cases es : getS ρ i with
  | none => rw [es] at h; cases h
  | some md =>
    obtain ⟨m, d⟩ := md
    rw [es] at h
    cases m with
    | z => cases h
    | f k => cases h
    | t => cases h
    | o k =>
      cases d <;> first | cases h | skip
      obtain ⟨v, fp, e1, ⟨q, vs, g, e, k1, ef, r⟩, nd, hc⟩ := l.slot i _ _ es
      subst e
      exact ⟨q, vs, e1, k1, hc q (by rw [ef]; exact List.mem_cons_self)⟩
theorem ls_at {K : PySem.W.Frag} {mg : MG} {H0 H : Hp} {c : Co} {σ : L2.St} {ρ : En} {ds : List D} {q : Addr} (l : Lies K mg H0 H c σ ρ) (h : lsS me (getS ρ i) = some ds) (hq : σ[i]? = some (some (.ref q))) :
    ∃ vs g, H q = some (.lst vs) ∧ Ows K mg H0 H ds (.all me) vs g ∧ (q :: g).Nodup ∧ ∀ b ∈ q :: g, c b = some i := by
  obtain ⟨v, fp, e1, ⟨q', vs, g, e, k1, ef, r⟩, nd, hc⟩ := l.slot i _ _ (lsS_ok h)
  subst e
  rw [e1] at hq
  cases hq
  subst ef
  exact ⟨vs, g, k1, r, nd, hc⟩
/-- the list in slot i is rewritten: what is dropped of its nodes is no one's -/
theorem ls_write {K : PySem.W.Frag} {mg : MG} {H0 H H01 H1 : Hp} {c c1 : Co} {σ : L2.St} {ρ1 : En} {ds' : List D} {q : Addr} {vs vs' : List V} {g g' : List Addr} (l : Lies K mg H01 H1 c1 σ ρ1) (s : Step ms H0 H c H01 H1 c1) (hi : ms i = true) (hq : σ[i]? = some (some (.ref q)))
    (hH : H1 q = some (.lst vs)) (nd : (q :: g).Nodup) (hc : ∀ b ∈ q :: g, c1 b = some i) (ow : Ows K mg H01 H1 ds' (.all me) vs' g') (nd' : g'.Nodup) (hg : ∀ b ∈ g', b ∈ g ∨ (c1 b = none ∧ H01 b = none ∧ (∃ o, H1 b = some o) ∧ (H b = none ∨ ∃ j, c b = some j ∧ ms j = true))) :
    Step ms H0 H c H01 (upd H1 q (.lst vs')) (coSet c1 i (q :: g')) ∧ Lies K mg H01 (upd H1 q (.lst vs')) (coSet c1 i (q :: g')) σ (ρ1.set i (some (.o (.all me), .lst ds'))) := by
  have cq : c1 q = some i := hc q List.mem_cons_self
  have nq : q ∉ g' := fun z => by
    rcases hg q z with w | ⟨w, _⟩
    · exact (List.nodup_cons.mp nd).1 w
    · rw [cq] at w; cases w
  have ch : ∀ b, (upd H1 q (.lst vs')) b ≠ H1 b → b = q := fun b n => Classical.byContradiction fun z => n (upd_ne z)
  have cc : ∀ b ∈ q :: g', c1 b = none ∨ c1 b = some i := fun b hb => by
    rcases List.mem_cons.mp hb with z | z
    · rw [z]; exact .inr cq
    · rcases hg b z with w | w
      · exact .inr (hc b (List.mem_cons_of_mem _ w))
      · exact .inl w.1
  refine ⟨s.modify hi (fun b n => by rw [ch b n]; exact .inl cq) fun b hb => ?_, l.modify hq (fun b n => by rw [ch b n]; exact .inl cq) (fun b o e => ?_) ⟨q, vs', g', rfl, upd_same, rfl, Ows.mono (Same.refl _) ds' _ vs' g' (fun b hb => upd_ne fun z => nq (z ▸ hb)) ow⟩ (List.nodup_cons.mpr ⟨nq, nd'⟩) cc (fun b hb => ?_) fun b hb => ?_⟩
  · rcases List.mem_cons.mp hb with z | z
    · rw [z]; exact .inl cq
    · rcases hg b z with w | w
      · exact .inl (hc b (List.mem_cons_of_mem _ w))
      · exact .inr w.2.2.2
  · by_cases z : b = q
    · rw [z]; exact ⟨_, upd_same⟩
    · rw [upd_ne z]; exact ⟨o, e⟩
  · rcases cc b hb with w | w
    · rcases List.mem_cons.mp hb with z | z
      · rw [z, cq] at w; cases w
      · rcases hg b z with u | u
        · rw [hc b (List.mem_cons_of_mem _ u)] at w; cases w
        · exact u.2.1
    · exact l.apart b i w
  · by_cases z : b = q
    · rw [z]; exact ⟨_, upd_same⟩
    · rw [upd_ne z]
      rcases List.mem_cons.mp hb with w | w
      · exact absurd w z
      · rcases hg b w with u | u
        · exact l.there b i (hc b (List.mem_cons_of_mem _ u))
        · exact u.2.2.1
/-- a statement x.m(e) on the list of slot i -/
theorem VS.meth {id : String} {nm : Str} {r : V → List V → Hp → VK → Prop} {g : D → List D → Option (List D)} (slot : Slot "list" nm id) (hty : typeOf (.builtin id) = pure (.type "method_descriptor")) (hmt : ∀ X, MtR X id r) (he : VO G N S me ms e f)
    (hr : ∀ (q : Addr) (vs : List V) (d : D) (ds ds' : List D) (v : V) (H0 H : Hp) (fp h : List Addr) (Q : VK), H q = some (.lst vs) → Ow G.K G.mg H0 H d me v fp → Ows G.K G.mg H0 H ds (.all me) vs h → g d ds = some ds' → Same H0 H → fp.Nodup → h.Nodup → (∀ b ∈ fp, b ∉ h) →
      ∃ vs' h', Ows G.K G.mg H0 H ds' (.all me) vs' h' ∧ h'.Nodup ∧ (∀ b ∈ h', b ∈ h ∨ b ∈ fp) ∧ (Q .non (upd H q (.lst vs')) → r (.ref q) [v] H Q))
    (hN : N[i]? = some x := by rfl) (hv : Vis S.sc x := by first | exact Or.inl rfl | exact Or.inr (Or.inl rfl) | exact Or.inr (Or.inr rfl)) (hd : (x == ("__debug__" : Str)) = false := by decide) (hcd : (x == ("__classdict__" : Str)) = false := by decide)
    (hbase : ∀ env, attributeBase (.Name x p) nm env (eval (.Name x p) env) = eval (.Name x p) env := by intro _; rfl)
    (hfew : ∀ env, ((backTo pos (starEach [e] env)).all (fun x => !x.1) && (backToKw pos (keywordEach [] env)).all (fun x => x.1.isSome) && decide (([e] : List Expr).length + ([] : List Keyword).length + (if ([] : List Keyword).isEmpty then 0 else 1) < 30)) = true := by intro _; rfl)
    (hline : (apos.endLine == pos.line) = true := by rfl) (hst : ∀ env, starEach [e] env = [(false, eval e env)] := by intro _; rfl) {spos : Pos} (hs : ∀ env, swapsWith (.Call (.Attribute (.Name x p) nm apos) [e] [] pos) none spos.line env = pure false := by intro _; rfl) :
    VS G N S rm ms0 (.Expr (.Call (.Attribute (.Name x p) nm apos) [e] [] pos) spos) (gMt i me g f) := by
  refine fun R a W t => (ps_expr (pe_bm PySem.F.plainAttrs_list slot hty (hmt _) (pe_var (i := i) hN (a.vis hv) hd hcd) (pa_cons (he R a W t) pa_nil (hst _)) (hbase _) (hfew _) hline ((hst _).trans rfl) rfl) (hs _)).imp fun D σ H ⟨ρ, H0, c, l, o⟩ => ?_
  unfold gMt rcv at o
  by_cases hr0 : rcvS (getS ρ i) = true
  · rw [if_pos hr0] at o
    obtain ⟨q, vs0, hq, hH0, _⟩ := rcv_at l hr0
    refine ⟨.ref q, hq, .inl ⟨rfl, vs0, .of hH0⟩, ρ, H0, c, l, (OutS.expr (F := FO G.K G.mg me ms) o).imp fun v H1 ⟨d, H01, c1, ρ1, e1, s1, l1, ⟨fp, ow, fr⟩, o1⟩ => ?_⟩
    clear o1
    have o : OutS G.K G.mg W rm msA ms0 H0 H c σ ((f ρ).bind fun d r => (rM (lsS me (getS r i)) r).bind fun ds r => (rM (g d ds) r).bind fun ds' r => .ok .nx (r.set i (some (.o (.all me), .lst ds')))) D := o
    rw [e1, bind_ok] at o
    cases hl : lsS me (getS ρ1 i) with
    | none => rw [hl] at o; exact o.elim
    | some ds =>
      rw [hl, rM_some, bind_ok] at o
      obtain ⟨vs, h, hH, ows, nd, hc⟩ := ls_at l1 hl hq
      cases hg : g d ds with
      | none => rw [hg] at o; exact o.elim
      | some ds' =>
        rw [hg, rM_some, bind_ok] at o
        have dj : ∀ b ∈ fp, b ∉ h := fun b hb hh => by
          have := fr.nc b hb
          rw [hc b (List.mem_cons_of_mem _ hh)] at this; cases this
        obtain ⟨vs', h', ows', nd', hm, run⟩ := hr q vs d ds ds' v H01 H1 fp h (fun _ H3 => D.nx σ H3) hH ow ows hg l1.sub fr.nd (List.nodup_cons.mp nd).2 dj
        obtain ⟨st, li⟩ := ls_write l1 (s1.mono (ms' := msA) fun _ _ => rfl) rfl hq hH nd hc ows' nd' fun b hb => (hm b hb).imp (fun z => z) fun w => ⟨fr.nc b w, fr.n0 b w, fr.there b w, (fr.new b w).imp (fun z => z) fun ⟨j, z, _⟩ => ⟨j, z, rfl⟩⟩
        exact run (o σ H01 _ _ st li .refl)
  · rw [if_neg hr0] at o
    exact o.elim
def appO (d : D) (ds : List D) : Option (List D) := if ds.length < 16777216 then some (ds ++ [d]) else none
/-- xs.append(e) -/
theorem VS.app (he : VO G N S me ms e f)
    (hN : N[i]? = some x := by rfl) (hv : Vis S.sc x := by first | exact Or.inl rfl | exact Or.inr (Or.inl rfl) | exact Or.inr (Or.inr rfl)) (hd : (x == ("__debug__" : Str)) = false := by decide) (hcd : (x == ("__classdict__" : Str)) = false := by decide)
    (hline : (apos.endLine == pos.line) = true := by rfl) (hst : ∀ env, starEach [e] env = [(false, eval e env)] := by intro _; rfl) 
    (hbase : ∀ env, attributeBase (.Name x p) "append" env (eval (.Name x p) env) = eval (.Name x p) env := by intro _; rfl)
    (hfew : ∀ env, ((backTo pos (starEach [e] env)).all (fun x => !x.1) && (backToKw pos (keywordEach [] env)).all (fun x => x.1.isSome) && decide (([e] : List Expr).length + ([] : List Keyword).length + (if ([] : List Keyword).isEmpty then 0 else 1) < 30)) = true := by intro _; rfl)
    {spos : Pos} (hs : ∀ env, swapsWith (.Call (.Attribute (.Name x p) "append" apos) [e] [] pos) none spos.line env = pure false := by intro _; rfl) :
    VS G N S rm ms0 (.Expr (.Call (.Attribute (.Name x p) "append" apos) [e] [] pos) spos) (gMt i me appO f) := by
  refine VS.meth PySem.F.slot_list_append PySem.F.type_list_append (fun X => mt_append) he (fun q vs d ds ds' v H0 H fp h Q hH ow ows hg _ ndf ndh dj => ?_) hN hv hd hcd hbase hfew hline hst hs
  unfold appO at hg
  split at hg
  · rename_i hlt
    cases hg
    refine ⟨vs ++ [v], h ++ fp, Ows.snoc ows ow, List.nodup_append.mpr ⟨ndh, ndf, fun b hb b' hb' e => dj b' hb' (e ▸ hb)⟩, fun b hb => List.mem_append.mp hb, fun z => ⟨q, vs, v, rfl, rfl, hH, ?_, z⟩⟩
    rw [ows.length, sizeLine_eq]; exact hlt
  · cases hg
/-- xs.extend(e), e a list -/
def extO (d : D) (ds : List D) : Option (List D) := match d with
  | .lst es => if ds.length + es.length ≤ 16777216 then some (ds ++ es) else none
  | _ => none
theorem VS.ext (he : VO G N S .z ms e f)
    (hN : N[i]? = some x := by rfl) (hv : Vis S.sc x := by first | exact Or.inl rfl | exact Or.inr (Or.inl rfl) | exact Or.inr (Or.inr rfl)) (hd : (x == ("__debug__" : Str)) = false := by decide) (hcd : (x == ("__classdict__" : Str)) = false := by decide)
    (hline : (apos.endLine == pos.line) = true := by rfl) (hst : ∀ env, starEach [e] env = [(false, eval e env)] := by intro _; rfl) 
    (hbase : ∀ env, attributeBase (.Name x p) "extend" env (eval (.Name x p) env) = eval (.Name x p) env := by intro _; rfl)
    (hfew : ∀ env, ((backTo pos (starEach [e] env)).all (fun x => !x.1) && (backToKw pos (keywordEach [] env)).all (fun x => x.1.isSome) && decide (([e] : List Expr).length + ([] : List Keyword).length + (if ([] : List Keyword).isEmpty then 0 else 1) < 30)) = true := by intro _; rfl)
    {spos : Pos} (hs : ∀ env, swapsWith (.Call (.Attribute (.Name x p) "extend" apos) [e] [] pos) none spos.line env = pure false := by intro _; rfl) :
    VS G N S rm ms0 (.Expr (.Call (.Attribute (.Name x p) "extend" apos) [e] [] pos) spos) (gMt i .z extO f) := by
  refine VS.meth PySem.F.slot_list_extend PySem.F.type_list_extend (fun X => mt_extend) he (fun q vs d ds ds' v H0 H fp h Q hH ow ows hg s0 ndf ndh dj => ?_) hN hv hd hcd hbase hfew hline hst hs
  obtain ⟨e1, fz⟩ := Ow.zero.mp ow
  obtain ⟨e2, fzs⟩ := Ows.all_z.mp ows
  cases d <;> first | cases hg | skip
  rename_i es
  unfold extO at hg
  dsimp only at hg
  split at hg
  · rename_i hlt
    cases hg
    obtain ⟨b, ws, eb, k, fw⟩ := fz
    refine ⟨vs ++ ws, [], Ows.all_z.mpr ⟨rfl, fzs.append fw⟩, List.nodup_nil, by simp, fun z => ⟨q, b, vs, ws, rfl, by rw [eb], hH, s0 _ _ k, ?_, z⟩⟩
    rw [fzs.length, fw.length, sizeLine_eq]; exact hlt
  · cases hg
/-- x[e] = v -/
def gPut (i : Nat) (fv fi : M D) : M Fl := fun r => (fv r).bind fun d r => rcv i (fun r => (fi r).bind fun j r => (rM (lsS .z (getS r i)) r).bind fun ds r => onI (fun z r => (rM (ixN ds.length z) r).bind fun n r => .ok .nx (r.set i (some (.o (.all .z), .lst (ds.set n d))))) j r) r
theorem Fzs.set {K : PySem.W.Frag} {mg : MG} {H : Hp} : ∀ {ds : List D} {vs : List V} {d : D} {v : V} (n : Nat), Fzs K mg H ds vs → Fz K mg H d v → Fzs K mg H (ds.set n d) (vs.set n v)
  | [], _, _, _, n, h, _ => by rw [show _ = [] from h]; rfl
  | x :: ds, _, d, v, 0, ⟨w, r, e, h, t⟩, k => by subst e; exact ⟨v, r, rfl, k, t⟩
  | x :: ds, _, d, v, n + 1, ⟨w, r, e, h, t⟩, k => by subst e; exact ⟨w, r.set n v, rfl, h, Fzs.set n t k⟩
theorem VS.put {tpos spos : Pos} (he : VO G N S .z ms1 a fa) (hi : VO G N S .z ms2 b fb)
    (hN : N[i]? = some x := by rfl) (hv : Vis S.sc x := by first | exact Or.inl rfl | exact Or.inr (Or.inl rfl) | exact Or.inr (Or.inr rfl)) (hd : (x == ("__debug__" : Str)) = false := by decide) (hcd : (x == ("__classdict__" : Str)) = false := by decide)
    (hs : ∀ env, swapsWithSole [.Subscript (.Name x p) b tpos] a spos.line env = pure false := by intro _; rfl) (hw : ∀ env, swappedStores [.Subscript (.Name x p) b tpos] a env = pure none := by intro _; rfl)
    (h1 : ∀ env, (assignEach [.Subscript (.Name x p) b tpos] env).map (·.2) = [assign (.Subscript (.Name x p) b tpos) env] := by intro _; rfl)
    (ha : ∀ env v, assign (.Subscript (.Name x p) b tpos) env v = (do
      let ov ← holding [v] (eval (.Name x p) env)
      let iv ← holding [v, ov] (eval b env)
      standAt tpos
      holding [v, ov, iv] (setItem ov iv v)
      release [v, ov, iv] []) := by intro _ _; rfl) :
    VS G N S rm ms0 (.Assign [.Subscript (.Name x p) b tpos] a spos) (gPut i fa fb) := by
  refine fun R at_ W t => (ps_asg (he R at_ W t) (pg_sub (pe_var (i := i) hN (at_.vis hv) hd hcd) (hi R at_ W t) set_list (ha _)) (hs _) (hw _) (h1 _)).imp fun D σ H ⟨ρ, H0, c, l, o⟩ => ?_
  refine ⟨ρ, H0, c, l, (OutS.expr (F := FO G.K G.mg .z ms1) o).imp fun v H1 ⟨d, H01, c1, ρ1, e1, s1, l1, ⟨fp, ow, fr⟩, o1⟩ => ?_⟩
  have fz := (Ow.zero.mp ow).2
  unfold rcv at o1
  by_cases hr0 : rcvS (getS ρ1 i) = true
  · rw [if_pos hr0] at o1
    obtain ⟨q, vs0, hq, hH0, _⟩ := rcv_at l1 hr0
    refine ⟨.ref q, hq, ρ1, H01, c1, l1, (OutS.expr (F := FO G.K G.mg .z ms2) o1).imp fun v2 H2 ⟨d2, H02, c2, ρ2, e2, s2, l2, ⟨fp2, ow2, fr2⟩, o2⟩ => ?_⟩
    cases hl : lsS .z (getS ρ2 i) with
    | none => rw [hl] at o2; exact o2.elim
    | some ds =>
      rw [hl, rM_some, bind_ok] at o2
      obtain ⟨vs, h, hH, ows, nd, hc⟩ := ls_at l2 hl hq
      obtain ⟨eh, fzs⟩ := Ows.all_z.mp ows
      subst eh
      cases d2 <;> first | exact o2.elim | skip
      rename_i j
      have ez : v2 = .int j := (Ow.zero.mp ow2).2
      subst ez
      rw [onI_int] at o2
      cases hn : ixN ds.length j with
      | none => rw [hn] at o2; exact o2.elim
      | some n =>
        rw [hn, rM_some, bind_ok] at o2
        obtain ⟨st, li⟩ := ls_write (me := .z) (g' := []) (ds' := ds.set n d) (vs' := vs.set n v) l2 (.refl (ms := msA)) rfl hq hH nd hc (Ows.all_z.mpr ⟨rfl, Fzs.set n fzs (Fz.mono s2.grow d v fz)⟩) List.nodup_nil (by simp)
        exact ⟨q, vs, j, n, rfl, rfl, hH, by rw [fzs.length]; exact hn, o2 σ H02 _ _ st li .refl⟩
  · rw [if_neg hr0] at o1
    exact o1.elim
/-- xs.m() -/
def gMt0 (i : Nat) (g : List D → Option (List D)) : M Fl := fun r => (rM (lsS .z (getS r i)) r).bind fun ds r => (rM (g ds) r).bind fun ds' r => .ok .nx (r.set i (some (.o (.all .z), .lst ds')))
theorem VS.meth0 {id : String} {nm : Str} {r : V → List V → Hp → VK → Prop} {g : List D → Option (List D)} (slot : Slot "list" nm id) (hty : typeOf (.builtin id) = pure (.type "method_descriptor")) (hmt : ∀ X, MtR X id r)
    (hr : ∀ (q : Addr) (vs : List V) (ds ds' : List D) (H0 H : Hp) (Q : VK), H q = some (.lst vs) → Fzs G.K G.mg H0 ds vs → g ds = some ds' → ∃ vs', Fzs G.K G.mg H0 ds' vs' ∧ ((∀ y, Q y (upd H q (.lst vs'))) → r (.ref q) [] H Q))
    (hN : N[i]? = some x := by rfl) (hv : Vis S.sc x := by first | exact Or.inl rfl | exact Or.inr (Or.inl rfl) | exact Or.inr (Or.inr rfl)) (hd : (x == ("__debug__" : Str)) = false := by decide) (hcd : (x == ("__classdict__" : Str)) = false := by decide)
    (hbase : ∀ env, attributeBase (.Name x p) nm env (eval (.Name x p) env) = eval (.Name x p) env := by intro _; rfl)
    (hline : (apos.endLine == pos.line) = true := by rfl) {spos : Pos} (hs : ∀ env, swapsWith (.Call (.Attribute (.Name x p) nm apos) [] [] pos) none spos.line env = pure false := by intro _; rfl) :
    VS G N S rm ms0 (.Expr (.Call (.Attribute (.Name x p) nm apos) [] [] pos) spos) (gMt0 i g) := by
  refine fun R a W t => (ps_expr (pe_bm0 PySem.F.plainAttrs_list slot hty (hmt _) (pe_var (i := i) hN (a.vis hv) hd hcd) (hbase _) hline) (hs _)).imp fun D σ H ⟨ρ, H0, c, l, o⟩ => ?_
  unfold gMt0 at o
  cases hl : lsS .z (getS ρ i) with
  | none => rw [hl] at o; exact o.elim
  | some ds =>
    rw [hl, rM_some, bind_ok] at o
    obtain ⟨w, fp, hq, ⟨q, vs, h, ew, hH, ef, ows⟩, nd, hc⟩ := l.slot i _ _ (lsS_ok hl)
    subst ew ef
    obtain ⟨eh, fzs⟩ := Ows.all_z.mp ows
    subst eh
    cases hg : g ds with
    | none => rw [hg] at o; exact o.elim
    | some ds' =>
      rw [hg, rM_some, bind_ok] at o
      obtain ⟨vs', fz', run⟩ := hr q vs ds ds' H0 H (fun _ H3 => D.nx σ H3) hH fzs hg
      obtain ⟨st, li⟩ := ls_write (me := .z) (g' := []) (ds' := ds') (vs' := vs') l (.refl (ms := msA)) rfl hq hH nd hc (Ows.all_z.mpr ⟨rfl, fz'⟩) List.nodup_nil (by simp)
      exact ⟨.ref q, hq, .inl ⟨rfl, vs, .of hH⟩, run fun y => o σ H0 _ _ st li .refl⟩
theorem Fzs.reverse {K : PySem.W.Frag} {mg : MG} {H : Hp} : ∀ {ds : List D} {vs : List V}, Fzs K mg H ds vs → Fzs K mg H ds.reverse vs.reverse
  | [], _, h => by rw [show _ = [] from h]; rfl
  | d :: ds, _, ⟨w, r, e, h, t⟩ => by
    subst e
    rw [List.reverse_cons, List.reverse_cons]
    exact (Fzs.reverse t).append ⟨w, [], rfl, h, rfl⟩
theorem Fzs.dropLast {K : PySem.W.Frag} {mg : MG} {H : Hp} {ds : List D} {vs : List V} (h : Fzs K mg H ds vs) : Fzs K mg H ds.dropLast vs.dropLast := by
  rw [List.dropLast_eq_take, List.dropLast_eq_take, h.length]
  exact Fzs.take _ h
theorem VS.pop (hN : N[i]? = some x := by rfl) (hv : Vis S.sc x := by first | exact Or.inl rfl | exact Or.inr (Or.inl rfl) | exact Or.inr (Or.inr rfl)) (hd : (x == ("__debug__" : Str)) = false := by decide) (hcd : (x == ("__classdict__" : Str)) = false := by decide)
    (hbase : ∀ env, attributeBase (.Name x p) "pop" env (eval (.Name x p) env) = eval (.Name x p) env := by intro _; rfl)
    (hline : (apos.endLine == pos.line) = true := by rfl) {spos : Pos} (hs : ∀ env, swapsWith (.Call (.Attribute (.Name x p) "pop" apos) [] [] pos) none spos.line env = pure false := by intro _; rfl) :
    VS G N S rm ms0 (.Expr (.Call (.Attribute (.Name x p) "pop" apos) [] [] pos) spos) (gMt0 i fun ds => if ds = [] then none else some ds.dropLast) :=
  VS.meth0 PySem.F.slot_list_pop PySem.F.type_list_pop (fun X => mt_pop) (fun q vs ds ds' H0 H Q hH fz hg => by
    split at hg
    · cases hg
    · rename_i hne
      cases hg
      have hl := fz.length
      have : 0 < ds.length := List.length_pos_iff.mpr hne
      obtain ⟨y, hy⟩ : ∃ y, vs[vs.length - 1]? = some y := ⟨vs[vs.length - 1], List.getElem?_eq_getElem (by omega)⟩
      exact ⟨vs.dropLast, fz.dropLast, fun z => ⟨q, vs, y, rfl, rfl, hH, hy, z _⟩⟩) hN hv hd hcd hbase hline hs
end
/-! ### applied -/
section
variable {α : Type} (s0 : Sl) (r : En) (i : Nat) (me : Md) (d : D) (ds es : List D) (f fv fi : M D)
@[simp] theorem mdEq_z : mdEq .z .z = true := rfl
@[simp] theorem mdEq_1 : mdEq m1 m1 = true := rfl
@[simp] theorem lsS_z : lsS .z (some (.o (.all .z), .lst ds)) = some ds := rfl
@[simp] theorem lsS_1 : lsS m1 (some (.o (.all (.o (.all .z))), .lst ds)) = some ds := rfl
@[simp] theorem rcvS_o (k : Kd) : rcvS (some (.o k, .lst ds)) = true := rfl
@[simp] theorem rcv_ap (k : M α) : rcv i k (s0 :: r) = if rcvS (getS (s0 :: r) i) = true then k (s0 :: r) else .bad := rfl
@[simp] theorem gMt_ap (g : D → List D → Option (List D)) : gMt i me g f (s0 :: r) = rcv i (fun r => (f r).bind fun d r => (rM (lsS me (getS r i)) r).bind fun ds r => (rM (g d ds) r).bind fun ds' r => .ok .nx (r.set i (some (.o (.all me), .lst ds')))) (s0 :: r) := rfl
@[simp] theorem gMt0_ap (g : List D → Option (List D)) : gMt0 i g (s0 :: r) = (rM (lsS .z (getS (s0 :: r) i)) (s0 :: r)).bind fun ds r => (rM (g ds) r).bind fun ds' r => .ok .nx (r.set i (some (.o (.all .z), .lst ds'))) := rfl
@[simp] theorem gPut_ap : gPut i fv fi (s0 :: r) = (fv (s0 :: r)).bind fun d r => rcv i (fun r => (fi r).bind fun j r => (rM (lsS .z (getS r i)) r).bind fun ds r => onI (fun z r => (rM (ixN ds.length z) r).bind fun n r => .ok .nx (r.set i (some (.o (.all .z), .lst (ds.set n d))))) j r) r := rfl
@[simp] theorem appO_ap : appO d ds = if ds.length < 16777216 then some (ds ++ [d]) else none := rfl
@[simp] theorem extO_ap : extO (.lst es) ds = if ds.length + es.length ≤ 16777216 then some (ds ++ es) else none := rfl
end
end Vm
set_option Elab.async false
set_option linter.all false
set_option maxRecDepth 100000
set_option maxHeartbeats 4000000
namespace Vm
open PySem PySem.Spec PyProof.Rows L2

/-! ### order -/
def ltD (d e : D) : Bool := PySem.W.dataLt (toPy d) (toPy e)
def leD (d e : D) : Bool := !ltD e d
def alD (d e : D) : Bool := PySem.W.alike (toPy d) (toPy e)
def notNon : D → Bool
  | .non => false
  | _ => true
def ltOk (d e : D) : Bool := plain d && (plain e && (alD d e && (notNon d && (decide (dep d ≤ 60) && decide (dep e ≤ 60)))))
theorem notNon_py {d : D} (h : notNon d = true) (p : plain d = true) : toPy d ≠ .none := by
  intro e
  cases d <;> first | (cases e; done) | exact absurd h Bool.false_ne_true
theorem ltOk_of {d e : D} (h : ltOk d e = true) : plain d = true ∧ plain e = true ∧ PySem.W.alike (toPy d) (toPy e) = true ∧ toPy d ≠ .none ∧ min (toPy d).depth (toPy e).depth ≤ 64 := by
  unfold ltOk at h
  simp only [Bool.and_eq_true, decide_eq_true_eq] at h
  obtain ⟨h1, h2, h3, h4, h5, h6⟩ := h
  have := dep_py d
  exact ⟨h1, h2, h3, notNon_py h4 h1, by omega⟩
section
variable {G : GC} {N : List Str} {S : SC} {X : Cx}
abbrev rLtV (K : PySem.W.Frag) (f : PyData → PyData → Bool) : R2 := fun x y H Q => ∃ d e, Dp K H x d ∧ Dp K H y e ∧ PySem.W.alike d e = true ∧ d ≠ .none ∧ min d.depth e.depth ≤ 64 ∧ Q (.bl (f d e)) H
theorem op_ltD (hu : X.A.units + 100 < cLine) : OpR X (compareOp .Lt) (rLtV X.K fun d e => PySem.W.dataLt d e) := by
  intro pins s σ H x y v u Q I rx ry ⟨d, e, hd, he, al, nn, hm, q⟩
  obtain ⟨as, r1⟩ := Dp.reads I d x v hd rx
  obtain ⟨bs, r2⟩ := Dp.reads I e y u he ry
  exact PySem.W.lt_data r1 r2 al nn (by omega) ⟨.bl _, H, I, rfl, q⟩
theorem op_gtD (hu : X.A.units + 100 < cLine) : OpR X (compareOp .Gt) (rLtV X.K fun d e => PySem.W.dataLt e d) := by
  intro pins s σ H x y v u Q I rx ry ⟨d, e, hd, he, al, nn, hm, q⟩
  obtain ⟨as, r1⟩ := Dp.reads I d x v hd rx
  obtain ⟨bs, r2⟩ := Dp.reads I e y u he ry
  exact PySem.W.gt_data r1 r2 al nn (by omega) ⟨.bl _, H, I, rfl, q⟩
def oCmp (f : D → D → Bool) (d e : D) : Option D := if ltOk d e = true then some (.bl (f d e)) else none
theorem ru_cmp {f : D → D → Bool} {g : PyData → PyData → Bool} (hg : ∀ d e, f d e = g (toPy d) (toPy e)) : Ru2 G (rLtV G.K g) .z (oCmp f) := by
  intro H0 H d1 d2 x y d Q s h1 h2 ho fi
  unfold oCmp at ho
  split at ho
  · rename_i hk
    obtain ⟨p1, p2, p3, p4, p5⟩ := ltOk_of hk
    cases ho
    refine ⟨toPy d1, toPy d2, Fz.dp d1 x (h1.fz s) p1, Fz.dp d2 y (h2.fz s) p2, p3, p4, p5, ?_⟩
    rw [← hg]
    exact fi.frz s rfl
  · cases ho
def oLt := oCmp ltD
def oLe := oCmp leD
def oGt := oCmp fun d e => ltD e d
def oGe := oCmp fun d e => leD e d
theorem Cm.lt' (hc : True := trivial) : Cm G N S .Lt oLt := ⟨_, fun _ a => op_ltD (a.u100 hc), ru_cmp fun _ _ => rfl⟩
theorem Cm.gt' (hc : True := trivial) : Cm G N S .Gt oGt := ⟨_, fun _ a => op_gtD (a.u100 hc), ru_cmp fun _ _ => rfl⟩
/-! ### sorted -/
/-- they may be sorted: alike, all tuples that are not empty or none of them one -/
def tupNE : D → Bool
  | .tup (_ :: _) => true
  | _ => false
def notTup : D → Bool
  | .tup _ => false
  | .non => false
  | _ => true
def sortOk (ds : List D) : Bool := plains ds && (decide (deps ds ≤ 60) && ((ds.all tupNE || ds.all notTup) && ds.all fun d => ds.all fun e => alD d e))
def sortD (ds : List D) : List D := ds.mergeSort leD
def oSorted : List D → Option D
  | [.lst ds] => if sortOk ds = true then some (.lst (sortD ds)) else none
  | _ => none
theorem plains_mem : ∀ {ds : List D}, plains ds = true → ∀ d ∈ ds, plain d = true
  | d :: ds, h, e, he => by
    obtain ⟨h1, h2⟩ := Bool.and_eq_true_iff.mp (show (plain d && plains ds) = true from h)
    rcases List.mem_cons.mp he with z | z
    · rw [z]; exact h1
    · exact plains_mem h2 e z
theorem deps_mem : ∀ {ds : List D} {n : Nat}, deps ds ≤ n → ∀ d ∈ ds, dep d ≤ n
  | d :: ds, n, h, e, he => by
    have h' : max (dep d) (deps ds) ≤ n := h
    rcases List.mem_cons.mp he with z | z
    · rw [z]; omega
    · exact deps_mem (by omega) e z
theorem tupNE_py {d : D} (h : tupNE d = true) : ∃ x r, toPy d = .tuple (x :: r) := by
  cases d <;> first | exact absurd h Bool.false_ne_true | skip
  rename_i xs
  cases xs with
  | nil => exact absurd h Bool.false_ne_true
  | cons x r => exact ⟨_, _, rfl⟩
theorem notTup_py {d : D} (h : notTup d = true) (p : plain d = true) : toPy d ≠ .none ∧ ∀ xs, toPy d ≠ .tuple xs := by
  cases d <;> first | exact absurd h Bool.false_ne_true | exact ⟨fun e => (by cases e), fun xs e => (by cases e)⟩
theorem sortOk_of {ds : List D} (h : sortOk ds = true) : plains ds = true ∧ (∀ d ∈ ds, dep d ≤ 60) ∧ PySem.W.AllAlike (ds.map toPy) ∧ PySem.W.Sortable (ds.map toPy) := by
  unfold sortOk at h
  simp only [Bool.and_eq_true, decide_eq_true_eq, Bool.or_eq_true, List.all_eq_true] at h
  obtain ⟨h1, h2, h3, h4⟩ := h
  refine ⟨h1, deps_mem h2, fun a ha b hb => ?_, ?_⟩
  · obtain ⟨d, hd, rfl⟩ := List.mem_map.mp ha
    obtain ⟨e, he, rfl⟩ := List.mem_map.mp hb
    exact h4 d hd e he
  · rcases h3 with h3 | h3
    · refine .inl fun a ha => ?_
      obtain ⟨d, hd, rfl⟩ := List.mem_map.mp ha
      exact tupNE_py (h3 d hd)
    · refine .inr fun a ha => ?_
      obtain ⟨d, hd, rfl⟩ := List.mem_map.mp ha
      exact notTup_py (h3 d hd) (plains_mem h1 d hd)
/-- pairs of a value and its data -/
abbrev VD := V × D
theorem each_vd {K : PySem.W.Frag} {mg : MG} {pins : List (Addr × Obj)} {σ : L2.St} {H : Hp} {s : Shared} (I : Inv X pins σ H s) (hK : X.K = K) : ∀ {ds : List D} {vs : List V} {us : List Value}, Fzs K mg H ds vs → plains ds = true → Vals vs us →
    PySem.W.EachIs (fun u (b : VD) => RelV b.1 u) us (vs.zip ds) ∧ PySem.W.EachIs (fun u (b : VD) => ∃ as, Reads s.heap u (toPy b.2) as) us (vs.zip ds)
  | [], vs, us, h, _, r => by
    rw [show vs = [] from h] at r
    cases r
    exact ⟨by rw [show vs = [] from h]; exact .nil, by rw [show vs = [] from h]; exact .nil⟩
  | d :: ds, _, us, ⟨v, w, e, h, t⟩, p, r => by
    subst e
    cases r with
    | cons r1 rr =>
      obtain ⟨p1, p2⟩ := Bool.and_eq_true_iff.mp (show (plain d && plains ds) = true from p)
      obtain ⟨i1, i2⟩ := each_vd I hK t p2 rr
      subst hK
      exact ⟨.cons r1 i1, .cons (Dp.reads I _ _ _ (Fz.dp d v h p1) r1) i2⟩
theorem each_vals : ∀ {us : List Value} {bs : List VD}, PySem.W.EachIs (fun u (b : VD) => RelV b.1 u) us bs → Vals (bs.map (·.1)) us
  | _, _, .nil => .nil
  | _, _, .cons h t => .cons h (each_vals t)
def rSortD (K : PySem.W.Frag) (mg : MG) : List V → Hp → VK → Prop := fun xs H Q => ∃ (a : Addr) (vs : List V) (ds : List D), xs = [.ref a] ∧ SqL K H a vs ∧ Fzs K mg H ds vs ∧ sortOk ds = true ∧
  ∀ p, H p = none → Q (.ref p) (upd H p (.lst (((vs.zip ds).mergeSort (PySem.W.dataLe false fun b : VD => toPy b.2)).map (·.1))))
theorem cr_sortD {mg : MG} (hu : X.A.units + 100 < cLine) : CallR X (.builtin "sorted") (rSortD X.K mg) := by
  intro pins s σ H xs us Q I r ⟨a, vs, ds, ex, hs, hf, ok, q⟩
  subst ex
  obtain ⟨its, rv, hl, hz⟩ := I.list hs
  obtain ⟨u, rfl, ru⟩ := vals1 r
  obtain rfl : u = Value.ref a := ru
  obtain ⟨p1, p2, p3, p4⟩ := sortOk_of ok
  obtain ⟨e1, e2⟩ := each_vd I rfl hf p1 rv
  have hlen := hf.length
  have em : (vs.zip ds).map (fun b : VD => toPy b.2) = ds.map toPy := by
    show (vs.zip ds).map (toPy ∘ Prod.snd) = _
    rw [← List.map_map, List.map_snd_zip (by omega)]
  have hzl : (vs.zip ds).length = vs.length := by rw [List.length_zip]; omega
  refine PySem.W.sorted_data (enc := fun b : VD => toPy b.2) hl.isList e1 e2 (by rw [em]; exact p3) (by rw [em]; exact p4) (by rw [hzl]; exact hz) (fun b hb => ?_) fun out ho hout => ?_
  · have := p2 b.2 (List.of_mem_zip hb).2
    have := dep_py b.2
    omega
  · have rel := each_vals hout
    obtain ⟨n, hn⟩ := sortedAll_at s.heap its out.toArray
    refine ⟨.ref _, upd H (s.heap.objs.size + 1) (.lst _), I.laid (t' := s.toks) (fun b o e => sortedAll_old e) (Nat.le_succ _) ⟨?_, out, n, rel, hn⟩, rfl, q _ (I.hok.fresh (Nat.le_succ _))⟩
    rw [List.length_map, List.length_mergeSort, hzl]
    exact hz
theorem fzs_zip {K : PySem.W.Frag} {mg : MG} {H : Hp} : ∀ {ds : List D} {vs : List V}, Fzs K mg H ds vs → ∀ b ∈ vs.zip ds, Fz K mg H b.2 b.1
  | [], vs, h, b, hb => by rw [show vs = [] from h] at hb; cases hb
  | d :: ds, _, ⟨v, w, e, h, t⟩, b, hb => by
    subst e
    rcases List.mem_cons.mp hb with z | z
    · rw [z]; exact h
    · exact fzs_zip t b z
theorem fzs_of_zip {K : PySem.W.Frag} {mg : MG} {H : Hp} : ∀ {bs : List VD}, (∀ b ∈ bs, Fz K mg H b.2 b.1) → Fzs K mg H (bs.map (·.2)) (bs.map (·.1))
  | [], _ => rfl
  | b :: bs, h => ⟨_, _, rfl, h b List.mem_cons_self, fzs_of_zip fun c hc => h c (List.mem_cons_of_mem _ hc)⟩
theorem zip_sort {ds : List D} {vs : List V} (hl : vs.length = ds.length) : ((vs.zip ds).mergeSort (PySem.W.dataLe false fun b : VD => toPy b.2)).map (·.2) = sortD ds := by
  have e : ((vs.zip ds).mergeSort (PySem.W.dataLe false fun b : VD => toPy b.2)).map Prod.snd = ((vs.zip ds).map Prod.snd).mergeSort leD := List.map_mergeSort fun a _ b _ => rfl
  rw [List.map_snd_zip (by omega)] at e
  exact e
theorem ru_sorted {m : Md} (hm : ZO m) : RuA G (rSortD G.K G.mg) m oSorted := by
  intro H0 H ds xs d Q s h ho f
  unfold oSorted at ho
  split at ho
  · split at ho
    · rename_i es ok
      cases ho
      obtain ⟨x, e, a, vs, e1, k, g⟩ := shs_one h
      refine ⟨a, vs, es, by rw [e, e1], .of k, Fzs.mono s es vs g, ok, fun p hp => ?_⟩
      have z : Fzs G.K G.mg H0 (sortD es) (((vs.zip es).mergeSort (PySem.W.dataLe false fun b : VD => toPy b.2)).map (·.1)) := by
        rw [← zip_sort g.length]
        exact fzs_of_zip fun b hb => fzs_zip g b (List.mem_mergeSort.mp hb)
      exact f.lst hm s z hp
    · cases ho
  · cases ho
end
section
variable {G : GC} {N : List Str} {S : SC} {bs bs1 bs2 ms ms1 ms2 ms3 as : Ms} {m : Md} {k : Kd} {e a b : Expr} {es : List Expr} {f fa fb : M D} {fs : M (List D)} {pos p : Pos}
theorem VO.sorted (hm : G.mg "sorted" = none) (ha : VA G N S bs ms (e :: es) fs) (hc : True := trivial) (hg : Glb S "sorted" := by rfl) (he : ∀ env, starEach (e :: es) env = (false, eval e env) :: starEach es env := by intro _; rfl) (hpl : ∀ env, (backTo pos (starEach es env)).any (·.1) = false := by intro _; rfl) :
    VO G N S m1 ms (.Call (.Name "sorted" p) (e :: es) [] pos) (fA oSorted fs) := .callB (fun _ a => cr_sortD (a.u100 hc)) (ru_sorted (.inr rfl)) hm (by decide +kernel) ha hg (by decide) (by decide) he hpl
end
end Vm
set_option Elab.async false
set_option linter.all false
set_option maxRecDepth 100000
set_option maxHeartbeats 4000000
namespace Vm
open PySem PySem.Spec PyProof.Rows L2
/-! ### the greater, the least -/
section
open PySem.W
variable {prog : Program} {w : World} {A : Around} {E : Value → Shared → Prop} {s : Shared}
end
def maxOk (d e : D) : Bool := ltOk d e && (ltOk e d && (alD d d && alD e e))
def oMax2 : List D → Option D
  | [d, e] => if maxOk d e = true then some (if ltD d e = true then e else d) else none
  | _ => none
def oMin2 : List D → Option D
  | [d, e] => if maxOk d e = true then some (if ltD e d = true then e else d) else none
  | _ => none
section
variable {G : GC} {N : List Str} {S : SC} {X : Cx}
/-- no list of one's own -/
def hard : D → Bool
  | .lst _ => false
  | .dct _ _ => false
  | .dnt _ _ => false
  | .ins _ _ _ => false
  | .scr _ => false
  | .exn _ _ _ => false
  | .unk => false
  | _ => true
def oMaxH (o : List D → Option D) : List D → Option D
  | [d, e] => if (hard d && hard e) = true then o [d, e] else none
  | _ => none
end
section
variable {G : GC} {N : List Str} {S : SC} {bs bs1 bs2 ms ms1 ms2 ms3 as : Ms} {m : Md} {k : Kd} {e a b : Expr} {es : List Expr} {f fa fb : M D} {fs : M (List D)} {pos p : Pos}
end
/-! ### order, by kinds -/
@[simp] theorem ltD_int (i j : Int) : ltD (.int i) (.int j) = decide (i < j) := PySem.W.dataLt_int i j
@[simp] theorem leD_int (i j : Int) : leD (.int i) (.int j) = decide (i ≤ j) := by
  show (!ltD (.int j) (.int i)) = _
  rw [ltD_int, ← decide_not]
  congr 1
  exact propext Int.not_lt
@[simp] theorem alD_int (i j : Int) : alD (.int i) (.int j) = true := rfl
@[simp] theorem alD_str (i j : List Nat) : alD (.str i) (.str j) = true := rfl
@[simp] theorem alD_bl (i j : Bool) : alD (.bl i) (.bl j) = true := rfl
@[simp] theorem oLt_int (i j : Int) : oLt (.int i) (.int j) = some (.bl (decide (i < j))) := by
  have e : oLt (.int i) (.int j) = some (.bl (ltD (.int i) (.int j))) := rfl
  rw [e, ltD_int]
@[simp] theorem oGt_int (i j : Int) : oGt (.int i) (.int j) = some (.bl (decide (j < i))) := by
  have e : oGt (.int i) (.int j) = some (.bl (ltD (.int j) (.int i))) := rfl
  rw [e, ltD_int]
@[simp] theorem oLe_int (i j : Int) : oLe (.int i) (.int j) = some (.bl (decide (i ≤ j))) := by
  have e : oLe (.int i) (.int j) = some (.bl (leD (.int i) (.int j))) := rfl
  rw [e, leD_int]
@[simp] theorem oGe_int (i j : Int) : oGe (.int i) (.int j) = some (.bl (decide (j ≤ i))) := by
  have e : oGe (.int i) (.int j) = some (.bl (leD (.int j) (.int i))) := rfl
  rw [e, leD_int]
end Vm
set_option Elab.async false
set_option linter.all false
set_option maxRecDepth 100000
set_option maxHeartbeats 4000000
namespace Vm
open PySem PySem.Spec PyProof.Rows L2
/-! ### a slot's value given away -/
def coDrop (c : Co) (fp : List Addr) : Co := fun a => if a ∈ fp then none else c a
section
variable {K : PySem.W.Frag} {mg : MG} {ms : Ms} {H0 H : Hp} {c : Co} {σ : L2.St} {ρ : En} {d : D} {m : Md} {v : V} {i : Nat} {fp : List Addr}
theorem coDrop_some {a : Addr} {j : Nat} (h : coDrop c fp a = some j) : a ∉ fp ∧ c a = some j := by
  unfold coDrop at h
  split at h
  · cases h
  · exact ⟨by assumption, h⟩
theorem Step.drop (hc : ∀ a ∈ fp, c a = some i) (hi : ms i = true) : Step ms H0 H c H0 H (coDrop c fp) := by
  refine ⟨fun a o e _ => e, fun a o e k => ?_, Same.refl _, fun a o e => .inl ⟨o, e⟩, fun a j e => .inl (coDrop_some e).2⟩
  unfold coDrop
  rw [if_neg fun z => by rw [k i (hc a z)] at hi; cases hi]
theorem Lies.drop (l : Lies K mg H0 H c σ ρ) (hc : ∀ a ∈ fp, c a = some i) : Lies K mg H0 H (coDrop c fp) σ (ρ.set i none) := by
  refine ⟨l.sub, l.hot, fun a j e => l.apart a j (coDrop_some e).2, fun a j e => l.there a j (coDrop_some e).2, by rw [List.length_set]; exact l.len, fun j m d e => ?_⟩
  by_cases h : i = j
  · subst h
    by_cases hi : i < ρ.length
    · rw [getS_set_eq hi] at e; cases e
    · have : getS (ρ.set i none) i = none := by simp [getS, List.getD_eq_getElem?_getD, hi]
      rw [this] at e; cases e
  · rw [getS_set_ne h] at e
    obtain ⟨w, g, e1, o, nd, hg⟩ := l.slot j m d e
    refine ⟨w, g, e1, o, nd, fun a ha => ?_⟩
    have z := hg a ha
    unfold coDrop
    rw [if_neg fun y => by rw [hc a y] at z; exact h (Option.some.inj z)]
    exact z
end
/-- the value moves out, owned -/
def eMv (i : Nat) (m : Md) : M D := fun r => match getS r i with
  | some (m', d) => if mdEq m' m = true then .ok d (r.set i none) else .bad
  | none => .bad
section
variable {G : GC} {N : List Str} {S : SC} {bs ms : Ms} {m : Md} {pos : Pos} {x : Str} {i : Nat}
/-- the value is frozen; the slot keeps it -/
theorem VO.fz (hN : N[i]? = some x := by rfl) (hv : Vis S.sc x := by first | exact Or.inl rfl | exact Or.inr (Or.inl rfl) | exact Or.inr (Or.inr rfl))
    (hd : (x == ("__debug__" : Str)) = false := by decide) (hcd : (x == ("__classdict__" : Str)) = false := by decide) : VO G N S .z (msO i) (.Name x pos) (eFrz i) := by
  refine fun R a W t => (pe_var (i := i) hN (a.vis hv) hd hcd).imp fun σ H Q ⟨ρ, H0, c, l, o⟩ => ?_
  unfold eFrz at o
  cases es : getS ρ i with
  | none => rw [es] at o; exact o.elim
  | some md =>
    obtain ⟨m', d⟩ := md
    obtain ⟨v, fp, e1, ow, nd, hc⟩ := l.slot i m' d es
    refine ⟨v, e1, ?_⟩
    rw [es] at o
    have l1 := l.drop hc
    have nc : ∀ a ∈ fp, coDrop c fp a = none := fun a ha => by unfold coDrop; rw [if_pos ha]
    have l2 := l1.take nc
    have fz : Fz G.K G.mg (ext H0 H fp) d v := Ow.frz l.sub d m' v fp ow
    have fr : Fresh (msO i) H c H0 H (coDrop c fp) fp := ⟨nd, nc, fun a ha => l.apart a i (hc a ha), fun a ha => l.there a i (hc a ha), fun a ha => .inr ⟨i, hc a ha, by simp⟩⟩
    have st : Step (msO i) H0 H c (ext H0 H fp) H (coDrop c fp) := Step.take (.drop hc (by simp)) l.sub fr
    have l3 := l2.set (i := i) (m := .z) (d := d) (v := v) (fp := []) (Ow.zero.mpr ⟨rfl, fz⟩) List.nodup_nil (by simp) (by simp) (by simp)
    rw [set_same e1, List.set_set] at l3
    have st2 : Step (msO i) H0 H c (ext H0 H fp) H (coSet (coDrop c fp) i []) := Step.store (K := G.K) (mg := G.mg) st .nil
    exact o v (ext H0 H fp) H _ st2 l3 (ow_zero_fo fz)
end
section
variable (s0 : Sl) (r : En) (i : Nat) (m : Md) (d : D)
def mvS (m : Md) : Sl → Option D
  | some (m', d) => if mdEq m' m = true then some d else none
  | none => none
@[simp] theorem eMv_ap : eMv i m (s0 :: r) = (rM (mvS m (getS (s0 :: r) i)) (s0 :: r)).bind fun d r => .ok d (r.set i none) := by
  unfold eMv mvS
  cases getS (s0 :: r) i with
  | none => rfl
  | some p =>
    obtain ⟨m', d⟩ := p
    dsimp only
    split <;> rfl
@[simp] theorem mvS_z : mvS .z (some (.z, d)) = some d := rfl
@[simp] theorem mvS_1 : mvS m1 (some (.o (.all .z), d)) = some d := rfl
def fzS : Sl → Option D
  | some (_, d) => some d
  | none => none
@[simp] theorem eFrz_ap : eFrz i (s0 :: r) = (rM (fzS (getS (s0 :: r) i)) (s0 :: r)).bind fun d r => .ok d (r.set i (some (.z, d))) := by
  unfold eFrz fzS
  cases getS (s0 :: r) i <;> rfl
@[simp] theorem fzS_some : fzS (some (m, d)) = some d := rfl
end
end Vm
set_option Elab.async false
set_option linter.all false
set_option maxRecDepth 100000
set_option maxHeartbeats 4000000
/-! list(reversed(xs)) -/
namespace VmRev
open PySem
section
variable {prog : Program} {w : World} {A : Around} {E : Value → Shared → Prop} {s : Shared}
end
end VmRev
namespace Vm
open PySem PySem.Spec PyProof.Rows L2
section
variable {X : Cx}
end
def oRevL : D → Option D
  | .lst ds => some (.lst ds.reverse)
  | .scr ns => some (.lst (ns.map D.int).reverse)
  | _ => none
def fRevL (f : M D) : M D := fun r => (f r).bind fun d => rM (oRevL d)
section
variable {G : GC} {N : List Str} {S : SC} {bs ms : Ms} {m : Md} {e : Expr} {f : M D} {pos p p2 pos2 : Pos}
@[simp] theorem fRevL_ap (s0 : Sl) (r : En) : fRevL f (s0 :: r) = (f (s0 :: r)).bind fun d r => rM (oRevL d) r := rfl
@[simp] theorem oRevL_lst (ds : List D) : oRevL (.lst ds) = some (.lst ds.reverse) := rfl
end
end Vm
set_option Elab.async false
set_option linter.all false
set_option maxRecDepth 100000
set_option maxHeartbeats 4000000
namespace Vm
open PySem PySem.Spec PyProof.Rows L2
/-! ### words of the printed texts -/
def lentA (i : Nat) (fs : M (List D)) : M (List D) := fun r => match getS r i with
  | some _ => fs r
  | none => .bad
section
variable (s0 : Sl) (r : En) (i : Nat) (fs : M (List D)) (p : Md × D)
def isBd : Sl → Bool
  | some _ => true
  | none => false
@[simp] theorem lentA_ap : lentA i fs (s0 :: r) = if isBd (getS (s0 :: r) i) = true then fs (s0 :: r) else .bad := by
  unfold lentA
  cases getS (s0 :: r) i <;> rfl
@[simp] theorem isBd_some : isBd (some p) = true := rfl
theorem plains_map {α : Type} {f : α → D} {xs : List α} (h : ∀ x, plain (f x) = true) : plains (xs.map f) = true := plains_of fun d hd => by
  obtain ⟨x, _, e⟩ := List.mem_map.mp hd
  rw [← e]; exact h x
@[simp] theorem gRet_eC (d : D) (r : En) : gRet (eC d) r = .ok (.rt d) r := rfl
/-! ### items by a written place -/
section
variable {α : Type} (x y z u v : α) (xs : List α) (n : Nat)
@[simp] theorem atI_c0 : atI (x :: xs) 0 = some x := atI_nat (j := 0) rfl
@[simp] theorem atI_c1 : atI (x :: y :: xs) 1 = some y := atI_nat (j := 1) rfl
@[simp] theorem atI_c2 : atI (x :: y :: z :: xs) 2 = some z := atI_nat (j := 2) rfl
@[simp] theorem atI_c3 : atI (x :: y :: z :: u :: xs) 3 = some u := atI_nat (j := 3) rfl
@[simp] theorem atI_c4 : atI (x :: y :: z :: u :: v :: xs) 4 = some v := atI_nat (j := 4) rfl
@[simp] theorem ixN_c0 : ixN (n + 1) 0 = some 0 := by unfold ixN; simp
@[simp] theorem ixN_c1 : ixN (n + 2) 1 = some 1 := by unfold ixN; simp; omega
@[simp] theorem ixN_c2 : ixN (n + 3) 2 = some 2 := by unfold ixN; simp; omega
@[simp] theorem ixN_c3 : ixN (n + 4) 3 = some 3 := by unfold ixN; simp; omega
theorem ixN_last : ixN (n + 1) (-1) = some n := by unfold ixN; simp; omega
@[simp] theorem atI_snoc : atI (xs ++ [x]) (-1) = some x := by
  unfold atI
  rw [List.length_append, List.length_singleton, ixN_last]
  simp
@[simp] theorem ixN_lst : ixN (n + 1) (-1) = some n := ixN_last n
@[simp] theorem set_snoc : (xs ++ [x]).set xs.length y = xs ++ [y] := by
  induction xs with
  | nil => rfl
  | cons a xs ih => rw [List.cons_append, List.length_cons, List.set_cons_succ, ih]; rfl
@[simp] theorem set_map_snoc {β : Type} (f : β → α) (ys : List β) : (ys.map f ++ [x]).set ys.length y = ys.map f ++ [y] := by
  have := set_snoc x y (ys.map f)
  rw [List.length_map] at this
  exact this
end
end
/-! ### the order of data -/
@[simp] theorem alD_tup_nil (ys : List D) : alD (.tup []) (.tup ys) = true := by cases ys <;> rfl
@[simp] theorem alD_tup_nil' (ys : List D) : alD (.tup ys) (.tup []) = true := by cases ys <;> rfl
@[simp] theorem alD_tup_cons (x y : D) (xs ys : List D) : alD (.tup (x :: xs)) (.tup (y :: ys)) = (alD x y && alD (.tup xs) (.tup ys)) := rfl
theorem leD_trans {a b c : D} (h1 : leD a b = true) (h2 : leD b c = true) : leD a c = true := by
  have := (PySem.W.sortLe_total (PyProof.Rows.listOrd PyProof.Rows.itemOrd) false (fun d : D => PySem.W.keyToks (toPy d))).trans a b c h1 h2
  exact this
theorem leD_total (a b : D) : (leD a b || leD b a) = true := by
  rcases (PySem.W.sortLe_total (PyProof.Rows.listOrd PyProof.Rows.itemOrd) false (fun d : D => PySem.W.keyToks (toPy d))).total a b with h | h
  · rw [show leD a b = true from h]; rfl
  · rw [show leD b a = true from h, Bool.or_true]
theorem sortD_map {α : Type} (f : α → D) (xs : List α) : sortD (xs.map f) = (xs.mergeSort fun a b => leD (f a) (f b)).map f :=
  (List.map_mergeSort (f := f) (r := fun a b => leD (f a) (f b)) (s := leD) (l := xs) fun _ _ _ _ => rfl).symm
theorem sort_pair {α : Type} (f : α → D) (xs : List α) : (xs.mergeSort fun a b => leD (f a) (f b)).Pairwise fun a b => leD (f a) (f b) = true :=
  List.pairwise_mergeSort (le := fun a b => leD (f a) (f b)) (fun _ _ _ h1 h2 => leD_trans h1 h2) (fun a b => leD_total (f a) (f b)) xs
end Vm
set_option Elab.async false
set_option linter.all false
set_option maxRecDepth 100000
set_option maxHeartbeats 4000000
namespace Vm
open PySem PySem.Spec PyProof.Rows L2

/-! ### enumerate over a tuple -/
section
variable {prog : Program} {w : World} {A : Around} {E : Value → Shared → Prop} {s : Shared}
end
section
variable {G : GC} {N : List Str} {S : SC} {bs bs1 bs2 ms ms1 ms2 ms3 as : Ms} {m : Md} {k : Kd} {e a b : Expr} {es : List Expr} {f fa fb : M D} {fs : M (List D)} {pos : Pos} {tg : Expr}
def iEnmA (f : M D) : M (List D) := fun r => (f r).bind fun d => rM (match d with
  | .tup ds => some (enumD 0 ds)
  | d => (asLst d).map (enumD 0))
@[simp] theorem iEnmA_ap (s0 : Sl) (r : En) : iEnmA f (s0 :: r) = (f (s0 :: r)).bind fun d => rM (match d with
  | .tup ds => some (enumD 0 ds)
  | d => (asLst d).map (enumD 0)) := rfl
end
@[simp] theorem isT_int_non  : isT .int .non = some false := rfl
@[simp] theorem isT_int_bl (a : Bool) : isT .int (.bl a) = some true := rfl
@[simp] theorem isT_int_int (a : Int) : isT .int (.int a) = some true := rfl
@[simp] theorem isT_int_str (a : List Nat) : isT .int (.str a) = some false := rfl
@[simp] theorem isT_int_lst (a : List D) : isT .int (.lst a) = some false := rfl
@[simp] theorem isT_int_scr (a : List Int) : isT .int (.scr a) = some false := rfl
@[simp] theorem isT_int_tup (a : List D) : isT .int (.tup a) = some false := rfl
@[simp] theorem isT_bool_non  : isT .bool .non = some false := rfl
@[simp] theorem isT_bool_int (a : Int) : isT .bool (.int a) = some false := rfl
@[simp] theorem isT_bool_str (a : List Nat) : isT .bool (.str a) = some false := rfl
@[simp] theorem isT_bool_lst (a : List D) : isT .bool (.lst a) = some false := rfl
@[simp] theorem isT_bool_scr (a : List Int) : isT .bool (.scr a) = some false := rfl
@[simp] theorem isT_bool_tup (a : List D) : isT .bool (.tup a) = some false := rfl
@[simp] theorem isT_str_non  : isT .str .non = some false := rfl
@[simp] theorem isT_str_bl (a : Bool) : isT .str (.bl a) = some false := rfl
@[simp] theorem isT_str_int (a : Int) : isT .str (.int a) = some false := rfl
@[simp] theorem isT_str_str (a : List Nat) : isT .str (.str a) = some true := rfl
@[simp] theorem isT_str_lst (a : List D) : isT .str (.lst a) = some false := rfl
@[simp] theorem isT_str_scr (a : List Int) : isT .str (.scr a) = some false := rfl
@[simp] theorem isT_str_tup (a : List D) : isT .str (.tup a) = some false := rfl
@[simp] theorem isT_list_non  : isT .list .non = some false := rfl
@[simp] theorem isT_list_bl (a : Bool) : isT .list (.bl a) = some false := rfl
@[simp] theorem isT_list_int (a : Int) : isT .list (.int a) = some false := rfl
@[simp] theorem isT_list_str (a : List Nat) : isT .list (.str a) = some false := rfl
@[simp] theorem isT_list_lst (a : List D) : isT .list (.lst a) = some true := rfl
@[simp] theorem isT_list_scr (a : List Int) : isT .list (.scr a) = some true := rfl
@[simp] theorem isT_list_tup (a : List D) : isT .list (.tup a) = some false := rfl
@[simp] theorem isT_tuple_non  : isT .tuple .non = some false := rfl
@[simp] theorem isT_tuple_bl (a : Bool) : isT .tuple (.bl a) = some false := rfl
@[simp] theorem isT_tuple_int (a : Int) : isT .tuple (.int a) = some false := rfl
@[simp] theorem isT_tuple_str (a : List Nat) : isT .tuple (.str a) = some false := rfl
@[simp] theorem isT_tuple_lst (a : List D) : isT .tuple (.lst a) = some false := rfl
@[simp] theorem isT_tuple_scr (a : List Int) : isT .tuple (.scr a) = some false := rfl
@[simp] theorem isT_tuple_tup (a : List D) : isT .tuple (.tup a) = some true := rfl
@[simp] theorem isT_dict_non  : isT .dict .non = some false := rfl
@[simp] theorem isT_dict_bl (a : Bool) : isT .dict (.bl a) = some false := rfl
@[simp] theorem isT_dict_int (a : Int) : isT .dict (.int a) = some false := rfl
@[simp] theorem isT_dict_str (a : List Nat) : isT .dict (.str a) = some false := rfl
@[simp] theorem isT_dict_lst (a : List D) : isT .dict (.lst a) = some false := rfl
@[simp] theorem isT_dict_scr (a : List Int) : isT .dict (.scr a) = some false := rfl
@[simp] theorem isT_dict_tup (a : List D) : isT .dict (.tup a) = some false := rfl
end Vm
set_option Elab.async false
set_option linter.all false
set_option maxRecDepth 100000
set_option maxHeartbeats 4000000
namespace Vm
open PySem PySem.Spec PyProof.Rows L2

/-! ### what is never reached -/
def gBad : M Fl := fun _ => .bad
def fBad : M D := fun _ => .bad
@[simp] theorem gBad_ap (r : En) : gBad r = .bad := rfl
@[simp] theorem fBad_ap (r : En) : fBad r = .bad := rfl
section
variable {G : GC} {N : List Str} {S : SC} {bs bs1 bs2 ms ms1 ms2 ms3 as as1 as2 : Ms} {m rm : Md} {k : Kd} {e a b : Expr} {es : List Expr} {f fa fb : M D} {fs : M (List D)} {pos : Pos} {g g1 g2 : M Fl} {st : Stmt} {rest st1 st2 : List Stmt}
theorem VS.bad : VS G N S rm ms0 st gBad := fun R a W t => ⟨fun pins s σ H D I ⟨ρ, H0, c, l, o⟩ => o.elim⟩
theorem VO.bad : VO G N S m ms0 e fBad := fun R a W t => ⟨fun pins s σ H Q I ⟨ρ, H0, c, l, o⟩ => o.elim⟩

/-! ### while, as long as it takes -/
theorem lpK_mono {k k' : M Fl} (h : ∀ r, k r = .bad ∨ k r = k' r) (fl : Fl) (r : En) : lpK k fl r = .bad ∨ lpK k fl r = lpK k' fl r := by
  cases fl with
  | nx => exact h r
  | ct => exact h r
  | bk => exact .inr rfl
  | rt d => exact .inr rfl
theorem bind_mono {α β : Type} {x : Res α} {k k' : α → M β} (h : ∀ a r, k a r = .bad ∨ k a r = k' a r) : x.bind k = .bad ∨ x.bind k = x.bind k' := by
  cases x with
  | ok a r => exact h a r
  | exc n ns vs r => exact .inr rfl
  | bad => exact .inr rfl
theorem gWhile_mono (ft : M D) (gb : M Fl) : ∀ (n : Nat) (r : En), gWhile ft gb n r = .bad ∨ gWhile ft gb n r = gWhile ft gb (n + 1) r
  | 0, r => .inl rfl
  | n + 1, r => by
    have ih := gWhile_mono ft gb n
    show (ft r).bind _ = .bad ∨ (ft r).bind _ = (ft r).bind _
    refine bind_mono fun d r => ?_
    cases d with
    | bl b =>
      cases b with
      | true => exact bind_mono fun fl r => lpK_mono ih fl r
      | false => exact .inr rfl
    | _ => exact .inl rfl
theorem gWhile_le (ft : M D) (gb : M Fl) {n m : Nat} (h : n ≤ m) (r : En) : gWhile ft gb n r = .bad ∨ gWhile ft gb n r = gWhile ft gb m r := by
  induction h with
  | refl => exact .inr rfl
  | step _ ih =>
    rename_i m _
    rcases ih with z | z
    · exact .inl z
    · rcases gWhile_mono ft gb m r with y | y
      · exact .inl (z.trans y)
      · exact .inr (z.trans y)
open Classical in
noncomputable def gWh (ft : M D) (gb : M Fl) : M Fl := fun r => if h : ∃ n, gWhile ft gb n r ≠ .bad then gWhile ft gb (Classical.choose h) r else .bad
theorem gWh_of {ft : M D} {gb : M Fl} {r : En} {n : Nat} {x : Res Fl} (h : gWhile ft gb n r = x) (hx : x ≠ .bad) : gWh ft gb r = x := by
  have hn : gWhile ft gb n r ≠ .bad := fun z => hx (h.symm.trans z)
  have he : ∃ n, gWhile ft gb n r ≠ .bad := ⟨n, hn⟩
  unfold gWh
  rw [dif_pos he]
  have hc := Classical.choose_spec he
  generalize Classical.choose he = k at hc
  rcases Nat.le_total k n with q | q
  · rcases gWhile_le ft gb q r with z | z
    · exact absurd z hc
    · exact z.trans h
  · rcases gWhile_le ft gb q r with z | z
    · exact absurd z hn
    · exact z.symm.trans h
theorem gWh_cases (ft : M D) (gb : M Fl) (r : En) : gWh ft gb r = .bad ∨ ∃ n, gWh ft gb r = gWhile ft gb n r := by
  unfold gWh
  split
  · exact .inr ⟨_, rfl⟩
  · exact .inl rfl
def gWhS (ft : M D) (gb k : M Fl) : M Fl := fun r => (ft r).bind fun d r => match d with
    | .bl true => (gb r).bind (lpK k)
    | .bl false => .ok .nx r
    | _ => .bad
/-- one turn -/
theorem gWh_eq (ft : M D) (gb : M Fl) (r : En) {x : Res Fl} (h : gWhS ft gb (gWh ft gb) r = x) (hx : x ≠ .bad) : gWh ft gb r = x := by
  have key : ∃ n, gWhS ft gb (gWhile ft gb n) r = x := by
    unfold gWhS at h ⊢
    cases hf : ft r with
    | bad => rw [hf] at h; exact absurd h.symm hx
    | exc n ns vs r2 => exact ⟨0, by rw [hf] at h; exact h⟩
    | ok d r2 =>
      rw [hf] at h
      rw [bind_ok] at h
      cases d with
      | bl b =>
        cases b with
        | false => exact ⟨0, h⟩
        | true =>
          cases hg : gb r2 with
          | bad => simp only [hg, bind_bad] at h; exact absurd h.symm hx
          | exc n ns vs r3 => exact ⟨0, by simp only [hg] at h; rw [bind_ok]; simp only [hg]; exact h⟩
          | ok fl r3 =>
            simp only [hg, bind_ok] at h
            have go : ∀ r3, gWh ft gb r3 = x → ∃ n, gWhile ft gb n r3 = x := fun r3 h => by
              rcases gWh_cases ft gb r3 with z | ⟨n, z⟩
              · exact absurd (h.symm.trans z) hx
              · exact ⟨n, z.symm.trans h⟩
            cases fl with
            | nx =>
              obtain ⟨n, z⟩ := go r3 h
              exact ⟨n, by rw [bind_ok]; simp only [hg, bind_ok]; exact z⟩
            | ct =>
              obtain ⟨n, z⟩ := go r3 h
              exact ⟨n, by rw [bind_ok]; simp only [hg, bind_ok]; exact z⟩
            | bk => exact ⟨0, by rw [bind_ok]; simp only [hg, bind_ok]; exact h⟩
            | rt d => exact ⟨0, by rw [bind_ok]; simp only [hg, bind_ok]; exact h⟩
      | _ => exact absurd h.symm hx
  obtain ⟨n, z⟩ := key
  exact gWh_of (n := n + 1) z hx
theorem VS.wh {t : Expr} {body : List Stmt} {ft : M D} {gb : M Fl} (ht : VT G N S ms t ft) (hb : VSs G N S rm as body gb) : VS G N S rm as (.While t body [] pos) (gWh ft gb) := by
  refine fun R a W tk => ⟨fun pins s σ H D I ⟨ρ, H0, c, l, o⟩ => ?_⟩
  rcases gWh_cases ft gb ρ with z | ⟨n, z⟩
  · rw [z] at o; exact o.elim
  · rw [z] at o
    exact ((VS.while_ (pos := pos) n ht hb) R a W tk).run pins s σ H D I ⟨ρ, H0, c, l, o⟩
end
end Vm
set_option Elab.async false
set_option linter.all false
set_option maxRecDepth 100000
set_option maxHeartbeats 4000000
namespace Vm
open PySem PySem.Spec PyProof.Rows L2

/-! ### dictionaries by ints and texts -/
def keyD : D → Option Key
  | .int i => some (.inl i)
  | .str s => some (.inr ⟨s.toArray⟩)
  | _ => none
theorem keyD_kD (k : Key) : keyD (kD k) = some k := by
  cases k with
  | inl i => rfl
  | inr x => obtain ⟨c⟩ := x; simp [kD, keyD]
def dLook (k : Key) : List D → List D → Option D
  | x :: ks, v :: vs => if keyD x = some k then some v else dLook k ks vs
  | _, _ => none
def oDGet (d e : D) : Option D := match d with
  | .dct ks vs => (keyD e).bind fun k => dLook k ks vs
  | _ => none
def oDIn (e d : D) : Option D := match d with
  | .dct ks vs => (keyD e).map fun k => .bl (dLook k ks vs).isSome
  | _ => none
def oDNotIn (e d : D) : Option D := match d with
  | .dct ks vs => (keyD e).map fun k => .bl !(dLook k ks vs).isSome
  | _ => none
theorem dLook_val {K : PySem.W.Frag} {mg : MG} {H : Hp} (k : Key) : ∀ (kvs : List (Key × V)) (ds : List D), Fzs K mg H ds (kvs.map (·.2)) →
    (dLook k (kvs.map fun p => kD p.1) ds).isSome = (valV kvs k).isSome ∧ ∀ d, dLook k (kvs.map fun p => kD p.1) ds = some d → ∃ v, valV kvs k = some v ∧ Fz K mg H d v
  | [], ds, h => by
    cases ds with
    | nil => exact ⟨rfl, fun d q => by cases q⟩
    | cons d ds => obtain ⟨v, r, e, _⟩ := h; cases e
  | p :: kvs, [], h => by cases (show List.map (·.2) (p :: kvs) = [] from h)
  | p :: kvs, d :: ds, ⟨v, r, e, hv, hr⟩ => by
    cases e
    obtain ⟨i1, i2⟩ := dLook_val (K := K) (mg := mg) (H := H) k kvs ds hr
    by_cases z : p.1 = k
    · have z' : keyD (kD p.1) = some k := by rw [keyD_kD, z]
      rw [List.map_cons, dLook, if_pos z', valV_pos z]
      exact ⟨rfl, fun d' q => by cases q; exact ⟨_, rfl, hv⟩⟩
    · have z' : ¬ keyD (kD p.1) = some k := by rw [keyD_kD]; exact fun q => z (Option.some.inj q)
      rw [List.map_cons, dLook, if_neg z', valV_neg z]
      exact ⟨i1, i2⟩
theorem key_v {K : PySem.W.Frag} {mg : MG} {H0 H : Hp} {d : D} {v : V} {k : Key} (h : Sh K mg H0 H d v) (e : keyD d = some k) : v = kV k := by
  cases d <;> simp [keyD] at e
  · subst e; exact h
  · subst e; exact h.1
def rDGet : R2 := fun x y H Q => ∃ a v, x = .ref a ∧ DGet H a y (some v) ∧ Q v H
def rDIn : R2 := fun y x H Q => ∃ a o, x = .ref a ∧ DGet H a y o ∧ Q (.bl o.isSome) H
def rDNotIn : R2 := fun y x H Q => ∃ a o, x = .ref a ∧ DGet H a y o ∧ Q (.bl (!o.isSome)) H
section
variable {G : GC} {N : List Str} {S : SC} {bs bs1 bs2 ms ms1 ms2 ms3 : Ms} {m : Md} {e a b : Expr} {es : List Expr} {f fa fb : M D} {pos : Pos}
theorem ru_dget : Ru2 G rDGet .z oDGet := by
  intro H0 H d1 d2 x y d Q s h1 h2 ho f
  cases d1 <;> try (cases ho; done)
  rename_i ks ds
  obtain ⟨k, hk, hl⟩ := Option.bind_eq_some_iff.mp (show (keyD d2).bind (fun k => dLook k ks ds) = some d from ho)
  obtain ⟨a, vs, e, ⟨kvs, hd, hz, e1, e2⟩, g⟩ := h1
  subst e e1 e2
  obtain ⟨v, hv, fz⟩ := (dLook_val k kvs ds g).2 d hl
  exact ⟨a, v, rfl, .inl ⟨kvs, k, hd, key_v h2 hk, hv.symm⟩, f.frz s fz⟩
theorem ru_din : Ru2 G rDIn .z oDIn := by
  intro H0 H d1 d2 x y d Q s h1 h2 ho f
  cases d2 <;> simp [oDIn] at ho
  rename_i ks ds
  obtain ⟨k, hk, hl⟩ := ho
  obtain ⟨a, vs, e, ⟨kvs, hd, hz, e1, e2⟩, g⟩ := h2
  subst e e1 e2 hl
  exact ⟨a, _, rfl, .inl ⟨kvs, k, hd, key_v h1 hk, rfl⟩, f.frz s (by show V.bl _ = V.bl _; rw [(dLook_val k kvs ds g).1])⟩
theorem ru_dnin : Ru2 G rDNotIn .z oDNotIn := by
  intro H0 H d1 d2 x y d Q s h1 h2 ho f
  cases d2 <;> try (cases ho; done)
  rename_i ks ds
  obtain ⟨k, hk, hl⟩ := Option.map_eq_some_iff.mp (show (keyD d1).map (fun k => D.bl !(dLook k ks ds).isSome) = some d from ho)
  obtain ⟨a, vs, e, ⟨kvs, hd, hz, e1, e2⟩, g⟩ := h2
  subst e e1 e2 hl
  exact ⟨a, _, rfl, .inl ⟨kvs, k, hd, key_v h1 hk, rfl⟩, f.frz s (by show V.bl _ = V.bl _; rw [(dLook_val k kvs ds g).1])⟩
theorem op_din {X : Cx} (hu : X.A.units + 1 < cLine) : OpR X (compareOp .In) rDIn := by
  intro pins s σ H x y v u Q I rx ry ⟨a, o, e, g, q⟩
  subst e
  obtain rfl : u = Value.ref a := ry
  exact d_in hu I g rx fun s3 I3 => ⟨.bl o.isSome, H, I3, rfl, q⟩
theorem op_dnin {X : Cx} (hu : X.A.units + 1 < cLine) : OpR X (compareOp .NotIn) rDNotIn := by
  intro pins s σ H x y v u Q I rx ry ⟨a, o, e, g, q⟩
  subst e
  obtain rfl : u = Value.ref a := ry
  exact d_notIn hu I g rx fun s3 I3 => ⟨.bl (!o.isSome), H, I3, rfl, q⟩
theorem op_or {X : Cx} {f : Value → Value → Sem Value} {r r' : R2} (h : OpR X f r) (h' : OpR X f r') : OpR X f (rOr r r') :=
  fun pins s σ H x y v u Q I rx ry w => w.elim (h pins s σ H x y v u Q I rx ry) (h' pins s σ H x y v u Q I rx ry)
def isDct : D → Bool
  | .dct _ _ => true
  | _ => false
def oInA (e d : D) : Option D := if isDct d = true then oDIn e d else oIn e d
def oNotInA (e d : D) : Option D := if isDct d = true then oDNotIn e d else oNotIn e d
def oIxA (d e : D) : Option D := if isDct d = true then oDGet d e else oIx d e
theorem Cm.inA (hc : True := trivial) : Cm G N S .In oInA := ⟨_, fun _ a => op_or (op_din (by have := a.u100 hc; omega)) (op_inV (a.u100 hc)), fun H0 H d1 d2 x y d Q s h1 h2 ho f => by
  unfold oInA at ho
  split at ho
  · exact .inl (ru_din H0 H d1 d2 x y d Q s h1 h2 ho f)
  · exact .inr (ru_in H0 H d1 d2 x y d Q s h1 h2 ho f)⟩
theorem Cm.ninA (hc : True := trivial) : Cm G N S .NotIn oNotInA := ⟨_, fun _ a => op_or (op_dnin (by have := a.u100 hc; omega)) (op_notInV (a.u100 hc)), fun H0 H d1 d2 x y d Q s h1 h2 ho f => by
  unfold oNotInA at ho
  split at ho
  · exact .inl (ru_dnin H0 H d1 d2 x y d Q s h1 h2 ho f)
  · exact .inr (ru_notIn H0 H d1 d2 x y d Q s h1 h2 ho f)⟩
theorem PE.or {X : Cx} {e : Expr} {t t' : TE} (h : PE X e t) (h' : PE X e t') : PE X e fun σ H Q => t σ H Q ∨ t' σ H Q :=
  ⟨fun pins s σ H Q I w => w.elim (h.run pins s σ H Q I) (h'.run pins s σ H Q I)⟩
theorem VO.dget (ha : VB G N S bs1 ms1 a fa) (hb : VB G N S bs2 ms2 b fb) (dj : Dj bs1 ms2 := by intro i h; first | rfl | exact absurd h Bool.false_ne_true | (simp [lentM] at h ⊢ <;> omega)) (hc : True := trivial) (hs : NoSl b := by exact fun _ _ => rfl) : VO G N S .z (msU ms1 ms2) (.Subscript a b pos) (fOp2 oDGet fa fb) :=
  fun R at_ W t => (pe_dget (by have := at_.u100 hc; omega) (ha R at_ W t) (hb R at_ W t) hs).imp fun σ H Q h => VE.bin (r := rDGet) rfl rfl ru_dget dj h
end
section
variable {G : GC} {N : List Str} {S : SC} {bs bs1 bs2 ms ms1 ms2 ms3 : Ms} {m : Md} {e a b : Expr} {es : List Expr} {f fa fb : M D} {pos : Pos}
/-- which road a reading takes is seen by its first part -/
theorem VO.itemA (ha : VB G N S bs1 ms1 a fa) (hb : VB G N S bs2 ms2 b fb) (dj : Dj bs1 ms2 := by intro i h; first | rfl | exact absurd h Bool.false_ne_true | (simp [lentM] at h ⊢ <;> omega)) (hc : True := trivial) (hs : NoSl b := by exact fun _ _ => rfl) (hp : PlainIx b := by exact fun _ _ => rfl) : VO G N S .z (msU ms1 ms2) (.Subscript a b pos) (fOp2 oIxA fa fb) := by
  refine fun R at_ W t => (PE.or ((VO.dget (pos := pos) ha hb dj hc hs) R at_ W t) ((VO.item (pos := pos) ha hb dj hp) R at_ W t)).imp fun σ H Q ⟨ρ, H0, c, l, o⟩ => ?_
  cases hf : fa ρ with
  | ok d r =>
    have e1 : ∀ o' : D → D → Option D, fOp2 o' fa fb ρ = (fb r).bind fun y => rM (o' d y) := fun o' => by unfold fOp2; rw [hf]; rfl
    by_cases hd : isDct d = true
    · refine .inl ⟨ρ, H0, c, l, ?_⟩
      have : fOp2 oIxA fa fb ρ = fOp2 oDGet fa fb ρ := by
        rw [e1, e1]
        congr 1
        funext y
        unfold oIxA
        rw [if_pos hd]
      rw [← this]; exact o
    · refine .inr ⟨ρ, H0, c, l, ?_⟩
      have : fOp2 oIxA fa fb ρ = fOp2 oIx fa fb ρ := by
        rw [e1, e1]
        congr 1
        funext y
        unfold oIxA
        rw [if_neg hd]
      rw [← this]; exact o
  | exc n ns vs r => exact .inr ⟨ρ, H0, c, l, by unfold fOp2 at o ⊢; rw [hf] at o ⊢; exact o⟩
  | bad => exact .inr ⟨ρ, H0, c, l, by unfold fOp2 at o ⊢; rw [hf] at o ⊢; exact o⟩
end
end Vm
set_option Elab.async false
set_option linter.all false
set_option maxRecDepth 100000
set_option maxHeartbeats 4000000
namespace Vm
open PySem PySem.Spec PyProof.Rows L2

/-! ### d[k] = v on a dictionary of one's own -/
def hasK (k : Key) (ks : List D) : Bool := ks.any fun x => decide (keyD x = some k)
def putKs (k : Key) (ks : List D) : List D := if hasK k ks = true then ks else ks ++ [kD k]
def repV (k : Key) (d : D) : List D → List D → List D
  | x :: ks, v :: vs => (if keyD x = some k then d else v) :: repV k d ks vs
  | _, _ => []
def putVs (k : Key) (d : D) (ks vs : List D) : List D := if hasK k ks = true then repV k d ks vs else vs ++ [d]
theorem any_hasK (k : Key) (kvs : List (Key × V)) : hasK k (kvs.map fun p => kD p.1) = kvs.any fun kv => decide (kv.1 = k) := by
  unfold hasK
  rw [List.any_map]
  congr 1
  funext p
  simp [keyD_kD]
theorem putKs_kvs (k : Key) (v : V) (kvs : List (Key × V)) : (putK kvs k v).map (fun p => kD p.1) = putKs k (kvs.map fun p => kD p.1) := by
  unfold putK putKs
  rw [any_hasK]
  split
  · rw [List.map_map]
    congr 1
    funext p
    simp only [Function.comp]
    split <;> rfl
  · simp
theorem repV_fz {K : PySem.W.Frag} {mg : MG} {H : Hp} {k : Key} {d : D} {v : V} (hd : Fz K mg H d v) : ∀ (kvs : List (Key × V)) (ds : List D), Fzs K mg H ds (kvs.map (·.2)) →
    Fzs K mg H (repV k d (kvs.map fun p => kD p.1) ds) ((kvs.map fun kv => if kv.1 = k then (kv.1, v) else kv).map (·.2))
  | [], ds, h => by
    cases ds with
    | nil => rfl
    | cons x ds => obtain ⟨_, _, e, _⟩ := h; cases e
  | p :: kvs, [], h => by cases (show List.map (·.2) (p :: kvs) = [] from h)
  | p :: kvs, x :: ds, ⟨w, r, e, hw, hr⟩ => by
    cases e
    have ih := repV_fz (k := k) hd kvs ds hr
    by_cases z : p.1 = k
    · have z' : keyD (kD p.1) = some k := by rw [keyD_kD, z]
      simp only [List.map_cons, repV, if_pos z', if_pos z]
      exact ⟨v, _, rfl, hd, ih⟩
    · have z' : ¬ keyD (kD p.1) = some k := by rw [keyD_kD]; exact fun q => z (Option.some.inj q)
      simp only [List.map_cons, repV, if_neg z', if_neg z]
      exact ⟨_, _, rfl, hw, ih⟩
theorem putVs_fz {K : PySem.W.Frag} {mg : MG} {H : Hp} {k : Key} {d : D} {v : V} (hd : Fz K mg H d v) (kvs : List (Key × V)) (ds : List D) (h : Fzs K mg H ds (kvs.map (·.2))) :
    Fzs K mg H (putVs k d (kvs.map fun p => kD p.1) ds) ((putK kvs k v).map (·.2)) := by
  unfold putVs putK
  rw [any_hasK]
  split
  · exact repV_fz hd kvs ds h
  · rw [List.map_append]
    exact h.append ⟨v, [], rfl, hd, rfl⟩
def dcS : Sl → Option (List D × List D)
  | some (.o (.all m), .dct ks vs) => if mdEq m .z = true then some (ks, vs) else none
  | _ => none
def dPutO (k d : D) (p : List D × List D) : Option (List D × List D) := (keyD k).bind fun k => if p.1.length < 16777216 ∧ kOk k = true then some (putKs k p.1, putVs k d p.1 p.2) else none
section
variable {K : PySem.W.Frag} {mg : MG} {ms : Ms} {H0 H H01 H1 : Hp} {c c1 : Co} {σ : L2.St} {ρ1 : En} {ks ds ks' ds' : List D} {q : Addr} {i : Nat}
end
def rSetD : V → V → V → Hp → (Hp → Prop) → Prop := fun o i v H Q => ∃ a H', o = .ref a ∧ DPut H a i v H' ∧ Q H'
theorem set_dict {X : Cx} (hu : X.A.units + 1 < cLine) : PSet X rSetD := by
  intro pins s σ H o i v ov iv u Q I ro ri rv h
  obtain ⟨a, H', e, g, q⟩ := h
  subst e
  cases ro
  exact d_setItem hu I g ri rv fun s' I' => ⟨H', I', q⟩
section
variable {G : GC} {N : List Str} {S : SC} {bs bs1 bs2 ms ms1 ms2 ms3 as as1 as2 : Ms} {m rm : Md} {e a b : Expr} {es : List Expr} {f fa fb : M D} {pos p : Pos} {i : Nat} {x : Str}
/-- x[e] = v, x a dictionary -/
def gDPut (i : Nat) (fv fi : M D) : M Fl := fun r => (fv r).bind fun d r => (rM (dcS (getS r i)) r).bind fun _ r => (fi r).bind fun j r => (rM (dcS (getS r i)) r).bind fun p r => (rM (dPutO j d p) r).bind fun p' r => .ok .nx (r.set i (some (m1, .dct p'.1 p'.2)))
end
end Vm
set_option Elab.async false
set_option linter.all false
set_option maxRecDepth 100000
set_option maxHeartbeats 4000000
namespace Vm
open PySem PySem.Spec PyProof.Rows L2

/-! ### instances: an attribute is read -/
structure AtrX (G : GC) (c f : Str) : Prop where
  ex : ∃ C, G.mg c = some (.ref C) ∧ Cls G.K C ∧ NoAttr G.K C f
section
variable {fa : List He.Fa} {fn : List He.DefD} {cs : List (Str × D)} {G : GC}
theorem Ye.atr (Y : Ye fa fn cs G) (i j k : Nat) {c f : Str} (h1 : fa[i]? = some (.glo c) := by rfl) (h2 : fa[j]? = some (.cls c) := by rfl) (h3 : fa[k]? = some (.noat c f) := by rfl) : AtrX G c f := by
  obtain ⟨h, X, N⟩ := Y.h
  exact ⟨_, He.glo_ok X N (Y.fact i h1), He.cls_ok (Y.fact j h2), He.noat_ok (Y.fact k h3)⟩
end
def lkD (f : Str) : List Str → List D → Option D
  | x :: ns, v :: vs => if x = f then some v else lkD f ns vs
  | _, _ => none
def atrD (c f : Str) : D → Option D
  | .ins c' ns vs => if c' = c then lkD f ns vs else none
  | _ => none
theorem lkD_ok {K : PySem.W.Frag} {mg : MG} {H : Hp} {f : Str} : ∀ {ns : List Str} {ds : List D} {vs : List V} {d : D}, Fzs K mg H ds vs → lkD f ns ds = some d → ∃ v, (ns.zip vs).lookup f = some v ∧ Fz K mg H d v
  | [], ds, vs, d, h, e => by cases ds <;> cases e
  | x :: ns, [], vs, d, h, e => by cases e
  | x :: ns, y :: ds, vs, d, ⟨w, r, e1, hw, hr⟩, e => by
    subst e1
    by_cases z : x = f
    · rw [lkD, if_pos z] at e
      cases e
      subst z
      exact ⟨w, by simp [List.lookup], hw⟩
    · rw [lkD, if_neg z] at e
      obtain ⟨v, h1, h2⟩ := lkD_ok (ns := ns) hr e
      refine ⟨v, ?_, h2⟩
      have : (f == x) = false := by simpa using fun q => z q.symm
      simp [List.lookup, this, h1]
def fFld (c f : Str) (fe : M D) : M D := fun r => (fe r).bind fun d => rM (atrD c f d)
section
variable {G : GC} {N : List Str} {S : SC} {bs ms : Ms} {e : Expr} {fe : M D} {pos : Pos} {c f : Str}
theorem VO.fld (A : AtrX G c f) (h : VB G N S bs ms e fe) (hb : ∀ env, attributeBase e f env (eval e env) = eval e env := by intro _; rfl) : VO G N S .z ms (.Attribute e f pos) (fFld c f fe) := by
  refine fun R a W t => (pe_fld (h R a W t) (hb _)).imp fun σ H Q ⟨ρ, H0, cc, l, o⟩ => ?_
  refine ⟨ρ, H0, cc, l, (Out.bind (G := FB G.K G.mg bs) (ms1 := ms) back_FO o fun i e => e).imp fun x H1 ⟨d, H01, c1, ρ1, e1, s1, l1, b1, h1⟩ => ?_⟩
  cases hd : atrD c f d with
  | none => rw [hd] at h1; exact h1.elim
  | some y =>
    rw [hd] at h1
    have sh := b1.sh l1.sub
    cases d <;> try (cases hd; done)
    rename_i c' ns ds
    have hd' : (if c' = c then lkD f ns ds else none) = some y := hd
    by_cases ec : c' = c
    · rw [if_pos ec] at hd'
      obtain ⟨q, C, dx, vs, e2, hm, hH, hl, fz⟩ := sh
      obtain ⟨C', hm', cl, na⟩ := A.ex
      rw [ec, hm'] at hm
      cases hm
      obtain ⟨v, hv, fv⟩ := lkD_ok fz hd'
      exact ⟨q, _, dx, _, v, e2, hH, cl, na, hv, h1.here l1 fv⟩
    · rw [if_neg ec] at hd'
      cases hd'
@[simp] theorem fFld_ap (s0 : Sl) (r : En) : fFld c f fe (s0 :: r) = (fe (s0 :: r)).bind fun d => rM (atrD c f d) := rfl
end
end Vm
set_option Elab.async false
set_option linter.all false
set_option maxRecDepth 100000
set_option maxHeartbeats 4000000
namespace Vm
open PySem PySem.Spec PyProof.Rows L2

/-! ### methods of instances -/
structure MetX (G : GC) (c m : Str) (k : Nat) (ps : List Str) (rm : Md) (F : M D) : Prop where
  ex : ∃ C f fd, G.mg c = some (.ref C) ∧ Cls G.K C ∧ Meth G.K C m f ∧ Binds G.K fd ps [] ∧ FnV G k f fd ps rm F
def isIns (c m : Str) : D → Bool
  | .ins c' ns _ => decide (c' = c) && !ns.contains m
  | _ => false
def fMeth (c m : Str) (fo : M D) (fs : M (List D)) : M (List D) := fun r => (fo r).bind fun d r => if isIns c m d = true then (fs r).bind fun ds r => .ok (d :: ds) r else .bad
theorem zip_none {m : Str} : ∀ {ns : List Str} {vs : List V}, ns.contains m = false → (ns.zip vs).lookup m = none
  | [], _, _ => rfl
  | x :: ns, [], _ => rfl
  | x :: ns, v :: vs, h => by
    have h' : (m == x || ns.contains m) = false := by simpa [List.contains_cons] using h
    rw [Bool.or_eq_false_iff] at h'
    simp [List.lookup, h'.1, zip_none h'.2]
section
variable {G : GC} {N : List Str} {S : SC} {bs ms ms1 ms2 : Ms} {o e : Expr} {es : List Expr} {fo : M D} {fs : M (List D)} {pos apos : Pos} {c m : Str} {k : Nat} {ps : List Str} {rm : Md} {F : M D} {ls : List (Option Nat)}
theorem pe_metS {X : Cx} {CX : CXT} {k : Nat} {f C : Addr} {fd : FuncData} {ps : List Str} {sp : Sp} {E : L2.St → XK} {m : Str} {pos apos : Pos} {o e : Expr} {es : List Expr} {ta : TE} {t : TA} {pl : Sem Bool} (he : PE X o ta) (c : Cls X.K C) (hm : Meth X.K C m f) (F : FnK X.prog X.w X.K X.mg X.base CX k f fd ps sp) (hgd : X.A.guards = some []) (hr : Room k X.A) (hb : Binds X.K fd ps []) (hx : ∀ σ, PassesAt CX X σ (E σ)) (ha : PA X (e :: es) t)
    (hst : starEach (e :: es) X.env = (false, eval e X.env) :: starEach es X.env) (hpl : (backTo pos (starEach es X.env)).any (·.1) = false)
    (ht : eval (.Call (.Attribute o m apos) (e :: es) [] pos) X.env = (do
      let ov ← eval o X.env
      standAt apos.atName
      let (f, first) ← holding [ov] (getMethod ov m pl)
      callWith pos f first (backTo pos (starEach (e :: es) X.env)) (backToKw pos (keywordEach [] X.env)))) :
    PE X (.Call (.Attribute o m apos) (e :: es) [] pos) (fun σ H Q => ta σ H fun x H1 => ∃ a dx fs, x = .ref a ∧ H1 a = some (.ins C dx fs) ∧ fs.lookup m = none ∧ t σ H1 fun vs H2 => sp (x :: vs) H2 Q (E σ)) := by
  refine ⟨fun pins s σ H Q I h => ?_⟩
  refine PySem.W.methodCall_KW (pl := pl) (thn (he.run pins s σ H _ I h) fun u s1 ⟨x, H1, I1, rx, a, dx, fs, ex, ea, l, q⟩ => ?_) ht
  subst ex
  obtain rfl : u = Value.ref a := rx
  refine getmeth_ok I1 ea c hm l ?_
  refine PySem.W.callWith_K (first := [.ref a]) (h₀ := X.base) I.ok.mod.kin hm.kp (thn (ha.run pos pins s1 σ H1 _ I1 q) fun us s2 ⟨vs, H2, I2, r, q2⟩ => ⟨I2.kIn, ?_⟩) hst hpl
  exact run_fnG (us := .ref a :: us) (vs := .ref a :: vs) F hgd hr hb (hx σ) I2 (.cons rfl r) q2
theorem pe_metS0 {X : Cx} {CX : CXT} {k : Nat} {f C : Addr} {fd : FuncData} {ps : List Str} {sp : Sp} {E : L2.St → XK} {m : Str} {pos apos : Pos} {o : Expr} {ta : TE} {pl : Sem Bool} (he : PE X o ta) (c : Cls X.K C) (hm : Meth X.K C m f) (F : FnK X.prog X.w X.K X.mg X.base CX k f fd ps sp) (hgd : X.A.guards = some []) (hr : Room k X.A) (hb : Binds X.K fd ps []) (hx : ∀ σ, PassesAt CX X σ (E σ))
    (ht : eval (.Call (.Attribute o m apos) [] [] pos) X.env = (do
      let ov ← eval o X.env
      standAt apos.atName
      let (f, first) ← holding [ov] (getMethod ov m pl)
      callWith pos f first (backTo pos (starEach [] X.env)) (backToKw pos (keywordEach [] X.env)))) :
    PE X (.Call (.Attribute o m apos) [] [] pos) (fun σ H Q => ta σ H fun x H1 => ∃ a dx fs, x = .ref a ∧ H1 a = some (.ins C dx fs) ∧ fs.lookup m = none ∧ sp [x] H1 Q (E σ)) := by
  refine ⟨fun pins s σ H Q I h => ?_⟩
  refine PySem.W.methodCall_KW (pl := pl) (thn (he.run pins s σ H _ I h) fun u s1 ⟨x, H1, I1, rx, a, dx, fs, ex, ea, l, q⟩ => ?_) ht
  subst ex
  obtain rfl : u = Value.ref a := rx
  refine getmeth_ok I1 ea c hm l ?_
  exact PySem.W.callWith_K0 (first := [.ref a]) I1.kIn hm.kp (run_fnG (us := [.ref a]) (vs := [.ref a]) F hgd hr hb (hx σ) I1 (.cons rfl .nil) q)
theorem met_core {W : WX} {σ : L2.St} {H : Hp} {Q : VK}  (nd : (ls.filterMap id).Nodup) (hl : (none :: ls : List (Option Nat)).length = ps.length) {C : Addr} (hc : G.mg c = some (.ref C))
    (h : tR G.K G.mg W (FO G.K G.mg rm (msU (msU ms1 ms2) (lentM (none :: ls)))) (msU (msU ms1 ms2) (lentM (none :: ls))) (fCall F (none :: ls) (fMeth c m fo fs)) σ H Q) :
    tR G.K G.mg W (FO G.K G.mg .z ms1) ms1 fo σ H fun x H1 => ∃ a dx fs', x = .ref a ∧ H1 a = some (.ins C dx fs') ∧ fs'.lookup m = none ∧ tAM G.K G.mg W ls ms2 fs σ H1 fun vs H2 => spV G F ps.length rm (x :: vs) H2 Q (WE W σ) := by
  obtain ⟨ρ, H0, cc, l, o⟩ := call_core (ms := msU ms1 ms2) (show ((none :: ls).filterMap id).Nodup from nd) hl h
  refine ⟨ρ, H0, cc, l, (Out.bind (G := FO G.K G.mg .z ms1) (ms1 := ms1) back_FAM o fun i e => or_l e).imp fun x H1 ⟨d, H01, c1, ρ1, e1, s1, l1, ⟨fp, ow, _⟩, o1⟩ => ?_⟩
  have fz := (Ow.zero.mp ow).2
  by_cases hi : isIns c m d = true
  · rw [if_pos hi] at o1
    cases d <;> try (cases hi; done)
    rename_i c' ns ds
    obtain ⟨h1, h2⟩ := Bool.and_eq_true_iff.mp (show (decide (c' = c) && !ns.contains m) = true from hi)
    have ec : c' = c := of_decide_eq_true h1
    subst ec
    have hn : ns.contains m = false := by simpa using h2
    obtain ⟨a, C', dx, vs, e, hm, hH, hl', fz'⟩ := fz
    rw [hc] at hm
    cases hm
    refine ⟨a, dx, _, e, l1.sub _ _ hH, zip_none hn, ρ1, H01, c1, l1, ?_⟩
    cases hf : fs ρ1 with
    | ok ds' r =>
      rw [hf] at o1
      intro w H0' H' c2 s l' q
      exact o1 (x :: w) H0' H' c2 (s.mono fun i e => or_r e) l' ⟨_, ds', x, w, rfl, rfl, Fz.mono s.grow _ _ ⟨a, _, dx, vs, e, hc, hH, hl', fz'⟩, q⟩
    | exc n ns' vs' r =>
      rw [hf] at o1
      exact fun cls dx H0' H' c2 s l' e => o1 cls dx H0' H' c2 (s.mono fun i e => or_r e) l' e
    | bad => rw [hf] at o1; exact o1.elim
  · rw [if_neg hi] at o1
    exact o1.elim
theorem VO.meth (M : MetX G c m k ps rm F) (ho : VO G N S .z ms1 o fo) (ha : VM G N S ls ms2 (e :: es) fs) {pl : Sem Bool} (hk' : k ≤ S.k := by decide) (hcm : S.cm = true := by rfl) (nd : (ls.filterMap id).Nodup := by decide) (hl : (none :: ls : List (Option Nat)).length = ps.length := by rfl)
    (hst : ∀ env, starEach (e :: es) env = (false, eval e env) :: starEach es env := by intro _; rfl) (hpl : ∀ env, (backTo pos (starEach es env)).any (·.1) = false := by intro _; rfl)
    (ht : ∀ env, eval (.Call (.Attribute o m apos) (e :: es) [] pos) env = (do
      let ov ← eval o env
      standAt apos.atName
      let (f, first) ← holding [ov] (getMethod ov m pl)
      callWith pos f first (backTo pos (starEach (e :: es) env)) (backToKw pos (keywordEach [] env))) := by intro _; rfl) :
    VO G N S rm (msU (msU ms1 ms2) (lentM (none :: ls))) (.Call (.Attribute o m apos) (e :: es) [] pos) (fCall F (none :: ls) (fMeth c m fo fs)) := by
  obtain ⟨C, f, fd, hC, cl, hm, hb, hF⟩ := M.ex
  exact fun R a W t => (pe_metS (ho R a W t) cl hm hF a.gd ((a.room hcm).mono hk') hb (fun σ => L2N.passAt t σ) (ha R a W t) (hst _) (hpl _) (ht _)).imp fun σ H Q h => met_core nd hl hC h
theorem VO.meth0 (M : MetX G c m k ps rm F) (ho : VO G N S .z ms1 o fo) {pl : Sem Bool} (hk' : k ≤ S.k := by decide) (hcm : S.cm = true := by rfl) (hl : 1 = ps.length := by rfl)
    (ht : ∀ env, eval (.Call (.Attribute o m apos) [] [] pos) env = (do
      let ov ← eval o env
      standAt apos.atName
      let (f, first) ← holding [ov] (getMethod ov m pl)
      callWith pos f first (backTo pos (starEach [] env)) (backToKw pos (keywordEach [] env))) := by intro _; rfl) :
    VO G N S rm (msU (msU ms1 ms0) (lentM [none])) (.Call (.Attribute o m apos) [] [] pos) (fCall F [none] (fMeth c m fo fNil)) := by
  obtain ⟨C, f, fd, hC, cl, hm, hb, hF⟩ := M.ex
  refine fun R a W t => (pe_metS0 (ho R a W t) cl hm hF a.gd ((a.room hcm).mono hk') hb (fun σ => L2N.passAt t σ) (ht _)).imp fun σ H Q h => ?_
  have z := met_core (ls := []) (ms2 := ms0) (fs := fNil) (by decide) hl hC h
  obtain ⟨ρ, H0, cc, l, o1⟩ := z
  refine ⟨ρ, H0, cc, l, o1.imp fun x H1 ⟨a, dx, fs', e1, e2, e3, ρ', H0', c', l', o2⟩ => ⟨a, dx, fs', e1, e2, e3, ?_⟩⟩
  exact o2 [] H0' H1 c' .refl l' ⟨rfl, rfl⟩
end
end Vm
set_option Elab.async false
set_option linter.all false
set_option maxRecDepth 100000
set_option maxHeartbeats 4000000
/-! sets of texts: made of a list or a tuple, their number, their texts in order -/
namespace Vm
open PySem PySem.Spec PyProof.Rows L2
def tKey (e : Int × Value) : Str := match e.2 with
  | .str x _ => x
  | _ => Str.empty
def TGood (w : World) (e : Int × Value) : Prop := ∃ x tk, e.2 = Value.str x tk ∧ e.1 = hashStr w x
/-- the set of the texts xs at a -/
def TSet (w : World) (hp : Heap) (a : Addr) (xs : List Str) : Prop :=
  ∃ ob es ep tb, hp.get? a = some ob ∧ ob.ExactSet ∧ ob.data = .set es ep tb ∧ (∀ e ∈ es.toList, TGood w e) ∧ (es.toList.map tKey).Perm xs ∧ xs.Nodup ∧ tb.fits es.size = true ∧
    Ris tb.place.toList ∧ (w.params.followText "set-order" = true ∨ tb.led = true)
def addT (xs : List Str) (x : Str) : List Str := if x ∈ xs then xs else xs ++ [x]
section
variable {P : Program} {w : World} {hp hp' : Heap} {a : Addr} {xs : List Str}
theorem TSet.at (R : TSet w hp a xs) (k : ∀ o, hp.get? a = some o → hp'.get? a = some o) : TSet w hp' a xs := by
  obtain ⟨o, es, ep, t, ho, r⟩ := R
  exact ⟨o, es, ep, t, k o ho, r⟩
theorem tgood_elems {l : List (Int × Value)} (g : ∀ e ∈ l, TGood w e) : ElemsOf (PySem.strKind P w) l := fun e he => by
  obtain ⟨x, tk, h1, h2⟩ := g e he
  exact ⟨⟨x, by rw [h1]; exact strKind_is P w x tk, h2⟩, by rw [h1] <;> rfl⟩
theorem tgood_is {e : Int × Value} (g : TGood w e) (x : Str) : (PySem.strKind P w).is x e.2 = true ↔ tKey e = x := by
  obtain ⟨y, tk, h1, _⟩ := g
  unfold tKey
  rw [h1]
  show ((y == x) = true) ↔ y = x
  exact beq_iff_eq
theorem tgood_mem {l : List (Int × Value)} (g : ∀ e ∈ l, TGood w e) (x : Str) : x ∈ l.map tKey ↔ ∃ e ∈ l, (PySem.strKind P w).is x e.2 = true := by
  rw [List.mem_map]
  exact ⟨fun ⟨e, he, q⟩ => ⟨e, he, (tgood_is (g e he) x).2 q⟩, fun ⟨e, he, q⟩ => ⟨e, he, (tgood_is (g e he) x).1 q⟩⟩
end
section
variable {P : Program} {w : World} {A : Around} {E : Value → Shared → Prop} {s : Shared} {a : Addr} {xs : List Str}
theorem tset_tail {gv : Bool → Sem Unit} (hgv : ∀ (b : Bool) (s1 : Shared) (Z : Unit → Shared → Prop), Z () s1 → wpAny (model P w) A (gv b) Z E s1)
    {ob : Obj} {es : Array (Int × Value)} {ep : Nat} {tb : SetTable} (ho : s.heap.get? a = some ob) (hex : ob.ExactSet) (hd : ob.data = .set es ep tb)
    {en : Array (Int × Value)} {tn : SetTable} {ys : List Str} (gn : ∀ e ∈ en.toList, TGood w e) (pn : (en.toList.map tKey).Perm ys) (nd : ys.Nodup) (hb : en.size < scanBound)
    (hf : tn.fits en.size = true) (hr : Ris tn.place.toList) (hl : w.params.followText "set-order" = true ∨ tn.led = true) {wd : Bool} {R : Option Bool → Shared → Prop}
    (hR : ∀ h', Heap.SameBut a s.heap h' → TSet w h' a ys → R (some true) { s with heap := h' }) :
    wpAny (model P w) A (do storeSet a en tn; if (!wd && tn.tooFull) = true then (do gv (relayAll tn en (SetTable.grown en.size)).2.2; storeSet a (relayAll tn en (SetTable.grown en.size)).1 (relayAll tn en (SetTable.grown en.size)).2.1; pure (some true)) else pure (some true)) R E s := by
  refine wpAny_bind (wpAny_storeSet_of ho hd ?_ (fits_of_scanBound hb))
  have o1 := store_at (es' := en) (t' := tn) ho hd
  have b1 := Heap.SameBut.update s.heap a (Obj.putSet en tn)
  split
  · have q1 := relayAll_perm tn en (SetTable.grown en.size)
    have q2 := relayAll_fits tn en (SetTable.grown en.size)
    have q3 := relayAll_ris tn en (SetTable.grown en.size)
    have q4 := relayAll_led tn en (SetTable.grown en.size)
    generalize relayAll tn en (SetTable.grown en.size) = Y at q1 q2 q3 q4 ⊢
    obtain ⟨e2, t3, gave⟩ := Y
    dsimp only at q1 q2 q3 q4 ⊢
    have hz : e2.size = en.size := by rw [← Array.length_toList, q1.length_eq, Array.length_toList]
    refine wpAny_bind (hgv _ _ _ ?_)
    refine wpAny_bind (wpAny_storeSet_of o1 rfl ?_ (fits_of_scanBound (by rw [hz]; exact hb)))
    have o2 := store_at (es' := e2) (t' := t3) o1 rfl
    exact wpAny_pure (hR _ (b1.trans (Heap.SameBut.update _ a _)) ⟨_, e2, _, t3, o2, hex, rfl, fun e he => gn e (q1.mem_iff.mp he), (q1.map tKey).trans pn, nd, q2, q3, hl.imp id fun z => by rw [q4]; exact z⟩)
  · exact wpAny_pure (hR _ b1 ⟨_, en, _, tn, o1, hex, rfl, gn, pn, nd, hf, hr, hl⟩)
theorem tset_add {x : Str} {tk : Tok} {Q : Bool → Shared → Prop} (R : TSet w s.heap a xs) (room : xs.length + 1 < scanBound)
    (hQ : ∀ h', Heap.SameBut a s.heap h' → TSet w h' a (addT xs x) → Q (!decide (x ∈ xs)) { s with heap := h' }) :
    wpAny (model P w) A (setAddHashed a (.str x tk) ((PySem.strKind P w).hash x)) Q E s := by
  have R0 := R
  obtain ⟨ob, es, ep, tb, ho, hex, hd, g, pm, nd, hf, hr, hl⟩ := R
  have hn : es.size = xs.length := by rw [← pm.length_eq, List.length_map, Array.length_toList]
  have hb : es.size < scanBound := by omega
  have hkey : (PySem.strKind P w).is x (.str x tk) = true := strKind_is P w x tk
  have hsc : (Value.str x tk).scannable = true := rfl
  have hel : ElemsOf (PySem.strKind P w) es.toList := tgood_elems g
  unfold setAddHashed setAddHashedIn
  refine wpAny_holding (wpAny_bind (wpAny_setState_of ho hd hf ?_))
  dsimp only
  rw [byScan_of hsc hb hel]
  simp only [↓reduceIte]
  unfold setAddByScan
  refine wpAny_bind ?_
  refine wpAny_bind (wpAny_rule ?_)
  refine wpAny_bind (wpAny_setScan_of hkey ho hd hf hel ?_)
  cases hfi : List.findIdx? (fun e => (PySem.strKind P w).is x e.2) es.toList with
  | some j =>
    dsimp only
    obtain ⟨hj, pj, _⟩ := List.findIdx?_eq_some_iff_getElem.mp hfi
    have hm : x ∈ xs := pm.mem_iff.mp ((tgood_mem (P := P) g x).2 ⟨es.toList[j], List.getElem_mem hj, pj⟩)
    refine wpAny_pure (wpAny_pure ?_)
    have q := hQ s.heap (Heap.SameBut.refl a s.heap) (by unfold addT; rw [if_pos hm]; exact R0)
    rw [decide_eq_true hm] at q
    exact q
  | none =>
    dsimp only
    have hnm : x ∉ es.toList.map tKey := fun z => by
      obtain ⟨e, he, q⟩ := (tgood_mem (P := P) g x).1 z
      rw [List.findIdx?_eq_none_iff.mp hfi e he] at q
      cases q
    have hnx : x ∉ xs := fun z => hnm (pm.mem_iff.mpr z)
    have hgv : ∀ (b : Bool) {s1 : Shared} {Z : Unit → Shared → Prop}, Z () s1 → wpAny (model P w) A (match b with | true => rule "set.scan.the-table-gave-way" | false => pure ()) Z E s1 :=
      fun b s1 Z q => by cases b <;> first | exact wpAny_pure q | exact wpAny_rule q
    have q1 := layNew_perm tb es ((PySem.strKind P w).hash x) (.str x tk)
    have q2 := layNew_fits tb es ((PySem.strKind P w).hash x) (.str x tk)
    have q3 := layNew_ris tb es ((PySem.strKind P w).hash x) (.str x tk) hr
    have q4 := layNew_led tb es ((PySem.strKind P w).hash x) (.str x tk)
    generalize layNew tb es ((PySem.strKind P w).hash x) (.str x tk) = Y at q1 q2 q3 q4 ⊢
    obtain ⟨en, tn, wd, gave⟩ := Y
    dsimp only at q1 q2 q3 q4 ⊢
    rw [Array.toList_push] at q1
    have pc : en.toList.Perm (((PySem.strKind P w).hash x, Value.str x tk) :: es.toList) := q1.trans (List.perm_append_singleton _ _)
    have pk : (en.toList.map tKey).Perm (xs ++ [x]) := (pc.map tKey).trans (((List.Perm.cons x pm)).trans (List.perm_append_singleton _ _).symm)
    have gn : ∀ e ∈ en.toList, TGood w e := fun e he => by
      rcases List.mem_cons.mp (pc.mem_iff.mp he) with z | z
      · rw [z]; exact ⟨x, tk, rfl, rfl⟩
      · exact g e z
    have nd1 : (xs ++ [x]).Nodup := (List.perm_append_singleton _ _).symm.nodup_iff.mp (List.nodup_cons.mpr ⟨hnx, nd⟩)
    have hz : en.size = xs.length + 1 := by rw [← Array.length_toList, pc.length_eq, List.length_cons, Array.length_toList, hn]
    have hb1 : en.size < scanBound := by rw [hz]; exact room
    have hl1 : w.params.followText "set-order" = true ∨ tn.led = true := hl.imp id fun z => by rw [q4]; exact z
    have fin : ∀ h', Heap.SameBut a s.heap h' → TSet w h' a (xs ++ [x]) → Q true { s with heap := h' } := fun h' sb r => by
      have q := hQ h' sb (by unfold addT; rw [if_neg hnx]; exact r)
      rw [decide_eq_false hnx] at q
      exact q
    refine wpAny_bind (hgv _ ?_)
    split
    · refine wpAny_bind ?_
      rw [hashByValue_scannable 8 hsc]
      refine wpAny_pure ?_
      refine tset_tail ?_ ho hex hd gn pk nd1 hb1 ?_ ?_ ?_ ?_
      · intro b s1 Z q; cases b <;> first | exact wpAny_pure q | exact wpAny_rule q
      · first | (split <;> first | exact q2 | exact SetTable.fits_plain_off q2) | exact q2
      · first | (split <;> exact q3) | exact q3
      · first | (split <;> exact hl1) | exact hl1
      · intro h' sb r; dsimp only; exact wpAny_pure (fin h' sb r)
    · refine wpAny_bind (wpAny_pure ?_)
      simp only [↓reduceIte]
      refine tset_tail ?_ ho hex hd gn pk nd1 hb1 q2 q3 hl1 ?_
      · intro b s1 Z q; cases b <;> first | exact wpAny_pure q | exact wpAny_rule q
      · intro h' sb r; dsimp only; exact wpAny_pure (fin h' sb r)
theorem addT_len {xs : List Str} {x : Str} : (addT xs x).length ≤ xs.length + 1 := by unfold addT; split <;> simp
end
/-- the texts in the order of their first coming -/
def dedT (xs : List Str) : List Str := xs.foldl addT []
theorem foldl_addT_len (xs ys : List Str) : (xs.foldl addT ys).length ≤ ys.length + xs.length := by
  induction xs generalizing ys with
  | nil => simp
  | cons x xs ih =>
    have := ih (addT ys x)
    have := addT_len (xs := ys) (x := x)
    simp only [List.foldl_cons, List.length_cons]
    omega
section
variable {P : Program} {w : World} {A : Around} {R : Result → Shared → Prop} {I : Addr} {fp wr : List Addr} {G : Array GenState → Array GenState → Prop} {n : Nat} {Pv : Nat → Value → Prop} {St : Nat → Shared → Prop}
theorem tset_loop (W : WalksS P w A.in1 I fp wr G n Pv St) (S : Addr) (hS : S ∉ fp) (xs : List Str) (hz : xs.length = n) (hb : n + 1 < scanBound) (hv : ∀ i v, Pv i v → ∃ t, v = .str (xs.getD i Str.empty) t) :
    ∀ (k i : Nat) (s : Shared), n - i = k → i ≤ n → St i s → TSet w s.heap S (dedT (xs.take i)) → (∀ s', Moved (S :: wr) G s s' → TSet w s'.heap S (dedT xs) → R (.ok (.ret .none)) s') →
      codeAny (model P w) A (.builtin "set.update.loop" ⟨[.ref S, .ref I], []⟩) R s := by
  have hSw : S ∉ wr := fun h => hS (W.sub _ h)
  have hsub : ∀ b ∈ wr, b ∈ S :: wr := fun b hb => List.mem_cons_of_mem _ hb
  intro k
  induction k with
  | zero =>
    intro i s hk hi hst hT hR
    have hin : i = n := by omega
    subst hin
    rw [List.take_of_length_le (by omega)] at hT
    refine codeAny_builtin F.entry_set_update_loop ?_
    rw [Around.under_plainId F.plain_set_update_loop _]
    show wpAny _ A.in1 (pyNext (.ref I) >>= _) _ _ s
    refine wpAny_bind (W.done s _ _ hst fun s' hm => ?_)
    show wpAny _ A.in1 (ret Value.none) _ _ s'
    exact wpAny_pure (hR s' (hm.mono hsub) (hT.at fun o e => hm.heap S _ hSw e))
  | succ k ih =>
    intro i s hk hi hst hT hR
    have hlt : i < n := by omega
    refine codeAny_builtin F.entry_set_update_loop ?_
    rw [Around.under_plainId F.plain_set_update_loop _]
    show wpAny _ A.in1 (pyNext (.ref I) >>= _) _ _ s
    refine wpAny_bind (W.item i s _ _ hlt hst fun v s1 hP hst1 hm => ?_)
    obtain ⟨t, rfl⟩ := hv i v hP
    have hT1 : TSet w s1.heap S (dedT (xs.take i)) := hT.at fun o e => hm.heap S _ hSw e
    show wpAny _ A.in1 (holding [Value.str (xs.getD i Str.empty) t] (setAdd S (.str (xs.getD i Str.empty) t)) >>= _) _ _ s1
    refine wpAny_bind (wpAny_holding ?_)
    unfold setAdd
    refine wpAny_holding ?_
    refine wpAny_bind ((PySem.strKind P w).pyHash (k := xs.getD i Str.empty) (strKind_is _ _ _ _) ?_)
    have hl : (dedT (xs.take i)).length ≤ n := by
      have := foldl_addT_len (xs.take i) []
      rw [List.length_take, List.length_nil] at this
      unfold dedT
      omega
    refine tset_add (s := { s1 with toks := s1.toks + 1 }) hT1 (by omega) fun h' hsb hT2 => ?_
    have hT3 : TSet w h' S (dedT (xs.take (i + 1))) := by
      have e : xs.take (i + 1) = xs.take i ++ [xs.getD i Str.empty] := by
        have hi' : i < xs.length := by omega
        rw [List.take_succ, List.getD_eq_getElem?_getD, List.getElem?_eq_getElem hi'] <;> rfl
      unfold dedT
      rw [e, List.foldl_append]
      exact hT2
    refine wpAny_pure ⟨plainId_quiet F.plain_set_update_loop _, ih (i + 1) _ (by omega) hlt (W.frame _ s1 _ _ hst1 (Nat.le_succ _) fun b hb o e => ?_) hT3 fun s2 hm2 hT4 => ?_⟩
    · rw [hsb.2 b (fun h : b = S => hS (by rw [← h]; exact hb))]; exact e
    · refine hR s2 (Moved.trans W.gtrans ((hm.mono hsub).then_heap (Nat.le_succ _) fun b o hb e => ?_) hm2) hT4
      rw [hsb.2 b (fun h : b = S => hb (by rw [h]; exact List.mem_cons_self))]; exact e
end
section
variable {P : Program} {w : World} {A : Around} {E : Value → Shared → Prop} {s : Shared}
/-- an empty set -/
abbrev emptyS (w : World) : Obj := { cls := .type "set", dict := none, data := .set #[] 0 (.fresh 0 0 (!w.params.followText "set-order")) }
theorem tset_new1 (v : Value) {Z : Value → Shared → Prop} (h : Z (.ref s.heap.objs.size) { s with heap := s.heap.push (emptyS w) }) :
    codeAny (model P w) A (.call (.builtin "set.__new__") ⟨[.type "set", v], []⟩) (wants Z E) s := by
  refine codeAny_of_tree ?_
  show wpAny _ A.in1 (do checkBuiltinCall "set.__new__" ⟨[.type "set", v], []⟩; again (.builtin "set.__new__" ⟨[.type "set", v], []⟩)) _ _ s
  refine wpAny_bind (wpAny_of_eq (PySem.F.newCall_set_1 v) (wpAny_pure ⟨plainId_quiet F.plain_set_new _, codeAny_builtin F.entry_set_new ?_⟩))
  rw [Around.under_plainId F.plain_set_new _]
  unfold Builtin.«set.__new__» Builtin.Frozenset.newClass
  have hsub := sub_set_self
  obtain ⟨hp, g, d, tk, os⟩ := s
  dsimp only
  wp_walk
  refine wpAny_askSetting (wpAny_pure ?_)
  dsimp only
  simp only [newObj]
  refine wpAny_bind (wpAny_alloc (wpAny_pure ?_))
  exact wpAny_pure h
theorem tset_empty (w : World) (hp : Heap) : TSet w (hp.push (emptyS w)) hp.objs.size [] :=
  ⟨_, #[], 0, _, Heap.get?_push_size _ rfl, ⟨rfl, rfl, rfl⟩, rfl, (fun e he => by simp at he), List.Perm.refl _, List.nodup_nil, rfl, List.Pairwise.nil, by
    show _ ∨ (!w.params.followText "set-order") = true
    cases w.params.followText "set-order"
    · exact .inr rfl
    · exact .inl rfl⟩
set_option maxHeartbeats 6400000 in
/-- set(x), x a list or a tuple of texts -/
theorem tset_made {l : Addr} {items : Array Value} {xs : List Str} {Q : Value → Shared → Prop} (hh : A.handled = none) (hl : s.heap.IsList l items ∨ s.heap.IsTuple l items) (hi : StrsAre items.toList xs) (hb : xs.length + 1 < scanBound)
    (hQ : ∀ (h' : Heap) (tk : Nat), TSet w h' s.heap.objs.size (dedT xs) → s.heap.objs.size < h'.objs.size → (∀ b o, b < s.heap.objs.size → s.heap.get? b = some o → h'.get? b = some o) → Q (.ref s.heap.objs.size) { s with heap := h', toks := tk }) :
    wpAny (model P w) A (call (.type "set") [.ref l]) Q E s := by
  obtain ⟨c, tl, hmro⟩ := PySem.F.called_set.mro
  have hmade := PySem.F.called_set.made
  have hsub := PySem.F.called_set.sub
  refine wpAny_call (codeAny_of_tree ?_)
  show wpAny _ _ (callAny (.type "set") _) _ _ _
  refine wpAny_pure ⟨Code.quiet_builtin _ (by decide +kernel), codeAny_builtin PySem.F.entry_type_call ?_⟩
  rw [Around.under_plain (weight_type_call_type "set" [.ref l] []) rfl]
  have h1 := PySem.F.called_set.notType
  have h2 := PySem.F.called_set.canCreate
  have hct := PySem.F.typeCall_set_1 (.ref l)
  repeat (any_goals (first | assumption | wp_step))
  refine codeAny_mono (tset_new1 (.ref l) (E := E) (Z := fun ob s1 => ob = .ref s.heap.objs.size ∧ s1 = { s with heap := s.heap.push (emptyS w) }) ⟨rfl, rfl⟩) fun r s1 hr => ?_
  cases r with
  | error e => exact hr
  | ok fl =>
    cases fl with
    | ret obj =>
      obtain ⟨rfl, rfl⟩ := hr
      have gS : (s.heap.push (emptyS w)).get? s.heap.objs.size = some (emptyS w) := Heap.get?_push_size _ rfl
      have hT : Shared.TypeIs { s with heap := s.heap.push (emptyS w) } (.ref s.heap.objs.size) "set" := ⟨_, gS, rfl⟩
      have hli := PySem.F.called_set.init.lookup
      have hbi := PySem.F.called_set.init.bind (.ref s.heap.objs.size)
      repeat (any_goals (first | assumption | wp_step))
      refine codeAny_mono (codeAny_call_builtin (R := wants (fun r s2 => r = .none ∧ ∃ h' tk, s2 = { s with heap := h', toks := tk } ∧ TSet w h' s.heap.objs.size (dedT xs) ∧ (s.heap.objs.size < h'.objs.size ∧ ∀ b o, b < s.heap.objs.size → s.heap.get? b = some o → h'.get? b = some o)) E) PySem.F.called_set.init.plain PySem.F.entry_set_init (check_set_init_1 hT ?_)) fun r2 s2 hr2 => ?_
      · have hz : xs.length = items.size := by rw [← StrsAre.len_eq hi, Array.length_toList]
        have hv : ∀ (i : Nat) (v : Value), items[i]? = some v → ∃ t, v = .str (xs.getD i Str.empty) t := fun i v hv => SS.strs_at hi i v (by rw [Array.getElem?_toList]; exact hv)
        have hh3 : A.in1.in1.in1.handled = none := by simp [hh]
        have last : ∀ (I : Addr) (s1 s' : Shared), Moved (s.heap.objs.size :: [I]) (fun a b => b = a) s1 s' → I = s.heap.objs.size + 1 → s1.gens = s.gens → s1.drawn = s.drawn → s1.os = s.os → (∀ b o, b < s.heap.objs.size → s.heap.get? b = some o → s1.heap.get? b = some o) →
            TSet w s'.heap s.heap.objs.size (dedT xs) → (Value.none = Value.none ∧ ∃ h' tk, s' = { s with heap := h', toks := tk } ∧ TSet w h' s.heap.objs.size (dedT xs) ∧ (s.heap.objs.size < h'.objs.size ∧ ∀ b o, b < s.heap.objs.size → s.heap.get? b = some o → h'.get? b = some o)) := by
          intro I s1 s' hm hI g1 g2 g3 g4 hT'
          obtain ⟨h', g', d', tk', os'⟩ := s'
          have eg : g' = s.gens := Eq.trans hm.gens g1
          have ed : d' = s.drawn := Eq.trans hm.drawn g2
          have eo : os' = s.os := Eq.trans hm.os g3
          subst eg; subst ed; subst eo
          have hlt : s.heap.objs.size < h'.objs.size := by
            obtain ⟨o, _, _, _, ho, _⟩ := hT'
            exact Heap.lt_size ho
          refine ⟨rfl, h', tk', rfl, hT', hlt, fun b o hb e => ?_⟩
          refine hm.heap b o (fun z => ?_) (g4 b o hb e)
          rcases List.mem_cons.mp z with z | z
          · exact Nat.ne_of_lt hb z
          · have z := List.mem_singleton.mp z
            rw [z, hI] at hb
            exact absurd hb (Nat.not_lt_of_le (Nat.le_succ _))
        have sz1 : (s.heap.push (emptyS w)).objs.size = s.heap.objs.size + 1 := size_push' _ _
        rcases hl with hl | hl
        · obtain ⟨ol, hol, hcl, nl, hdl⟩ := hl
          obtain ⟨ocls, odict, odata, oslots⟩ := ol
          simp only at hcl hdl
          subst hcl; subst hdl
          have hol' : (s.heap.push (emptyS w)).get? l = some { cls := .type "list", dict := odict, data := .seq items nl, slots := oslots } := Heap.get?_push_of_some _ hol
          have f1 := PySem.F.sub_list_set
          have f2 := PySem.F.sub_list_frozenset
          have f3 : (Value.type "list" == Value.type "dict") = false := by decide
          have hl1 : (s.heap.push (emptyS w)).IsList l items := ⟨_, hol', rfl, nl, rfl⟩
          unfold Builtin.«set.__init__» noKeywords Builtin.Frozenset.updateFrom
          generalize hPI : pyIter = PI
          wp_walk
          subst hPI
          refine wpAny_pyIter_list hl1 ?_
          refine wpAny_bind (wpAny_runValue ?_)
          have hlS : l < s.heap.objs.size := Heap.lt_size hol
          have hneI : l ≠ (s.heap.push (emptyS w)).objs.size := by rw [sz1]; exact Nat.ne_of_lt (Nat.lt_succ_of_lt hlS)
          have hSf : s.heap.objs.size ∉ [(s.heap.push (emptyS w)).objs.size, l] := by
            rw [sz1]
            intro z
            rcases List.mem_cons.mp z with z | z
            · exact Nat.ne_of_lt (Nat.lt_succ_self _) z
            · exact Nat.ne_of_gt hlS (List.mem_singleton.mp z)
          refine tset_loop ((Walks.list hh3 _ l hneI items).toS) s.heap.objs.size hSf xs hz (by omega) hv (items.size - 0) 0 _ (by omega) (Nat.zero_le _) ⟨⟨_, Heap.get?_push_size _ rfl, rfl, rfl⟩, (hl1.push _)⟩ ?_ fun s' hm hT' => ?_
          · exact (tset_empty w s.heap).at fun o e => Heap.get?_push_of_some _ e
          · show wpAny _ _ _ _ _ _
            refine wpAny_pure ?_
            show wpAny _ _ (ret Value.none) _ _ _
            exact wpAny_pure (last _ _ s' hm sz1 rfl rfl rfl (fun b o hb e => Heap.get?_push_of_some _ (Heap.get?_push_of_some _ e)) hT')
        · obtain ⟨ol, hol, hcl, nl, hdl⟩ := hl
          obtain ⟨ocls, odict, odata, oslots⟩ := ol
          simp only at hcl hdl
          subst hcl; subst hdl
          have hol' : (s.heap.push (emptyS w)).get? l = some { cls := .type "tuple", dict := odict, data := .seq items nl, slots := oslots } := Heap.get?_push_of_some _ hol
          have f1 := PySem.F.sub_tuple_set
          have f2 := PySem.F.sub_tuple_frozenset
          have f3 : (Value.type "tuple" == Value.type "dict") = false := by decide
          have hl1 : (s.heap.push (emptyS w)).IsTuple l items := ⟨_, hol', rfl, nl, rfl⟩
          unfold Builtin.«set.__init__» noKeywords Builtin.Frozenset.updateFrom
          generalize hPI : pyIter = PI
          wp_walk
          subst hPI
          refine wpAny_pyIter_tuple hl1 ?_
          refine wpAny_bind (wpAny_runValue ?_)
          have hlS : l < s.heap.objs.size := Heap.lt_size hol
          have hneI : l ≠ (s.heap.push (emptyS w)).objs.size := by rw [sz1]; exact Nat.ne_of_lt (Nat.lt_succ_of_lt hlS)
          have hSf : s.heap.objs.size ∉ [(s.heap.push (emptyS w)).objs.size, l] := by
            rw [sz1]
            intro z
            rcases List.mem_cons.mp z with z | z
            · exact Nat.ne_of_lt (Nat.lt_succ_self _) z
            · exact Nat.ne_of_gt hlS (List.mem_singleton.mp z)
          refine tset_loop ((Walks.tuple hh3 _ l hneI items).toS) s.heap.objs.size hSf xs hz (by omega) hv (items.size - 0) 0 _ (by omega) (Nat.zero_le _) ⟨⟨_, Heap.get?_push_size _ rfl, rfl, rfl⟩, (hl1.push _)⟩ ?_ fun s' hm hT' => ?_
          · exact (tset_empty w s.heap).at fun o e => Heap.get?_push_of_some _ e
          · show wpAny _ _ _ _ _ _
            refine wpAny_pure ?_
            show wpAny _ _ (ret Value.none) _ _ _
            exact wpAny_pure (last _ _ s' hm sz1 rfl rfl rfl (fun b o hb e => Heap.get?_push_of_some _ (Heap.get?_push_of_some _ e)) hT')
      · cases r2 with
        | error e => exact hr2
        | ok fl2 =>
          cases fl2 with
          | ret r =>
            obtain ⟨rfl, h', tk, rfl, hT', hk1, hk2⟩ := hr2
            repeat (any_goals (first | assumption | wp_step))
            exact hQ _ _ hT' hk1 hk2
          | _ => exact hr2.elim
    | _ => exact hr.elim
end
end Vm
set_option Elab.async false
set_option linter.all false
set_option maxRecDepth 100000
set_option maxHeartbeats 4000000
/-! len(set(x)) and sorted(set(x)), x texts -/
namespace Vm
open PySem PySem.Spec PyProof.Rows L2
abbrev TSO (w : World) (a : Addr) (xs : List Str) : HO := .ext fun h => TSet w h a xs
abbrev tle (x y : Str) : Prop := PySem.W.dataLe false PyData.str x y = true
def rSetT (w : World) (K : PySem.W.Frag) : List V → Hp → VK → Prop := fun xs H Q => ∃ l, ∃ ls : List Str, xs = [.ref l] ∧ (SqL K H l (ls.map V.str) ∨ SqT K H l (ls.map V.str)) ∧ ls.length ≤ 60 ∧
  ∀ p, H p = none → Q (.ref p) (upd H p (TSO w p (dedT ls)))
def rLenT (w : World) : List V → Hp → VK → Prop := fun xs H Q => ∃ a, ∃ ls : List Str, xs = [.ref a] ∧ H a = some (TSO w a ls) ∧ ls.length ≤ 60 ∧ Q (.int ls.length) H
def rSortT (w : World) : List V → Hp → VK → Prop := fun xs H Q => ∃ a, ∃ ls : List Str, xs = [.ref a] ∧ H a = some (TSO w a ls) ∧ ls.length ≤ 60 ∧
  ∀ (ms : List Str) p, ms.Perm ls → ms.Pairwise tle → H p = none → Q (.ref p) (upd H p (.lst (ms.map V.str)))
section
variable {X : Cx}
theorem tso_ok {P : Program} {w : World} {H : Hp} {h : Heap} {a : Addr} {xs : List Str} (R : TSet w h a xs) : ObjOk P w H h a (TSO w a xs) := by
  have ⟨o, _, _, _, ho, _⟩ := R
  exact ⟨R, ⟨o, ho⟩, fun h1 h2 p k => TSet.at p k⟩
theorem tso_get {pins : List (Addr × Obj)} {σ : L2.St} {H : Hp} {s : Shared} {a : Addr} {xs : List Str} (I : Inv X pins σ H s) (ha : H a = some (TSO X.w a xs)) : TSet X.w s.heap a xs := (I.hok a _ ha).1
theorem cr_setT (hc : X.calm = true) : CallR X (.type "set") (rSetT X.w X.K) := by
  intro pins s σ H xs us Q I r ⟨l, ls, ex, hq, hb, q⟩
  subst ex
  rw [Vals.ref1 r]
  have fin : ∀ its : List Value, Vals (ls.map V.str) its → (s.heap.IsList l its.toArray ∨ s.heap.IsTuple l its.toArray) → wpAny (model X.prog X.w) X.A (call (.type "set") [.ref l]) (EP X pins σ Q) X.xe s := by
    intro its rv hl
    refine tset_made (I.ok.hd hc) hl (by simpa using strsAre_of rv) (by show _ < 4096; omega) fun h' tk hT hz hk => ?_
    exact ⟨.ref _, upd H s.heap.objs.size (TSO X.w s.heap.objs.size (dedT ls)), I.laid (t' := tk) (fun b u e => hk b u (Heap.lt_size e) e) (Nat.le_refl _) (tso_ok hT), rfl, q _ (I.hok.fresh (Nat.le_refl _))⟩
  rcases hq with hq | hq
  · obtain ⟨its, rv, pl, hz⟩ := I.list hq
    exact fin its rv (.inl pl.isList)
  · obtain ⟨its, rv, pl, hz⟩ := I.tuple hq
    exact fin its rv (.inr pl)
theorem cr_lenT : CallR X (.builtin "len") (rLenT X.w) := by
  intro pins s σ H xs us Q I r ⟨a, ls, ex, ha, hb, q⟩
  subst ex
  rw [Vals.ref1 r]
  obtain ⟨o, es, ep, t, ho, hex, hd, g, pm, nd, hf, _⟩ := tso_get I ha
  have hn : es.size = ls.length := by rw [← pm.length_eq, List.length_map, Array.length_toList]
  refine call_len_set ho hex hd hf (by rw [hn]; omega) ⟨.int ls.length, H, (I.tok _), ⟨_, by rw [hn]⟩, q⟩
def vtx : Value → Str
  | .str x _ => x
  | _ => Str.empty
theorem each_txt : ∀ {vs : List Value}, (∀ v ∈ vs, ∃ x t, v = Value.str x t) → PySem.W.EachIs (fun v (x : Str) => ∃ t, v = Value.str x t) vs (vs.map vtx)
  | [], _ => .nil
  | v :: vs, h => by
    obtain ⟨x, t, rfl⟩ := h v List.mem_cons_self
    exact .cons ⟨t, rfl⟩ (each_txt fun u hu => h u (List.mem_cons_of_mem _ hu))
theorem vals_txt : ∀ {vs : List Value} {xs : List Str}, PySem.W.EachIs (fun v (x : Str) => ∃ t, v = Value.str x t) vs xs → Vals (xs.map V.str) vs
  | _, _, .nil => .nil
  | _, _, .cons h t => .cons h (vals_txt t)
theorem cr_sortT (hc : X.calm = true) (hu : X.A.units + 100 < cLine) : CallR X (.builtin "sorted") (rSortT X.w) := by
  intro pins s σ H xs us Q I r ⟨a, ls, ex, ha, hb, q⟩
  subst ex
  rw [Vals.ref1 r]
  obtain ⟨o, es, ep, t, ho, hex, hd, g, pm, nd, hf, hr, hl⟩ := tso_get I ha
  have hn : es.size = ls.length := by rw [← pm.length_eq, List.length_map, Array.length_toList]
  have h4 : es.size < scanBound := by show _ < 4096; omega
  refine Calls.call_function_entry kind_sorted plain_sorted entry_sorted (args_sorted1 _) ?_
  unfold Builtin.«sorted»
  refine wpAny_bind (m := checkCount "sorted" 1 1 _) (wpAny_pure ?_)
  refine wpAny_bind (collect_set (A := X.A.in1) (I.ok.hd hc) ⟨o, ho, hex.1, hd⟩ hf h4 hr hl fun s1 vs k1 hz g1 o1 pv => ?_)
  have hvl : vs.length = ls.length := by rw [pv.length_eq, List.length_map, Array.length_toList, hn]
  have ht : ∀ v ∈ vs, ∃ x t, v = Value.str x t := fun v hv => by
    obtain ⟨e, he, e2⟩ := List.mem_map.mp (pv.mem_iff.mp hv)
    obtain ⟨x, tk, e3, _⟩ := g e he
    exact ⟨x, tk, by rw [← e2]; exact e3⟩
  have py : (vs.map vtx).Perm ls := by
    have e1 := pv.map vtx
    rw [List.map_map] at e1
    exact e1.trans pm
  have each := each_txt ht
  refine wpAny_bind (wpAny_newList ?_ (by rw [hvl, sizeLine_eq]; omega))
  have hoL : (s1.heap.push (seqObj "list" vs.toArray 0)).get? s1.heap.objs.size = some (seqObj "list" vs.toArray 0) := Heap.get?_push_size _ rfl
  refine wpAny_bind (wpAny_holding (PySem.W.list_sort_data (enc := PyData.str) hoL each (each.mono fun v x ⟨t, e⟩ => ⟨[], by rw [e]; exact .str _ _, by simp⟩) (PySem.W.AllAlike.of fun _ _ => rfl) (PySem.W.Sortable.others fun _ => ⟨fun e => (by cases e), fun xs e => (by cases e)⟩) (by rw [List.length_map, hvl, sizeLine_eq]; omega)
    (fun b _ => by show X.A.in1.units + 1 + 0 < cLine; have : X.A.in1.units = X.A.units + 1 := rfl; omega) fun out ho2 hout => ?_))
  obtain ⟨c, hc2⟩ := sortedHeap_at (vs := vs) (out := out.toArray) hoL
  have rel := vals_txt hout
  have hp : s.heap.objs.size ≤ s1.heap.objs.size := hz
  have hnp : H s1.heap.objs.size = none := I.hok.fresh hp
  have k : ∀ b u, s.heap.get? b = some u → (sortedHeap (s1.heap.push (seqObj "list" vs.toArray 0)) s1.heap.objs.size vs out.toArray).get? b = some u := fun b u e => by
    have q1 := k1 b u e
    have hlt := Heap.lt_size q1
    rw [sortedHeap_old (Nat.ne_of_lt hlt) (by rw [size_push']; exact Nat.lt_succ_of_lt hlt)]
    exact Heap.get?_push_of_some _ q1
  have hlen : (((vs.map vtx).mergeSort (PySem.W.dataLe false PyData.str)).map V.str).length ≤ sizeLine := by rw [List.length_map, List.length_mergeSort, List.length_map, hvl, sizeLine_eq]; omega
  have pw : ((vs.map vtx).mergeSort (PySem.W.dataLe false PyData.str)).Pairwise tle := List.pairwise_mergeSort
    (fun a b c h1 h2 => (PySem.W.sortLe_total (PyProof.Rows.listOrd PyProof.Rows.itemOrd) false (fun d : Str => PySem.W.keyToks (PyData.str d))).trans a b c h1 h2)
    (fun a b => by
      rcases (PySem.W.sortLe_total (PyProof.Rows.listOrd PyProof.Rows.itemOrd) false (fun d : Str => PySem.W.keyToks (PyData.str d))).total a b with h | h
      · rw [h]; rfl
      · rw [h, Bool.or_true]) _
  have J : Inv X pins σ (upd H s1.heap.objs.size (.lst (((vs.map vtx).mergeSort (PySem.W.dataLe false PyData.str)).map V.str))) { s with heap := sortedHeap (s1.heap.push (seqObj "list" vs.toArray 0)) s1.heap.objs.size vs out.toArray, gens := s1.gens, drawn := s1.drawn, toks := s1.toks } :=
    I.call (ch := []) (Un.laid k hp hnp) (I.hok.laid k hp ⟨hlen, out, c, rel, hc2⟩) (by rw [g1]; exact I.bare) (fun _ z => nomatch z)
  have e : ({ s1 with heap := sortedHeap (s1.heap.push (seqObj "list" vs.toArray 0)) s1.heap.objs.size vs out.toArray } : Shared) = { s with heap := sortedHeap (s1.heap.push (seqObj "list" vs.toArray 0)) s1.heap.objs.size vs out.toArray, gens := s1.gens, drawn := s1.drawn, toks := s1.toks } := by
    cases s1
    cases s
    cases o1
    rfl
  refine wpAny_pure ⟨_, rfl, ?_⟩
  show EP X pins σ Q _ { s1 with heap := sortedHeap (s1.heap.push (seqObj "list" vs.toArray 0)) s1.heap.objs.size vs out.toArray }
  rw [e]
  exact ⟨.ref _, _, J, rfl, q _ _ ((List.mergeSort_perm _ _).trans py) pw hnp⟩
end
/-! ### by data -/
def txt : D → Option (List Nat)
  | .str s => some s
  | _ => none
def txts : List D → Option (List (List Nat))
  | [] => some []
  | d :: ds => (txt d).bind fun s => (txts ds).map (s :: ·)
abbrev toS (s : List Nat) : Str := ⟨s.toArray⟩
theorem toS_inj {s t : List Nat} (h : toS s = toS t) : s = t := by
  have := congrArg (fun x : Str => x.cps.toList) h
  simpa using this
theorem txts_eq : ∀ {ds : List D} {ls : List (List Nat)}, txts ds = some ls → ds = ls.map .str
  | [], ls, h => by cases h; rfl
  | d :: ds, ls, h => by
    cases d <;> first | (cases h; done) | skip
    rename_i s
    cases e : txts ds with
    | none => unfold txts at h; rw [e] at h; cases h
    | some r => unfold txts at h; rw [e] at h; cases h; rw [txts_eq e]; rfl
@[simp] theorem txts_map (ls : List (List Nat)) : txts (ls.map .str) = some ls := by
  induction ls with
  | nil => rfl
  | cons s ls ih => show (some s).bind (fun s => (txts (ls.map .str)).map (s :: ·)) = _; rw [ih]; rfl
def addL (acc : List (List Nat)) (x : List Nat) : List (List Nat) := if x ∈ acc then acc else acc ++ [x]
def dedL (ls : List (List Nat)) : List (List Nat) := ls.foldl addL []
theorem addT_map (acc : List (List Nat)) (x : List Nat) : addT (acc.map toS) (toS x) = (addL acc x).map toS := by
  unfold addT addL
  by_cases h : x ∈ acc
  · rw [if_pos h, if_pos (List.mem_map.mpr ⟨x, h, rfl⟩)]
  · rw [if_neg h, if_neg (fun z => h (by
      obtain ⟨y, hy, e⟩ := List.mem_map.mp z
      exact toS_inj e ▸ hy)), List.map_append]
    rfl
theorem dedT_map (ls : List (List Nat)) : dedT (ls.map toS) = (dedL ls).map toS := by
  unfold dedT dedL
  have : ∀ (ls acc : List (List Nat)), (ls.map toS).foldl addT (acc.map toS) = (ls.foldl addL acc).map toS := by
    intro ls
    induction ls with
    | nil => intro acc; rfl
    | cons x ls ih => intro acc; rw [List.map_cons, List.foldl_cons, addT_map, ih]; rfl
  exact this ls []
theorem mem_addL {acc : List (List Nat)} {x y : List Nat} : y ∈ addL acc x ↔ y ∈ acc ∨ y = x := by
  unfold addL
  split
  · exact ⟨.inl, fun h => h.elim id fun e => e ▸ by assumption⟩
  · rw [List.mem_append, List.mem_singleton]
theorem mem_foldL {y : List Nat} : ∀ (ls acc : List (List Nat)), y ∈ ls.foldl addL acc ↔ y ∈ acc ∨ y ∈ ls
  | [], acc => by simp
  | x :: ls, acc => by rw [List.foldl_cons, mem_foldL ls, mem_addL, List.mem_cons, or_assoc]
@[simp] theorem mem_dedL {y : List Nat} {ls : List (List Nat)} : y ∈ dedL ls ↔ y ∈ ls := by unfold dedL; rw [mem_foldL]; simp
theorem dedL_len (ls : List (List Nat)) : (dedL ls).length ≤ ls.length := by
  have h := foldl_addT_len (ls.map toS) []
  have e : (ls.map toS).foldl addT [] = (dedL ls).map toS := dedT_map ls
  rw [e] at h
  simpa using h
theorem fold_nodup : ∀ (ls acc : List (List Nat)), (acc ++ ls).Nodup → ls.foldl addL acc = acc ++ ls
  | [], acc, _ => by simp
  | x :: ls, acc, h => by
    have hx : x ∉ acc := fun z => by
      have := List.nodup_append.mp h
      exact this.2.2 x z x List.mem_cons_self rfl
    have e : addL acc x = acc ++ [x] := by unfold addL; rw [if_neg hx]
    rw [List.foldl_cons, e, fold_nodup ls (acc ++ [x]) (by rw [List.append_assoc]; exact h), List.append_assoc]
    rfl
theorem dedL_of_nodup {ls : List (List Nat)} (h : ls.Nodup) : dedL ls = ls := fold_nodup ls [] h
/-- the texts of a list, each once, in order -/
def sortT (ls : List (List Nat)) : List D := sortD ((dedL ls).map .str)
def sortSet (ds : List D) : Option D := match txts ds with
  | some ls => if ls.length ≤ 60 then some (.lst (sortT ls)) else none
  | none => none
def lenSet (ds : List D) : Option D := match txts ds with
  | some ls => if ls.length ≤ 60 then some (.int ((dedL ls).length : Nat)) else none
  | none => none
def oSortSet : List D → Option D
  | [.lst ds] => sortSet ds
  | [.tup ds] => sortSet ds
  | _ => none
def oLenSet : List D → Option D
  | [.lst ds] => lenSet ds
  | [.tup ds] => lenSet ds
  | _ => none
theorem fzs_txts {K : PySem.W.Frag} {mg : MG} {H : Hp} : ∀ {ls : List (List Nat)} {vs : List V}, Fzs K mg H (ls.map .str) vs → vs = (ls.map toS).map V.str ∧ ∀ s ∈ ls, sOk s = true
  | [], vs, h => ⟨h, by simp⟩
  | s :: ls, vs, ⟨v, r, e, h1, h2⟩ => by
    obtain ⟨e2, h3⟩ := fzs_txts h2
    refine ⟨by rw [e, h1.1, e2]; rfl, fun t ht => ?_⟩
    rcases List.mem_cons.mp ht with z | z
    · rw [z]; exact h1.2
    · exact h3 t z
theorem fzs_strs {K : PySem.W.Frag} {mg : MG} {H : Hp} : ∀ {ls : List (List Nat)}, (∀ s ∈ ls, sOk s = true) → Fzs K mg H (ls.map .str) ((ls.map toS).map V.str)
  | [], _ => rfl
  | s :: ls, h => ⟨_, _, rfl, ⟨rfl, h s List.mem_cons_self⟩, fzs_strs fun t ht => h t (List.mem_cons_of_mem _ ht)⟩
theorem leD_anti {s t : List Nat} (h1 : leD (.str s) (.str t) = true) (h2 : leD (.str t) (.str s) = true) : s = t := by
  have e : ∀ a b : List Nat, leD (.str a) (.str b) = true → (PyProof.Rows.listOrd PyProof.Rows.itemOrd).blt (PySem.W.keyToks (.str (toS b))) (PySem.W.keyToks (.str (toS a))) = false := fun a b h => by
    unfold leD ltD PySem.W.dataLt at h
    have h' := (Bool.not_eq_true' _).mp h
    exact h'
  have := (PyProof.Rows.listOrd PyProof.Rows.itemOrd).total _ _ (e t s h2) (e s t h1)
  have e2 : [(Sum.inr s : Int ⊕ List Nat)] = [Sum.inr t] := by
    simpa [PySem.W.keyToks] using this
  cases e2
  rfl
theorem eq_sorted {α : Type} {le : α → α → Prop} (anti : ∀ a b, le a b → le b a → a = b) : ∀ {xs ys : List α}, xs.Perm ys → xs.Pairwise le → ys.Pairwise le → xs = ys
  | [], ys, p, _, _ => (List.Perm.nil_eq p)
  | x :: xs, ys, p, h1, h2 => by
    cases ys with
    | nil => exact absurd p.symm.nil_eq (by simp)
    | cons y ys =>
      have e : x = y := by
        rcases List.mem_cons.mp (p.mem_iff.mp List.mem_cons_self) with z | z
        · exact z
        · rcases List.mem_cons.mp (p.mem_iff.mpr List.mem_cons_self) with z2 | z2
          · exact z2.symm
          · exact anti _ _ ((List.pairwise_cons.mp h1).1 y z2) ((List.pairwise_cons.mp h2).1 x z)
      subst e
      rw [eq_sorted anti (List.perm_cons x |>.mp p) (List.pairwise_cons.mp h1).2 (List.pairwise_cons.mp h2).2]
def leS (s t : List Nat) : Bool := leD (.str s) (.str t)
/-- each once, in order -/
def srt (ls : List (List Nat)) : List (List Nat) := (dedL ls).mergeSort leS
theorem sortT_srt (ls : List (List Nat)) : sortT ls = (srt ls).map .str := sortD_map D.str (dedL ls)
theorem srt_perm (ls : List (List Nat)) : (srt ls).Perm (dedL ls) := List.mergeSort_perm _ _
theorem srt_le (ls : List (List Nat)) : (srt ls).Pairwise fun s t => leS s t = true := sort_pair D.str (dedL ls)
@[simp] theorem mem_srt {ls : List (List Nat)} {y : List Nat} : y ∈ srt ls ↔ y ∈ ls := by rw [(srt_perm ls).mem_iff, mem_dedL]
theorem sorted_is {ls : List (List Nat)} {ms : List Str} (p : ms.Perm ((dedL ls).map toS)) (h : ms.Pairwise tle) : ms = (srt ls).map toS := by
  refine eq_sorted (le := tle) (fun a b h1 h2 => ?_) (p.trans ((srt_perm ls).symm.map toS)) h ?_
  · obtain ⟨⟨a⟩⟩ := a
    obtain ⟨⟨b⟩⟩ := b
    exact congrArg toS (leD_anti h1 h2)
  · exact List.pairwise_map.mpr (srt_le ls)
section
variable {G : GC} {N : List Str} {S : SC} {bs bs1 bs2 ms ms1 ms2 ms3 as : Ms} {m : Md} {k : Kd} {e a b : Expr} {es : List Expr} {f fa fb : M D} {fs : M (List D)} {pos p q : Pos}
theorem ru_lenSet {w : World} {m : Md} : RuA G (fun xs H Q => rSetT w G.K xs H fun x H1 => rLenT w [x] H1 Q) m oLenSet := by
  intro H0 H ds xs d Q s h ho f
  have main : ∀ (es : List D) (a : Addr) (vs : List V), xs = [.ref a] → (SqL G.K H a vs ∨ SqT G.K H a vs) → Fzs G.K G.mg H0 es vs → lenSet es = some d → rSetT w G.K xs H fun x H1 => rLenT w [x] H1 Q := by
    intro es a vs e1 hq g ho
    unfold lenSet at ho
    split at ho
    · rename_i ls et
      split at ho
      · rename_i hl
        cases ho
        have := txts_eq et
        subst this
        obtain ⟨e2, _⟩ := fzs_txts g
        subst e2
        refine ⟨a, ls.map toS, e1, hq, by rw [List.length_map]; exact hl, fun p hp => ⟨p, dedT (ls.map toS), rfl, upd_same, ?_, ?_⟩⟩
        · rw [dedT_map, List.length_map]
          exact Nat.le_trans (dedL_len ls) hl
        · rw [dedT_map, List.length_map]
          exact f (.int ((dedL ls).length : Nat)) H0 (upd H p _) [] (same_upd0 hp) (Same.refl _) (s.trans (same_upd0 hp)) (fun _ _ e => .inl ⟨_, e⟩) (ow_of_atom rfl rfl) List.nodup_nil (by simp)
      · cases ho
    · cases ho
  unfold oLenSet at ho
  split at ho
  · obtain ⟨x, e, a, vs, e1, k, g⟩ := shs_one h
    exact main _ a vs (by rw [e, e1]) (.inl (.of k)) g ho
  · obtain ⟨x, e, a, vs, e1, k, g⟩ := shs_one h
    exact main _ a vs (by rw [e, e1]) (.inr (same_t s k)) g ho
  · cases ho
theorem ru_sortSet {w : World} {m : Md} (hm : ZO m) : RuA G (fun xs H Q => rSetT w G.K xs H fun x H1 => rSortT w [x] H1 Q) m oSortSet := by
  intro H0 H ds xs d Q s h ho f
  have main : ∀ (es : List D) (a : Addr) (vs : List V), xs = [.ref a] → (SqL G.K H a vs ∨ SqT G.K H a vs) → Fzs G.K G.mg H0 es vs → sortSet es = some d → rSetT w G.K xs H fun x H1 => rSortT w [x] H1 Q := by
    intro es a vs e1 hq g ho
    unfold sortSet at ho
    split at ho
    · rename_i ls et
      split at ho
      · rename_i hl
        cases ho
        have := txts_eq et
        subst this
        obtain ⟨e2, hok⟩ := fzs_txts g
        subst e2
        refine ⟨a, ls.map toS, e1, hq, by rw [List.length_map]; exact hl, fun p hp => ⟨p, dedT (ls.map toS), rfl, upd_same, ?_, ?_⟩⟩
        · rw [dedT_map, List.length_map]
          exact Nat.le_trans (dedL_len ls) hl
        · intro ms p2 pm pw hp2
          rw [dedT_map] at pm
          have em := sorted_is pm pw
          subst em
          have s1 : Same H (upd H p (TSO w p (dedT (ls.map toS)))) := same_upd0 hp
          have fz : Fzs G.K G.mg H0 (sortT ls) (((srt ls).map toS).map V.str) := by
            rw [sortT_srt]
            exact fzs_strs fun t ht => hok t (mem_srt.mp ht)
          refine Fin.lst (H := upd H p (TSO w p (dedT (ls.map toS)))) (H0 := H0) (ds := sortT ls) hm (fun v H0' H' fp a1 a2 a3 a4 a5 a6 a7 => f v H0' H' fp (s1.trans a1) a2 a3 (fun b o e => (a4 b o e).imp id fun z => s1.free z) a5 a6 fun b hb => ⟨s1.free (a7 b hb).1, (a7 b hb).2⟩) (s.trans s1) fz hp2
      · cases ho
    · cases ho
  unfold oSortSet at ho
  split at ho
  · obtain ⟨x, e, a, vs, e1, k, g⟩ := shs_one h
    exact main _ a vs (by rw [e, e1]) (.inl (.of k)) g ho
  · obtain ⟨x, e, a, vs, e1, k, g⟩ := shs_one h
    exact main _ a vs (by rw [e, e1]) (.inr (same_t s k)) g ho
  · cases ho
theorem VO.lenSet (hm : G.mg "len" = none) (hm2 : G.mg "set" = none) (ha : VA G N S bs ms [a] fs) (hc : S.cm = true := by rfl) (hg : Glb S "len" := by rfl) (hg2 : Glb S "set" := by rfl)
    (he : ∀ env, starEach [a] env = (false, eval a env) :: starEach [] env := by intro _; rfl) (hpl : ∀ env, (backTo q (starEach [] env)).any (·.1) = false := by intro _; rfl)
    (he2 : ∀ env, starEach [.Call (.Name "set" p) [a] [] q] env = (false, eval (.Call (.Name "set" p) [a] [] q) env) :: starEach [] env := by intro _; rfl) (hpl2 : ∀ env, (backTo pos (starEach [] env)).any (·.1) = false := by intro _; rfl) {p2 : Pos} :
    VO G N S .z ms (.Call (.Name "len" p2) [.Call (.Name "set" p) [a] [] q] [] pos) (fA oLenSet fs) := fun R s W t =>
  (pe_callB cr_lenT (s.gl hg) hm boot_len (pa_cons (pe_callTy (cr_setT (s.calm.trans hc)) (s.gl hg2) hm2 boot_set (ha R s W t) (by decide) (by decide) (he _) (hpl _)) pa_nil (he2 _)) (by decide) (by decide) (he2 _) (hpl2 _)).imp fun σ H Q h =>
    show tR G.K G.mg W (FBs G.K G.mg bs) ms fs σ H fun xs H1 => rSetT G.w G.K xs H1 fun x H2 => rLenT G.w [x] H2 Q from VE.args (r := fun xs H Q => rSetT G.w G.K xs H fun x H1 => rLenT G.w [x] H1 Q) rfl rfl (ru_lenSet (w := G.w)) h
theorem VO.sortSet (hm : G.mg "sorted" = none) (hm2 : G.mg "set" = none) (ha : VA G N S bs ms [a] fs) (hc : S.cm = true := by rfl) (hg : Glb S "sorted" := by rfl) (hg2 : Glb S "set" := by rfl)
    (he : ∀ env, starEach [a] env = (false, eval a env) :: starEach [] env := by intro _; rfl) (hpl : ∀ env, (backTo q (starEach [] env)).any (·.1) = false := by intro _; rfl)
    (he2 : ∀ env, starEach [.Call (.Name "set" p) [a] [] q] env = (false, eval (.Call (.Name "set" p) [a] [] q) env) :: starEach [] env := by intro _; rfl) (hpl2 : ∀ env, (backTo pos (starEach [] env)).any (·.1) = false := by intro _; rfl) {p2 : Pos} :
    VO G N S m1 ms (.Call (.Name "sorted" p2) [.Call (.Name "set" p) [a] [] q] [] pos) (fA oSortSet fs) := fun R s W t =>
  (pe_callB (cr_sortT (s.calm.trans hc) s.u100) (s.gl hg) hm (by decide +kernel) (pa_cons (pe_callTy (cr_setT (s.calm.trans hc)) (s.gl hg2) hm2 boot_set (ha R s W t) (by decide) (by decide) (he _) (hpl _)) pa_nil (he2 _)) (by decide) (by decide) (he2 _) (hpl2 _)).imp fun σ H Q h =>
    show tR G.K G.mg W (FBs G.K G.mg bs) ms fs σ H fun xs H1 => rSetT G.w G.K xs H1 fun x H2 => rSortT G.w [x] H2 Q from VE.args (r := fun xs H Q => rSetT G.w G.K xs H fun x H1 => rSortT G.w [x] H1 Q) rfl rfl (ru_sortSet (w := G.w) (.inr rfl)) h
end
end Vm
set_option Elab.async false
set_option linter.all false
set_option maxRecDepth 100000
set_option maxHeartbeats 4000000
/-! for over a dictionary: it is locked while the loop runs -/
namespace Vm
open PySem PySem.Spec PyProof.Rows L2
section
variable {K : PySem.W.Frag} {mg : MG} {H H' H0 H0' : Hp} {d : Addr} {od : Obj} {u0 : HO}
/-- what may be locked -/
def Lk : HO → Prop
  | .dK _ => True
  | .ext _ => True
  | _ => False
/-- the dictionary at d is locked in one of them, else they are alike -/
structure Swp (d : Addr) (od : Obj) (u0 : HO) (H H' : Hp) : Prop where
  lk : Lk u0
  ne : ∀ a, a ≠ d → H' a = H a
  at_ : (H d = some u0 ∧ H' d = some (.frz od u0)) ∨ (H d = some (.frz od u0) ∧ H' d = some u0)
theorem Swp.rd (s : Swp d od u0 H H') {a : Addr} {u : HO} (h : Rd H a u) (n : ∀ o x, u ≠ .frz o x) : Rd H' a u := by
  by_cases z : a = d
  · subst z
    rcases s.at_ with ⟨e1, e2⟩ | ⟨e1, e2⟩
    · rcases h with h | ⟨o, h⟩
      · rw [e1] at h; cases h; exact .inr ⟨od, e2⟩
      · rw [e1] at h
        have l := s.lk
        rw [Option.some.inj h] at l
        exact l.elim
    · rcases h with h | ⟨o, h⟩
      · rw [e1] at h; cases h; exact absurd rfl (n _ _)
      · rw [e1] at h; cases h; exact .inl e2
  · unfold Rd; rw [s.ne a z]; exact h
theorem Swp.ob (s : Swp d od u0 H H') {a : Addr} {u : HO} (h : H a = some u) (n : ∀ o x, u ≠ .frz o x) (m : ¬ Lk u) : H' a = some u := by
  by_cases z : a = d
  · subst z
    rcases s.at_ with ⟨e1, _⟩ | ⟨e1, _⟩
    · rw [e1] at h; cases h; exact absurd s.lk m
    · rw [e1] at h; cases h; exact absurd rfl (n _ _)
  · rw [s.ne a z]; exact h
theorem Swp.fo (s : Swp d od u0 H H') {a b : Addr} {oe : Obj} (h : H a = some (.frz oe (.own b))) : H' a = some (.frz oe (.own b)) := by
  by_cases z : a = d
  · subst z
    rcases s.at_ with ⟨e1, _⟩ | ⟨e1, _⟩
    · rw [e1] at h
      have l := s.lk
      rw [Option.some.inj h] at l
      exact l.elim
    · rw [e1] at h
      have l := s.lk
      cases h
      exact l.elim
  · rw [s.ne a z]; exact h
theorem Swp.nn (s : Swp d od u0 H H') : H d ≠ none ∧ H' d ≠ none := by
  rcases s.at_ with ⟨e1, e2⟩ | ⟨e1, e2⟩ <;> rw [e1, e2] <;> exact ⟨fun z => (by cases z), fun z => (by cases z)⟩
theorem Swp.none (s : Swp d od u0 H H') {a : Addr} : H' a = none ↔ H a = none := by
  by_cases z : a = d
  · subst z; exact ⟨fun h => absurd h s.nn.2, fun h => absurd h s.nn.1⟩
  · rw [s.ne a z]
theorem Swp.symm (s : Swp d od u0 H H') : Swp d od u0 H' H := ⟨s.lk, fun a z => (s.ne a z).symm, s.at_.elim (fun h => .inr ⟨h.2, h.1⟩) fun h => .inl ⟨h.2, h.1⟩⟩
variable {c c' : Co} {σ : L2.St} {ρ : En} {ms : Ms} {Hl Hl' H0l H0l' : Hp} {fp : List Addr}
variable {W : WX} {rm : Md} {as : Ms} {x : Res Fl} {E : Ends}
/-- no exception leaves -/
def noXc (x : Res Fl) : Res Fl := match x with
  | .exc _ _ _ _ => .bad
  | y => y
@[simp] theorem noXc_ok (f : Fl) (r : En) : noXc (.ok f r) = .ok f r := rfl
end
section
variable {G : GC} {N : List Str} {S : SC} {bs ms as1 as2 : Ms} {m rm : Md} {e : Expr} {pos : Pos}
theorem kD_fz {K : PySem.W.Frag} {mg : MG} {H : Hp} {k : Key} (h : kOk k = true) : Fz K mg H (kD k) (kV k) := by
  cases k with
  | inl i => rfl
  | inr x => exact ⟨rfl, h⟩
theorem ItOk.keys {K : PySem.W.Frag} {mg : MG} {H0 : Hp} {d : Addr} {od : Obj} {kvs : List (Key × V)} (hk : (kvs.all fun p => kOk p.1) = true) :
    ItOk K mg (Itk d od kvs) H0 (kvs.map fun p => kD p.1) (fun H c => H d = some (.frz od (.dK kvs)) ∧ c d = none) := fun H0' H c s1 s2 p => by
  refine ⟨fun i x e => ?_, p.1, by rw [List.length_map]; exact Nat.le_refl _⟩
  rw [List.getElem?_map] at e
  cases g : kvs[i]? with
  | none => rw [g] at e; cases e
  | some kv =>
    rw [g] at e
    cases e
    refine ⟨⟨p.1, (List.getElem?_eq_some_iff.mp g).1⟩, fun y H' ⟨e1, k, v, e2, e3⟩ => ?_⟩
    rw [g] at e2
    cases e2
    subst e1 e3
    exact ⟨H0', Same.refl _, Same.refl _, s2, fun a o q => .inl ⟨o, q⟩, kD_fz (List.all_eq_true.mp hk _ (List.mem_of_getElem? g))⟩
theorem _root_.L2.PS.or {X : Cx} {st : Stmt} {t t' : TS} (h : PS X st t) (h' : PS X st t') : PS X st (fun E σ H => t E σ H ∨ t' E σ H) := ⟨fun pins s σ H E I w => w.elim (h.run pins s σ H E I) (h'.run pins s σ H E I)⟩
/-- for x in d, d a name of a frozen dictionary -/
def gForK (i : Nat) (gt : D → M Fl) (gb : M Fl) : M Fl := fun r => match getS r i with
  | some (.z, .dct ks _) => noXc (gLoop gt gb ks r)
  | _ => .bad
/-- for x in y.f, the dictionary an attribute of a name's instance -/
def gForKA (i : Nat) (c f : Str) (gt : D → M Fl) (gb : M Fl) : M Fl := fun r => match getS r i with
  | some (.z, d) => (match atrD c f d with
    | some (.dct ks _) => noXc (gLoop gt gb ks r)
    | _ => .bad)
  | _ => .bad
end
end Vm
set_option Elab.async false
set_option linter.all false
set_option maxRecDepth 100000
set_option maxHeartbeats 4000000
/-! list(d), len(d), dict(pairs), {k: v}, abs; insert, pop -/
namespace Vm
open PySem PySem.Spec PyProof.Rows L2
section
variable {X : Cx}
def rLenD : List V → Hp → VK → Prop := fun xs H Q => ∃ a, ∃ kvs : List (Key × V), xs = [.ref a] ∧ Rd H a (.dK kvs) ∧ Q (.int kvs.length) H
theorem cr_lenD : CallR X (.builtin "len") rLenD := by
  intro pins s σ H xs us Q I r ⟨a, kvs, ex, hd, q⟩
  subst ex
  rw [Vals.ref1 r]
  exact d_len I hd fun t s' I' => ⟨.int kvs.length, H, I', ⟨_, rfl⟩, q⟩
end
def rListD : List V → Hp → VK → Prop := fun xs H Q => ∃ (a : Addr) (kvs : List (Key × V)), xs = [.ref a] ∧ Rd H a (.dK kvs) ∧ ∀ p, H p = none → Q (.ref p) (upd H p (.lst (kvs.map fun kv => kV kv.1)))
def oLenA : List D → Option D
  | [.dct ks _] => some (.int ks.length)
  | ds => oLen ds
def oListA : List D → Option D
  | [.dct ks _] => some (.lst ks)
  | ds => oList ds
section
variable {K : PySem.W.Frag} {mg : MG} {H0 H : Hp} {d : D} {Q : VK} {p : Addr}
theorem keys_fz {kvs : List (Key × V)} (h : (kvs.all fun p => kOk p.1) = true) : Fzs K mg H (kvs.map fun p => kD p.1) (kvs.map fun p => kV p.1) := by
  induction kvs with
  | nil => rfl
  | cons x kvs ih =>
    obtain ⟨h1, h2⟩ := Bool.and_eq_true_iff.mp (show (kOk x.1 && kvs.all fun p => kOk p.1) = true from h)
    exact ⟨_, _, rfl, kD_fz h1, ih h2⟩
theorem putK_ok {kvs : List (Key × V)} {k : Key} {v : V} (hk : (kvs.all fun p => kOk p.1) = true) (h : kOk k = true) : ((putK kvs k v).all fun p => kOk p.1) = true := by
  unfold putK
  split
  · rw [List.all_map]
    rw [List.all_eq_true] at hk ⊢
    intro y hy
    have := hk y hy
    simp only [Function.comp]
    split <;> exact this
  · rw [List.all_append, hk]
    simp [h]
theorem Fin.dct {m : Md} {kvs : List (Key × V)} {ds : List D} (hm : ZO m) (h : Fin K mg m H0 H (.dct (kvs.map fun p => kD p.1) ds) Q) (s : Same H0 H) (hk : (kvs.all fun p => kOk p.1) = true) (f : Fzs K mg H0 ds (kvs.map (·.2))) (hp : H p = none) : Q (.ref p) (upd H p (.dK kvs)) := by
  rcases hm with rfl | rfl
  · exact h.newz s hp ⟨p, _, rfl, ⟨kvs, .inl upd_same, hk, rfl, rfl⟩, Fzs.mono (same_upd0 (s.free hp)) ds _ f⟩
  · exact h.newo s hp ⟨p, _, [], rfl, rfl, ⟨kvs, upd_same, hk, rfl, rfl⟩, Ows.all_z.mpr ⟨rfl, f⟩⟩
theorem key_of_fz {k : Key} {v : V} (h : Fz K mg H d v) (e : keyD d = some k) : v = kV k := by
  cases d <;> simp [keyD] at e
  · subst e; exact h
  · subst e; exact h.1
end
section
variable {G : GC} {N : List Str} {S : SC} {bs bs1 bs2 ms ms1 ms2 ms3 as : Ms} {m me rm : Md} {k : Kd} {e a b : Expr} {es : List Expr} {f fa fb : M D} {fs : M (List D)} {pos p apos spos : Pos} {i : Nat} {x : Str}
theorem ru_lenA {m : Md} : RuA G (fun xs H Q => rLenD xs H Q ∨ rLen G.K xs H Q) m oLenA := by
  intro H0 H ds xs d Q s h ho f
  unfold oLenA at ho
  split at ho
  · obtain ⟨x, e, a, vs, e1, ⟨kvs, rd, hk, e2, e3⟩, g⟩ := shs_one h
    cases ho
    exact .inl ⟨a, kvs, by rw [e, e1], rd, f.atom s (by rw [e2, List.length_map]; rfl) rfl⟩
  · exact .inr (ru_len H0 H ds xs d Q s h ho f)
theorem ru_listA {m : Md} (hm : ZO m) : RuA G (fun xs H Q => rListD xs H Q ∨ rListOf G.K xs H Q) m oListA := by
  intro H0 H ds xs d Q s h ho f
  unfold oListA at ho
  split at ho
  · obtain ⟨x, e, a, vs, e1, ⟨kvs, rd, hk, e2, e3⟩, g⟩ := shs_one h
    cases ho
    subst e2
    exact .inl ⟨a, kvs, by rw [e, e1], rd, fun p hp => f.lst hm s (keys_fz hk) hp⟩
  · exact .inr (ru_list hm H0 H ds xs d Q s h ho f)
theorem VO.lenA (hm : G.mg "len" = none) (ha : VA G N S bs ms (e :: es) fs) (hg : Glb S "len" := by rfl) (he : ∀ env, starEach (e :: es) env = (false, eval e env) :: starEach es env := by intro _; rfl) (hpl : ∀ env, (backTo pos (starEach es env)).any (·.1) = false := by intro _; rfl) :
    VO G N S .z ms (.Call (.Name "len" p) (e :: es) [] pos) (fA oLenA fs) := .callB (fun _ _ => cr_lenD.or call_len) ru_lenA hm boot_len ha hg (by decide) (by decide) he hpl
theorem VO.listA (hm : G.mg "list" = none) (ha : VA G N S bs ms (e :: es) fs) (hc : S.cm = true := by rfl) (hg : Glb S "list" := by rfl) (he : ∀ env, starEach (e :: es) env = (false, eval e env) :: starEach es env := by intro _; rfl) (hpl : ∀ env, (backTo pos (starEach es env)).any (·.1) = false := by intro _; rfl) :
    VO G N S m1 ms (.Call (.Name "list" p) (e :: es) [] pos) (fA oListA fs) := .callTy (fun _ a => (call_listD (a.calm.trans hc)).or call_list_of) (ru_listA (.inr rfl)) hm (by decide +kernel) ha hg (by decide) (by decide) he hpl
def oAbs : List D → Option D
  | [.int i] => some (.int (if i < 0 then -i else i))
  | _ => none
theorem VO.abs (hm : G.mg "abs" = none) (ha : VA G N S bs ms (e :: es) fs) (hg : Glb S "abs" := by rfl) (he : ∀ env, starEach (e :: es) env = (false, eval e env) :: starEach es env := by intro _; rfl) (hpl : ∀ env, (backTo pos (starEach es env)).any (·.1) = false := by intro _; rfl) :
    VO G N S .z ms (.Call (.Name "abs" p) (e :: es) [] pos) (fA oAbs fs) := .callB (fun _ _ => call_abs) (fun H0 H ds xs d Q s h ho f => by
      unfold oAbs at ho
      split at ho
      · obtain ⟨x, e, h1⟩ := shs_one h
        cases ho
        have h1 : x = V.int _ := h1
        exact ⟨_, by rw [e, h1], f.atom s rfl rfl⟩
      · cases ho) hm (by decide +kernel) ha hg (by decide) (by decide) he hpl
/-- {k: v} -/
def fDisp1 (fa fb : M D) : M D := fun r => (fa r).bind fun k r => (fb r).bind fun d r => (rM (keyD k) r).bind fun k r => if kOk k = true then .ok (.dct [kD k] [d]) r else .bad
end
end Vm
set_option Elab.async false
set_option linter.all false
set_option maxRecDepth 100000
set_option maxHeartbeats 4000000
/-! classes: methods from what the top wrote, instances made, attributes written -/
namespace Vm
open PySem PySem.Spec PyProof.Rows L2
structure MkX (G : GC) (c : Str) (k : Nat) (ps : List Str) (F : M D) : Prop where
  ex : ∃ C f fd, G.mg c = some (.ref C) ∧ Mk G.K C f ∧ Binds G.K fd ps [] ∧ FnV G k f fd ps .z F
section
variable {fa : List He.Fa} {fn : List He.DefD} {cs : List (Str × D)} {G : GC}
theorem MetX.mk' (Y : Ye fa fn cs G) (i jg jc jm : Nat) {d : He.DefD} {c m : Str} {k : Nat} {N ps : List Str} {rm : Md} {g : M Fl} {as : Ms} (io : List Bool) (n : Nat) (hb : VSs G N ⟨d.scope, fun _ => true, k, true, true⟩ rm as d.body g)
    (hbi : ∀ (kV doc pm : Value) (an : Option Addr) (cdv ct : Value) (us : List Value), us.length = ps.length → bindArgs (PySem.W.fnOf d.name d.qual d.params d.body d.scope .none kV doc pm an cdv ct) ⟨us, []⟩ = pure (ps.zip us))
    (Sc : FnScope N ps d.scope) (hd : fn[i]? = some d := by rfl) (hg : fa[jg]? = some (.glo c) := by rfl) (hc : fa[jc]? = some (.cls c) := by rfl) (hm : fa[jm]? = some (.meth c m) := by rfl) (hx : d.at_ = (c, some m) := by rfl) (h0 : d.dfl = [] := by rfl) (hio : io.length = ps.length := by rfl) (hn : N.length = ps.length + n := by rfl)
    (has : ∀ i, io.getD i false = true → as i = false := by intro i h; rcases i with _ | _ | _ | _ | _ | _ | i <;> first | rfl | (cases h)) : MetX G c m (k + 1) ps rm (fnRun io n g) := by
  obtain ⟨h, X, Nn⟩ := Y.h
  obtain ⟨fd, F⟩ := Y.s.d.def_ i hd
  have e0 : d.dvs G.K = [] := by unfold He.DefD.dvs; rw [h0]; rfl
  rw [e0] at F
  have ea : He.fAd G.K d.at_ = He.ma G.K (He.ga G.K c) m := by rw [hx]; rfl
  refine ⟨_, _, fd, He.glo_ok X Nn (Y.fact jg hg), He.cls_ok (Y.fact jc hc), He.meth_ok (Y.fact jm hm), ?_⟩
  rw [← ea]
  exact ⟨F.bindsN hbi, FnV.mk F Sc io n hb hio hn has⟩
theorem MkX.mk' (Y : Ye fa fn cs G) (i jg jm : Nat) {d : He.DefD} {c : Str} {k : Nat} {N ps : List Str} {g : M Fl} {as : Ms} (io : List Bool) (n : Nat) (hb : VSs G N ⟨d.scope, fun _ => true, k, true, true⟩ .z as d.body g)
    (hbi : ∀ (kV doc pm : Value) (an : Option Addr) (cdv ct : Value) (us : List Value), us.length = ps.length → bindArgs (PySem.W.fnOf d.name d.qual d.params d.body d.scope .none kV doc pm an cdv ct) ⟨us, []⟩ = pure (ps.zip us))
    (Sc : FnScope N ps d.scope) (hd : fn[i]? = some d := by rfl) (hg : fa[jg]? = some (.glo c) := by rfl) (hm : fa[jm]? = some (.mkr c) := by rfl) (hx : d.at_ = (c, some ("__init__" : Str)) := by rfl) (h0 : d.dfl = [] := by rfl) (hio : io.length = ps.length := by rfl) (hn : N.length = ps.length + n := by rfl)
    (has : ∀ i, io.getD i false = true → as i = false := by intro i h; rcases i with _ | _ | _ | _ | _ | _ | i <;> first | rfl | (cases h)) : MkX G c (k + 1) ps (fnRun io n g) := by
  obtain ⟨h, X, Nn⟩ := Y.h
  obtain ⟨fd, F⟩ := Y.s.d.def_ i hd
  have e0 : d.dvs G.K = [] := by unfold He.DefD.dvs; rw [h0]; rfl
  rw [e0] at F
  have ea : He.fAd G.K d.at_ = He.ma G.K (He.ga G.K c) "__init__" := by rw [hx]; rfl
  refine ⟨_, _, fd, He.glo_ok X Nn (Y.fact jg hg), He.mkr_ok (Y.fact jm hm), ?_⟩
  rw [← ea]
  exact ⟨F.bindsN hbi, FnV.mk F Sc io n hb hio hn has⟩
end
/-! ### an instance is made -/
section
variable {X : Cx} {CX : CXT} {k : Nat} {f C : Addr} {fd : FuncData} {ps : List Str} {sp : Sp} {E : L2.St → XK} {x : Str} {p pos : Pos} {e : Expr} {es : List Expr} {t : TA}
theorem guards_make {A : Around} (h : A.guards = some []) (C : Addr) (us : List Value) (kw : List (Str × Value)) : (A.under (.builtin "type.__call__" ⟨.ref C :: us, kw⟩)).guards = some [] := by
  first | exact h | (simp [Around.under, Code.guards, Code.isGuard, guardIds, pushGuards, h])
theorem run_makeS {pins : List (Addr × Obj)} {σ : L2.St} {H : Hp} {s : Shared} {Q : VK} {us : List Value} {vs : List V} (M : Mk X.K C f) (F : FnK X.prog X.w X.K X.mg X.base CX k f fd ps sp) (hgd : X.A.guards = some []) (hr : Room (k + 1) X.A) (hb : Binds X.K fd ps []) (hx : PassesAt CX X σ (E σ)) (I : Inv X pins σ H s) (r : Vals vs us)
    (h : ∀ a dx, H a = none → H dx = none → dx ≠ a → sp (.ref a :: vs) (upd (upd H dx (.own a)) a (.ins C dx [])) (fun v H2 => v = .non ∧ Q (.ref a) H2) (E σ)) :
    wpAny (model X.prog X.w) X.A (call (.ref C) us) (EP X pins σ Q) X.xe s := by
  have hq := h (s.heap.objs.size + 1) s.heap.objs.size (I.hok.fresh (Nat.le_succ _)) (I.hok.fresh (Nat.le_refl _)) (Nat.ne_of_lt (Nat.lt_succ_self _))
  have I2 := Inv.made (C := C) I
  have r2 : Vals (V.ref (s.heap.objs.size + 1) :: vs) (Value.ref (s.heap.objs.size + 1) :: us) := .cons rfl r
  have hl : (Value.ref (s.heap.objs.size + 1) :: us ++ []).length = ps.length := by
    rw [List.append_nil]
    have e := r2.length
    rw [F.len _ _ _ _ hq] at e
    exact e.symm
  have hbb := hb _ (Value.ref (s.heap.objs.size + 1) :: us) I2.kIn hl
  rw [List.append_nil] at hbb
  refine wpAny_call (make_map (f := f) I.kIn M.makes M.init (beq_iff_eq.mp M.fn) (codeAny_mono (F.run _ X.stack _ _ ⟨Value.ref (s.heap.objs.size + 1) :: us, []⟩ (Value.ref (s.heap.objs.size + 1) :: us) _ _ (E σ) (guards_make hgd C us []) (hr.make C us []) (I2.env0.make C us []) hbb r2 hq) fun r s' hq' => ?_))
  cases r with
  | error e => exact hx pins _ _ e s' I2 hq'
  | ok fl =>
    cases fl with
    | ret u =>
      obtain ⟨v, H', I3, rv, ev, q3⟩ := I2.after hq'
      subst ev
      exact ⟨rv, ⟨V.ref (s.heap.objs.size + 1), H', I3, rfl, q3⟩⟩
    | next => exact False.elim hq'
    | brk => exact False.elim hq'
    | cont => exact False.elim hq'
theorem pe_makeS (M : Mk X.K C f) (F : FnK X.prog X.w X.K X.mg X.base CX k f fd ps sp) (hgd : X.A.guards = some []) (hr : Room (k + 1) X.A) (hg : Gl X x) (hm : X.mg x = some (.ref C)) (hb : Binds X.K fd ps []) (hx : ∀ σ, PassesAt CX X σ (E σ)) (ha : PA X (e :: es) t)
    (hdb : (x == ("__debug__" : Str)) = false) (he : starEach (e :: es) X.env = (false, eval e X.env) :: starEach es X.env) (hpl : (backTo pos (starEach es X.env)).any (·.1) = false) :
    PE X (.Call (.Name x p) (e :: es) [] pos) (fun σ H Q => t σ H fun vs H1 => ∀ a dx, H1 a = none → H1 dx = none → dx ≠ a → sp (.ref a :: vs) (upd (upd H1 dx (.own a)) a (.ins C dx [])) (fun v H2 => v = .non ∧ Q (.ref a) H2) (E σ)) := by
  refine ⟨fun pins s σ H Q I h => ?_⟩
  refine wpAny_Call_Name_kw (ld_glob I hg hm ?_ hdb)
  refine PySem.W.callWith_K (h₀ := X.base) I.ok.mod.kin M.kp (thn (ha.run pos pins s σ H _ I h) fun us s1 ⟨vs, H1, I1, r, q⟩ => ⟨I1.kIn, ?_⟩) he hpl
  exact run_makeS M F hgd hr hb (hx σ) I1 r q
end
/-- a new instance of c: what __init__ leaves in the slot of self -/
def fMake (c : Str) (F : M D) (ls : List (Option Nat)) (fs : M (List D)) : M D := fun r => (fs r).bind fun ds r => match F (some (.o (.all m1), .ins c [] []) :: mkArgs ls ds r) with
  | .ok .non (some (_, d) :: _) => .ok d r
  | .exc n ns vs _ => .exc n ns vs r
  | _ => .bad
section
variable {G : GC} {N : List Str} {S : SC} {bs ms ms1 ms2 : Ms} {e a b : Expr} {es : List Expr} {f fa fb fe : M D} {fs : M (List D)} {pos p : Pos} {c x : Str} {k : Nat} {ps : List Str} {F : M D} {ls : List (Option Nat)}
theorem make_core {W : WX} {σ : L2.St} {H : Hp} {Q : VK} (hn : ls.filterMap id = []) (hl : ls.length + 1 = ps.length) {C : Addr} (hc : G.mg c = some (.ref C)) (h : tR G.K G.mg W (FO G.K G.mg .z ms) ms (fMake c F ls fs) σ H Q) :
    tAM G.K G.mg W ls ms fs σ H fun vs H1 => ∀ a dx, H1 a = none → H1 dx = none → dx ≠ a → spV G F ps.length .z (.ref a :: vs) (upd (upd H1 dx (.own a)) a (.ins C dx [])) (fun v H2 => v = .non ∧ Q (.ref a) H2) (WE W σ) := by
  obtain ⟨ρ, H0, cc, l, o⟩ := h
  refine ⟨ρ, H0, cc, l, (Out.bind (G := FAM G.K G.mg σ ls) (ms1 := ms) back_FO o fun i e => e).imp fun vs H1 ⟨ds, H01, c1, ρ1, e1, s1, l1, am, o1⟩ => fun a dx ha hdx hne => ?_⟩
  obtain ⟨_, hv⟩ := mkArgs_len (r := ρ1) am
  have le := l1.enter (ls := ls) (by rw [hn]; exact List.nodup_nil) am
  have cn : ∀ b, coIn ls c1 b = none := fun b => by
    cases q : coIn ls c1 b with
    | none => rfl
    | some j =>
      obtain ⟨i, _, hj, _⟩ := coIn_some q
      have : i ∈ ls.filterMap id := List.mem_filterMap.mpr ⟨some i, List.mem_of_getElem? hj, rfl⟩
      rw [hn] at this; cases this
  let c2 : Co := fun b => if b = a then some 0 else none
  have c2a : c2 a = some 0 := if_pos rfl
  have c2n : ∀ b i, c2 b = some i → b = a ∧ i = 0 := fun b i q => by
    by_cases z : b = a
    · subst z; rw [c2a] at q; exact ⟨rfl, (Option.some.inj q).symm⟩
    · rw [show c2 b = none from if_neg z] at q; cases q
  have sm : Same H1 (upd (upd H1 dx (.own a)) a (.ins C dx [])) := fun b u q => by rw [upd_ne (ne_of_none q ha), upd_ne (ne_of_none q hdx)]; exact q
  have nn : ∀ b, upd (upd H1 dx (.own a)) a (.ins C dx []) b = none → H1 b = none := fun b q => by
    by_cases z : b = a
    · rw [z]; exact ha
    · rw [upd_ne z] at q
      by_cases w : b = dx
      · rw [w]; exact hdx
      · rw [upd_ne w] at q; exact q
  have l2 : Lies G.K G.mg H01 (upd (upd H1 dx (.own a)) a (.ins C dx [])) c2 (((.ref a :: vs : List V)).map some) (some (.o (.all m1), .ins c [] []) :: mkArgs ls ds ρ1) := by
    refine ⟨l1.sub.trans sm, l1.hot, fun b i q => ?_, fun b i q => ?_, ?_, fun i m d q => ?_⟩
    · rw [(c2n b i q).1]; exact l1.sub.free ha
    · rw [(c2n b i q).1]; exact ⟨_, upd_same⟩
    · have := le.len
      rw [List.length_map] at this
      rw [List.length_cons, this, List.length_map, List.length_cons]
    · cases i with
      | zero =>
        cases q
        exact ⟨.ref a, [a], rfl, ⟨a, C, dx, [], [], rfl, rfl, hc, upd_same, rfl, rfl, rfl⟩, by simp, fun b hb => by rw [List.mem_singleton.mp hb]; exact c2a⟩
      | succ i =>
        obtain ⟨v, fp, q1, ow, nd, hq⟩ := le.slot i m d (by simpa [getS] using q)
        have ef : fp = [] := by
          cases fp with
          | nil => rfl
          | cons b _ => have := hq b List.mem_cons_self; rw [cn b] at this; cases this
        subst ef
        exact ⟨v, [], by simpa using q1, Ow.mono (Same.refl _) d m v [] (by simp) ow, nd, by simp⟩
  refine ⟨by rw [List.length_cons, hv]; exact hl, _, H01, c2, l2, ?_⟩
  -- back at the caller
  have back : ∀ (H0' H' : Hp) (c' : Co) (fp : List Addr), Step msA H01 (upd (upd H1 dx (.own a)) a (.ins C dx [])) c2 H0' H' c' → Same H0' H' → (∀ b ∈ fp, c' b = some 0) → Step ms H01 H1 c1 (ext H0' H' fp) H' c1 ∧ Lies G.K G.mg (ext H0' H' fp) H' c1 σ ρ1 := by
    intro H0' H' c' fp s sub hfp
    have keep : ∀ b u, H1 b = some u → H' b = some u := fun b u q => s.keep b u (sm b u q) fun i z => absurd (c2n b i z).1 (ne_of_none q ha)
    have new0 : ∀ b u, H0' b = some u → (∃ w, H01 b = some w) ∨ H1 b = none := fun b u q => by
      rcases s.new0 b u q with z | z | ⟨i, z, _⟩
      · exact .inl z
      · exact .inr (nn b z)
      · rw [(c2n b i z).1]; exact .inr ha
    have newf : ∀ b ∈ fp, H1 b = none := fun b hb => by
      rcases s.newc b 0 (hfp b hb) with z | ⟨_, z | ⟨j, z, _⟩⟩
      · rw [(c2n b 0 z).1]; exact ha
      · exact nn b z
      · rw [(c2n b j z).1]; exact ha
    have gr : Same H01 (ext H0' H' fp) := s.grow.trans (same_ext sub)
    refine ⟨⟨fun b u q _ => keep b u q, fun _ _ _ _ => rfl, gr, fun b u q => ?_, fun _ _ q => .inl q⟩, ⟨ext_same sub, fun b e => (l1.hot b e).mono gr, fun b i q => ?_, fun b i q => ?_, l1.len, fun i m d q => ?_⟩⟩
    · by_cases z : b ∈ fp
      · exact .inr (.inl (newf b z))
      · rw [ext_out z] at q
        exact (new0 b u q).imp id .inl
    · obtain ⟨u, hu⟩ := l1.there b i q
      have nf : b ∉ fp := fun z => by rw [newf b z] at hu; cases hu
      rw [ext_out nf]
      cases w : H0' b with
      | none => rfl
      | some y =>
        rcases new0 b y w with ⟨_, z⟩ | z
        · rw [l1.apart b i q] at z; cases z
        · rw [z] at hu; cases hu
    · obtain ⟨u, hu⟩ := l1.there b i q
      exact ⟨u, keep b u hu⟩
    · obtain ⟨v, g, q1, ow, nd, hq⟩ := l1.slot i m d q
      exact ⟨v, g, q1, Ow.mono gr d m v g (fun b hb => by
        obtain ⟨u, hu⟩ := l1.there b i (hq b hb)
        rw [hu, keep b u hu]) ow, nd, hq⟩
  have o2 : Out G.K G.mg W (FO G.K G.mg .z ms) ms H01 H1 c1 σ (match F (some (.o (.all m1), .ins c [] []) :: mkArgs ls ds ρ1) with
    | .ok .non (some (_, d) :: _) => .ok d ρ1
    | .exc n ns vs _ => .exc n ns vs ρ1
    | _ => .bad) Q := o1
  cases hF : F (some (.o (.all m1), .ins c [] []) :: mkArgs ls ds ρ1) with
  | ok d rp =>
    rw [hF] at o2
    cases d <;> first | exact o2.elim | skip
    cases rp with
    | nil => exact o2.elim
    | cons s0 rp =>
      cases s0 with
      | none => exact o2.elim
      | some md =>
        obtain ⟨m, d⟩ := md
        intro v H0' H' c' s l' ⟨fp, ow, fr⟩
        refine ⟨(Ow.zero.mp ow).2, ?_⟩
        obtain ⟨w, g, q1, ow', nd, hq⟩ := l'.slot 0 m d rfl
        have ew : w = .ref a := (Option.some.inj (Option.some.inj q1)).symm
        subst ew
        obtain ⟨st, li⟩ := back H0' H' c' g s l'.sub hq
        exact o2 (.ref a) (ext H0' H' g) H' c1 st li (ow_zero_fo (Ow.frz l'.sub d m _ g ow'))
  | exc n ns es rp =>
    rw [hF] at o2
    intro cls dx' H0' H' c' s l' ex
    obtain ⟨st, li⟩ := back H0' H' c' [] s l'.sub (by simp)
    rw [ext_nil] at st li
    exact o2 cls dx' H0' H' c1 st li ex
  | bad => rw [hF] at o2; exact o2.elim
theorem VO.make (M : MkX G c k ps F) (ha : VM G N S ls ms (e :: es) fs) (hk' : k + 1 ≤ S.k := by decide) (hcm : S.cm = true := by rfl) (hn : ls.filterMap id = [] := by rfl) (hl : ls.length + 1 = ps.length := by rfl) (hg : Glb S c := by rfl)
    (hdb : (c == ("__debug__" : Str)) = false := by decide) (he : ∀ env, starEach (e :: es) env = (false, eval e env) :: starEach es env := by intro _; rfl) (hpl : ∀ env, (backTo pos (starEach es env)).any (·.1) = false := by intro _; rfl) :
    VO G N S .z ms (.Call (.Name c p) (e :: es) [] pos) (fMake c F ls fs) := by
  obtain ⟨C, f, fd, hC, hM, hb, hF⟩ := M.ex
  exact fun R a W t => (pe_makeS hM hF a.gd ((a.room hcm).mono hk') (a.gl hg) hC hb (fun σ => L2N.passAt t σ) (ha R a W t) hdb (he _) (hpl _)).imp fun σ H Q h => make_core hn hl hC h
end
/-! ### attributes of an instance of one's own -/
/-- an instance of one's own, its attributes things of one's own -/
def inS (c : Str) : Sl → Option (List Str × List D)
  | some (.o (.all m), .ins c' ns vs) => if mdEq m m1 = true ∧ c' = c then some (ns, vs) else none
  | _ => none
theorem inS_ok {c : Str} {s : Sl} {ns : List Str} {vs : List D} (h : inS c s = some (ns, vs)) : s = some (.o (.all m1), .ins c ns vs) := by
  unfold inS at h
  split at h
  · split at h
    · rename_i q
      cases h
      rw [mdEq_ok q.1, q.2]
    · cases h
  · cases h
def setI (f : Str) (d : D) (p : List Str × List D) : Option (List Str × List D) := if p.1.contains f = false ∧ p.1.length < 900 then some (p.1 ++ [f], p.2 ++ [d]) else none
/-- x.f = e, a new attribute -/
def gISet (i : Nat) (c f : Str) (fe : M D) : M Fl := fun r => (fe r).bind fun d r => (rM (inS c (getS r i)) r).bind fun p r => (rM (setI f d p) r).bind fun p' r => .ok .nx (r.set i (some (.o (.all m1), .ins c p'.1 p'.2)))
theorem putF_new {f : Str} {y : V} : ∀ {ns : List Str} {vs : List V}, ns.contains f = false → ns.length = vs.length → putF f y (ns.zip vs) = (ns ++ [f]).zip (vs ++ [y])
  | [], [], _, _ => rfl
  | x :: ns, v :: vs, h, hl => by
    have h' : (f == x || ns.contains f) = false := by simpa [List.contains_cons] using h
    obtain ⟨h1, h2⟩ := Bool.or_eq_false_iff.mp h'
    have nx : ¬ x = f := fun e => by rw [e] at h1; simp at h1
    show (if x = f then _ else _) = _
    rw [if_neg nx]
    have ih := putF_new (f := f) (y := y) (ns := ns) (vs := vs) h2 (by simpa using hl)
    have ih' : putF f y (List.zipWith Prod.mk ns vs) = (ns ++ [f]).zip (vs ++ [y]) := ih
    rw [ih']
    rfl
  | [], _ :: _, _, hl => by cases hl
  | _ :: _, [], _, hl => by cases hl
theorem Ows.len {K : PySem.W.Frag} {mg : MG} {H0 H : Hp} : ∀ {ds : List D} {k : Kd} {vs : List V} {fp : List Addr}, Ows K mg H0 H ds k vs fp → vs.length = ds.length
  | [], _, _, _, h => by rw [h.1]; rfl
  | _ :: _, _, _, _, ⟨v, r, f, g, e, _, _, t⟩ => by rw [e, List.length_cons, List.length_cons, Ows.len t]
section
variable {G : GC} {N : List Str} {S : SC} {bs ms ms1 ms2 : Ms} {m rm : Md} {e a b : Expr} {fa fb fe : M D} {pos p spos tpos : Pos} {c f x : Str} {i : Nat}
theorem VS.iset (A : AtrX G c f) (he : VO G N S m1 ms e fe)
    (hN : N[i]? = some x := by rfl) (hv : Vis S.sc x := by first | exact Or.inl rfl | exact Or.inr (Or.inl rfl) | exact Or.inr (Or.inr rfl)) (hd : (x == ("__debug__" : Str)) = false := by decide) (hcd : (x == ("__classdict__" : Str)) = false := by decide)
    (hs : ∀ env, swapsWith e (some (.Attribute (.Name x p) f tpos)) spos.line env = pure false := by intro _; rfl) :
    VS G N S rm ms0 (.Assign [.Attribute (.Name x p) f tpos] e spos) (gISet i c f fe) := by
  refine fun R at_ W t => (ps_fld (pe_var (i := i) hN (at_.vis hv) hd hcd) (he R at_ W t) (hs _)).imp fun D σ H ⟨ρ, H0, cc, l, o⟩ => ?_
  refine ⟨ρ, H0, cc, l, (OutS.expr (F := FO G.K G.mg m1 ms) o).imp fun v H1 ⟨d, H01, c1, ρ1, e1, s1, l1, ⟨fp, ow, fr⟩, o1⟩ => ?_⟩
  clear o1
  have o : OutS G.K G.mg W rm msA ms0 H0 H cc σ ((fe ρ).bind fun d r => (rM (inS c (getS r i)) r).bind fun p r => (rM (setI f d p) r).bind fun p' r => .ok .nx (r.set i (some (.o (.all m1), .ins c p'.1 p'.2)))) D := o
  rw [e1, bind_ok] at o
  cases hp : inS c (getS ρ1 i) with
  | none => rw [hp] at o; exact o.elim
  | some pr =>
    obtain ⟨ns, vs⟩ := pr
    rw [hp, rM_some, bind_ok] at o
    cases hq : setI f d (ns, vs) with
    | none => rw [hq] at o; exact o.elim
    | some pr' =>
      rw [hq, rM_some, bind_ok] at o
      unfold setI at hq
      split at hq
      · rename_i hh
        cases hq
        obtain ⟨w, g0, q1, ⟨q, C, dx, us, g, ew, ef, hm, hH, hlen, ows⟩, nd, hc⟩ := l1.slot i _ _ (inS_ok hp)
        subst ew ef
        obtain ⟨C', hm', cl, na⟩ := A.ex
        have eC : C = C' := by rw [hm'] at hm; exact (Value.ref.inj (Option.some.inj hm)).symm
        subst eC
        have hul := Ows.len ows
        have dj : ∀ b ∈ fp, b ∉ q :: g := fun b hb z => by have := fr.nc b hb; rw [hc b z] at this; cases this
        have nq : q ∉ g := (List.nodup_cons.mp nd).1
        have ch : ∀ b, (upd H1 q (.ins C dx (putF f v (ns.zip us)))) b ≠ H1 b → b = q := fun b n => Classical.byContradiction fun z => n (upd_ne z)
        have cq : c1 q = some i := hc q List.mem_cons_self
        refine ⟨.ref q, q1, q, C, dx, _, rfl, hH, cl, na, ?_, ?_⟩
        · have := hh.2; dsimp only at this; rw [List.length_zip]; omega
        · have ows' : Ows G.K G.mg H01 (upd H1 q (.ins C dx (putF f v (ns.zip us)))) (vs ++ [d]) (.all m1) (us ++ [v]) (g ++ fp) :=
            Ows.snoc (Ows.mono (Same.refl _) vs _ us g (fun b hb => upd_ne fun z => nq (z ▸ hb)) ows) (Ow.mono (Same.refl _) d m1 v fp (fun b hb => upd_ne fun z => dj b hb (by rw [z]; exact List.mem_cons_self)) ow)
          have nd' : (q :: (g ++ fp)).Nodup := by
            refine List.nodup_cons.mpr ⟨fun z => ?_, List.nodup_append.mpr ⟨(List.nodup_cons.mp nd).2, fr.nd, fun b hb b' hb' e => dj b' hb' (by rw [← e]; exact List.mem_cons_of_mem _ hb)⟩⟩
            rcases List.mem_append.mp z with z | z
            · exact nq z
            · exact dj q z List.mem_cons_self
          have mem : ∀ b ∈ q :: (g ++ fp), c1 b = some i ∨ b ∈ fp := fun b hb => by
            rcases List.mem_cons.mp hb with z | z
            · rw [z]; exact .inl cq
            · rcases List.mem_append.mp z with z | z
              · exact .inl (hc b (List.mem_cons_of_mem _ z))
              · exact .inr z
          refine o σ H01 _ (coSet c1 i (q :: (g ++ fp))) ((s1.mono (ms' := msA) fun _ _ => rfl).modify rfl (fun b n => by rw [ch b n]; exact .inl cq) fun b hb => ?_) (l1.modify q1 (fun b n => by rw [ch b n]; exact .inl cq) (fun b o e => ?_) ⟨q, C, dx, us ++ [v], g ++ fp, rfl, rfl, hm', by rw [upd_same, putF_new hh.1 (hlen.trans hul.symm)], by rw [List.length_append, List.length_append, hlen]; rfl, ows'⟩ nd' (fun b hb => ?_) (fun b hb => ?_) fun b hb => ?_) .refl
          · rcases mem b hb with z | z
            · exact .inl z
            · exact .inr ((fr.new b z).imp id fun ⟨j, w, _⟩ => ⟨j, w, rfl⟩)
          · by_cases z : b = q
            · rw [z]; exact ⟨_, upd_same⟩
            · rw [upd_ne z]; exact ⟨o, e⟩
          · rcases mem b hb with z | z
            · exact .inr z
            · exact .inl (fr.nc b z)
          · rcases mem b hb with z | z
            · exact l1.apart b i z
            · exact fr.n0 b z
          · by_cases z : b = q
            · rw [z]; exact ⟨_, upd_same⟩
            · rw [upd_ne z]
              rcases mem b hb with w | w
              · exact l1.there b i w
              · exact fr.there b w
      · cases hq
/-- an instance of one's own with one attribute, a dictionary -/
def idS (c f : Str) : Sl → Option (List D × List D)
  | some (.o (.all m), .ins c' [f'] [.dct ks vs]) => if mdEq m m1 = true ∧ c' = c ∧ f' = f then some (ks, vs) else none
  | _ => none
theorem idS_ok {c f : Str} {s : Sl} {ks vs : List D} (h : idS c f s = some (ks, vs)) : s = some (.o (.all m1), .ins c [f] [.dct ks vs]) := by
  unfold idS at h
  split at h
  · split at h
    · rename_i q
      cases h
      rw [mdEq_ok q.1, q.2.1, q.2.2]
    · cases h
  · cases h
/-- x.f[k] = e -/
def gIPut (i : Nat) (c f : Str) (fv fk : M D) : M Fl := fun r => (fv r).bind fun d r => (rM (idS c f (getS r i)) r).bind fun _ r => (fk r).bind fun j r => (rM (idS c f (getS r i)) r).bind fun p r => (rM (dPutO j d p) r).bind fun p' r => .ok .nx (r.set i (some (.o (.all m1), .ins c [f] [.dct p'.1 p'.2])))
theorem id_at {K : PySem.W.Frag} {mg : MG} {H0 H : Hp} {cc : Co} {σ : L2.St} {ρ : En} {ks ds : List D} (l : Lies K mg H0 H cc σ ρ) (h : idS c f (getS ρ i) = some (ks, ds)) :
    ∃ a C dx q kvs, σ[i]? = some (some (.ref a)) ∧ mg c = some (.ref C) ∧ H a = some (.ins C dx [(f, .ref q)]) ∧ H q = some (.dK kvs) ∧ (kvs.all fun p => kOk p.1) = true ∧ ks = kvs.map (fun p => kD p.1) ∧ Fzs K mg H0 ds (kvs.map (·.2)) ∧ cc a = some i ∧ cc q = some i ∧ a ≠ q := by
  obtain ⟨v, fp, e1, ⟨a, C, dx, us, g, e2, e3, hm, hH, hl, v1, r1, f1, g1, e4, e5, ⟨q, ws, h1, e6, e7, ⟨kvs, k1, hk, hks, hvs⟩, hw⟩, er, eg⟩, nd, hc⟩ := l.slot i _ _ (idS_ok h)
  subst e2 e3 e4 e5 e6 e7 hvs er eg
  have nq : a ≠ q := fun z => (List.nodup_cons.mp nd).1 (by rw [z]; simp)
  exact ⟨a, C, dx, q, kvs, e1, hm, hH, k1, hk, hks, (Ows.all_z.mp hw).2, hc a List.mem_cons_self, hc q (by simp), nq⟩
theorem VS.iput (A : AtrX G c f) (he : VO G N S .z ms1 a fa) (hi : VO G N S .z ms2 b fb) (hcm : True := trivial) (hms : ms2 i = false := by rfl) {p2 : Pos}
    (hN : N[i]? = some x := by rfl) (hv : Vis S.sc x := by first | exact Or.inl rfl | exact Or.inr (Or.inl rfl) | exact Or.inr (Or.inr rfl)) (hd : (x == ("__debug__" : Str)) = false := by decide) (hcd : (x == ("__classdict__" : Str)) = false := by decide)
    (hba : ∀ env, attributeBase (.Name x p) f env (eval (.Name x p) env) = eval (.Name x p) env := by intro _; rfl)
    (hs : ∀ env, swapsWithSole [.Subscript (.Attribute (.Name x p) f p2) b tpos] a spos.line env = pure false := by intro _; rfl) (hw : ∀ env, swappedStores [.Subscript (.Attribute (.Name x p) f p2) b tpos] a env = pure none := by intro _; rfl)
    (h1 : ∀ env, (assignEach [.Subscript (.Attribute (.Name x p) f p2) b tpos] env).map (·.2) = [assign (.Subscript (.Attribute (.Name x p) f p2) b tpos) env] := by intro _; rfl)
    (ha : ∀ env v, assign (.Subscript (.Attribute (.Name x p) f p2) b tpos) env v = (do
      let ov ← holding [v] (eval (.Attribute (.Name x p) f p2) env)
      let iv ← holding [v, ov] (eval b env)
      standAt tpos
      holding [v, ov, iv] (setItem ov iv v)
      release [v, ov, iv] []) := by intro _ _; rfl) :
    VS G N S rm ms0 (.Assign [.Subscript (.Attribute (.Name x p) f p2) b tpos] a spos) (gIPut i c f fa fb) := by
  refine fun R at_ W t => (ps_asg (he R at_ W t) (pg_sub (pe_fld (pe_var (i := i) hN (at_.vis hv) hd hcd) (hba _)) (hi R at_ W t) (set_dict (by have := at_.u100 hcm; omega)) (ha _)) (hs _) (hw _) (h1 _)).imp fun D σ H ⟨ρ, H0, cc, l, o⟩ => ?_
  obtain ⟨C', hm', cl, na⟩ := A.ex
  refine ⟨ρ, H0, cc, l, (OutS.expr (F := FO G.K G.mg .z ms1) o).imp fun v H1 ⟨d, H01, c1, ρ1, e1, s1, l1, ⟨fp, ow, fr⟩, o1⟩ => ?_⟩
  have fz := (Ow.zero.mp ow).2
  cases hp0 : idS c f (getS ρ1 i) with
  | none => rw [hp0] at o1; exact o1.elim
  | some p0 =>
    obtain ⟨ks0, ds0⟩ := p0
    rw [hp0, rM_some, bind_ok] at o1
    obtain ⟨a0, C, dx, q, kvs0, hq, hm, hH0, _, _, _, _, hca0, _⟩ := id_at l1 hp0
    have eC : C = C' := by rw [hm'] at hm; exact (Value.ref.inj (Option.some.inj hm)).symm
    subst eC
    refine ⟨.ref a0, hq, a0, C, dx, _, .ref q, rfl, hH0, cl, na, by simp [List.lookup], ρ1, H01, c1, l1, (OutS.expr (F := FO G.K G.mg .z ms2) o1).imp fun v2 H2 ⟨d2, H02, c2, ρ2, e2, s2, l2, ⟨fp2, ow2, fr2⟩, o2⟩ => ?_⟩
    have fz2 := (Ow.zero.mp ow2).2
    cases hp : idS c f (getS ρ2 i) with
    | none => rw [hp] at o2; exact o2.elim
    | some p1 =>
      obtain ⟨ks, ds⟩ := p1
      rw [hp, rM_some, bind_ok] at o2
      obtain ⟨a1, C1, dx1, q', kvs, hq', hm1, hH, hHq, hk, hks, fds, hca, hcq, nq⟩ := id_at l2 hp
      rw [hq] at hq'
      cases hq'
      have eC : C1 = C := by rw [hm'] at hm1; exact (Value.ref.inj (Option.some.inj hm1)).symm
      subst eC
      have ka := s2.keep a0 _ hH0 fun j z => (by rw [hca0] at z; cases z; exact hms)
      rw [hH] at ka
      cases ka
      subst hks
      cases hr : dPutO d2 d (kvs.map (fun p => kD p.1), ds) with
      | none => rw [hr] at o2; exact o2.elim
      | some p' =>
        rw [hr, rM_some, bind_ok] at o2
        obtain ⟨kk, hk2, hr2⟩ := Option.bind_eq_some_iff.mp hr
        split at hr2
        · rename_i hlt
          cases hr2
          obtain ⟨hlt, hkk⟩ := hlt
          rw [List.length_map] at hlt
          have ek : v2 = kV kk := key_of_fz fz2 hk2
          have ch : ∀ b, (upd H2 q (.dK (putK kvs kk v))) b ≠ H2 b → b = q := fun b n => Classical.byContradiction fun z => n (upd_ne z)
          have fzn := putVs_fz (k := kk) (Fz.mono s2.grow d v fz) kvs ds fds
          have in2 : ∀ b ∈ [a0, q], c2 b = some i := fun b hb => by
            rcases List.mem_cons.mp hb with z | z
            · rw [z]; exact hca
            · rw [List.mem_singleton.mp z]; exact hcq
          have st : Step msA H02 H2 c2 H02 (upd H2 q (.dK (putK kvs kk v))) (coSet c2 i [a0, q]) := (Step.refl (ms := msA)).modify rfl (fun b n => by rw [ch b n]; exact .inl hcq) fun b hb => .inl (in2 b hb)
          have li : Lies G.K G.mg H02 (upd H2 q (.dK (putK kvs kk v))) (coSet c2 i [a0, q]) σ (ρ2.set i (some (.o (.all m1), .ins c [f] [.dct (putKs kk (kvs.map fun p => kD p.1)) (putVs kk d (kvs.map fun p => kD p.1) ds)]))) := by
            refine l2.modify hq (fun b n => by rw [ch b n]; exact .inl hcq) (fun b o e => ?_) ⟨a0, C1, dx, [.ref q], [q], rfl, rfl, hm', by rw [upd_ne nq]; exact hH, rfl, .ref q, [], [q], [], rfl, rfl, ⟨q, _, [], rfl, rfl, ⟨putK kvs kk v, upd_same, putK_ok hk hkk, (putKs_kvs kk v kvs).symm, rfl⟩, Ows.all_z.mpr ⟨rfl, fzn⟩⟩, rfl, rfl⟩ (by simp [nq]) (fun b hb => .inr (in2 b hb)) (fun b hb => l2.apart b i (in2 b hb)) fun b hb => ?_
            · by_cases z : b = q
              · rw [z]; exact ⟨_, upd_same⟩
              · rw [upd_ne z]; exact ⟨o, e⟩
            · by_cases z : b = q
              · rw [z]; exact ⟨_, upd_same⟩
              · rw [upd_ne z]; exact l2.there b i (in2 b hb)
          exact ⟨q, _, rfl, .inl ⟨kvs, kk, hHq, ek, by rw [sizeLine_eq]; exact hlt, rfl⟩, o2 σ H02 _ _ st li .refl⟩
        · cases hr2
end
end Vm
set_option Elab.async false
set_option linter.all false
set_option maxRecDepth 100000
set_option maxHeartbeats 4000000
/-! insert, pop as an expression, methods of what is not kept -/
namespace Vm
open PySem PySem.Spec PyProof.Rows L2
def insO (j d : D) (ds : List D) : Option (List D) := match j with
  | .int n => if 0 ≤ n ∧ n ≤ ds.length ∧ ds.length < 16777216 then some (ds.take n.toNat ++ [d] ++ ds.drop n.toNat) else none
  | _ => none
def gIns (i : Nat) (fa fb : M D) : M Fl := rcv i fun r => (fa r).bind fun j r => (fb r).bind fun d r => (rM (lsS .z (getS r i)) r).bind fun ds r => (rM (insO j d ds) r).bind fun ds' r => .ok .nx (r.set i (some (m1, .lst ds')))
def ePop (i : Nat) : M D := fun r => (rM (lsS .z (getS r i)) r).bind fun ds r => match ds.getLast? with
  | some d => .ok d (r.set i (some (m1, .lst ds.dropLast)))
  | none => .bad
/-- a list that is not kept is changed -/
def gTmp (f : M D) : M Fl := fun r => (f r).bind fun d r => match d with
  | .lst ds => if ds.length < 16777216 then .ok .nx r else .bad
  | _ => .bad
section
variable {G : GC} {N : List Str} {S : SC} {bs bs1 bs2 ms ms1 ms2 ms3 as as1 as2 : Ms} {m me rm : Md} {k : Kd} {e a b : Expr} {es : List Expr} {f fa fb : M D} {fs : M (List D)} {pos p apos spos : Pos} {i : Nat} {x : Str}
theorem VS.ins (ha : VO G N S .z ms1 a fa) (hb : VO G N S .z ms2 b fb)
    (hN : N[i]? = some x := by rfl) (hv : Vis S.sc x := by first | exact Or.inl rfl | exact Or.inr (Or.inl rfl) | exact Or.inr (Or.inr rfl)) (hd : (x == ("__debug__" : Str)) = false := by decide) (hcd : (x == ("__classdict__" : Str)) = false := by decide)
    (hline : (apos.endLine == pos.line) = true := by rfl) (hst : ∀ env, starEach [a, b] env = (false, eval a env) :: starEach [b] env := by intro _; rfl) (hst2 : ∀ env, starEach [b] env = (false, eval b env) :: starEach [] env := by intro _; rfl)
    (hpl : ∀ env, (backTo pos (starEach [b] env)).any (·.1) = false := by intro _; rfl)
    (hbase : ∀ env, attributeBase (.Name x p) "insert" env (eval (.Name x p) env) = eval (.Name x p) env := by intro _; rfl)
    (hfew : ∀ env, ((backTo pos (starEach [a, b] env)).all (fun x => !x.1) && (backToKw pos (keywordEach [] env)).all (fun x => x.1.isSome) && decide (([a, b] : List Expr).length + ([] : List Keyword).length + (if ([] : List Keyword).isEmpty then 0 else 1) < 30)) = true := by intro _; rfl)
    (hs : ∀ env, swapsWith (.Call (.Attribute (.Name x p) "insert" apos) [a, b] [] pos) none spos.line env = pure false := by intro _; rfl) :
    VS G N S rm ms0 (.Expr (.Call (.Attribute (.Name x p) "insert" apos) [a, b] [] pos) spos) (gIns i fa fb) := by
  refine fun R s_ W t => (ps_expr (pe_bm PySem.F.plainAttrs_list PySem.F.slot_list_insert PySem.F.type_list_insert mt_insert (pe_var (i := i) hN (s_.vis hv) hd hcd) (pa_cons (ha R s_ W t) (pa_cons (hb R s_ W t) pa_nil (hst2 _)) (hst _)) (hbase _) (hfew _) hline (hst _) (hpl _)) (hs _)).imp fun D σ H ⟨ρ, H0, c, l, o⟩ => ?_
  unfold gIns rcv at o
  by_cases hr0 : rcvS (getS ρ i) = true
  · rw [if_pos hr0] at o
    obtain ⟨q, vs0, hq, hH0, hcq⟩ := rcv_at l hr0
    refine ⟨.ref q, hq, .inl ⟨rfl, vs0, .of hH0⟩, ρ, H0, c, l, (OutS.expr (F := FO G.K G.mg .z ms1) o).imp fun v H1 ⟨d, H01, c1, ρ1, e1, s1, l1, ⟨fp, ow, fr⟩, o1⟩ => ?_⟩
    refine ⟨ρ1, H01, c1, l1, (OutS.expr (F := FO G.K G.mg .z ms2) o1).imp fun v2 H2 ⟨d2, H02, c2, ρ2, e2, s2, l2, ⟨fp2, ow2, fr2⟩, o2⟩ => ?_⟩
    have fz1 := Fz.mono s2.grow d v (Ow.zero.mp ow).2
    have fz2 := (Ow.zero.mp ow2).2
    cases hl : lsS .z (getS ρ2 i) with
    | none => rw [hl] at o2; exact o2.elim
    | some ds =>
      rw [hl, rM_some, bind_ok] at o2
      obtain ⟨vs, h, hH, ows, nd, hc⟩ := ls_at l2 hl hq
      obtain ⟨eh, fzs⟩ := Ows.all_z.mp ows
      subst eh
      cases hg : insO d d2 ds with
      | none => rw [hg] at o2; exact o2.elim
      | some ds' =>
        rw [hg, rM_some, bind_ok] at o2
        obtain ⟨n, en0⟩ : ∃ n, d = .int n := by cases d <;> first | (cases hg; done) | exact ⟨_, rfl⟩
        subst en0
        have en : v = V.int n := fz1
        subst en
        have hg' : (if 0 ≤ n ∧ n ≤ ds.length ∧ ds.length < 16777216 then some (ds.take n.toNat ++ [d2] ++ ds.drop n.toNat) else none) = some ds' := hg
        split at hg'
        · rename_i hh
          cases hg'
          have fz' : Fzs G.K G.mg H02 (ds.take n.toNat ++ [d2] ++ ds.drop n.toNat) (vs.take n.toNat ++ [v2] ++ vs.drop n.toNat) := ((fzs.take _).append (show Fzs G.K G.mg H02 [d2] [v2] from ⟨v2, [], rfl, fz2, rfl⟩)).append (fzs.drop _)
          obtain ⟨st, li⟩ := ls_write (me := .z) (g' := []) (ds' := _) (vs' := _) l2 (.refl (ms := msA)) rfl hq hH nd hc (Ows.all_z.mpr ⟨rfl, fz'⟩) List.nodup_nil (by simp)
          exact ⟨q, vs, n, v2, rfl, rfl, hH, by rw [fzs.length, sizeLine_eq]; exact hh.2.2, hh.1, by omega, o2 σ H02 _ _ st li .refl⟩
        · cases hg'
  · rw [if_neg hr0] at o
    exact o.elim
end
end Vm
set_option Elab.async false
set_option linter.all false
set_option maxRecDepth 100000
set_option maxHeartbeats 4000000
/-! a call with a thing of its own handed over; int(truth) -/
namespace Vm
open PySem PySem.Spec PyProof.Rows L2
/-- F(e, ..): what e tells is the callee's own -/
def fCallO (F : M D) (m : Md) (ls : List (Option Nat)) (fe : M D) (fs : M (List D)) : M D := fun r => (fe r).bind fun d r => (fs r).bind fun ds r => match F (some (m, d) :: mkArgs ls ds r) with
  | .ok d' _ => .ok d' r
  | .exc n ns vs _ => .exc n ns vs r
  | .bad => .bad
section
variable {G : GC} {N : List Str} {S : SC} {bs ms ms1 ms2 : Ms} {m rm : Md} {e a b : Expr} {es : List Expr} {f fa fb fe : M D} {fs : M (List D)} {pos p : Pos} {c x : Str} {k : Nat} {ps : List Str} {F : M D} {ls : List (Option Nat)}
/-- int(e) -/
def oInt : List D → Option D
  | [.int i] => some (.int i)
  | [.bl b] => some (.int (if b then 1 else 0))
  | _ => none
theorem VO.intB (hm : G.mg "int" = none) {bs ms : Ms} (ha : VA G N S bs ms (e :: es) fs) (hg : Glb S "int" := by rfl) (he : ∀ env, starEach (e :: es) env = (false, eval e env) :: starEach es env := by intro _; rfl) (hpl : ∀ env, (backTo pos (starEach es env)).any (·.1) = false := by intro _; rfl) :
    VO G N S .z ms (.Call (.Name "int" p) (e :: es) [] pos) (fA oInt fs) := .callTy (fun _ _ => call_int1) (fun H0 H ds xs d Q s h ho f => by
      unfold oInt at ho
      split at ho
      · obtain ⟨x, e, h1⟩ := shs_one h
        cases ho
        exact .inl ⟨_, by rw [e, show x = V.int _ from h1], f.atom s rfl rfl⟩
      · obtain ⟨x, e, h1⟩ := shs_one h
        cases ho
        exact .inr ⟨_, by rw [e, show x = V.bl _ from h1], f.atom s rfl rfl⟩
      · cases ho) hm (by decide +kernel) ha hg (by decide) (by decide) he hpl
end
/-! ### simp rules -/
section
variable {ds es ks vs : List D} {d e : D}
@[simp] theorem oIxA_dct : oIxA (.dct ks vs) e = oDGet (.dct ks vs) e := rfl
@[simp] theorem oIxA_lst : oIxA (.lst ds) e = oIx (.lst ds) e := rfl
@[simp] theorem oIxA_tup : oIxA (.tup ds) e = oIx (.tup ds) e := rfl
@[simp] theorem oIxA_str (s : List Nat) : oIxA (.str s) e = oIx (.str s) e := rfl
@[simp] theorem oIxA_scr (s : List Int) : oIxA (.scr s) e = oIx (.scr s) e := rfl
@[simp] theorem oInA_dct : oInA e (.dct ks vs) = oDIn e (.dct ks vs) := rfl
@[simp] theorem oInA_lst : oInA e (.lst ds) = oIn e (.lst ds) := rfl
@[simp] theorem oInA_tup : oInA e (.tup ds) = oIn e (.tup ds) := rfl
@[simp] theorem oInA_str (s : List Nat) : oInA e (.str s) = oIn e (.str s) := rfl
@[simp] theorem oNotInA_dct : oNotInA e (.dct ks vs) = oDNotIn e (.dct ks vs) := rfl
@[simp] theorem oNotInA_lst : oNotInA e (.lst ds) = oNotIn e (.lst ds) := rfl
@[simp] theorem oNotInA_tup : oNotInA e (.tup ds) = oNotIn e (.tup ds) := rfl
@[simp] theorem oNotInA_str (s : List Nat) : oNotInA e (.str s) = oNotIn e (.str s) := rfl
@[simp] theorem oLenA_dct : oLenA [.dct ks vs] = some (.int ks.length) := rfl
@[simp] theorem oLenA_lst : oLenA [.lst ds] = some (.int ds.length) := rfl
@[simp] theorem oLenA_tup : oLenA [.tup ds] = some (.int ds.length) := rfl
@[simp] theorem oLenA_str (s : List Nat) : oLenA [.str s] = some (.int s.length) := rfl
@[simp] theorem oLenA_scr (s : List Int) : oLenA [.scr s] = some (.int s.length) := rfl
@[simp] theorem oListA_dct : oListA [.dct ks vs] = some (.lst ks) := rfl
@[simp] theorem oListA_lst : oListA [.lst ds] = some (.lst ds) := rfl
@[simp] theorem oListA_tup : oListA [.tup ds] = some (.lst ds) := rfl
end
end Vm
set_option Elab.async false
set_option linter.all false
set_option maxRecDepth 100000
set_option maxHeartbeats 4000000
namespace Vm
open PySem PySem.Spec PyProof.Rows L2
section
variable {G : GC} {N : List Str} {S : SC} {m : Md}
end
end Vm
set_option Elab.async false
set_option linter.all false
set_option maxRecDepth 100000
set_option maxHeartbeats 4000000
/-! the readings of dictionaries, instances and texts, applied -/
namespace Vm
open PySem PySem.Spec PyProof.Rows L2
section
variable {α : Type} (s0 : Sl) (r : En) (f fa fb fe fv fi fk fo : M D) (fs : M (List D)) (gt : D → M Fl) (gb : M Fl) (i : Nat) (m : Md) (c x : Str) (F : M D) (ls : List (Option Nat))
@[simp] theorem gIns_ap : gIns i fa fb (s0 :: r) = rcv i (fun r => (fa r).bind fun j r => (fb r).bind fun d r => (rM (lsS .z (getS r i)) r).bind fun ds r => (rM (insO j d ds) r).bind fun ds' r => .ok .nx (r.set i (some (m1, .lst ds')))) (s0 :: r) := rfl
/-- the last one -/
def popS (i : Nat) (ds : List D) : M D := fun r => match ds.getLast? with
  | some d => .ok d (r.set i (some (m1, .lst ds.dropLast)))
  | none => .bad
@[simp] theorem ePop_ap : ePop i (s0 :: r) = (rM (lsS .z (getS (s0 :: r) i)) (s0 :: r)).bind (popS i) := rfl
@[simp] theorem popS_snoc (ds : List D) (d : D) : popS i (ds ++ [d]) r = .ok d (r.set i (some (m1, .lst ds))) := by simp [popS]
def tmpS : D → M Fl := fun d r => match d with
  | .lst ds => if ds.length < 16777216 then .ok .nx r else .bad
  | _ => .bad
@[simp] theorem gTmp_ap : gTmp f (s0 :: r) = (f (s0 :: r)).bind tmpS := rfl
@[simp] theorem tmpS_lst (ds : List D) : tmpS (.lst ds) r = if ds.length < 16777216 then .ok .nx r else .bad := rfl
@[simp] theorem gISet_ap : gISet i c x fe (s0 :: r) = (fe (s0 :: r)).bind fun d r => (rM (inS c (getS r i)) r).bind fun p r => (rM (setI x d p) r).bind fun p' r => .ok .nx (r.set i (some (.o (.all m1), .ins c p'.1 p'.2))) := rfl
@[simp] theorem gIPut_ap : gIPut i c x fv fk (s0 :: r) = (fv (s0 :: r)).bind fun d r => (rM (idS c x (getS r i)) r).bind fun _ r => (fk r).bind fun j r => (rM (idS c x (getS r i)) r).bind fun p r => (rM (dPutO j d p) r).bind fun p' r => .ok .nx (r.set i (some (.o (.all m1), .ins c [x] [.dct p'.1 p'.2]))) := rfl
@[simp] theorem gDPut_ap : gDPut i fv fi (s0 :: r) = (fv (s0 :: r)).bind fun d r => (rM (dcS (getS r i)) r).bind fun _ r => (fi r).bind fun j r => (rM (dcS (getS r i)) r).bind fun p r => (rM (dPutO j d p) r).bind fun p' r => .ok .nx (r.set i (some (m1, .dct p'.1 p'.2))) := rfl
def fkS : Sl → Option (List D)
  | some (.z, .dct ks _) => some ks
  | _ => none
@[simp] theorem gForK_ap : gForK i gt gb (s0 :: r) = (rM (fkS (getS (s0 :: r) i)) (s0 :: r)).bind fun ks r => noXc (gLoop gt gb ks r) := by
  unfold gForK
  cases getS (s0 :: r) i with
  | none => rfl
  | some md =>
    obtain ⟨m, d⟩ := md
    cases m with
    | o k => rfl
    | f k => rfl
    | t => rfl
    | z => cases d <;> rfl
@[simp] theorem fkS_dct (ks vs : List D) : fkS (some (.z, .dct ks vs)) = some ks := rfl
def fkD : Option D → Option (List D)
  | some (.dct ks _) => some ks
  | _ => none
def fkA (c x : Str) : Sl → Option (List D)
  | some (.z, d) => fkD (atrD c x d)
  | _ => none
@[simp] theorem fkA_z (d : D) : fkA c x (some (.z, d)) = fkD (atrD c x d) := rfl
@[simp] theorem gForKA_ap : gForKA i c x gt gb (s0 :: r) = (rM (fkA c x (getS (s0 :: r) i)) (s0 :: r)).bind fun ks r => noXc (gLoop gt gb ks r) := by
  unfold gForKA
  cases getS (s0 :: r) i with
  | none => rfl
  | some md =>
    obtain ⟨m, d⟩ := md
    cases m with
    | o k => rfl
    | f k => rfl
    | t => rfl
    | z =>
      rw [fkA_z]
      dsimp only
      cases atrD c x d with
      | none => rfl
      | some e => cases e <;> rfl
@[simp] theorem fkD_dct (ks vs : List D) : fkD (some (.dct ks vs)) = some ks := rfl
/-- how an instance comes out of its __init__ -/
def mkR (r : En) : Res D → Res D
  | .ok .non (some (_, d) :: _) => .ok d r
  | .exc n ns vs _ => .exc n ns vs r
  | _ => .bad
@[simp] theorem fMake_ap : fMake c F ls fs (s0 :: r) = (fs (s0 :: r)).bind fun ds r => mkR r (F (some (.o (.all m1), .ins c [] []) :: mkArgs ls ds r)) := rfl
@[simp] theorem mkR_ok (m : Md) (d : D) (rp : En) : mkR r (.ok .non (some (m, d) :: rp)) = .ok d r := rfl
@[simp] theorem fMeth_ap : fMeth c x fo fs (s0 :: r) = (fo (s0 :: r)).bind fun d r => if isIns c x d = true then (fs r).bind fun ds r => .ok (d :: ds) r else .bad := rfl
@[simp] theorem fDisp1_ap : fDisp1 fa fb (s0 :: r) = (fa (s0 :: r)).bind fun k r => (fb r).bind fun d r => (rM (keyD k) r).bind fun k r => if kOk k = true then .ok (.dct [kD k] [d]) r else .bad := rfl
/-- what comes of a call whose callee leaves nothing -/
def toR (r : En) : Res D → Res D
  | .ok d _ => .ok d r
  | .exc n ns vs _ => .exc n ns vs r
  | .bad => .bad
@[simp] theorem fCallO_ap : fCallO F m ls fe fs (s0 :: r) = (fe (s0 :: r)).bind fun d r => (fs r).bind fun ds r => toR r (F (some (m, d) :: mkArgs ls ds r)) := by
  unfold fCallO
  congr 1
@[simp] theorem toR_ok (d : D) (rp : En) : toR r (.ok d rp) = .ok d r := rfl
@[simp] theorem lsS_m1 (ds : List D) : lsS .z (some (m1, .lst ds)) = some ds := rfl
@[simp] theorem rcvS_m1 (ds : List D) : rcvS (some (m1, .lst ds)) = true := rfl
@[simp] theorem dcS_m1 (ks vs : List D) : dcS (some (m1, .dct ks vs)) = some (ks, vs) := rfl
@[simp] theorem inS_0 (ns : List Str) (vs : List D) : inS c (some (.o (.all m1), .ins c ns vs)) = some (ns, vs) := (show (if mdEq m1 m1 = true ∧ c = c then some (ns, vs) else none) = _ from if_pos ⟨rfl, rfl⟩)
@[simp] theorem idS_0 (ks vs : List D) : idS c x (some (.o (.all m1), .ins c [x] [.dct ks vs])) = some (ks, vs) := (show (if mdEq m1 m1 = true ∧ c = c ∧ x = x then some (ks, vs) else none) = _ from if_pos ⟨rfl, rfl, rfl⟩)
@[simp] theorem noXc_bad : noXc .bad = .bad := rfl
@[simp] theorem keyD_str (s : List Nat) : keyD (.str s) = some (.inr (toS s)) := rfl
@[simp] theorem kD_str (s : List Nat) : kD (.inr (toS s)) = .str s := by simp [kD]
@[simp] theorem kOk_str (s : List Nat) : kOk (.inr (toS s)) = sOk s := by simp [kOk]
end
/-! ### lists of texts -/
section
variable {s t : List Nat} {ls ms : List (List Nat)}
theorem plains_strs (ls : List (List Nat)) : plains (ls.map .str) = true := plains_map fun _ => rfl
theorem deps_strs (ls : List (List Nat)) : deps (ls.map .str) = 0 := Nat.le_zero.mp (deps_of fun d h => by
  obtain ⟨x, _, e⟩ := List.mem_map.mp h
  rw [← e]; exact Nat.le_refl _)
theorem inOk_strs : inOk (.str s) (ls.map .str) = true := by
  unfold inOk
  rw [plains_strs, deps_strs]
  simp
theorem any_strs : ((ls.map D.str).any fun y => eqD y (.str s)) = decide (s ∈ ls) := by
  rw [List.any_map]
  induction ls with
  | nil => simp
  | cons x ls ih =>
    rw [List.any_cons, ih]
    by_cases h : x = s
    · subst h; simp
    · have : ¬ s = x := fun e => h e.symm
      simp [h, this]
@[simp high] theorem oIn_strs : oIn (.str s) (.lst (ls.map .str)) = some (.bl (decide (s ∈ ls))) := by
  rw [oIn_lst, if_pos inOk_strs, any_strs]
@[simp high] theorem oNotIn_strs : oNotIn (.str s) (.lst (ls.map .str)) = some (.bl (!decide (s ∈ ls))) := by
  rw [oNotIn_lst, if_pos inOk_strs, any_strs]
theorem eqDs_strs : ∀ (ls ms : List (List Nat)), eqDs (ls.map .str) (ms.map .str) = decide (ls = ms)
  | [], [] => rfl
  | [], _ :: _ => rfl
  | _ :: _, [] => rfl
  | x :: ls, y :: ms => by
    rw [List.map_cons, List.map_cons, eqDs_cons, eqD_str, eqDs_strs ls ms]
    by_cases h : x = y <;> simp [h]
theorem eqOk_strs : eqOk (.lst (ls.map .str)) (.lst (ms.map .str)) = true := by
  unfold eqOk
  simp [plains_strs, deps_strs]
@[simp] theorem oEq_strs : oEq (.lst (ls.map .str)) (.lst (ms.map .str)) = some (.bl (decide (ls = ms))) := by
  unfold oEq
  rw [if_pos eqOk_strs, eqD_lst, eqDs_strs]
@[simp] theorem oNe_strs : oNe (.lst (ls.map .str)) (.lst (ms.map .str)) = some (.bl (!decide (ls = ms))) := by
  unfold oNe
  rw [if_pos eqOk_strs, eqD_lst, eqDs_strs]
@[simp] theorem oEq_strs0 : oEq (.lst (ls.map .str)) (.lst []) = some (.bl (decide (ls = []))) := oEq_strs (ms := [])
@[simp] theorem oNe_strs0 : oNe (.lst (ls.map .str)) (.lst []) = some (.bl (!decide (ls = []))) := oNe_strs (ms := [])
@[simp] theorem oSort_lst : oSortSet [.lst (ls.map .str)] = if ls.length ≤ 60 then some (.lst ((srt ls).map .str)) else none := by
  show sortSet (ls.map .str) = _
  unfold sortSet
  rw [txts_map, ← sortT_srt]
@[simp] theorem oSort_tup : oSortSet [.tup (ls.map .str)] = if ls.length ≤ 60 then some (.lst ((srt ls).map .str)) else none := by
  show sortSet (ls.map .str) = _
  unfold sortSet
  rw [txts_map, ← sortT_srt]
@[simp] theorem oLenSet_lst : oLenSet [.lst (ls.map .str)] = if ls.length ≤ 60 then some (.int ((dedL ls).length : Nat)) else none := by
  show lenSet (ls.map .str) = _
  unfold lenSet
  rw [txts_map]
end
/-! ### a dictionary of lists of texts -/
abbrev Tt := List (List Nat × List (List Nat))
def ov (T : Tt) (n : List Nat) : List (List Nat) := ((T.find? fun p => p.1 == n).map (·.2)).getD []
abbrev ky (T : Tt) : List (List Nat) := T.map (·.1)
def dcT (f : List (List Nat) → List (List Nat)) (T : Tt) : D := .dct (T.map fun p => .str p.1) (T.map fun p => .lst ((f p.2).map .str))
theorem look_str {n : List Nat} : ∀ (T : List (List Nat × D)), dLook (.inr (toS n)) (T.map fun p => .str p.1) (T.map fun p => p.2) = (T.find? fun p => p.1 == n).map (·.2)
  | [] => rfl
  | p :: T => by
    rw [List.map_cons, List.map_cons, dLook, keyD_str]
    by_cases h : p.1 = n
    · subst h; simp
    · have h2 : ¬ some (Sum.inr (toS p.1) : Key) = some (.inr (toS n)) := fun e => h (toS_inj (Sum.inr.inj (Option.some.inj e)))
      have h4 : (p.1 == n) = false := by simpa using h
      rw [if_neg h2, look_str T, List.find?_cons, h4]
theorem find_ky {T : Tt} {n : List Nat} (h : n ∈ ky T) : ∃ p, T.find? (fun p => p.1 == n) = some p := by
  cases e : T.find? fun p => p.1 == n with
  | some p => exact ⟨p, rfl⟩
  | none =>
    obtain ⟨p, hp, e2⟩ := List.mem_map.mp h
    have := List.find?_eq_none.mp e p hp
    simp [e2] at this
theorem dget_dcT {f : List (List Nat) → List (List Nat)} {T : Tt} {n : List Nat} (h : n ∈ ky T) : oDGet (dcT f T) (.str n) = some (.lst ((f (ov T n)).map .str)) := by
  have e := look_str (n := n) (T.map fun p => (p.1, D.lst ((f p.2).map .str)))
  rw [List.map_map, List.map_map] at e
  show (some (Sum.inr (toS n) : Key)).bind (fun k => dLook k (T.map fun p => .str p.1) (T.map fun p => .lst ((f p.2).map .str))) = _
  rw [Option.bind_some]
  refine Eq.trans e ?_
  obtain ⟨p, hp⟩ := find_ky h
  rw [List.find?_map]
  unfold ov
  have hp' : List.find? ((fun p : List Nat × D => p.1 == n) ∘ fun p : List Nat × List (List Nat) => (p.1, D.lst ((f p.2).map .str))) T = some p := hp
  rw [hp', hp]
  rfl
theorem hasK_str {n : List Nat} : ∀ (ls : List (List Nat)), hasK (.inr (toS n)) (ls.map .str) = decide (n ∈ ls)
  | [] => by simp [hasK]
  | x :: ls => by
    have ih := hasK_str (n := n) ls
    unfold hasK at ih ⊢
    rw [List.map_cons, List.any_cons, ih, keyD_str]
    by_cases h : x = n
    · subst h; simp
    · have h2 : ¬ some (Sum.inr (toS x) : Key) = some (.inr (toS n)) := fun e => h (toS_inj (Sum.inr.inj (Option.some.inj e)))
      have h3 : ¬ n = x := fun e => h e.symm
      simp only [h2, decide_false, List.mem_cons, h3, false_or, Bool.false_or]
theorem dput_new {n : List Nat} {ls : List (List Nat)} {vs : List D} {d : D} (hn : n ∉ ls) (ok : sOk n = true) (hl : ls.length < 16777216) : dPutO (.str n) d (ls.map .str, vs) = some ((ls ++ [n]).map .str, vs ++ [d]) := by
  unfold dPutO
  rw [keyD_str, Option.bind_some]
  have h1 : hasK (.inr (toS n)) (ls.map .str) = false := by rw [hasK_str]; exact decide_eq_false hn
  rw [if_pos ⟨by simpa using hl, by rw [kOk_str]; exact ok⟩]
  unfold putKs putVs
  rw [h1]
  simp
end Vm
set_option Elab.async false
set_option linter.all false
set_option maxRecDepth 100000
set_option maxHeartbeats 4000000
/-! loops, by what stays -/
namespace Vm
open PySem PySem.Spec PyProof.Rows L2
theorem gLoop_ex {gt : D → M Fl} {gb : M Fl} {ds : List D} {r : En} (I : Nat → En → Prop) (st : ∀ i d r, ds[i]? = some d → I i r → ∃ r', (gt d r).bind (fun _ r => gb r) = .ok .nx r' ∧ I (i + 1) r') (h : I 0 r) :
    ∃ r', gLoop gt gb ds r = .ok .nx r' ∧ I ds.length r' := by
  obtain ⟨r', e, i⟩ := gLoop_inv (gt := gt) (gb := gb) I ds 0 (fun i d r hd hi => by
    rw [Nat.zero_add] at hi ⊢
    exact st i d r hd hi) r h
  rw [Nat.zero_add] at i
  exact ⟨r', e, i⟩
theorem gWh_ex {ft : M D} {gb : M Fl} (I : En → Prop) (μ : En → Nat) (P : En → Prop) (st : ∀ r, I r → (∃ r1, ft r = .ok (.bl false) r1 ∧ P r1) ∨ ∃ r1 r2, ft r = .ok (.bl true) r1 ∧ gb r1 = .ok .nx r2 ∧ I r2 ∧ μ r2 < μ r) :
    ∀ (n : Nat) (r : En), μ r ≤ n → I r → ∃ r', gWh ft gb r = .ok .nx r' ∧ P r' := by
  intro n
  induction n with
  | zero =>
    intro r hm h
    rcases st r h with ⟨r1, e, p⟩ | ⟨r1, r2, e1, e2, h2, lt⟩
    · refine ⟨r1, gWh_eq ft gb r (x := .ok .nx r1) ?_ (fun z => by cases z), p⟩
      unfold gWhS
      rw [e, bind_ok]
    · omega
  | succ n ih =>
    intro r hm h
    rcases st r h with ⟨r1, e, p⟩ | ⟨r1, r2, e1, e2, h2, lt⟩
    · refine ⟨r1, gWh_eq ft gb r (x := .ok .nx r1) ?_ (fun z => by cases z), p⟩
      unfold gWhS
      rw [e, bind_ok]
    · obtain ⟨r', e, p⟩ := ih r2 (by omega) h2
      refine ⟨r', gWh_eq ft gb r (x := .ok .nx r') ?_ (fun z => by cases z), p⟩
      unfold gWhS
      rw [e1, bind_ok]
      show (gb r1).bind (lpK (gWh ft gb)) = _
      rw [e2, bind_ok]
      exact e
theorem gWh_use {ft : M D} {gb : M Fl} {r : En} (I : En → Prop) (μ : En → Nat) (P : En → Prop) (h : I r) (st : ∀ r, I r → (∃ r1, ft r = .ok (.bl false) r1 ∧ P r1) ∨ ∃ r1 r2, ft r = .ok (.bl true) r1 ∧ gb r1 = .ok .nx r2 ∧ I r2 ∧ μ r2 < μ r) :
    ∃ r', gWh ft gb r = .ok .nx r' ∧ P r' := gWh_ex I μ P st (μ r) r (Nat.le_refl _) h
theorem gLc_ex {own : List Nat} {gt : D → M Fl} {ft fe : M D} {ds : List D} {r : En} (p : D → Bool) (h : D → D) (W : En → Prop) (w : W r)
    (st : ∀ d ∈ ds, ∀ r, W r → ∃ r1 r2, noX (gt d r) = .ok .nx r1 ∧ noX (ft r1) = .ok (.bl (p d)) r2 ∧ (p d = false → W (wipeE own r2)) ∧ (p d = true → ∃ r3, noX (fe r2) = .ok (h d) r3 ∧ W (wipeE own r3))) :
    ∃ r', gLc own gt ft fe ds r = .ok ((ds.filter p).map h) r' ∧ W r' := gLc_map W ds st r w
end Vm
set_option Elab.async false
set_option linter.all false
set_option maxRecDepth 100000
set_option maxHeartbeats 4000000
/-! a name set to a list that is gathered; methods once more -/
namespace Vm
open PySem PySem.Spec PyProof.Rows L2
section
variable {G : GC} {N : List Str} {S : SC} {bs ms ms1 ms2 ms3 as : Ms} {m me rm : Md} {e : Expr} {pos spos p apos : Pos} {tg iter : Expr} {ifs : List Expr} {scope : Scope} {fi : M (List D)} {gt : D → M Fl} {ft fe fo : M D} {es : List Expr} {fs : M (List D)}
theorem lc_read {W : WX} {σ : L2.St} {H : Hp} {Q : VK} {ow : List Nat} (dj : Dj bs (msU as (msU ms2 ms3))) (ho : ∀ i, as i = true → i ∈ ow) (h : tR G.K G.mg W (FO G.K G.mg (.o (.all me)) (msU ms1 (msU as (msU ms2 ms3)))) (msU ms1 (msU as (msU ms2 ms3))) (fLc ow fi gt ft fe) σ H Q) :
    tLc (tR G.K G.mg W (FI G.K G.mg bs) ms1 fi) (tG G.K G.mg as gt) (tR G.K G.mg WNo FT ms2 ft) (tR G.K G.mg WNo (FO G.K G.mg me ms3) ms3 fe) ow σ H Q := by
  obtain ⟨ρ, H0, c, l, o⟩ := h
  generalize hL : msU ms1 (msU as (msU ms2 ms3)) = L at o
  have iL1 : ∀ i, ms1 i = true → L i = true := fun i e => by rw [← hL]; exact or_l e
  have iLa : ∀ i, as i = true → L i = true := fun i e => by rw [← hL]; exact or_r (or_l e)
  have iL2 : ∀ i, ms2 i = true → L i = true := fun i e => by rw [← hL]; exact or_r (or_r (or_l e))
  have iL3 : ∀ i, ms3 i = true → L i = true := fun i e => by rw [← hL]; exact or_r (or_r (or_r e))
  have dja : Dj bs as := fun i h => (Bool.or_eq_false_iff.mp (dj i h)).1
  have dj2 : Dj bs ms2 := fun i h => (Bool.or_eq_false_iff.mp (Bool.or_eq_false_iff.mp (dj i h)).2).1
  have dj3 : Dj bs ms3 := fun i h => (Bool.or_eq_false_iff.mp (Bool.or_eq_false_iff.mp (dj i h)).2).2
  have dj0 : Dj bs ms0 := fun i h => rfl
  refine ⟨ρ, H0, c, l, (Out.bind (G := FI G.K G.mg bs) (ms1 := ms1) back_FO o iL1).imp fun J H1 ⟨ds, H01, c1, ρ1, e1, s1, l1, ⟨hlen, P, p1, sP, hJ⟩, o1⟩ B hD => ?_⟩
  have f0 : LcF G.K G.mg me L P H01 H1 c1 B [] [] [] H01 (upd H1 B (.lst [])) c1 := ⟨.new hD, upd_same, l1.nc hD, l1.n0 hD, ⟨rfl, rfl⟩, .nil, by simp, sP.run ms0 H01 H1 c1 H01 _ c1 dj0 p1 (.new hD)⟩
  refine ⟨fun i n H => n = ds.length - i ∧ i ≤ ds.length ∧ ∃ ρ H0 c acc g done, Lies G.K G.mg H0 H c (L2.wipe σ ow) ρ ∧ LcF G.K G.mg me L P H01 H1 c1 B done acc g H0 H c ∧ done.length ≤ i ∧
      Out G.K G.mg W (FO G.K G.mg (.o (.all me)) L) L H01 H1 c1 σ ((gLc ow gt ft fe (ds.drop i) ρ).bind fun ys r => .ok (.lst (done ++ ys)) (restE ρ1 ow r)) Q,
    ⟨ds.length, rfl, Nat.zero_le _, wipeE ow ρ1, H01, c1, [], [], [], (l1.upd_new hD).wipe ow, f0, Nat.zero_le _, o1⟩, ?_⟩
  rintro i n H ⟨em, hi, ρ, H0, c, acc, g, done, l, F, dl, o⟩
  obtain ⟨hgo, hst⟩ := hJ H0 H c F.st.grow l.sub F.pH
  by_cases hlt : i < ds.length
  · have ed : ds.drop i = ds[i] :: ds.drop (i + 1) := List.drop_eq_getElem_cons hlt
    rw [ed] at o
    unfold gLc at o
    obtain ⟨go, step⟩ := hgo i ds[i] (List.getElem?_eq_getElem hlt)
    refine .inr ⟨go, fun H => ∃ ρ H0 c acc g done, Lies G.K G.mg H0 H c (L2.wipe σ ow) ρ ∧ LcF G.K G.mg me L P H01 H1 c1 B done acc g H0 H c ∧ done.length ≤ i + 1 ∧
      Out G.K G.mg W (FO G.K G.mg (.o (.all me)) L) L H01 H1 c1 σ ((gLc ow gt ft fe (ds.drop (i + 1)) ρ).bind fun ys r => .ok (.lst (done ++ ys)) (restE ρ1 ow r)) Q, fun H' h => ⟨ds.length - (i + 1), by omega, rfl, hlt, h⟩, fun x H' hy => ?_⟩
    obtain ⟨H0', k1, k2, k3, k4, fz⟩ := step x H' hy
    have l' := l.grow k1 k2 k3 k4
    have gr : Step ms0 H0 H c H0' H' c := Step.growth k1 k2 k4
    have F' := F.adv gr (fun i e => by cases e) dj0 sP
    refine ⟨WNo, { nx := fun σ2 H2 => ∃ ρ2 H02 c2, Lies G.K G.mg H02 H2 c2 σ2 ρ2 ∧ LcF G.K G.mg me L P H01 H1 c1 B done acc g H02 H2 c2 ∧ Agr as (L2.wipe σ ow) σ2 ∧  Out G.K G.mg W (FO G.K G.mg (.o (.all me)) L) L H01 H1 c1 σ (((Vm.noX (ft ρ2)).bind (lcT ow fe (gLc ow gt ft fe (ds.drop (i + 1))))).bind fun ys r => .ok (.lst (done ++ ys)) (restE ρ1 ow r)) Q, bk := fun _ _ => True, ct := fun _ _ => True, rt := fun _ _ => True }, .z, ρ, H0', c, ds[i], l', fz, ?_, ?_⟩
    · cases hh : gt ds[i] ρ with
      | ok fl r =>
        rw [hh, noX_ok, bind_ok] at o
        cases fl with
        | nx => exact fun σ2 H02 H2 c2 t l2 a2 => ⟨r, H02, c2, l2, F'.adv t iLa dja sP, a2, o⟩
        | bk => exact fun _ _ _ _ _ _ _ => trivial
        | ct => exact fun _ _ _ _ _ _ _ => trivial
        | rt d => exact fun _ _ _ _ _ _ _ _ _ => trivial
      | exc n ns vs r => rw [hh, noX_exc, bind_bad, bind_bad] at o; exact o.elim
      | bad => rw [hh, noX_bad, bind_bad, bind_bad] at o; exact o.elim
    · rintro σ2 H2 ⟨ρ2, H02, c2, l2, F2, a2, o2⟩
      have hw := wipe_agr a2 ho
      refine ⟨hw, ρ2, H02, c2, l2, ?_⟩
      cases hh : ft ρ2 with
      | exc n ns vs r => rw [hh, noX_exc, bind_bad, bind_bad] at o2; exact o2.elim
      | bad => rw [hh, noX_bad, bind_bad, bind_bad] at o2; exact o2.elim
      | ok d r =>
        rw [hh, noX_ok, bind_ok] at o2
        intro b H03 H3 c3 s3 l3 z
        have z : d = .bl b := z
        subst z
        have F3 := F2.adv s3 iL2 dj2 sP
        cases b with
        | false =>
          rw [if_neg Bool.false_ne_true]
          exact ⟨wipeE ow r, H03, c3, acc, g, done, by rw [← hw]; exact l3.wipe ow, F3, Nat.le_succ_of_le dl, o2⟩
        | true =>
          rw [if_pos rfl]
          refine ⟨r, H03, c3, l3, ?_⟩
          have o3 : Out G.K G.mg W (FO G.K G.mg (.o (.all me)) L) L H01 H1 c1 σ (((Vm.noX (fe r)).bind fun y r => (gLc ow gt ft fe (ds.drop (i + 1)) (wipeE ow r)).bind fun ys r => .ok (y :: ys) r).bind fun ys r => .ok (.lst (done ++ ys)) (restE ρ1 ow r)) Q := o2
          cases hh : fe r with
          | exc n ns vs r => rw [hh, noX_exc, bind_bad, bind_bad] at o3; exact o3.elim
          | bad => rw [hh, noX_bad, bind_bad, bind_bad] at o3; exact o3.elim
          | ok y r2 =>
            rw [hh, noX_ok, bind_ok] at o3
            intro v H04 H4 c4 s4 l4 ⟨fp, oy, fy⟩
            have F4 := F3.adv s4 iL3 dj3 sP
            have dfp : B ∉ fp := fun z => by
              rcases fy.new B z with w | ⟨j, w, _⟩
              · rw [F3.hD] at w; cases w
              · rw [F3.cD] at w; cases w
            refine ⟨acc, F4.hD, ?_, wipeE ow r2, H04, c4, acc ++ [v], g ++ fp, done ++ [y], ?_, ?_, ?_, ?_⟩
            · rw [F4.ow.length, sizeLine_eq]
              have : ds.length ≤ 16777216 := hlen
              omega
            · rw [← hw]; exact (l4.other F4.cD F4.D0).wipe ow
            · refine ⟨F4.st.other hD, upd_same, F4.cD, F4.D0, Ows.snoc (Ows.mono (Same.refl _) done _ acc g (fun b hb => upd_ne fun e => F4.dg (e ▸ hb)) F4.ow) (Ow.mono (Same.refl _) y me v fp (fun b hb => upd_ne fun e => dfp (e ▸ hb)) oy), ?_, ?_, ?_⟩
              · exact Fresh.other (Fresh.app F4.fr F3.fr.there F3.fr.nc fy (fun _ e => e) iL3 F3.st)
              · exact fun h => (List.mem_append.mp h).elim F4.dg dfp
              · exact sP.oth _ _ _ _ F4.cD F4.pH
            · rw [List.length_append]; exact Nat.succ_le_succ dl
            · cases hq : gLc ow gt ft fe (ds.drop (i + 1)) (wipeE ow r2) with
              | ok ys r3 =>
                rw [hq, bind_ok, bind_ok] at o3
                rw [bind_ok, List.append_assoc]
                exact o3
              | exc n ns vs r3 => rw [hq] at o3; exact o3
              | bad => rw [hq] at o3; exact o3
  · have e : i = ds.length := by omega
    subst e
    rw [List.drop_length] at o
    refine .inl ⟨hst, ?_⟩
    have o' : Out G.K G.mg W (FO G.K G.mg (.o (.all me)) L) L H01 H1 c1 σ (.ok (.lst (done ++ [])) (restE ρ1 ow ρ)) Q := o
    rw [List.append_nil] at o'
    refine o' (.ref B) H0 H c F.st (l1.rest l F.st.grow (wipe_length _ _) fun i hi v e => (wipe_some e).1) ⟨B :: g, ⟨B, acc, g, rfl, F.hD, rfl, F.ow⟩, ?_⟩
    refine ⟨List.nodup_cons.mpr ⟨F.dg, F.fr.nd⟩, ?_, ?_, ?_, ?_⟩ <;> intro b hb <;> rcases List.mem_cons.mp hb with z | hb
    · rw [z]; exact F.cD
    · exact F.fr.nc b hb
    · rw [z]; exact F.D0
    · exact F.fr.n0 b hb
    · rw [z]; exact ⟨_, F.hD⟩
    · exact F.fr.there b hb
    · rw [z]; exact .inl hD
    · exact F.fr.new b hb
/-- name = [..] -/
theorem VS.setLcG {x : Str} {i : Nat} (own : List (Str × Nat)) (m' : Md) (kf : ∀ {W : WX} {L : Ms} {H0 H : Hp} {c : Co} {σ : L2.St} {x : Res D} {Q : V → Hp → Prop}, Out G.K G.mg W (FO G.K G.mg m' L) L H0 H c σ x Q → Out G.K G.mg W (FO G.K G.mg (.o (.all me)) L) L H0 H c σ x Q) (hi : VI G N S bs ms1 tg iter fi) (hg : VG G N (blkS S scope) as tg gt) (ht : VTs G N (blkS S scope) ms2 ifs ft) (he : VO G N (blkS S scope) me ms3 e fe)
    (dj : Dj bs (msU as (msU ms2 ms3)) := by intro i h; first | rfl | exact absurd h Bool.false_ne_true | (simp [lentM] at h ⊢ <;> omega)) (hc : S.cm = true := by rfl) (hb : blkC N S.sc scope own = true := by decide +kernel) (ho : ∀ i, as i = true → i ∈ own.map (·.2) := by intro i h; simpa using h) (hs : ∀ env x, foldedSetIterable iter env x = pure x := by intro _ _; rfl)
    (hN : N[i]? = some x := by rfl) (hx : S.sc.names.lookup x = some .local := by rfl) (hk : S.sc.kind = .function := by rfl) (hl : (p.line == pos.line) = true := by rfl) (ha : (scope.names.any fun (n, k) => n == x && (k == .local || k == .cell)) = false := by rfl) :
    VS G N S rm (msO i) (.Assign [.Name x p] (.ListComp e [⟨tg, iter, ifs, 0⟩] scope pos) spos) (gSet i m' (fLc (own.map (·.2)) fi gt ft fe)) := by
  refine fun R a W t => ?_
  have ok : BlkOk (mkX G N R).N (mkX G N R).env.scope scope own := by
    rw [show (mkX G N R).env.scope = S.sc from a.sc]
    exact blkOk_by hb
  have hx' : (mkX G N R).env.scope.names.lookup x = some .local := by rw [show (mkX G N R).env.scope = S.sc from a.sc]; exact hx
  refine (ps_setLc (i := i) (own := own) (a.calm.trans hc) a.nd hN hx' (sw_true (by rw [show (mkX G N R).env.scope = S.sc from a.sc]; exact hk) hx' hl ha) (hi R a W t) ok (g := tG G.K G.mg as gt) (tt := tR G.K G.mg WNo FT ms2 ft) (te := tR G.K G.mg WNo (FO G.K G.mg me ms3) ms3 fe)
    (fun s H C cl fp => ?_) (fun s H C cl fp => ?_) (fun s H C cl fp => ?_) (hs _)).imp fun D σ H ⟨ρ, H0, c, l, o⟩ => ?_
  · obtain ⟨R', e1, a'⟩ := a.blk scope s H C cl fp
    rw [e1]; exact hg R' a'
  · obtain ⟨R', e1, a'⟩ := a.blk scope s H C cl fp
    rw [e1]; exact ht R' a' _ takes_no
  · obtain ⟨R', e1, a'⟩ := a.blk scope s H C cl fp
    rw [e1]; exact he R' a' _ takes_no
  refine lc_read (W := W) dj ho ⟨ρ, H0, c, l, ?_⟩
  refine kf ?_
  show Out _ _ _ _ _ _ _ _ _ _ fun x H1 => D.nx (σ.set i (some x)) H1
  unfold gSet at o
  cases e1 : fLc (own.map (·.2)) fi gt ft fe ρ with
  | ok d r =>
    rw [e1, bind_ok] at o
    refine fun v H0' H' c' s l' ⟨fp, ow, fr⟩ => ?_
    have s' := s.mono (ms' := msA) fun _ _ => rfl
    have fr' := fr.mono (ms2 := msA) fun _ _ => rfl
    exact o (σ.set i (some v)) H0' H' (coSet c' i fp) (Step.store (K := G.K) (mg := G.mg) s' fr') (l'.set ow fr.nd (fun a ha => .inl (fr.nc a ha)) fr.n0 fr.there) Agr.set
  | exc n ns vs r =>
    rw [e1] at o
    exact fun cls dx H0' H' c' s l' e => o cls dx σ H0' H' c' (s.mono fun _ _ => rfl) l' .refl e
  | bad => rw [e1] at o; exact o
/-- .. frozen at once -/
theorem VS.setLcZ {x : Str} {i : Nat} (own : List (Str × Nat)) (hi : VI G N S bs ms1 tg iter fi) (hg : VG G N (blkS S scope) as tg gt) (ht : VTs G N (blkS S scope) ms2 ifs ft) (he : VO G N (blkS S scope) me ms3 e fe)
    (dj : Dj bs (msU as (msU ms2 ms3)) := by intro i h; first | rfl | exact absurd h Bool.false_ne_true | (simp [lentM] at h ⊢ <;> omega)) (hc : S.cm = true := by rfl) (hb : blkC N S.sc scope own = true := by decide +kernel) (ho : ∀ i, as i = true → i ∈ own.map (·.2) := by intro i h; simpa using h) (hs : ∀ env x, foldedSetIterable iter env x = pure x := by intro _ _; rfl)
    (hN : N[i]? = some x := by rfl) (hx : S.sc.names.lookup x = some .local := by rfl) (hk : S.sc.kind = .function := by rfl) (hl : (p.line == pos.line) = true := by rfl) (ha : (scope.names.any fun (n, k) => n == x && (k == .local || k == .cell)) = false := by rfl) :
    VS G N S rm (msO i) (.Assign [.Name x p] (.ListComp e [⟨tg, iter, ifs, 0⟩] scope pos) spos) (gSet i .z (fLc (own.map (·.2)) fi gt ft fe)) := VS.setLcG own .z Out.frz hi hg ht he dj hc hb ho hs hN hx hk hl ha
variable {m' : Md} {c n : Str} {k : Nat} {ps : List Str} {F : M D} {ls : List (Option Nat)} {o : Expr}
end
end Vm
set_option Elab.async false
set_option linter.all false
set_option maxRecDepth 100000
set_option maxHeartbeats 4000000
namespace Vm
open PySem PySem.Spec PyProof.Rows L2
theorem sw_cell {elt : Expr} {gs : List Comprehension} {scope : Scope} {pos py : Pos} {y : Str} {l : Nat} {env : Env} (hy : env.scope.names.lookup y = some .cell) : swapsWith (.ListComp elt gs scope pos) (some (.Name y py)) l env = pure false := by
  have ky : env.kindOf y = some .cell := hy
  have e : (some NameKind.cell == some NameKind.local) = false := by decide
  unfold swapsWith
  dsimp only
  rw [ky, e, Bool.and_false, Bool.false_and, Bool.false_and]
section
variable {G : GC} {N : List Str} {S : SC} {ms : Ms} {m rm : Md} {e : Expr} {pos pos2 : Pos} {f : M D}
/-- x = [..], x a name that a block within reads -/
theorem VS.setC {i : Nat} {x : Str} {p : Pos} {gs : List Comprehension} {scope : Scope} (h : VO G N S m ms (.ListComp e gs scope pos2) f) (hi : N[i]? = some x := by rfl) (hx : Loc' S x := by exact Or.inr ⟨rfl, rfl⟩) (hk : S.sc.names.lookup x = some .cell := by rfl) :
    VS G N S rm (msO i) (.Assign [.Name x p] (.ListComp e gs scope pos2) pos) (gSet i m f) := by
  refine fun R a W t => (ps_set (i := i) a.nd hi (a.loc hx).1 (h R a W t) (sw_cell (by rw [show (mkX G N R).env.scope = S.sc from a.sc]; exact hk)) (a.loc hx).2).imp fun D σ H ⟨ρ, H0, c, l, o⟩ => ⟨ρ, H0, c, l, ?_⟩
  show Out _ _ _ _ _ _ _ _ _ _ fun x H1 => D.nx (σ.set i (some x)) H1
  unfold gSet at o
  cases e1 : f ρ with
  | ok d r =>
    rw [e1, bind_ok] at o
    refine fun v H0' H' c' s l' ⟨fp, ow, fr⟩ => ?_
    have s' := s.mono (ms' := msA) fun _ _ => rfl
    have fr' := fr.mono (ms2 := msA) fun _ _ => rfl
    exact o (σ.set i (some v)) H0' H' (coSet c' i fp) (Step.store (K := G.K) (mg := G.mg) s' fr') (l'.set ow fr.nd (fun a ha => .inl (fr.nc a ha)) fr.n0 fr.there) Agr.set
  | exc n ns vs r =>
    rw [e1] at o
    exact fun cls dx H0' H' c' s l' e => o cls dx σ H0' H' c' (s.mono fun _ _ => rfl) l' .refl e
  | bad => rw [e1] at o; exact o
end
end Vm
set_option Elab.async false
set_option linter.all false
set_option maxRecDepth 100000
set_option maxHeartbeats 4000000
/-! a bracket: a slot's tree is frozen for one statement, then it is one's own again -/
namespace Vm
open PySem PySem.Spec PyProof.Rows L2
mutual
/-- the data needs nothing of the frozen heap -/
def clean : D → Md → Bool
  | .non, _ => true
  | .bl _, _ => true
  | .int _, _ => true
  | .str _, _ => true
  | .scr _, _ => false
  | .exn _ _ _, _ => false
  | .unk, _ => true
  | .lst ds, .o k => cleans ds k
  | .lst ds, .t => cleans ds (.all .t)
  | .tup ds, .o k => cleans ds k
  | .tup ds, .t => cleans ds (.all .t)
  | .dct _ ds, .o k => cleans ds k
  | .dct _ ds, .t => cleans ds (.all .t)
  | .dnt _ _, .o _ => false
  | .dnt _ _, .t => false
  | .ins _ _ ds, .o k => cleans ds k
  | .ins _ _ ds, .t => cleans ds (.all .t)
  | .lst _, .z => false
  | .tup _, .z => false
  | .dct _ _, .z => false
  | .dnt _ _, .z => false
  | .ins _ _ _, .z => false
  | .lst _, .f _ => false
  | .tup _, .f _ => false
  | .dct _ _, .f _ => false
  | .dnt _ _, .f _ => false
  | .ins _ _ _, .f _ => false
def cleans : List D → Kd → Bool
  | [], _ => true
  | d :: ds, k => clean d k.hd && cleans ds k.tl
end
section
variable {K : PySem.W.Frag} {mg : MG} {H0 H H0' H' H0'' H'' : Hp} {c c' : Co} {σ σ' : L2.St} {ρ ρ' : En} {d : D} {m : Md} {v : V} {i : Nat} {fp : List Addr} {k : Kd} {as : Ms}
mutual
theorem Ow.clean : ∀ (d : D) (m : Md) (v : V) (fp : List Addr), clean d m = true → Ow K mg H0 H d m v fp → Ow K mg H0' H d m v fp
  | .non, .z, _, _, _, h => h
  | .bl _, .z, _, _, _, h => h
  | .int _, .z, _, _, _, h => h
  | .str _, .z, _, _, _, h => h
  | .non, .o _, _, _, _, h => h
  | .non, .t, _, _, _, h => h
  | .bl _, .o _, _, _, _, h => h
  | .bl _, .t, _, _, _, h => h
  | .int _, .o _, _, _, _, h => h
  | .int _, .t, _, _, _, h => h
  | .str _, .o _, _, _, _, h => h
  | .str _, .t, _, _, _, h => h
  | .scr _, _, _, _, q, _ => by simp [Vm.clean] at q
  | .exn _ _ _, _, _, _, q, _ => by simp [Vm.clean] at q
  | .unk, .z, _, _, _, h => h
  | .unk, .o _, _, _, _, h => h
  | .unk, .t, _, _, _, h => h
  | .unk, .f _, _, _, _, h => h
  | .non, .f _, _, _, _, h => h
  | .bl _, .f _, _, _, _, h => h
  | .int _, .f _, _, _, _, h => h
  | .str _, .f _, _, _, _, h => h
  | .lst _, .f _, _, _, q, _ => by simp [Vm.clean] at q
  | .tup _, .f _, _, _, q, _ => by simp [Vm.clean] at q
  | .dct _ _, .f _, _, _, q, _ => by simp [Vm.clean] at q
  | .dnt _ _, .f _, _, _, q, _ => by simp [Vm.clean] at q
  | .ins _ _ _, .f _, _, _, q, _ => by simp [Vm.clean] at q
  | .lst ds, .o k, _, _, q, ⟨a, vs, g, e, h, ef, r⟩ => ⟨a, vs, g, e, h, ef, Ows.clean ds k vs g (by simpa [Vm.clean] using q) r⟩
  | .lst ds, .t, _, _, q, ⟨a, vs, g, e, h, ef, r⟩ => ⟨a, vs, g, e, h, ef, Ows.clean ds (.all .t) vs g (by simpa [Vm.clean] using q) r⟩
  | .tup ds, .o k, _, _, q, ⟨a, vs, g, e, h, ef, r⟩ => ⟨a, vs, g, e, h, ef, Ows.clean ds k vs g (by simpa [Vm.clean] using q) r⟩
  | .tup ds, .t, _, _, q, ⟨a, vs, g, e, h, ef, r⟩ => ⟨a, vs, g, e, h, ef, Ows.clean ds (.all .t) vs g (by simpa [Vm.clean] using q) r⟩
  | .dct ks ds, .o k, _, _, q, ⟨a, vs, g, e, ef, h, r⟩ => ⟨a, vs, g, e, ef, h, Ows.clean ds k vs g (by simpa [Vm.clean] using q) r⟩
  | .dct ks ds, .t, _, _, q, ⟨a, vs, g, e, ef, h, r⟩ => ⟨a, vs, g, e, ef, h, Ows.clean ds (.all .t) vs g (by simpa [Vm.clean] using q) r⟩
  | .ins c ns ds, .o k, _, _, q, ⟨a, C, dx, vs, g, e, ef, hm, h, l, r⟩ => ⟨a, C, dx, vs, g, e, ef, hm, h, l, Ows.clean ds k vs g (by simpa [Vm.clean] using q) r⟩
  | .ins c ns ds, .t, _, _, q, ⟨a, C, dx, vs, g, e, ef, hm, h, l, r⟩ => ⟨a, C, dx, vs, g, e, ef, hm, h, l, Ows.clean ds (.all .t) vs g (by simpa [Vm.clean] using q) r⟩
  | .lst _, .z, _, _, q, _ => by simp [Vm.clean] at q
  | .tup _, .z, _, _, q, _ => by simp [Vm.clean] at q
  | .dct _ _, .z, _, _, q, _ => by simp [Vm.clean] at q
  | .dnt _ _, .z, _, _, q, _ => by simp [Vm.clean] at q
  | .dnt _ _, .o _, _, _, q, _ => by simp [Vm.clean] at q
  | .dnt _ _, .t, _, _, q, _ => by simp [Vm.clean] at q
  | .ins _ _ _, .z, _, _, q, _ => by simp [Vm.clean] at q
theorem Ows.clean : ∀ (ds : List D) (k : Kd) (vs : List V) (fp : List Addr), cleans ds k = true → Ows K mg H0 H ds k vs fp → Ows K mg H0' H ds k vs fp
  | [], _, _, _, _, h => h
  | d :: ds, k, _, _, q, ⟨v, r, f, g, e, ef, h, t⟩ => by
    have q' : clean d k.hd = true ∧ cleans ds k.tl = true := by simpa [cleans] using q
    exact ⟨v, r, f, g, e, ef, Ow.clean d k.hd v f q'.1 h, Ows.clean ds k.tl r g q'.2 t⟩
end
/-- the slots behind a bracket -/
def thS (as : Bool) (a b : Sl) : Sl := match b with
  | some (m, d) => if clean d m = true then some (m, d) else if as = true then none else (match a with | some (.z, d) => some (.z, d) | _ => none)
  | none => if as = true then none else (match a with | some (.z, d) => some (.z, d) | _ => none)
def thw (i : Nat) (s : Sl) (as : Ms) : Nat → En → En → En
  | _, [], _ => []
  | _, _ :: _, [] => []
  | j, a :: r, b :: r' => (if j = i then s else thS (as j) a b) :: thw i s as (j + 1) r r'
end
/-- the slot's tree is frozen within g -/
def gBrk (i : Nat) (as : Ms) (g : M Fl) : M Fl := fun r => match getS r i with
  | some (m, d) => if as i = true then .bad else (match g (r.set i (some (.z, d))) with
    | .ok (.rt x) r' => if atom x = true then .ok (.rt x) (thw i (some (m, d)) as 0 r r') else .bad
    | .ok .nx r' => .ok .nx (thw i (some (m, d)) as 0 r r')
    | .ok .bk r' => .ok .bk (thw i (some (m, d)) as 0 r r')
    | .ok .ct r' => .ok .ct (thw i (some (m, d)) as 0 r r')
    | _ => .bad)
  | none => .bad
section
variable {G : GC} {N : List Str} {S : SC} {as : Ms} {rm : Md} {st : Stmt} {g : M Fl}
end
end Vm
set_option Elab.async false
set_option linter.all false
set_option maxRecDepth 100000
set_option maxHeartbeats 4000000
/-! instances with all that is within of one's own -/
namespace Vm
open PySem PySem.Spec PyProof.Rows L2
/-- an instance, its attributes dictionaries of lists, all of one's own -/
abbrev mD : Md := .o (.all m1)
abbrev mI : Md := .o (.all mD)


/-- a new instance of c: what __init__ leaves in the slot of self -/
def fMakeD (c : Str) (F : M D) (ls : List (Option Nat)) (fs : M (List D)) : M D := fun r => (fs r).bind fun ds r => match F (some (mI, .ins c [] []) :: mkArgs ls ds r) with
  | .ok .non (some (m, d) :: _) => if mdEq m mI = true then .ok d r else .bad
  | .exc n ns vs _ => .exc n ns vs r
  | _ => .bad
section
variable {G : GC} {N : List Str} {S : SC} {bs ms ms1 ms2 : Ms} {e a b : Expr} {es : List Expr} {f fa fb fe : M D} {fs : M (List D)} {pos p : Pos} {c x : Str} {k : Nat} {ps : List Str} {F : M D} {ls : List (Option Nat)}
end

/-- an instance of one's own, its attributes things of one's own -/
def inSD (c : Str) : Sl → Option (List Str × List D)
  | some (.o (.all m), .ins c' ns vs) => if mdEq m mD = true ∧ c' = c then some (ns, vs) else none
  | _ => none
/-- x.f = e, a new attribute -/
def gISetD (i : Nat) (c f : Str) (fe : M D) : M Fl := fun r => (fe r).bind fun d r => (rM (inSD c (getS r i)) r).bind fun p r => (rM (setI f d p) r).bind fun p' r => .ok .nx (r.set i (some (.o (.all mD), .ins c p'.1 p'.2)))

section
variable {G : GC} {N : List Str} {S : SC} {bs ms ms1 ms2 : Ms} {m rm : Md} {e a b : Expr} {fa fb fe : M D} {pos p spos tpos : Pos} {c f x : Str} {i : Nat}
/-- an instance of one's own with one attribute, a dictionary of lists of one's own -/
def idSD (c f : Str) : Sl → Option (List D × List D)
  | some (m, .ins c' [f'] [.dct ks vs]) => if mdEq m mI = true ∧ c' = c ∧ f' = f then some (ks, vs) else none
  | _ => none
def dNewO (k d : D) (p : List D × List D) : Option (List D × List D) := (keyD k).bind fun k => if p.1.length < 16777216 ∧ kOk k = true ∧ hasK k p.1 = false then some (p.1 ++ [kD k], p.2 ++ [d]) else none
/-- x.f[k] = e, a new key -/
def gIPutD (i : Nat) (c f : Str) (fv fk : M D) : M Fl := fun r => (fv r).bind fun d r => (rM (idSD c f (getS r i)) r).bind fun _ r => (fk r).bind fun j r => (rM (idSD c f (getS r i)) r).bind fun p r => (rM (dNewO j d p) r).bind fun p' r => .ok .nx (r.set i (some (mI, .ins c [f] [.dct p'.1 p'.2])))
end
end Vm
set_option Elab.async false
set_option linter.all false
set_option maxRecDepth 100000
set_option maxHeartbeats 4000000
/-! for a, b in xs: the items of a list of one's own are handed over, then xs.clear() -/
namespace Vm
open PySem PySem.Spec PyProof.Rows L2
/-- a pair of one's own: a name, a list or a tuple of one's own -/
abbrev mP : Md := .o (.one .z (.all m1))
abbrev mH : Md := .o (.all mP)
def tkK (k : M Fl) : Fl → M Fl := fun fl r => match fl with
  | .nx => k r
  | .ct => k r
  | .bk => .bad
  | .rt d => .ok (.rt d) r
def gTake (a b : Nat) (gb : M Fl) : List D → M Fl
  | [] => gNx
  | .tup [x, y] :: ds => fun r => (gb ((r.set a (some (.z, x))).set b (some (m1, y)))).bind (tkK (gTake a b gb ds))
  | _ :: _ => fun _ => .bad
def tkE (i : Nat) : Fl → M Fl := fun fl r => match fl with
  | .nx => .ok .nx (r.set i (some (m1, .lst [])))
  | .rt d => .ok (.rt d) r
  | _ => .bad
def gTakeClr (i a b : Nat) (gb : M Fl) : M Fl := fun r => match getS r i with
  | some (m, .lst ds) => if mdEq m mH = true then (gTake a b gb ds (r.set i none)).bind (tkE i) else .bad
  | _ => .bad
section
variable {K : PySem.W.Frag} {mg : MG} {H0 H H0' H' H1 : Hp} {c c1 c2 : Co} {σ σ' : L2.St} {ρ : En} {i : Nat}
end
section
variable {G : GC} {N : List Str} {S : SC} {asb asr : Ms} {rm : Md} {body rest : List Stmt} {gb gr : M Fl} {x xa xb : Str} {px pa pb p2 tp fpos pos apos spos : Pos} {kk : Nat}
/-- what holds between the turns -/
structure TkF (K : PySem.W.Frag) (mg : MG) (i : Nat) (H0o Ho : Hp) (co : Co) (q : Addr) (vs : List V) (ds : List D) (j : Nat) (g : List Addr) (H0 H : Hp) (c : Co) : Prop where
  st : Step msA H0o Ho co H0 H c
  hq : H q = some (.lst vs)
  cq : c q = none
  q0 : H0 q = none
  oq : co q = some i
  ow : Ows K mg H0 H (ds.drop j) (.all mP) (vs.drop j) g
  nd : (q :: g).Nodup
  cg : ∀ b ∈ g, c b = none
  g0 : ∀ b ∈ g, H0 b = none
  og : ∀ b ∈ g, co b = some i
theorem TkF.adv {K : PySem.W.Frag} {mg : MG} {i : Nat} {H0o Ho H0 H H0' H' : Hp} {co c c' : Co} {q : Addr} {vs : List V} {ds : List D} {j : Nat} {g : List Addr} (f : TkF K mg i H0o Ho co q vs ds j g H0 H c) (t : Step msA H0 H c H0' H' c') :
    TkF K mg i H0o Ho co q vs ds j g H0' H' c' := by
  have cc : ∀ b, c b = none → ∀ j, c b = some j → msA j = false := fun b e j z => by rw [e] at z; cases z
  have z0 : ∀ b u, H b = some u → H0 b = none → c b = none → H0' b = none := fun b u e e0 ec => by
    cases w : H0' b with
    | none => rfl
    | some o =>
      rcases t.new0 b o w with ⟨u', z⟩ | z | ⟨j, z, _⟩
      · rw [e0] at z; cases z
      · rw [e] at z; cases z
      · rw [ec] at z; cases z
  have th : ∀ b ∈ g, ∃ u, H b = some u := fun b hb => Ows.there _ _ _ _ f.ow b hb
  refine ⟨f.st.trans t, t.keep q _ f.hq (cc q f.cq), (t.col q _ f.hq (cc q f.cq)).trans f.cq, z0 q _ f.hq f.q0 f.cq, f.oq, Ows.mono t.grow _ _ _ _ (fun b hb => ?_) f.ow, f.nd, fun b hb => ?_, fun b hb => ?_, f.og⟩
  · obtain ⟨u, e⟩ := th b hb
    rw [e, t.keep b u e (cc b (f.cg b hb))]
  · obtain ⟨u, e⟩ := th b hb
    exact (t.col b u e (cc b (f.cg b hb))).trans (f.cg b hb)
  · obtain ⟨u, e⟩ := th b hb
    exact z0 b u e (f.g0 b hb) (f.cg b hb)
end
end Vm
set_option Elab.async false
set_option linter.all false
set_option maxRecDepth 100000
set_option maxHeartbeats 4000000
/-! tuple(xs) of one's own, isinstance of a thing of one's own; readings applied -/
namespace Vm
open PySem PySem.Spec PyProof.Rows L2
section
variable {G : GC} {N : List Str} {S : SC} {bs ms : Ms} {e : Expr} {es : List Expr} {fs : M (List D)} {pos p : Pos} {i : Nat} {y : Str}
def isiS (T : PyT) (r : En) : Sl → Res D
  | some (_, d) => rM ((isT T d).map .bl) r
  | none => .bad
/-- isinstance of what a slot holds, frozen or not -/
def fIsiO (T : PyT) (i : Nat) : M D := fun r => isiS T r (getS r i)
theorem VO.isiO (T : PyT) {x : Str} {p p2 p3 : Pos} (hm : G.mg "isinstance" = none) (hx : G.mg x = none) (hN : N[i]? = some y := by rfl) (hvv : Vis S.sc y := by first | exact Or.inl rfl | exact Or.inr (Or.inl rfl) | exact Or.inr (Or.inr rfl))
    (hdd : (y == ("__debug__" : Str)) = false := by decide) (hcd : (y == ("__classdict__" : Str)) = false := by decide) (hg : Glb S "isinstance" := by rfl) (hgx : Glb S x := by rfl) (hv : bootBuiltins x = some (.type T.nm) := by decide +kernel)
    (hs : ∀ env, starEach [.Name y p3, .Name x p2] env = (false, eval (.Name y p3) env) :: starEach [.Name x p2] env := by intro _; rfl) (hn : x ≠ "__name__" := by decide) (hd : (x == ("__debug__" : Str)) = false := by decide) :
    VO G N S .z ms0 (.Call (.Name "isinstance" p) [.Name y p3, .Name x p2] [] pos) (fIsiO T i) := by
  refine fun R a W t => (pe_callB call_isi (a.gl hg) hm (by decide +kernel) (pa_cons (pe_var (i := i) hN (a.vis hvv) hdd hcd) (pa_cons (pe_bltn (v := .ty T.nm) (a.gl hgx) hx hv rfl hn hd) pa_nil) (hs _)) (he := hs _)).imp fun σ H Q ⟨ρ, H0, c, l, o⟩ => ?_
  unfold fIsiO at o
  cases es : getS ρ i with
  | none => rw [es] at o; exact o.elim
  | some md =>
    obtain ⟨m, d⟩ := md
    rw [es] at o
    obtain ⟨v, fp, e1, ow, nd, hc⟩ := l.slot i m d es
    have z := ow.fz l.sub
    refine ⟨v, e1, ?_⟩
    cases ht : isT T d with
    | none =>
      have o' : Out G.K G.mg W (FO G.K G.mg .z ms0) ms0 H0 H c σ (rM ((isT T d).map D.bl) ρ) Q := o
      rw [ht] at o'; exact o'.elim
    | some b =>
      have o' : Out G.K G.mg W (FO G.K G.mg .z ms0) ms0 H0 H c σ (rM ((isT T d).map D.bl) ρ) Q := o
      rw [ht] at o'
      exact ⟨v, .ty T.nm, _, _, b, rfl, .ty _, tyX_of z ⟨T, b, ht⟩, isT_kit T d ht, o'.here l rfl⟩
end
section
variable (s0 : Sl) (r : En) (f fa fb fe fv fi fk fo : M D) (fs : M (List D)) (gt : D → M Fl) (gb g : M Fl) (i a b : Nat) (m : Md) (c x : Str) (F : M D) (ls : List (Option Nat)) (as : Ms)
@[simp] theorem fIsiO_ap (T : PyT) : fIsiO T i (s0 :: r) = isiS T (s0 :: r) (getS (s0 :: r) i) := rfl
@[simp] theorem isiS_ap (T : PyT) (d : D) : isiS T r (some (m, d)) = rM ((isT T d).map .bl) r := rfl
def mkRD (r : En) : Res D → Res D
  | .ok .non (some (m, d) :: _) => if mdEq m mI = true then .ok d r else .bad
  | .exc n ns vs _ => .exc n ns vs r
  | _ => .bad
@[simp] theorem fMakeD_ap : fMakeD c F ls fs (s0 :: r) = (fs (s0 :: r)).bind fun ds r => mkRD r (F (some (mI, .ins c [] []) :: mkArgs ls ds r)) := rfl
@[simp] theorem mkRD_ok (d : D) (rp : En) : mkRD r (.ok .non (some (mI, d) :: rp)) = .ok d r := rfl
@[simp] theorem gISetD_ap : gISetD i c x fe (s0 :: r) = (fe (s0 :: r)).bind fun d r => (rM (inSD c (getS r i)) r).bind fun p r => (rM (setI x d p) r).bind fun p' r => .ok .nx (r.set i (some (.o (.all mD), .ins c p'.1 p'.2))) := rfl
@[simp] theorem gIPutD_ap : gIPutD i c x fv fk (s0 :: r) = (fv (s0 :: r)).bind fun d r => (rM (idSD c x (getS r i)) r).bind fun _ r => (fk r).bind fun j r => (rM (idSD c x (getS r i)) r).bind fun p r => (rM (dNewO j d p) r).bind fun p' r => .ok .nx (r.set i (some (mI, .ins c [x] [.dct p'.1 p'.2]))) := rfl
@[simp] theorem inSD_0 (ns : List Str) (vs : List D) : inSD c (some (.o (.all mD), .ins c ns vs)) = some (ns, vs) := (show (if mdEq mD mD = true ∧ c = c then some (ns, vs) else none) = _ from if_pos ⟨rfl, rfl⟩)
@[simp] theorem idSD_0 (ks vs : List D) : idSD c x (some (mI, .ins c [x] [.dct ks vs])) = some (ks, vs) := (show (if mdEq mI mI = true ∧ c = c ∧ x = x then some (ks, vs) else none) = _ from if_pos ⟨rfl, rfl, rfl⟩)
def brE (i : Nat) (s : Sl) (as : Ms) (r : En) : Res Fl → Res Fl
  | .ok (.rt x) r' => if atom x = true then .ok (.rt x) (thw i s as 0 r r') else .bad
  | .ok .nx r' => .ok .nx (thw i s as 0 r r')
  | .ok .bk r' => .ok .bk (thw i s as 0 r r')
  | .ok .ct r' => .ok .ct (thw i s as 0 r r')
  | _ => .bad
def brS (i : Nat) (as : Ms) (g : M Fl) (r : En) : Sl → Res Fl
  | some (m, d) => if as i = true then .bad else brE i (some (m, d)) as r (g (r.set i (some (.z, d))))
  | none => .bad
@[simp] theorem gBrk_ap : gBrk i as g (s0 :: r) = brS i as g (s0 :: r) (getS (s0 :: r) i) := by
  unfold gBrk brS
  cases getS (s0 :: r) i with
  | none => rfl
  | some md =>
    obtain ⟨m, d⟩ := md
    dsimp only
    split
    · rfl
    · unfold brE
      cases g ((s0 :: r).set i (some (.z, d))) with
      | ok fl r' => cases fl <;> rfl
      | exc => rfl
      | bad => rfl
@[simp] theorem brE_nx (s : Sl) (r' : En) : brE i s as r (.ok .nx r') = .ok .nx (thw i s as 0 r r') := rfl
@[simp] theorem brE_bl (s : Sl) (r' : En) (t : Bool) : brE i s as r (.ok (.rt (.bl t)) r') = .ok (.rt (.bl t)) (thw i s as 0 r r') := rfl
@[simp] theorem thw_nil (s : Sl) (j : Nat) : thw i s as j [] r = [] := by cases r <;> rfl
@[simp] theorem thS_z (d : D) : thS false (some (.z, d)) (some (.z, d)) = some (.z, d) := by
  show (if clean d .z = true then some (Md.z, d) else _) = _
  split <;> rfl
@[simp] theorem thS_nn (t : Bool) : thS t none none = none := by cases t <;> rfl
def tkS (i a b : Nat) (gb : M Fl) (r : En) : Sl → Res Fl
  | some (m, .lst ds) => if mdEq m mH = true then (gTake a b gb ds (r.set i none)).bind (tkE i) else .bad
  | _ => .bad
@[simp] theorem gTakeClr_ap : gTakeClr i a b gb (s0 :: r) = tkS i a b gb (s0 :: r) (getS (s0 :: r) i) := by
  unfold gTakeClr tkS
  cases getS (s0 :: r) i with
  | none => rfl
  | some md =>
    obtain ⟨m, d⟩ := md
    cases d <;> rfl
@[simp] theorem tkS_lst (ds : List D) : tkS i a b gb r (some (mH, .lst ds)) = (gTake a b gb ds (r.set i none)).bind (tkE i) := rfl
@[simp] theorem tkE_nx : tkE i .nx r = .ok .nx (r.set i (some (m1, .lst []))) := rfl
end
end Vm
set_option Elab.async false
set_option linter.all false
set_option maxRecDepth 100000
set_option maxHeartbeats 4000000
/-! loops while an exception is handled -/
namespace Vm
open PySem PySem.Spec PyProof.Rows L2 HotX
section
variable {prog : Program} {w : World} {A : Around} {E : Value → Shared → Prop} {s : Shared}
theorem next_list_end_hot {it l x1 : Addr} {i : Nat} {items} {Q : Option Value → Shared → Prop} (hot : HotAt A x1 s.heap) (hne : x1 ≠ it) (hit : s.heap.IsListIter it l i) (hl : s.heap.IsList l items) (hx : items[i]? = none)
    (hQ : ∀ h', (∀ b o, b ≠ it → s.heap.get? b = some o → h'.get? b = some o) → Q none { s with heap := h' }) : wpAny (model prog w) A (pyNext (.ref it)) Q E s := by
  obtain ⟨o, ho, hc, hd⟩ := id hit
  obtain ⟨ol, hol, _, nl, hdl⟩ := hl
  obtain ⟨hh, o1, vs1, h1, d1, c1⟩ := hot
  unfold pyNext
  refine wpAny_bind (wpAny_attempt (wpAny_callSpecial?_slot (name := Str.ofString "__next__") hit.typeIs slot_listiter_next
    (wpAny_call_entry slot_listiter_next hit.typeIs entry_listiter_next ?_ (args_listiter_next _))))
  show wpAny _ _ (field (.ref it) 0 >>= _) _ _ s
  refine wpAny_bind (wpAny_field ho hd (x := .ref l) rfl ?_)
  show wpAny _ _ (if (Value.ref l == Value.none) = true then _ else _) _ _ s
  rw [if_neg (show ¬ ((Value.ref l == Value.none) = true) from Bool.false_ne_true)]
  show wpAny _ _ (field (.ref it) 1 >>= _) _ _ s
  refine wpAny_bind (wpAny_field ho hd (x := .int i 0) rfl ?_)
  show wpAny _ _ (seqItems? (.ref l) >>= _) _ _ s
  refine wpAny_bind (wpAny_seqItems hol hdl ?_)
  simp only [Int.toNat_natCast, hx]
  refine wpAny_bind (wpAny_rule (wpAny_bind (wpAny_setField ho hd (by simp) ?_)))
  show wpAny _ _ (newExc (.type "StopIteration") [] >>= _) _ _ _
  refine wpAny_bind ?_
  simp only [newExc, newTuple]
  refine wpAny_bind (wpAny_newObj_type ?_ (by size_fits))
  refine wpAny_bind (m := firstArgMember _ _) (wpAny_of_eq (a := Value.none) (by first | rfl | (simp only [firstArgMember]; rfl)) ?_)
  refine wpAny_newObj_type ?_ (by size_fits)
  have h1' : ∀ f, (s.heap.update it f).get? x1 = some o1 := fun f => (Heap.get?_update_other _ _ (Ne.symm hne)).trans h1
  refine raiseNew_hot ⟨hh, o1, vs1, Heap.get?_push_of_some _ (Heap.get?_push_of_some _ (h1' _)), d1, c1⟩ (Nat.ne_of_lt (Heap.lt_size (Heap.get?_push_of_some _ (h1' _)))) (Heap.get?_push_size _ rfl) rfl (by first | (simp; done) | (simp; omega) | (simp only [Array.size_append]; simp; omega)) ?_
  refine wpAny_bind (wpAny_isInstance (T := "StopIteration") (b := true) ⟨_, Heap.get?_update_self _ (Heap.get?_push_size _ rfl) rfl, rfl⟩ isSubtype_stop ?_)
  refine wpAny_pure (hQ _ fun b o hb e => ?_)
  have eb : ∀ f, (s.heap.update it f).get? b = some o := fun f => (Heap.get?_update_other _ _ (Ne.symm hb)).trans e
  rw [Heap.get?_update_other _ _ (Nat.ne_of_gt (Heap.lt_size (Heap.get?_push_of_some _ (eb _))))]
  exact Heap.get?_push_of_some _ (Heap.get?_push_of_some _ (eb _))
end
/-- an exception is handled that is held -/
def HotT (X : Cx) (H : Hp) : Prop := ∃ (a : Addr) (oe : Obj) (fv : Array Value), X.A.handled = some (.ref a) ∧ H a = some (.frz oe (.own a)) ∧ oe.data = .fields fv ∧ fv[2]? = some .none
section
variable {X : Cx} {pins : List (Addr × Obj)} {σ : L2.St} {H : Hp} {s : Shared}
theorem HotT.at_ (h : HotT X H) (I : Inv X pins σ H s) : ∃ x1, H x1 ≠ none ∧ HotAt X.A x1 s.heap := by
  obtain ⟨a, oe, fv, h1, h2, h3, h4⟩ := h
  exact ⟨a, (fun z => by rw [h2] at z; cases z), h1, oe, fv, (I.hok a _ h2).1, h3, h4⟩
/-- an iterator's turns, an exception being handled -/
structure TurnX (P : Program) (w : World) (K : PySem.W.Frag) (tg : Expr) (J : It) (fp : List Addr) (it : Addr) (tn : Nat → Heap → Prop) : Prop where
  mem : it ∈ fp
  obj : ∀ i h, tn i h → ∀ b ∈ fp, ∃ o, h.get? b = some o ∧ ∀ v, o.data ≠ .cell v
  keep : ∀ i h h', tn i h → (∀ b ∈ fp, ∀ o, h.get? b = some o → h'.get? b = some o) → tn i h'
  item : ∀ (X : Cx), X.prog = P → X.w = w → X.K = K → ∀ (i : Nat) (pins : List (Addr × Obj)) (s : Shared) (σ : L2.St) (H : Hp) (E : Value → Shared → Prop), HotT X H → Inv X pins σ H s → (∀ b ∈ fp, FpOk X pins H b) → tn i s.heap → J.go i H →
    wpAny (model P w) X.A (pyNext (.ref it)) (fun r s1 => ∃ u, r = some u ∧
      wpAny (model P w) X.A (letOwnedTupleGo tg (.ref it) u) (fun _ s2 => ∃ x H', Inv X pins σ H' s2 ∧ RelV x u ∧ J.yld i H x H' ∧ tn (i + 1) s2.heap ∧ ∀ b ∈ fp, H' b = none) E s1) E s
  done : ∀ (X : Cx), X.prog = P → X.w = w → X.K = K → ∀ (i : Nat) (pins : List (Addr × Obj)) (s : Shared) (σ : L2.St) (H : Hp) (E : Value → Shared → Prop), HotT X H → Inv X pins σ H s → (∀ b ∈ fp, FpOk X pins H b) → tn i s.heap → J.stop i H →
    wpAny (model P w) X.A (pyNext (.ref it)) (fun r s1 => r = none ∧ Inv X pins σ H s1) E s
  self : ∀ (A : Around) (i : Nat) (s : Shared) (Q : Value → Shared → Prop) (E : Value → Shared → Prop), tn i s.heap → Q (.ref it) s → wpAny (model P w) A (pyIter (.ref it)) Q E s
theorem turnx_list {P : Program} {w : World} {K : PySem.W.Frag} {tg : Expr} (a it : Addr) : TurnX P w K tg (Itl K a) [it] it (fun i h => h.IsListIter it a i) where
  mem := (turn_list (P := P) (w := w) (K := K) (tg := tg) a it).mem
  obj := (turn_list (P := P) (w := w) (K := K) (tg := tg) a it).obj
  keep := (turn_list (P := P) (w := w) (K := K) (tg := tg) a it).keep
  item := by
    intro X hP hw hK i pins s σ H E _ I hf st hg
    subst hP hw hK
    obtain ⟨xs, x, hq, hx⟩ := hg
    obtain ⟨its, rv, p, hz⟩ := I.list hq
    obtain ⟨u, hu, ru⟩ := rv.get hx
    obtain ⟨f0, f1, f2, f3, f4, f5⟩ := hf it (by simp)
    refine wpAny_pyNext_list_item st p.isList (x := u) (by simpa using hu) fun h' st' sb => ?_
    have I1 : Inv X pins σ H { s with heap := h' } := I.turned (t' := s.toks) (fun b o hb e => (sb.2 b hb).trans e) f0 f1 f3 f4 f5
    obtain ⟨o, e, c, d⟩ := id st'
    exact ⟨u, rfl, go_of (s := { s with heap := h' }) e c d (by decide) ⟨x, H, I1, ru, ⟨rfl, fun ys hy => by rw [I.list_inj hy hq]; exact hx⟩, st', fun b hb => (hf b hb).1⟩⟩
  done := by
    intro X hP hw hK i pins s σ H E hot I hf st hg
    subst hP hw hK
    obtain ⟨xs, hq, hx⟩ := hg
    obtain ⟨its, rv, p, hz⟩ := I.list hq
    obtain ⟨f0, f1, f2, f3, f4, f5⟩ := hf it (by simp)
    have hl := rv.length
    obtain ⟨x1, n1, ha⟩ := hot.at_ I
    exact next_list_end_hot ha (fun z => n1 (z ▸ f0)) st p.isList (by simp; omega) fun h' eb => ⟨rfl, I.turned (t' := s.toks) (fun b o hb e => eb b o hb e) f0 f1 f3 f4 f5⟩
  self := (turn_list (P := P) (w := w) (K := K) (tg := tg) a it).self
def PIEX (X : Cx) (pins : List (Addr × Obj)) (σ : L2.St) (tg : Expr) (R : It → Hp → Prop) (itv : Value) (s2 : Shared) : Prop :=
  ∃ (it : Addr) (fp : List Addr) (tn : Nat → Heap → Prop) (J : It) (H' : Hp), itv = .ref it ∧ Inv X pins σ H' s2 ∧ TurnX X.prog X.w X.K tg J fp it tn ∧ tn 0 s2.heap ∧ (∀ b ∈ fp, FpOk X pins H' b) ∧ R J H'
structure PIX (X : Cx) (tg iter : Expr) (wi : TI) : Prop where
  run : ∀ (pins : List (Addr × Obj)) (s : Shared) (σ : L2.St) (H : Hp) (R : It → Hp → Prop), Inv X pins σ H s → wi σ H R →
    wpAny (model X.prog X.w) X.A (eval iter X.env) (fun v s1 => wpAny (model X.prog X.w) X.A (pyIter v) (PIEX X pins σ tg R) X.xe s1) X.xe s
end
end Vm
set_option Elab.async false
set_option linter.all false
set_option maxRecDepth 100000
set_option maxHeartbeats 4000000
/-! try: .. except X as n: ..; the exception is held -/
namespace Vm
open PySem PySem.Spec PyProof.Rows L2
section
variable {X : Cx} {pins : List (Addr × Obj)} {σ : L2.St} {H : Hp} {s : Shared} {a : Addr} {oe : Obj}
/-- an untracked object is held from here on -/
theorem invHeld (I : Inv X pins σ H s) (ha : s.heap.get? a = some oe) (hd : ∀ v, oe.data ≠ .cell v) (na : H a = none) (n0 : X.s_0.heap.get? a = none) (nL : a ≠ X.env.locals) (np : ∀ p ∈ X.pn ++ pins, p.1 ≠ a) : Inv X pins σ (upd H a (.frz oe (.own a))) s := by
  have ne : ∀ b u, H b = some u → b ≠ a := fun b u e z => by rw [z, na] at e; cases e
  refine ⟨I.ok, I.os, I.bare, ⟨I.base.keep, I.base.slot, fun b o e n hx => ?_, I.base.there, fun b xs e => ?_, fun b o u e => ?_, fun b ps e => ?_⟩, I.loc, I.cell, ?_, fun x c e => ?_, fun p hp => ?_, fun b u e => ?_, I.len⟩
  · rw [upd_ne fun z => by rw [z, n0] at e; cases e]; exact I.base.free b o e n hx
  · have h := I.base.tups b xs e
    rw [upd_ne (ne b _ h)]; exact h
  · have h := I.base.frzs b o u e
    rw [upd_ne (ne b _ h)]; exact h
  · obtain ⟨more, h⟩ := I.base.tbls b ps e
    exact ⟨more, by rw [upd_ne (ne b _ h)]; exact h⟩
  · rw [upd_ne (Ne.symm nL)]; exact I.free
  · have hne : c ≠ a := fun z => by
      obtain ⟨v, o, ho, hdd⟩ := I.cell x c e
      rw [z, ha] at ho
      cases ho
      exact hd v hdd
    rw [upd_ne hne]; exact I.freeC x c e
  · obtain ⟨e1, e2, e3⟩ := I.pin p hp
    exact ⟨e1, by rw [upd_ne (np p hp)]; exact e2, e3⟩
  · by_cases z : b = a
    · subst z
      rw [upd_same] at e
      cases e
      exact ⟨ha, oe, ha⟩
    · rw [upd_ne z] at e
      refine (I.hok b u e).stay (fun c v _ q => q) (fun c q => ?_) fun c xs q => ?_
      · rw [upd_ne (ne c _ q)]; exact q
      · rw [upd_ne (ne c _ q)]; exact q
/-- what the clause wishes of an exception of the body -/
def wHeld (K : PySem.W.Frag) (c : Value) (i : Nat) (ts : Addr → TS) (Wout : WX) (D : Ends) : WX := fun cls d σ H =>
  ∃ b, PySem.W.exmOne K cls c = some b ∧ (b = true → ∀ (a : Addr) (oe : Obj) (fv : Array Value), H a = none → oe.cls = cls → oe.dict = d → oe.data = .fields fv → fv[2]? = some .none →
    ts a { nx := fun σ' H' => D.nx (σ'.set i none) H', rt := D.rt, bk := fun σ' H' => D.bk (σ'.set i none) H', ct := fun σ' H' => D.ct (σ'.set i none) H' } (σ.set i (some (.ref a))) (upd H a (.frz oe (.own a)))) ∧
    (b = false → Wout cls d σ H)
end
section
variable {X : Cx} {x n : Str} {c : Value} {i : Nat} {body suite : List Stmt} {b₀ : Stmt} {np pos pos' : Pos} {tb : WX → TS} {ts : Addr → TS} {Wout : WX}
theorem ps_try_held (hs : X.stack = X.env :: X.outer) (hf : X.env.frame = some X.env.locals) (hex : X.ex = []) (hN : X.N.Nodup) (hi : X.N[i]? = some n) (hln : X.env.kindOf n = some .local) (hc : Names X x c) (tk : L2N.Takes X Wout)
    (hb : ∀ (W : WX) (pn : List (Addr × Obj)) (xe : Value → Shared → Prop), L2N.Takes (X.tr pn xe) W → PassesOwn (model X.prog X.w) X.A X.env xe → PSs (X.tr pn xe) body (tb W))
    (hsu : ∀ (a : Addr) (pn : List (Addr × Obj)), PSs (X.suite a pn) (b₀ :: suite) (ts a)) :
    PS X (.Try body [.ExceptHandler (some (.Name x np)) (some n) (b₀ :: suite) pos'] [] [] pos) (fun D σ H => tb (wHeld X.K c i ts Wout D) D σ H) := by
  refine ⟨fun pins s σ H D I h => ?_⟩
  have ok := I.ok
  have hfr : X.A.frames = some (X.env :: X.outer) := by rw [ok.frames, hs]
  have hloc : Loc X.env.scope n := .inl hln
  refine wpAny_Try_except ?_
  refine wpAny_mono ((hb (wHeld X.K c i ts Wout D) (X.pn ++ pins) (fun e s₁ => wpAny (model X.prog X.w) X.A (noteFrame e X.env) (fun _ s₂ => wpAny (model X.prog X.w) X.A (setFlight e none) (fun _ s₃ =>
    wpAny (model X.prog X.w) X.A (handleBy e X.env [.ExceptHandler (some (.Name x np)) (some n) (b₀ :: suite) pos']) (SP X pins D) X.xe s₃) X.xe s₂) X.xe s₁) (fun u s' xx => ?_) PassesOwn.looking).run [] s σ H D (I.toTry _) h) (fun f s1 hsp => ?_) (fun e s1 he => he)
  · obtain ⟨a, B, sI, pins', σ', H', cls, d, rfl, J', nb, up, sky, na, os, ag, b, hb1, hyes, hno⟩ := xx
    have J : Inv X pins σ' H' sI := J'.ofTry ok
    have sky' : Sky B (X.env :: X.outer) a (L2N.Zn cls d) X.env.locals s'.heap := by rw [← hs]; exact sky
    show wpAny _ X.A (noteFrame (.ref a) X.env) _ _ _
    refine L2N.Sky.land L2N.Zn.steady hfr hf sky' fun h3 fl3 up3 => ?_
    have J3 : Inv X pins σ' H' { s' with heap := h3 } := J.landed nb fl3.1 (up.trans up3) os ag
    obtain ⟨oe3, vs3, he3, hz3, hd3⟩ := fl3.there
    have notFr : ∀ {h : Heap} {o : Obj} {vs : Array Value}, h.FunFrames B (X.env :: X.outer) → h.get? a = some o → o.data = .fields vs → a ∉ frs (X.env :: X.outer) := fun {h o vs} ff e dd hm => by
      obtain ⟨_, o', e', hnf⟩ := ff.mem hm
      rw [e] at e'
      cases e'
      exact hnf _ dd
    have nfr := notFr fl3.2.2.1 he3 hd3
    have Ba : B.get? a = none := fl3.2.1
    have nL : a ≠ X.env.locals := fun z => nfr (List.mem_filterMap.mpr ⟨X.env, List.mem_cons_self, by rw [hf, z]⟩)
    have nF : a ∉ X.fs := fun hm => by
      obtain ⟨e, he, q⟩ := List.mem_filterMap.mp hm
      exact nfr (List.mem_filterMap.mpr ⟨e, List.mem_cons_of_mem _ he, q⟩)
    have nI : sI.heap.get? a = none := by
      cases e : sI.heap.get? a with
      | none => rfl
      | some o =>
        have := nb a o e (by rw [hs]; exact nfr)
        rw [Ba] at this; cases this
    have n0 : X.s_0.heap.get? a = none := by
      cases e : X.s_0.heap.get? a with
      | none => rfl
      | some o =>
        obtain ⟨o', e'⟩ := J.base.there a o e (by rw [hex]; simp)
        rw [nI] at e'; cases e'
    have npin : ∀ p ∈ X.pn ++ pins, p.1 ≠ a := fun p hp z => by
      have := (J.pin p hp).1
      rw [z, nI] at this; cases this
    have S3 := J3.suite he3 hd3 na nL nF
    refine wpAny_handleBy_cons (codeAny_handlers_test ?_) (by intro q; cases q)
    have LT : PySem.W.Looks (model X.prog X.w) h3 (typeOf (.ref a)) cls := fun A Q E s k q => wpAny_typeOf_ref (k _ _ he3) (by rw [hz3.1]; exact q)
    have LM := PySem.W.exm_one (M := model X.prog X.w) (J3.kIn) LT hb1
    have test : ∀ {Q : Value → Shared → Prop} {E : Value → Shared → Prop}, Q c { s' with heap := h3 } → wpAny (model X.prog X.w) (X.A.mark (some (.ref a))) (eval (.Name x np) X.env) Q E { s' with heap := h3 } := fun {Q E} q => by
      obtain ⟨hg, hdbg, hm | ⟨hm, hv, hnn⟩⟩ := hc
      · exact ld_glob (X := X.suite a ((a, oe3) :: (X.pn ++ pins))) S3 hg hm q hdbg
      · exact ld_blt (X := X.suite a ((a, oe3) :: (X.pn ++ pins))) S3 hg hm hv q hnn hdbg
    refine test (LM.here ?_)
    cases b with
    | true =>
      refine codeAny_handlers_suite_as ?_
      refine HandSPX.lands_againZ fl3 fun h4 fl4 up4 => ?_
      have J4 : Inv X pins σ' H' { s' with heap := h4 } := J.landed nb fl4.1 ((up.trans up3).trans up4) os ag
      obtain ⟨oe4, vs4, he4, hz4, hd4⟩ := fl4.there
      have S4 : Inv (X.suite a (X.pn ++ pins)) [] σ' H' { s' with heap := h4 } :=
        ⟨J4.ok.suite _ _, J4.os, J4.bare, J4.base, J4.loc, J4.cell, J4.free, J4.freeC, fun p hp => J4.pin p (by rw [List.append_nil] at hp; exact hp), J4.hok, J4.len⟩
      have S5 : Inv (X.suite a (X.pn ++ pins)) [] σ' (upd H' a (.frz oe4 (.own a))) { s' with heap := h4 } :=
        invHeld S4 he4 (fun v z => by rw [hd4] at z; cases z) na n0 nL fun p hp => npin p (by rw [List.append_nil] at hp; exact hp)
      refine store_ok (X := X.suite a (X.pn ++ pins)) (v := .ref a) S5 hN hi hloc rfl (fun s5 S6 => ?_) (.inr hln)
      refine wpAny_mono ((hsu a (X.pn ++ pins)).run [] s5 _ _ _ S6 (hyes rfl a oe4 vs4 na hz4.1 hz4.2.1 hd4 (hz4.2.2 vs4 hd4))) (fun f s6 hsp => ?_) (fun _ _ z => False.elim z)
      have end_ : ∀ {σ6 : L2.St} {H6 : Hp} {Q : Shared → Prop}, Inv (X.suite a (X.pn ++ pins)) [] σ6 H6 s6 → (∀ s7, Inv X pins (σ6.set i none) H6 s7 → Q s7) →
          wpAny (model X.prog X.w) X.A (do bindName X.env n .none; unbindBehindTheSuite X.env n pos') (fun _ s7 => Q s7) X.xe s6 := fun {σ6 H6 Q} S6 hq =>
        gone_ok (X := X) (⟨ok, S6.os, S6.bare, S6.base, S6.loc, S6.cell, S6.free, S6.freeC, fun p hp => S6.pin p (by rw [List.append_nil]; exact hp), S6.hok, S6.len⟩ : Inv X pins σ6 H6 s6) hN hi hln hq
      cases f with
      | next =>
        obtain ⟨σ6, H6, S6, q6⟩ := hsp
        exact end_ S6 fun s7 J7 => ⟨_, _, J7, q6⟩
      | brk =>
        obtain ⟨σ6, H6, S6, q6⟩ := hsp
        exact end_ S6 fun s7 J7 => ⟨_, _, J7, q6⟩
      | cont =>
        obtain ⟨σ6, H6, S6, q6⟩ := hsp
        exact end_ S6 fun s7 J7 => ⟨_, _, J7, q6⟩
      | ret u =>
        obtain ⟨v6, σ6, H6, S6, r6, q6⟩ := hsp
        exact end_ S6 fun s7 J7 => ⟨_, _, _, J7, r6, q6⟩
    | false =>
      show wpAny _ X.A (handleBy (.ref a) X.env []) _ _ _
      refine wpAny_handleBy_nil ?_
      obtain ⟨k1, k2, k3, oe, vs, T, oT, ts', he, hz, hd, h1, hr⟩ := id fl3
      unfold PySem.passOn
      refine wpAny_bind (wpAny_field he hd h1 ?_)
      rw [if_neg (show ¬ ((Value.ref T == Value.none) = true) from by simp)]
      have fin : wpAny (model X.prog X.w) X.A (setFlight (.ref a) X.env.frame) (fun _ s4 => wpAny (model X.prog X.w) X.A (throw (.ref a) : Sem Flow) (SP X pins D) X.xe s4) X.xe { s' with heap := h3 } := by
        rw [hf]
        refine HandSPX.setFlight_upZ fl3 fun h4 hh4 up4 => wpAny_throw (tk _ _ ?_)
        exact ⟨a, B, sI, pins, σ', H', cls, d, rfl, J, nb, (up.trans up3).trans up4, .inr (.inr (by rw [hs]; exact hh4)), na, os, ag, hno rfl⟩
      first
        | exact wpAny_bind (wpAny_pure (wpAny_bind fin))
        | exact wpAny_bind fin
  · cases f with
    | next =>
      obtain ⟨σ', H', J', q⟩ := hsp
      exact wpAny_execs_nil ⟨σ', H', J'.ofTry ok, q⟩
    | brk =>
      obtain ⟨σ', H', J', q⟩ := hsp
      exact ⟨σ', H', J'.ofTry ok, q⟩
    | cont =>
      obtain ⟨σ', H', J', q⟩ := hsp
      exact ⟨σ', H', J'.ofTry ok, q⟩
    | ret u =>
      obtain ⟨v, σ', H', J', r, q⟩ := hsp
      exact ⟨v, σ', H', J'.ofTry ok, r, q⟩
end
end Vm
set_option Elab.async false
set_option linter.all false
set_option maxRecDepth 100000
set_option maxHeartbeats 4000000
/-! defs called while an exception is handled -/
namespace Vm
open PySem PySem.Spec PyProof.Rows L2
/-- a def of the text that does F where an exception is handled; nothing leaves it -/
structure FnX (G : GC) (k : Nat) (f : Addr) (fd : FuncData) (ps : List Str) (rm : Md) (F : M D) : Prop where
  run : ∀ (A : Around) (outer : List Env) (s : Shared) (H : Hp) (args : Args) (us : List Value) (vs : List V) (Q : VK), A.guards = some [] → L2H.RoomH k A → (∃ a, G.mg.hx = some a ∧ A.handled = some (.ref a)) → Env0 G.P G.w G.K G.mg.m G.base A outer s H → BindsTo s fd args (ps.zip us) → Vals vs us →
    spV G F ps.length rm vs H Q (fun _ _ _ => False) → codeAny (model G.P G.w) A (.call (.ref f) args) (CR (L2N.CX G.P G.w) outer G.P G.w H s Q (fun _ _ _ => False)) s
/-- another flag, other surroundings -/
theorem invHot {X : Cx} {pins : List (Addr × Obj)} {σ : L2.St} {H : Hp} {s : Shared} (A : Around) (xe : Value → Shared → Prop) (I : Inv X pins σ H s) (hf : A.frames = X.A.frames) : Inv { X with A := A, calm := false, xe := xe } pins σ H s :=
  ⟨⟨I.ok.mod, I.ok.kind, I.ok.glob, I.ok.blt, I.ok.above, I.ok.inj, I.ok.has, I.ok.cab, (fun z => absurd (show false = true from z) Bool.false_ne_true), (show A.frames = _ from hf.trans I.ok.frames), I.ok.stk, I.ok.exf, I.ok.bs, I.ok.bsz, I.ok.noex, I.ok.exfs, I.ok.funs, I.ok.frf⟩,
    I.os, I.bare, I.base, I.loc, I.cell, I.free, I.freeC, I.pin, I.hok, I.len⟩
theorem FnX.mk' {G : GC} {k : Nat} {f : Addr} {fd : FuncData} {N ps : List Str} {rm : Md} {g : M Fl} {x qual : Str} {params : Arguments} {body : List Stmt} {scope : Scope} {dvs : List V} {kws : List (Str × V)} {as : Ms} (Fd : FunD G.K x qual params body scope dvs kws f fd) (Sc : FnScope N ps scope) (io : List Bool) (n : Nat)
    (hb : VSs G N ⟨scope, fun _ => true, k, false, true⟩ rm as body g) (hio : io.length = ps.length := by rfl) (hn : N.length = ps.length + n := by rfl) (has : ∀ i, io.getD i false = true → as i = false := by intro i h; rcases i with _ | _ | _ | _ | _ | _ | i <;> first | rfl | (cases h)) :
    FnX G (k + 1) f fd ps rm (fnRun io n g) := by
  refine ⟨fun A outer s H args us vs Q hgd hr0 hh e0 hbt rv hsp => ?_⟩
  obtain ⟨hl, ρ, H0, c, l, o⟩ := hsp
  obtain ⟨oc, od, dV, kV, doc, pm, an, cdv, ct, osl, rfl, lk, hcd, _, _⟩ := Fd.ex
  have KX : G.K.In s.heap := e0.mod.kin.keeps fun b o e => (e0.bs b o e).1
  have lim : s.heap.NoLimit := e0.mod.nolimit.keeps fun b o e => (e0.bs b o e).1
  have hkind : ∀ y ∈ ps.zip us, scope.names.lookup y.1 = some .local ∨ (scope.names.lookup y.1 = some .cell ∧ ((cellsFrom (s.heap.objs.size + 1) scope.names []).lookup y.1).isSome = true) := fun ⟨n, v⟩ hy => by
    rcases Sc.par n (List.of_mem_zip hy).1 with q | q
    · exact .inl q
    · exact .inr ⟨q, PySem.W.cellsFrom_some _ _ _ (.inl q)⟩
  have hr := hr0.deeper (envOfC qual scope s.heap.objs.size f cdv)
  refine codeAny_call_function hr0.depth (KX _ _ lk) rfl Sc.co Sc.gen rfl (PySem.W.codeRec_of KX hcd) (hbt _ _ _ _ ?_)
  refine wpAny_newFunctionEnv_cells Sc.kind hkind fun env he s1 x1 => ?_
  subst he
  refine ⟨lim.keeps x1.toInCall.keep, codeAny_func ?_⟩
  let E : XK := fun _ _ _ => False
  have key : ∃ t, PSs (mkX G N ⟨A.deeper (envOfC qual scope s.heap.objs.size f cdv), s, H, envOfC qual scope s.heap.objs.size f cdv, outer, envOfC qual scope s.heap.objs.size f cdv :: outer, [], fun _ => true, false, [],
    fun e s' => wpAny (model G.P G.w) (A.deeper (envOfC qual scope s.heap.objs.size f cdv)) (leaving (envOfC qual scope s.heap.objs.size f cdv) e) (fun _ s'' => L2N.CX G.P G.w outer H s E e s'') (fun e' s'' => L2N.CX G.P G.w outer H s E e' s'') s'⟩) body t ∧ t { nx := fun _ H' => Q .non H', rt := Q } (L2.start N vs) H := by
    have o : Out G.K G.mg (fun cls d _ H => E cls d H) (FO G.K G.mg rm msA) msA H0 H c (vs.map some) (fnRun io n g ρ) Q := o
    have hlen : ρ.length = vs.length := by rw [l.len, List.length_map]
    refine ⟨tS G.K G.mg (fun cls d _ H => E cls d H) rm as g, hb ⟨A.deeper (envOfC qual scope s.heap.objs.size f cdv), s, H, envOfC qual scope s.heap.objs.size f cdv, outer, envOfC qual scope s.heap.objs.size f cdv :: outer, [], fun _ => true, false, [],
      fun e s' => wpAny (model G.P G.w) (A.deeper (envOfC qual scope s.heap.objs.size f cdv)) (leaving (envOfC qual scope s.heap.objs.size f cdv) e) (fun _ s'' => L2N.CX G.P G.w outer H s E e s'') (fun e' s'' => L2N.CX G.P G.w outer H s E e' s'') s'⟩
      ⟨rfl, rfl, Sc.nd, rfl, (fun z => by cases z), fun _ => hh, hr, hgd, fun _ => ⟨rfl, rfl, rfl⟩, PassesOwn.leaving⟩ _ (L2N.takes_of rfl rfl rfl rfl), ρ ++ List.replicate n none, H0, c, ?_, ?_⟩
    · refine ⟨l.sub, l.hot, l.apart, l.there, ?_, fun i m d e => ?_⟩
      · unfold L2.start
        simp only [List.length_append, List.length_map, List.length_replicate]
        omega
      · have hi : i < ρ.length := by
          rcases Nat.lt_or_ge i ρ.length with h | h
          · exact h
          · exfalso
            have z : getS (ρ ++ List.replicate n none) i = none := by
              simp only [getS, List.getD_eq_getElem?_getD]
              rw [List.getElem?_append_right h, List.getElem?_replicate]
              split <;> rfl
            rw [z] at e; cases e
        have e' : getS ρ i = some (m, d) := by
          simp only [getS, List.getD_eq_getElem?_getD] at e ⊢
          rw [List.getElem?_append_left hi] at e
          exact e
        obtain ⟨v, fp, e1, ow, nd, hc⟩ := l.slot i m d e'
        refine ⟨v, fp, ?_, ow, nd, hc⟩
        unfold L2.start
        rw [List.getElem?_append_left (by rw [List.length_map]; omega)]
        exact e1
    · have back : ∀ {r : En} {σ' : L2.St} {H0' H' : Hp} {c' : Co}, Lies G.K G.mg H0' H' c' σ' r → Agr as (L2.start N vs) σ' → Lies G.K G.mg H0' H' c' (vs.map some) (ioEnd io 0 r) := fun {r σ' H0' H' c'} l' a' => by
        refine ⟨l'.sub, l'.hot, l'.apart, l'.there, by rw [ioEnd_len, hio, List.length_map, hl], fun i m d e => ?_⟩
        obtain ⟨q1, q2⟩ := ioEnd_get io 0 r i (m, d) e
        rw [Nat.zero_add] at q2
        obtain ⟨v, fp, e1, ow, nd, hc⟩ := l'.slot i m d q2
        have hi : i < io.length := by
          rcases Nat.lt_or_ge i io.length with h | h
          · exact h
          · rw [List.getD_eq_getElem?_getD, List.getElem?_eq_none h] at q1; cases q1
        rw [a'.2 i (has i q1)] at e1
        refine ⟨v, fp, ?_, ow, nd, hc⟩
        unfold L2.start at e1
        rw [List.getElem?_append_left (by rw [List.length_map]; omega)] at e1
        exact e1
      unfold fnRun at o
      cases hg : g (ρ ++ List.replicate n none) with
      | ok fl r =>
        rw [hg] at o
        cases fl with
        | nx => exact fun σ' H0' H' c' t l' a' => o .non H0' H' c' t (back l' a') ⟨[], ow_of_atom rfl rfl, .nil⟩
        | bk => exact o.elim
        | ct => exact o.elim
        | rt d => exact fun v σ' H0' H' c' t l' a' f => o v H0' H' c' t (back l' a') f
      | exc nn ns es r =>
        rw [hg] at o
        exact fun cls dx σ' H0' H' c' t l' a' e => o cls dx H0' H' c' t (back l' a') e
      | bad => rw [hg] at o; exact o
  obtain ⟨t, ht, hq⟩ := key
  have e0' : Env0 G.P G.w G.K G.mg.m G.base { A with handled := none } outer s H := ⟨e0.frames, e0.mod, e0.bs, e0.bsz, e0.funs, e0.frf, e0.hok, e0.bare⟩
  have I0 := inv_start (CX := L2N.CX G.P G.w) (E := E) Sc (A := { A with handled := none }) rfl e0' hl rv x1
  have I := invHot (A.deeper (envOfC qual scope s.heap.objs.size f cdv)) (fun e s' => wpAny (model G.P G.w) (A.deeper (envOfC qual scope s.heap.objs.size f cdv)) (leaving (envOfC qual scope s.heap.objs.size f cdv) e) (fun _ s'' => L2N.CX G.P G.w outer H s E e s'') (fun e' s'' => L2N.CX G.P G.w outer H s E e' s'') s') I0 rfl
  refine wpAny_mono (ht.run [] s1 (L2.start N vs) H _ I hq) (fun fl s' hs => ?_) fun e s' hs => hs
  have fin : ∀ {σ' : L2.St} {H' : Hp} {v : V} {u : Value}, Inv (mkX G N ⟨A.deeper (envOfC qual scope s.heap.objs.size f cdv), s, H, envOfC qual scope s.heap.objs.size f cdv, outer, envOfC qual scope s.heap.objs.size f cdv :: outer, [], fun _ => true, false, [],
    fun e s' => wpAny (model G.P G.w) (A.deeper (envOfC qual scope s.heap.objs.size f cdv)) (leaving (envOfC qual scope s.heap.objs.size f cdv) e) (fun _ s'' => L2N.CX G.P G.w outer H s E e s'') (fun e' s'' => L2N.CX G.P G.w outer H s E e' s'') s'⟩) [] σ' H' s' → RelV v u → Q v H' → CE outer G.P G.w H s Q u s' :=
    fun {σ' H' v u} J rv q => ⟨v, H', J.os, J.bare, J.base, J.hok, rv, q⟩
  cases fl with
  | ret u =>
    obtain ⟨v, σ', H', J, rv, q⟩ := hs
    exact fin J rv q
  | next =>
    obtain ⟨σ', H', J, q⟩ := hs
    exact fin (v := V.non) (u := Value.none) J rfl q
  | brk =>
    obtain ⟨_, _, _, q⟩ := hs
    exact False.elim q
  | cont =>
    obtain ⟨_, _, _, q⟩ := hs
    exact False.elim q
/-! ### calls -/
section
variable {G : GC} {N : List Str} {R : Rs} {k : Nat} {f : Addr} {fd : FuncData} {ps : List Str} {rm : Md} {F : M D} {x : Str} {q pos : Pos} {e : Expr} {es : List Expr} {t : TA}
theorem pe_callX (hF : FnX G k f fd ps rm F) (hgd : R.A.guards = some []) (hr : L2H.RoomH k R.A) (hh : ∃ a, G.mg.hx = some a ∧ R.A.handled = some (.ref a)) (hg : Gl (mkX G N R) x) (hm : G.mg.m x = some (.ref f)) (hk : PySem.W.keepIn G.K (.ref f) = true) (hb : Binds G.K fd ps [])
    (ha : PA (mkX G N R) (e :: es) t) (hdb : (x == ("__debug__" : Str)) = false) (he : starEach (e :: es) R.env = (false, eval e R.env) :: starEach es R.env) (hpl : (backTo pos (starEach es R.env)).any (·.1) = false) :
    PE (mkX G N R) (.Call (.Name x q) (e :: es) [] pos) (fun σ H Q => t σ H fun vs H1 => spV G F ps.length rm vs H1 Q (fun _ _ _ => False)) := by
  refine ⟨fun pins s σ H Q I h => ?_⟩
  refine wpAny_Call_Name_kw (ld_glob I hg hm ?_ hdb)
  refine PySem.W.callWith_K (h₀ := G.base) I.ok.mod.kin hk (thn (ha.run pos pins s σ H _ I h) fun us s1 ⟨vs, H1, I1, r, q⟩ => ⟨I1.kIn, ?_⟩) he hpl
  have hlen : us.length = ps.length := by rw [← r.length]; exact q.1
  have b := hb s1 us I1.kIn (by rw [List.append_nil]; exact hlen)
  rw [List.append_nil] at b
  refine wpAny_call (codeAny_mono (hF.run R.A R.stack s1 H1 ⟨us, []⟩ us vs Q hgd hr hh I1.env0 b r q) fun r s' hq => ?_)
  cases r with
  | error e =>
    obtain ⟨_, _, _, _, _, _, _, _, _, _, _, _, z⟩ := hq
    exact z.elim
  | ok fl =>
    cases fl with
    | ret u => exact I1.after hq
    | next => exact False.elim hq
    | brk => exact False.elim hq
    | cont => exact False.elim hq
end
end Vm
set_option Elab.async false
set_option linter.all false
set_option maxRecDepth 100000
set_option maxHeartbeats 4000000
/-! raise, try, calls within a suite, by data -/
namespace Vm
open PySem PySem.Spec PyProof.Rows L2
abbrev MG.hot (mg : MG) (a : Addr) : MG := ⟨mg.m, some a, mg.w⟩
abbrev GC.hot (G : GC) (a : Addr) : GC := { G with mg := G.mg.hot a }
section
variable {K : PySem.W.Frag} {mg mg' : MG} {H H0 H0' H' : Hp} {c c' : Co} {σ σ' : L2.St} {ρ ρ' : En} {a : Addr} {oe : Obj} {i : Nat}
mutual
theorem Fz.mgc (e : mg'.m = mg.m ∧ mg'.w = mg.w) : ∀ (d : D) (v : V), Fz K mg H d v → Fz K mg' H d v
  | .unk, _, h => h
  | .non, _, h => h
  | .bl _, _, h => h
  | .int _, _, h => h
  | .str _, _, h => h
  | .tup ds, _, ⟨a, vs, q, h, r⟩ => ⟨a, vs, q, h, Fzs.mgc e ds vs r⟩
  | .lst ds, _, ⟨a, vs, q, h, r⟩ => ⟨a, vs, q, h, Fzs.mgc e ds vs r⟩
  | .scr ns, _, h => h
  | .exn c ns ds, _, ⟨a, vs, q, ⟨C, oe, h1, h2⟩, r⟩ => ⟨a, vs, q, ⟨C, oe, by rw [e.1]; exact h1, h2⟩, Fzs.mgc e ds vs r⟩
  | .dct ks ds, _, ⟨a, vs, q, h, r⟩ => ⟨a, vs, q, h, Fzs.mgc e ds vs r⟩
  | .dnt ks ds, _, ⟨a, bs, vs, q, h, kf, r⟩ => ⟨a, bs, vs, q, e.2 ▸ h, Fzs.mgc e ks bs kf, Fzs.mgc e ds vs r⟩
  | .ins c ns ds, _, ⟨a, C, dx, vs, q, g, h, l, r⟩ => ⟨a, C, dx, vs, q, (show mg'.m c = _ from by rw [e.1]; exact g), h, l, Fzs.mgc e ds vs r⟩
theorem Fzs.mgc (e : mg'.m = mg.m ∧ mg'.w = mg.w) : ∀ (ds : List D) (vs : List V), Fzs K mg H ds vs → Fzs K mg' H ds vs
  | [], _, h => h
  | d :: ds, _, ⟨v, r, q, h, t⟩ => ⟨v, r, q, Fz.mgc e d v h, Fzs.mgc e ds r t⟩
end
mutual
theorem Ow.mgc (e : mg'.m = mg.m ∧ mg'.w = mg.w) : ∀ (d : D) (m : Md) (v : V) (fp : List Addr), Ow K mg H0 H d m v fp → Ow K mg' H0 H d m v fp
  | d, .z, v, fp, h => Ow.zero.mpr ⟨(Ow.zero.mp h).1, Fz.mgc e d v (Ow.zero.mp h).2⟩
  | .non, .o _, _, _, h => h
  | .non, .t, _, _, h => h
  | .bl _, .o _, _, _, h => h
  | .bl _, .t, _, _, h => h
  | .int _, .o _, _, _, h => h
  | .int _, .t, _, _, h => h
  | .str _, .o _, _, _, h => h
  | .str _, .t, _, _, h => h
  | .scr _, .o _, _, _, h => h.elim
  | .scr _, .t, _, _, h => h.elim
  | .exn _ _ _, .o _, _, _, h => h.elim
  | .exn _ _ _, .t, _, _, h => h.elim
  | .unk, .o _, _, _, h => h
  | .unk, .t, _, _, h => h
  | .non, .f _, _, _, h => h
  | .bl _, .f _, _, _, h => h
  | .int _, .f _, _, _, h => h
  | .str _, .f _, _, _, h => h
  | .unk, .f _, _, _, h => h
  | .scr _, .f _, _, _, h => h.elim
  | .exn _ _ _, .f _, _, _, h => h.elim
  | .tup ds, .f k, _, fp, ⟨a, vs, q, h, r⟩ => ⟨a, vs, q, h, Ows.mgc e ds k vs fp r⟩
  | .lst ds, .f k, _, fp, ⟨a, vs, q, h, r⟩ => ⟨a, vs, q, h, Ows.mgc e ds k vs fp r⟩
  | .dct ks ds, .f k, _, fp, ⟨a, vs, q, h, r⟩ => ⟨a, vs, q, h, Ows.mgc e ds k vs fp r⟩
  | .dnt ks ds, .f k, _, fp, ⟨a, bs, vs, q, h, kf, r⟩ => ⟨a, bs, vs, q, e.2 ▸ h, Fzs.mgc e ks bs kf, Ows.mgc e ds k vs fp r⟩
  | .ins c ns ds, .f k, _, fp, ⟨a, C, dx, vs, q, hm, h, l, r⟩ => ⟨a, C, dx, vs, q, (show mg'.m c = _ from by rw [e.1]; exact hm), h, l, Ows.mgc e ds k vs fp r⟩
  | .tup ds, .o k, _, _, ⟨a, vs, g, q, h, ef, r⟩ => ⟨a, vs, g, q, h, ef, Ows.mgc e ds k vs g r⟩
  | .tup ds, .t, _, _, ⟨a, vs, g, q, h, ef, r⟩ => ⟨a, vs, g, q, h, ef, Ows.mgc e ds (.all .t) vs g r⟩
  | .lst ds, .o k, _, _, ⟨a, vs, g, q, h, ef, r⟩ => ⟨a, vs, g, q, h, ef, Ows.mgc e ds k vs g r⟩
  | .lst ds, .t, _, _, ⟨a, vs, g, q, h, ef, r⟩ => ⟨a, vs, g, q, h, ef, Ows.mgc e ds (.all .t) vs g r⟩
  | .dct ks ds, .o k, _, _, ⟨a, vs, g, q, ef, h, r⟩ => ⟨a, vs, g, q, ef, h, Ows.mgc e ds k vs g r⟩
  | .dct ks ds, .t, _, _, ⟨a, vs, g, q, ef, h, r⟩ => ⟨a, vs, g, q, ef, h, Ows.mgc e ds (.all .t) vs g r⟩
  | .dnt ks ds, .o k, _, _, ⟨a, bs, vs, g, q, ef, h, kf, r⟩ => ⟨a, bs, vs, g, q, ef, e.2 ▸ h, Fzs.mgc e ks bs kf, Ows.mgc e ds k vs g r⟩
  | .dnt ks ds, .t, _, _, ⟨a, bs, vs, g, q, ef, h, kf, r⟩ => ⟨a, bs, vs, g, q, ef, e.2 ▸ h, Fzs.mgc e ks bs kf, Ows.mgc e ds (.all .t) vs g r⟩
  | .ins c ns ds, .o k, _, _, ⟨a, C, dx, vs, g, q, ef, hm, h, l, r⟩ => ⟨a, C, dx, vs, g, q, ef, (show mg'.m c = _ from by rw [e.1]; exact hm), h, l, Ows.mgc e ds k vs g r⟩
  | .ins c ns ds, .t, _, _, ⟨a, C, dx, vs, g, q, ef, hm, h, l, r⟩ => ⟨a, C, dx, vs, g, q, ef, (show mg'.m c = _ from by rw [e.1]; exact hm), h, l, Ows.mgc e ds (.all .t) vs g r⟩
theorem Ows.mgc (e : mg'.m = mg.m ∧ mg'.w = mg.w) : ∀ (ds : List D) (k : Kd) (vs : List V) (fp : List Addr), Ows K mg H0 H ds k vs fp → Ows K mg' H0 H ds k vs fp
  | [], _, _, _, h => h
  | d :: ds, k, _, _, ⟨v, r, f, g, q, ef, h, t⟩ => ⟨v, r, f, g, q, ef, Ow.mgc e d k.hd v f h, Ows.mgc e ds k.tl r g t⟩
end
/-- into a suite: the exception at a is held, the name i is it -/
theorem Lies.intoSuite (l : Lies K mg H0 H c σ ρ) {n : Str} {ns : List Str} {vs : List D} {cls : Value} {dx : Option Addr} (ex : ExcAt K mg H0 n ns vs cls dx) (na : H a = none) (h1 : oe.cls = cls) (h2 : oe.dict = dx) {fv : Array Value} (h3 : oe.data = .fields fv) (h4 : fv[2]? = some .none) :
    Step msA H0 H c (upd H0 a (.frz oe (.own a))) (upd H a (.frz oe (.own a))) (coSet c i []) ∧ Lies K (mg.hot a) (upd H0 a (.frz oe (.own a))) (upd H a (.frz oe (.own a))) (coSet c i []) (σ.set i (some (.ref a))) (ρ.set i (some (.z, .exn n ns vs))) := by
  have n0 : H0 a = none := l.sub.free na
  have gr : Same H0 (upd H0 a (.frz oe (.own a))) := same_upd0 n0
  have ca : c a = none := l.nc na
  obtain ⟨C, hC, hcl, hd⟩ := ex
  have fz : Fz K (mg.hot a) (upd H0 a (.frz oe (.own a))) (.exn n ns vs) (.ref a) := by
    rcases hd with ⟨e1, e2, e3⟩ | ⟨p, fs, e1, e2, e3, e4⟩
    · subst e1 e2
      exact ⟨a, [], rfl, ⟨C, oe, hC, upd_same, h1.trans hcl, ⟨fv, h3, h4⟩, .inl ⟨rfl, rfl, h2.trans e3⟩⟩, rfl⟩
    · exact ⟨a, fs.map (·.2), rfl, ⟨C, oe, hC, upd_same, h1.trans hcl, ⟨fv, h3, h4⟩, .inr ⟨p, fs, h2.trans e1, gr _ _ e2, e3, rfl⟩⟩, Fzs.mono gr vs _ (Fzs.mgc (mg := mg) (mg' := mg.hot a) ⟨rfl, rfl⟩ vs _ e4)⟩
  have l1 : Lies K (mg.hot a) (upd H0 a (.frz oe (.own a))) (upd H a (.frz oe (.own a))) c σ ρ := by
    have hne : ∀ b i, c b = some i → b ≠ a := fun b i e z => by rw [z, ca] at e; cases e
    refine ⟨same_upd2 l.sub, fun b e => ?_, fun b j e => ?_, fun b j e => ?_, l.len, fun j m d e => ?_⟩
    · cases e
      exact ⟨oe, fv, upd_same, h3, h4⟩
    · rw [upd_ne (hne b j e)]; exact l.apart b j e
    · rw [upd_ne (hne b j e)]; exact l.there b j e
    · obtain ⟨v, fp, e1, ow, nd, hc⟩ := l.slot j m d e
      exact ⟨v, fp, e1, Ow.mgc (mg := mg) (mg' := mg.hot a) ⟨rfl, rfl⟩ d m v fp (Ow.mono gr d m v fp (fun b hb => upd_ne (hne b j (hc b hb))) ow), nd, hc⟩
  refine ⟨⟨fun b o e k => by rw [upd_ne fun z => by rw [z, na] at e; cases e]; exact e, fun b o e k => ?_, gr, fun b o e => ?_, fun b j e => .inl (coSet_out (by simp) e).1⟩, l1.set (Ow.zero.mpr ⟨rfl, fz⟩) List.nodup_nil (by simp) (by simp) (by simp)⟩
  · have cn : c b = none := by
      cases q : c b with
      | none => rfl
      | some j => have := k j q; cases this
    unfold coSet
    rw [if_neg (by simp), cn, if_neg (by intro z; cases z)]
  · by_cases z : b = a
    · rw [z]; exact .inr (.inl na)
    · rw [upd_ne z] at e; exact .inl ⟨o, e⟩
/-- out of it: the name goes -/
theorem Lies.outSuite (l : Lies K mg H0 H c σ ρ) (l' : Lies K (mg.hot a) H0' H' c' σ' ρ') (s : Step msA H0 H c H0' H' c') : Step msA H0 H c H0' H' (coSet c' i []) ∧ Lies K mg H0' H' (coSet c' i []) (σ'.set i none) (ρ'.set i none) := by
  refine ⟨⟨s.keep, fun b o e k => ?_, s.grow, s.new0, fun b j e => s.newc b j (coSet_out (by simp) e).1⟩, ⟨l'.sub, fun b e => (l.hot b e).mono s.grow, fun b j e => l'.apart b j (coSet_out (by simp) e).1, fun b j e => l'.there b j (coSet_out (by simp) e).1, by rw [List.length_set, List.length_set]; exact l'.len, fun j m d e => ?_⟩⟩
  · have cn : c b = none := by
      cases q : c b with
      | none => rfl
      | some j => have := k j q; cases this
    have := s.col b o e k
    unfold coSet
    rw [if_neg (by simp), this, cn, if_neg (by intro z; cases z)]
  · by_cases h : i = j
    · subst h
      by_cases hi : i < ρ'.length
      · rw [getS_set_eq hi] at e; cases e
      · have : getS (ρ'.set i none) i = none := by simp [getS, List.getD_eq_getElem?_getD, hi]
        rw [this] at e; cases e
    · rw [getS_set_ne h] at e
      obtain ⟨v, fp, e1, ow, nd, hc⟩ := l'.slot j m d e
      refine ⟨v, fp, by rw [List.getElem?_set_ne h]; exact e1, Ow.mgc (mg := mg.hot a) (mg' := mg) ⟨rfl, rfl⟩ d m v fp ow, nd, fun b hb => ?_⟩
      unfold coSet
      rw [if_neg (by simp), if_neg (by rw [hc b hb]; intro z; exact h (Option.some.inj z).symm)]
      exact hc b hb
end
/-- try: g / except X as (slot i): gs; sub: is a class of this name caught -/
def gTry (sub : Str → Option Bool) (i : Nat) (gb gs : M Fl) : M Fl := fun r => match gb r with
  | .exc n ns vs r' => match sub n with
    | some true => (match gs (r'.set i (some (.z, .exn n ns vs))) with
      | .ok fl r2 => .ok fl (r2.set i none)
      | _ => .bad)
    | some false => .exc n ns vs r'
    | none => .bad
  | .ok fl r' => .ok fl r'
  | .bad => .bad
/-- raise X('m') -/
def gRaise (n : Str) : M Fl := fun r => .exc n [] [] r
section
variable {fa : List He.Fa} {fn : List He.DefD} {cs : List (Str × D)} {G : GC} {N : List Str} {S : SC} {ms as as1 as2 : Ms} {rm : Md} {k : Nat} {e : Expr} {es : List Expr} {fs : M (List D)} {F : M D} {ps : List Str} {ls : List (Option Nat)} {x n m : Str} {p p2 pos np pos' : Pos} {j : Nat}
theorem Ye.hot (Y : Ye fa fn cs G) (a : Addr) : Ye fa fn cs (G.hot a) := ⟨Y.h, Y.s⟩
theorem VS.raise (Y : Ye fa fn cs G) (jg je : Nat) (hj : fa[jg]? = some (.glo x) := by rfl) (he : fa[je]? = some (.exc x) := by rfl) (hc : S.cm = true := by rfl) (hg : Glb S x := by rfl) (hdb : (x == ("__debug__" : Str)) = false := by decide) :
    VS G N S rm ms0 (.Raise (some (.Call (.Name x p) [.Constant (.str m) j p2] [] pos)) none pos') (gRaise x) := by
  obtain ⟨h, KX, Nn⟩ := Y.h
  obtain ⟨q1, q2, q3, q4⟩ := He.exc_ok (Y.fact je he)
  have hm := He.glo_ok KX Nn (Y.fact jg hj)
  refine fun R a W t => (L2N.ps_raise (a.calm.trans hc) t (L2N.pmk_own (X := mkX G N R) F.excBase_ValueError q1 hm q2 (raises_own q3 q4) (a.gl hg) hdb)).imp fun D σ H ⟨ρ, H0, c, l, o⟩ => ?_
  exact o (.ref (He.ga G.K x)) none σ H0 H c .refl l .refl ⟨_, hm, rfl, .inl ⟨rfl, rfl, rfl⟩⟩
theorem VS.try_ {i : Nat} {b₀ : Stmt} {suite body : List Stmt} {gb gs : M Fl} {c : Value} (sub : Str → Option Bool) (hb : VSs G N S rm as1 body gb) (hs : ∀ a, VSs (G.hot a) N ⟨S.sc, S.fn, S.k, false, S.tp⟩ rm as2 (b₀ :: suite) gs)
    (hsub : ∀ n b, sub n = some b → ∀ C, G.mg.m n = some (.ref C) → PySem.W.exmOne G.K (.ref C) c = some b) (hx : G.mg.m x = some c) (hg : Glb S x := by rfl) (hN : N[i]? = some n := by rfl) (hln : S.sc.names.lookup n = some .local := by rfl) (htp : S.tp = true := by rfl) (hcm : S.cm = true := by rfl) (hdb : (x == ("__debug__" : Str)) = false := by decide) :
    VS G N S rm (msU as1 (msU as2 (msO i))) (.Try body [.ExceptHandler (some (.Name x np)) (some n) (b₀ :: suite) pos'] [] [] pos) (gTry sub i gb gs) := by
  refine fun R a W t => ?_
  obtain ⟨t1, t2, t3⟩ := a.top htp
  have hln' : (mkX G N R).env.kindOf n = some .local := by
    show R.env.scope.names.lookup n = _
    rw [show R.env.scope = S.sc from a.sc]; exact hln
  refine (ps_try_held (X := mkX G N R) (c := c) (i := i) (tb := fun W' => tS G.K G.mg W' rm as1 gb) (ts := fun a' => tS G.K (G.mg.hot a') WNo rm as2 gs) t1 t2 t3 a.nd hN hln' ⟨a.gl hg, hdb, .inl hx⟩ t
    (fun W' pn xe tk po => hb { R with pn := pn, xe := xe } ⟨a.sc, a.fn, a.nd, a.calm, a.room, a.hot, a.rh, a.gd, a.top, po⟩ W' tk)
    (fun a' pn => hs a' { R with A := R.A.mark (some (.ref a')), calm := false, pn := pn, xe := fun _ _ => False } ⟨a.sc, a.fn, a.nd, rfl, (fun z => by cases z), fun _ => ⟨a', rfl, rfl⟩, ⟨a.rh.dp, a.rh.un⟩, a.gd, a.top, PassesOwn.never⟩ _ takes_no)).imp fun D σ H ⟨ρ, H0, co, l, o⟩ => ?_
  refine ⟨ρ, H0, co, l, ?_⟩
  have i1 : ∀ j, as1 j = true → msU as1 (msU as2 (msO i)) j = true := fun j e => or_l e
  have i2 : ∀ j, as2 j = true → msU as1 (msU as2 (msO i)) j = true := fun j e => or_r (or_l e)
  have i3 : ∀ j, msO i j = true → msU as1 (msU as2 (msO i)) j = true := fun j e => or_r (or_r e)
  unfold gTry at o
  cases hgb : gb ρ with
  | ok fl r =>
    rw [hgb] at o
    cases fl with
    | nx => exact fun σ' H0' H' c' s l' a' => o σ' H0' H' c' s l' (a'.mono i1)
    | bk => exact fun σ' H0' H' c' s l' a' => o σ' H0' H' c' s l' (a'.mono i1)
    | ct => exact fun σ' H0' H' c' s l' a' => o σ' H0' H' c' s l' (a'.mono i1)
    | rt d => exact fun v σ' H0' H' c' s l' a' f => o v σ' H0' H' c' s l' (a'.mono i1) f
  | bad => rw [hgb] at o; exact o.elim
  | exc nn ns vs r =>
    rw [hgb] at o
    dsimp only at o
    intro cls dx σ' H0' H' c' s l' a' ex
    cases hsb : sub nn with
    | none => rw [hsb] at o; exact o.elim
    | some b =>
      obtain ⟨C, hC, hcl, hdd⟩ := id ex
      refine ⟨b, by rw [hcl]; exact hsub nn b hsb C hC, fun eb => ?_, fun eb => ?_⟩
      · subst eb
        rw [hsb] at o
        dsimp only at o
        intro ad oe fv na h1 h2 h3 h4
        obtain ⟨st, li⟩ := l'.intoSuite (i := i) ex na h1 h2 h3 h4
        refine ⟨_, _, _, li, ?_⟩
        have as0 : Agr (msU as1 (msU as2 (msO i))) σ (σ'.set i (some (.ref ad))) := (a'.mono i1).trans (Agr.set.mono i3)
        have gone : ∀ {σ3 : L2.St}, Agr as2 (σ'.set i (some (.ref ad))) σ3 → Agr (msU as1 (msU as2 (msO i))) σ (σ3.set i none) := fun {σ3} a3 => by
          refine as0.trans ((a3.mono i2).trans ⟨by rw [List.length_set], fun j hj => ?_⟩)
          have : i ≠ j := fun z => by
            have := i3 j (by rw [z]; simp)
            rw [this] at hj; cases hj
          exact List.getElem?_set_ne this
        cases hgs : gs (r.set i (some (.z, .exn nn ns vs))) with
        | bad => rw [hgs] at o; exact o.elim
        | exc => rw [hgs] at o; exact o.elim
        | ok fl r2 =>
          rw [hgs] at o
          dsimp only at o
          have sS := s.trans st
          cases fl with
          | nx =>
            intro σ3 H03 H3 c3 t3 l3 a3
            obtain ⟨q1, q2⟩ := l.outSuite (i := i) l3 (sS.trans t3)
            exact o _ _ _ _ q1 q2 (gone a3)
          | bk =>
            intro σ3 H03 H3 c3 t3 l3 a3
            obtain ⟨q1, q2⟩ := l.outSuite (i := i) l3 (sS.trans t3)
            exact o _ _ _ _ q1 q2 (gone a3)
          | ct =>
            intro σ3 H03 H3 c3 t3 l3 a3
            obtain ⟨q1, q2⟩ := l.outSuite (i := i) l3 (sS.trans t3)
            exact o _ _ _ _ q1 q2 (gone a3)
          | rt d =>
            intro v σ3 H03 H3 c3 t3 l3 a3 ⟨fp, ow, fr⟩
            obtain ⟨q1, q2⟩ := l.outSuite (i := i) l3 (sS.trans t3)
            have fr1 := Fresh.back sS fr
            exact o v _ _ _ _ q1 q2 (gone a3) ⟨fp, Ow.mgc (mg := G.mg.hot ad) (mg' := G.mg) ⟨rfl, rfl⟩ d rm v fp ow, fr1.nd, fun b hb => by unfold coSet; rw [if_neg (by simp), fr1.nc b hb, if_neg (by intro z; cases z)], fr1.n0, fr1.there, fr1.new⟩
      · subst eb
        rw [hsb] at o
        exact o cls dx σ' H0' H' c' s l' (a'.mono i1) ex
/-- a def of the module, where an exception is handled -/
structure FxH (G : GC) (k : Nat) (x : Str) (ps : List Str) (rm : Md) (F : M D) : Prop where
  ex : ∃ f fd, G.mg.m x = some (.ref f) ∧ PySem.W.keepIn G.K (.ref f) = true ∧ Binds G.K fd ps [] ∧ FnX G k f fd ps rm F
theorem FxH.mk' (Y : Ye fa fn cs G) (i j : Nat) {d : He.DefD} {x : Str} {k : Nat} {N ps : List Str} {rm : Md} {g : M Fl} {as : Ms} (io : List Bool) (n : Nat) (hb : VSs G N ⟨d.scope, fun _ => true, k, false, true⟩ rm as d.body g)
    (hbi : ∀ (kV doc pm : Value) (an : Option Addr) (cdv ct : Value) (us : List Value), us.length = ps.length → bindArgs (PySem.W.fnOf d.name d.qual d.params d.body d.scope .none kV doc pm an cdv ct) ⟨us, []⟩ = pure (ps.zip us))
    (Sc : FnScope N ps d.scope) (hd : fn[i]? = some d := by rfl) (hj : fa[j]? = some (.glo x) := by rfl) (hx : d.at_ = (x, none) := by rfl) (h0 : d.dfl = [] := by rfl) (hio : io.length = ps.length := by rfl) (hn : N.length = ps.length + n := by rfl)
    (has : ∀ i, io.getD i false = true → as i = false := by intro i h; rcases i with _ | _ | _ | _ | _ | _ | i <;> first | rfl | (cases h)) : FxH G (k + 1) x ps rm (fnRun io n g) := by
  obtain ⟨h, X, Nn⟩ := Y.h
  obtain ⟨fd, F⟩ := Y.s.d.def_ i hd
  have e : G.mg.m x = some (.ref (He.fAd G.K d.at_)) := by
    rw [hx]
    exact He.glo_ok X Nn (Y.fact j hj)
  have e0 : d.dvs G.K = [] := by unfold He.DefD.dvs; rw [h0]; rfl
  rw [e0] at F
  exact ⟨_, fd, e, F.kp, F.bindsN hbi, FnX.mk' F Sc io n hb hio hn has⟩
def fCallH (F : M D) (ls : List (Option Nat)) (f : M (List D)) : M D := fun r => (f r).bind fun ds r => match F (mkArgs ls ds r) with
  | .ok d rp => .ok d (putBack ls rp r)
  | _ => .bad
theorem VO.callH (hF : FxH G k x ps rm F) (ha : VM G N S ls ms (e :: es) fs) (hk' : k ≤ S.k := by decide) (hc : S.cm = false := by rfl) (nd : (ls.filterMap id).Nodup := by decide) (hl : ls.length = ps.length := by rfl) (hg : Glb S x := by rfl)
    (hdb : (x == ("__debug__" : Str)) = false := by decide) (he : ∀ env, starEach (e :: es) env = (false, eval e env) :: starEach es env := by intro _; rfl) (hpl : ∀ env, (backTo pos (starEach es env)).any (·.1) = false := by intro _; rfl) :
    VO G N S rm (msU ms (lentM ls)) (.Call (.Name x p) (e :: es) [] pos) (fCallH F ls fs) := by
  obtain ⟨f, fd, h1, h2, h3, h4⟩ := hF.ex
  refine fun R a W t => (pe_callX (N := N) (R := R) h4 a.gd (a.rh.mono hk') (a.hot hc) (a.gl hg) h1 h2 h3 (ha R a W t) hdb (he _) (hpl _)).imp fun σ H Q ⟨ρ, H0, c, l, o⟩ => ?_
  refine ⟨ρ, H0, c, l, (Out.bind (G := FAM G.K G.mg σ ls) (ms1 := ms) back_FO o fun i e => or_l e).imp fun vs H1 ⟨ds, H01, c1, ρ1, e1, s1, l1, am, o1⟩ => ?_⟩
  obtain ⟨_, hv⟩ := mkArgs_len (r := ρ1) am
  refine ⟨hv.trans hl, mkArgs ls ds ρ1, H01, coIn ls c1, l1.enter nd am, ?_⟩
  cases hF : F (mkArgs ls ds ρ1) with
  | ok d rp =>
    rw [hF] at o1
    intro v H0' H' cc s l' ⟨fp, ow, fr⟩
    exact o1 v H0' H' (coOut ls c1 cc) ((Step.leave l1 s).mono fun i e => or_r e) (l1.leave nd am s l') ⟨fp, ow, (Fresh.leave l1 fr).mono fun i e => or_r e⟩
  | exc n ns vs rp => rw [hF] at o1; exact o1.elim
  | bad => rw [hF] at o1; exact o1.elim
end
end Vm
set_option Elab.async false
set_option linter.all false
set_option maxRecDepth 100000
set_option maxHeartbeats 4000000
/-! targets, list comprehensions where an exception is handled -/
namespace Vm
open PySem PySem.Spec PyProof.Rows L2
section
variable {X : Cx}
theorem pi_listX {tg l : Expr} {tl : TE} (hl : PE X l tl) : PIX X tg l (iList X.K tl) := by
  refine ⟨fun pins s σ H R I h => ?_⟩
  refine thn (hl.run pins s σ H _ I h) fun v s1 ⟨x, H1, I1, r1, q1⟩ => ?_
  obtain ⟨a, e, ⟨xs, hq⟩, q⟩ := q1
  subst e
  cases r1
  obtain ⟨its, rv, p, hz⟩ := I1.list hq
  refine wpAny_pyIter_list p.isList ?_
  refine ⟨s1.heap.objs.size, [s1.heap.objs.size], _, _, H1, rfl, I1.kept (t' := s1.toks) fun b o e => Heap.get?_push_of_some _ e, turnx_list a _, ⟨_, Heap.get?_push_size _ rfl, rfl, rfl⟩, fun b hb => ?_, q⟩
  have e : b = s1.heap.objs.size := by simpa using hb
  subst e
  exact I1.fpOk (Nat.le_refl _) (I1.hok.fresh (Nat.le_refl _))
/-- like tLc, the exception being held at every turn -/
def tLcX (X : Cx) (wi : TI) (g : TG) (tt : TT) (te : TE) (vs : List Nat) : TE := fun σ H Q => wi σ H fun J H1 => ∀ D, H1 D = none → ∃ W : Nat → Nat → Hp → Prop, (∃ m, W 0 m (upd H1 D (.lst []))) ∧ ∀ i m H, W i m H → HotT X H ∧
  ((J.stop i H ∧ Q (.ref D) H) ∨ (J.go i H ∧ ∃ Nx : Hp → Prop, (∀ H', Nx H' → ∃ m', m' < m ∧ W (i + 1) m' H') ∧ ∀ x H', J.yld i H x H' → g x (L2.wipe σ vs) H' fun σ2 H2 => L2.wipe σ2 vs = L2.wipe σ vs ∧ tt σ2 H2 fun b H3 =>
    if b = true then te σ2 H3 fun y H4 => ∃ acc, H4 D = some (.lst acc) ∧ acc.length < sizeLine ∧ Nx (upd H4 D (.lst (acc ++ [y]))) else Nx H3))
theorem lcX_core {pins : List (Addr × Obj)} {s : Shared} {σ : L2.St} {H : Hp} {Q : VK} {elt tg iter : Expr} {ifs : List Expr} {scope : Scope} {own : List (Str × Nat)} {pos pos' : Pos} {wi : TI} {g : TG} {tt : TT} {te : TE} {use : Option (Value → Sem Unit)} {Qf : Value → Shared → Prop}
    (hN : X.N.Nodup) (I : Inv X pins σ H s) (hi : PIX X tg iter wi) (ok : BlkOk X.N X.env.scope scope own)
    (hg : ∀ (s : Shared) (H : Hp) (C : Addr) (cl : List (Str × Addr)) (fp : List Addr), PG (X.blk s H scope (compEnvC scope cl C X.env) fp) tg g) (ht : ∀ (s : Shared) (H : Hp) (C : Addr) (cl : List (Str × Addr)) (fp : List Addr), PTs (X.blk s H scope (compEnvC scope cl C X.env) fp) ifs tt)
    (he : ∀ (s : Shared) (H : Hp) (C : Addr) (cl : List (Str × Addr)) (fp : List Addr), PE (X.blk s H scope (compEnvC scope cl C X.env) fp) elt te) (hs : ∀ x, foldedSetIterable iter X.env x = pure x)
    (h : tLcX X wi g tt te (own.map (·.2)) σ H Q)
    (hRR : ∀ D C s' m H', Inv X pins σ H' s' → Q (.ref D) H' → s'.heap.Ns C m → FpOk X pins H' C → compPost (model X.prog X.w) X.A X.xe use Qf (.ref D) C (.ok .next) s') :
    wpAny (model X.prog X.w) X.A (comprehension (.ListComp elt [⟨tg, iter, ifs, 0⟩] scope pos) scope X.env pos' (newList []) false (eval iter X.env) use) Qf X.xe s := by
  have hfree : ∀ y ∈ scope.names, y.2 = .free → ∃ c, X.env.cells.lookup y.1 = some c := fun y hy e => by
    rcases ok.free y hy e with k | k
    · exact I.ok.has _ (.inl k)
    · exact I.ok.has _ (.inr k)
  refine wpAny_comprehension_free (use := use) rfl hs (closure_ok hfree) ok.kind (fun y hy e => by rw [ok.uniq y hy, e])
    (thn (hi.run pins s σ H _ I h) fun xv s1 hx => thn hx fun itv s2 h2 => ?_)
  obtain ⟨it, fp, tn, J, H2, e, I2, T, st2, f2, q⟩ := h2
  subst e
  refine wpAny_newObj_type (newEnv_comp ?_) (by show 0 ≤ sizeLine; decide)
  generalize hD : s2.heap.objs.size = D
  have hDn : H2 D = none := I2.hok.fresh (Nat.le_of_eq hD)
  obtain ⟨W, ⟨m0, w0⟩, turn⟩ := q D hDn
  -- the new list
  generalize hs3 : ({ s2 with heap := s2.heap.push { cls := .type "list", data := .seq ([] : List Value).toArray } } : Shared) = s3
  have I3 : Inv X pins σ (upd H2 D (.lst [])) s3 := by
    rw [← hs3]
    refine I2.laid (t' := s2.toks) (fun b o e => Heap.get?_push_of_some _ e) (Nat.le_of_eq hD) ⟨Nat.zero_le _, [], 0, .nil, ?_⟩
    rw [← hD]
    exact Heap.get?_push_size _ rfl
  have h3 : s3.heap = s2.heap.push { cls := .type "list", data := .seq ([] : List Value).toArray } := by rw [← hs3]
  have sz : ∀ b ∈ fp, b < s2.heap.objs.size := fun b hb => by
    obtain ⟨o, e, _⟩ := T.obj _ _ st2 b hb
    exact Heap.lt_size e
  have f3 : ∀ b ∈ fp, FpOk X pins (upd H2 D (.lst [])) b ∧ b < s3.heap.objs.size := fun b hb => by
    have hlt := sz b hb
    refine ⟨⟨?_, (f2 b hb).2⟩, by rw [h3, Heap.size_push]; exact Nat.lt_succ_of_lt hlt⟩
    rw [upd_ne (by rw [← hD]; exact Nat.ne_of_lt hlt)]
    exact (f2 b hb).1
  have st3 : tn 0 s3.heap := T.keep _ _ _ st2 fun b _ o e => by rw [h3]; exact Heap.get?_push_of_some _ e
  have I4 := block_start I3 ok hN f3
  have pg := hg s3 (upd H2 D (.lst [])) s3.heap.objs.size (cellsFrom (s3.heap.objs.size + 1) scope.names (cloFrom X.env.cells scope.names [])) fp
  have pt := ht s3 (upd H2 D (.lst [])) s3.heap.objs.size (cellsFrom (s3.heap.objs.size + 1) scope.names (cloFrom X.env.cells scope.names [])) fp
  have pe := he s3 (upd H2 D (.lst [])) s3.heap.objs.size (cellsFrom (s3.heap.objs.size + 1) scope.names (cloFrom X.env.cells scope.names [])) fp
  show codeAny _ _ (.compStart (.ListComp elt [⟨tg, iter, ifs, 0⟩] scope pos) 0 (.ref it) (.ref D) (compEnvC scope (cellsFrom (s3.heap.objs.size + 1) scope.names (cloFrom X.env.cells scope.names [])) s3.heap.objs.size X.env)) (compPost (model X.prog X.w) X.A X.xe use Qf (.ref D) s3.heap.objs.size) { s3 with heap := pushCells (s3.heap.push { cls := .type "dict", data := .dict #[] }) scope.names }
  have nfp : ∀ b ∈ fp, (upd H2 D (.lst [])) b = none := fun b hb => (f3 b hb).1.1
  generalize hce : compEnvC scope (cellsFrom (s3.heap.objs.size + 1) scope.names (cloFrom X.env.cells scope.names [])) s3.heap.objs.size X.env = ce at I4 pg pt pe ⊢
  have cL : ce.locals = s3.heap.objs.size := by subst hce; rfl
  generalize hH3 : upd H2 D (.lst []) = H3 at I3 I4 pg pt pe w0 nfp f3
  generalize hs4 : ({ s3 with heap := pushCells (s3.heap.push { cls := .type "dict", data := .dict #[] }) scope.names } : Shared) = s4 at I4 ⊢
  have st4 : tn 0 s4.heap := T.keep _ _ _ st3 fun b _ o e => by rw [← hs4]; exact pushCells_keeps _ _ _ _ (Heap.get?_push_of_some _ e)
  have stat : ∀ {σ' : L2.St} {H' : Hp} {s' : Shared}, Inv (X.blk s3 H3 scope ce fp) [] σ' H' s' → (∀ b ∈ fp, H' b = none) → ∀ b ∈ fp, FpOk (X.blk s3 H3 scope ce fp) [] H' b := fun {σ' H' s'} I' hn b hb =>
    ⟨hn b hb, (I'.ok.exf b hb).1, I'.ok.exfs b hb, .inl hb, fun x c e => (I'.ok.exf b hb).2 x c e, fun p hp => absurd (show p ∈ ([] : List (Addr × Obj)) ++ [] from hp) (by simp)⟩
  have loop : codeAny (model X.prog X.w) X.A (.compLoop (.ListComp elt [⟨tg, iter, ifs, 0⟩] scope pos) 0 (.ref it) (.ref D) ce) (compPost (model X.prog X.w) X.A X.xe use Qf (.ref D) s3.heap.objs.size) s4 := by
    refine compLoop_any (fun n s' => ∃ i H', Inv (X.blk s3 H3 scope ce fp) [] (L2.wipe σ (own.map (·.2))) H' s' ∧ tn i s'.heap ∧ (∀ b ∈ fp, H' b = none) ∧ W i n H') ?_ m0 ⟨0, H3, I4, st4, nfp, w0⟩
    rintro n s5 ⟨i, H5, I5, st5, n5, w5⟩
    obtain ⟨hot5, tt5⟩ := turn i n H5 w5
    rcases tt5 with ⟨stop, qq⟩ | ⟨go, Nx, hNx, step⟩
    · have td := T.done (X.blk s3 H3 scope ce fp) rfl rfl rfl i [] s5 _ H5 (fun _ _ => False) hot5 I5 (stat I5 n5) st5 stop
      refine thnF td fun r s6 ⟨hr, I6⟩ => ?_
      subst hr
      -- back in the def's context
      have I7 : Inv X pins σ H5 s6 := I3.call' (ch := fp) I6.os I6.base I6.hok I6.bare fun b hb => ⟨(f3 b hb).1.2.2.2.1, (f3 b hb).1.2.1, (f3 b hb).1.2.2.2.2.1, (f3 b hb).1.2.2.2.2.2⟩
      have nC : H5 s3.heap.objs.size = none := by
        have z : H5 ce.locals = none := I6.free
        rw [cL] at z
        exact z
      obtain ⟨m, hn, _⟩ := I6.loc
      have hn : s6.heap.Ns ce.locals m := hn
      rw [cL] at hn
      exact hRR D s3.heap.objs.size s6 m H5 I7 qq hn (I3.fpOk (Nat.le_refl _) nC)
    · have ti := T.item (X.blk s3 H3 scope ce fp) rfl rfl rfl i [] s5 _ H5 (fun _ _ => False) hot5 I5 (stat I5 n5) st5 go
      refine thnF ti fun r s6 ⟨u, hr, h6⟩ => ?_
      subst hr
      refine thnF h6 fun _ s7 ⟨x, H7, I7, r7, y7, st7, n7⟩ => ?_
      have I7' := I7.pinned (stat I7 n7) (T.obj _ _ st7)
      refine thnF (pg.run _ s7 _ H7 x u _ I7' r7 (step x H7 y7)) fun _ s8 ⟨σ8, H8, I8, hw8, q8⟩ => ?_
      refine thnF (pt.run _ s8 σ8 H8 _ I8 q8) fun b s9 ⟨H9, I9, q9⟩ => ?_
      -- the turn's end
      have fin : ∀ {s' : Shared} {H' : Hp}, Inv (X.blk s3 H3 scope ce fp) ([] ++ pinsAt fp s7.heap) σ8 H' s' → Nx H' → ∃ m, m < n ∧ ∃ i H', Inv (X.blk s3 H3 scope ce fp) [] (L2.wipe σ (own.map (·.2))) H' s' ∧ tn i s'.heap ∧ (∀ b ∈ fp, H' b = none) ∧ W i m H' := fun {s' H'} I' nx => by
        obtain ⟨m', hm, w'⟩ := hNx H' nx
        have pin' : ∀ b ∈ fp, ∀ o, s7.heap.get? b = some o → s'.heap.get? b = some o ∧ H' b = none := fun b hb o e =>
          let z := I'.pin (b, o) (List.mem_append_right _ (List.mem_append_right _ (mem_pinsAt hb e)))
          ⟨z.1, z.2.1⟩
        have hl : (L2.wipe σ (own.map (·.2))).length = σ8.length := by rw [← hw8, L2.wipe_length]
        refine ⟨m', hm, i + 1, H', (I'.unpinned (pins := [])).weak hl (fun j v e => ?_), T.keep _ _ _ st7 fun b hb o e => (pin' b hb o e).1, fun b hb => ?_, w'⟩
        · rw [← hw8] at e
          exact (L2.wipe_some e).1
        · obtain ⟨o, e, _⟩ := T.obj _ _ st7 b hb
          exact (pin' b hb o e).2
      cases b with
      | false =>
        simp only [Bool.false_eq_true, if_false] at q9 ⊢
        exact fin I9 q9
      | true =>
        simp only [if_true] at q9 ⊢
        refine thnF (pe.run _ s9 σ8 H9 _ I9 q9) fun z s10 ⟨yv, H10, I10, r10, acc, hD10, hz10, nx⟩ => ?_
        exact app_ok (X := X.blk s3 H3 scope ce fp) I10 hD10 hz10 r10 fun s11 I11 => fin I11 nx
  exact codeAny_compStart_list loop (T.self X.A 0 _ _ _ st4 loop)
theorem pe_lcX {elt tg iter : Expr} {ifs : List Expr} {scope : Scope} {own : List (Str × Nat)} {pos : Pos} {wi : TI} {g : TG} {tt : TT} {te : TE} (hN : X.N.Nodup) (hi : PIX X tg iter wi) (ok : BlkOk X.N X.env.scope scope own)
    (hg : ∀ (s : Shared) (H : Hp) (C : Addr) (cl : List (Str × Addr)) (fp : List Addr), PG (X.blk s H scope (compEnvC scope cl C X.env) fp) tg g) (ht : ∀ (s : Shared) (H : Hp) (C : Addr) (cl : List (Str × Addr)) (fp : List Addr), PTs (X.blk s H scope (compEnvC scope cl C X.env) fp) ifs tt)
    (he : ∀ (s : Shared) (H : Hp) (C : Addr) (cl : List (Str × Addr)) (fp : List Addr), PE (X.blk s H scope (compEnvC scope cl C X.env) fp) elt te) (hs : ∀ x, foldedSetIterable iter X.env x = pure x := by intro _; rfl) :
    PE X (.ListComp elt [⟨tg, iter, ifs, 0⟩] scope pos) (tLcX X wi g tt te (own.map (·.2))) := by
  refine ⟨fun pins s σ H Q I h => ?_⟩
  rw [eval_ListComp]
  refine lcX_core hN I hi ok hg ht he hs h fun D C s' m H' I' q hn f => ⟨m, hn, fun h'' sb => ?_⟩
  obtain ⟨f0, f1, f2, f3, f4, f5⟩ := f
  exact ⟨.ref D, H', I'.turned (t' := s'.toks) (fun b o hb e => (sb.2 b hb).trans e) f0 f1 f3 f4 f5, rfl, q⟩
end
section
variable {G : GC} {N : List Str} {S : SC} {R : Rs} {K : PySem.W.Frag} {mg : MG} {H0 H : Hp} {c : Co} {σ : L2.St} {ρ : En}
theorem Lies.hotT (l : Lies G.K G.mg H0 H c σ ρ) (a : At G.mg.hx S N (mkX G N R)) (hc : S.cm = false) : HotT (mkX G N R) H := by
  obtain ⟨ad, e1, e2⟩ := a.hot hc
  obtain ⟨oe, fv, h1, h2, h3⟩ := l.hot ad e1
  exact ⟨ad, oe, fv, e2, l.sub _ _ h1, h2, h3⟩
end
section
variable {G : GC} {N : List Str} {S : SC} {as : Ms} {es : List Expr} {pos : Pos}
end
end Vm
set_option Elab.async false
set_option linter.all false
set_option maxRecDepth 100000
set_option maxHeartbeats 4000000
/-! isinstance of a held exception -/
namespace Vm
open PySem PySem.Spec PySem.Calls PyProof.Rows PySem.W
section
variable {prog : Program} {w : World} {A : Around} {E : Value → Shared → Prop} {s : Shared} {K : Frag} {x D : Addr} {ox : Obj}
theorem findObj_dataX {od : Option Obj} {C : Addr} {name : Str} {a g : Value} (hc : (clsIn K C).isSome = true) (ha : findIn K (.ref C) name = some (some a)) (hg : specialIn K a "__get__" = some (some g)) (ht : takesIn K a = some true) : findObj K C od name = some (.bind g a) := by
  obtain ⟨cd, hc⟩ := Option.isSome_iff_exists.mp hc
  unfold findObj
  rw [hc, Option.bind_some, ha, Option.bind_some]
  simp [hg, ht]
theorem kin_classX {od : Option Obj} {Q : Option Value → Shared → Prop} (hga : findIn K (.ref D) "__getattribute__" = some (some (.builtin "BaseException.__getattribute__"))) (hgt : findIn K (.ref D) "__getattr__" = some none) (hsub : subIn K (.ref D) (.type "BaseException") = some true)
    (hdct : hasDictIn K D = true) (ha : findIn K (.ref D) "__class__" = some (some (.builtin "object.__class__")))
    (hn : specialIn K (.builtin "object.__class__") "__get__" = some (some (.builtin "getset_descriptor.__get__"))) (htk : takesIn K (.builtin "object.__class__") = some true) (hm : mroIn K D (.type "object") = some true)
    (X : K.In s.heap) (I : InstAt s.heap x ox D od) (h : Q (some (.ref D)) { s with toks := s.toks + 1 }) : wpAny (model prog w) A (getAttr? (.ref x) "__class__") Q E s := by
  have hf : findObj K D od "__class__" = some (.bind (.builtin "getset_descriptor.__get__") (.builtin "object.__class__")) := findObj_dataX (by obtain ⟨cd, hc, _⟩ := any_some hdct; rw [hc]; rfl) ha hn htk
  obtain ⟨hp, g, d, t, os⟩ := s
  have L0 := I.type (M := model prog w)
  have L1 := looks_findIn (M := model prog w) X hga
  have L2 := looks_findIn (M := model prog w) X hgt
  have L3 := looks_find (M := model prog w) X I hf
  have sub : Looks (model prog w) hp (isInstance (.ref x) (.type "BaseException")) true := L0.andThen (looks_subIn X hsub)
  have hx0 : (false && onTheHeap (Value.builtin "BaseException.__getattribute__")) = false := rfl
  have hx2 : (Value.builtin "BaseException.__getattribute__" == Value.builtin "object.__getattribute__") = false := by decide +kernel
  have hx1 : (onTheHeap (Value.ref D) && Value.builtin "BaseException.__getattribute__" == Value.builtin "object.__getattribute__") = false := by rw [hx2]; rfl
  unfold getAttr? getAttrBy? getAttrBy
  refine wpAny_bind (wpAny_mkText (wpAny_bind (wpAny_attempt (wpAny_holding (wpAny_bind (L0.at (wpAny_bind (L1.at ?_))))))))
  show wpAny _ _ (if (onTheHeap (Value.ref D) && Value.builtin "BaseException.__getattribute__" == Value.builtin "object.__getattribute__") = true then _ else _) _ _ _
  rw [hx1, if_neg Bool.false_ne_true]
  unfold getAttrByItsOwn hookBefore
  refine wpAny_bind ?_
  rw [if_pos (show onTheHeap (Value.ref D) = true from rfl)]
  refine L2.at ?_
  refine wpAny_bind (wpAny_attempt (wpAny_holding ?_))
  unfold callGetattribute
  rw [hx0, if_neg Bool.false_ne_true]
  unfold boundAndCalled
  rw [PySem.F.excAttr_ValueError.ga.bind (.ref x)]
  refine wpAny_bind (wpAny_pure ?_)
  show wpAny _ _ (call (.builtin "BaseException.__getattribute__") [.ref x, .str "__class__" t]) _ _ _
  refine wpAny_call (codeAny_call_builtin PySem.F.excAttr_ValueError.ga.plain PySem.F.entry_bexc_ga ?_)
  refine @check_slot (model prog w) _ _ ⟨hp, g, d, t + 1, os⟩ "BaseException.__getattribute__" "BaseException" "__getattribute__" (.ref x) [.str "__class__" t] [] _ (by decide +kernel) (by decide +kernel) sub (PySem.F.args_bexc_ga (.ref x) (.str "__class__" t)) ?_
  unfold Builtin.«object.__getattribute__»
  refine wpAny_bind (wpAny_of_eq (a := ((Value.ref x : Value), [Value.str "__class__" t])) (by first | rfl | (simp only [slotArgs]; rfl)) ?_)
  refine wpAny_bind (wpAny_pure (wpAny_bind (L0.at (wpAny_bind (L3.at ?_)))))
  show wpAny _ _ (holding [Value.builtin "object.__class__"] (call (.builtin "getset_descriptor.__get__") [.builtin "object.__class__", .ref x, .ref D]) >>= ret) _ _ _
  refine wpAny_bind (wpAny_holding (wpAny_call (class_get (s := ⟨hp, g, d, t + 1, os⟩) (ox := ox) (od := od) X I hm ?_)))
  refine wpAny_pure ?_
  show wpAny _ _ (handedOut (.ref D)) _ _ _
  rw [handedOut_of (v := .ref D) rfl]
  first
    | exact wpAny_pure (wpAny_pure h)
    | exact wpAny_pure h
    | exact wpAny_pure (wpAny_bind (wpAny_pure (wpAny_pure h)))
theorem kitx_exc (od : Option Obj) (hga : findIn K (.ref D) "__getattribute__" = some (some (.builtin "BaseException.__getattribute__"))) (hgt : findIn K (.ref D) "__getattr__" = some none) (hsub : subIn K (.ref D) (.type "BaseException") = some true) (hdct : hasDictIn K D = true) (ha : findIn K (.ref D) "__class__" = some (some (.builtin "object.__class__")))
    (hn : specialIn K (.builtin "object.__class__") "__get__" = some (some (.builtin "getset_descriptor.__get__"))) (htk : takesIn K (.builtin "object.__class__") = some true) (hm : mroIn K D (.type "object") = some true) :
    KitX K (.ref x) (.ref D) (fun h => InstAt h x ox D od) where
  ty := fun _ _ _ I => I.type
  it := fun _ _ X _ => by
    obtain ⟨cdD, hcD, _⟩ := any_some hdct
    unfold clsIn at hcD
    split at hcD
    · rename_i c' d' cd' sl' ho
      intro A' Q' E' s' k q
      unfold isType loadHead
      exact wpAny_bind (wpAny_loadPart (k _ _ (X _ _ ho)) (wpAny_pure q))
    · cases hcD
  ne := fun h tp dd its n sl X htp => by
    obtain ⟨cdD, hcD, _⟩ := any_some hdct
    refine Bool.eq_false_iff.mpr fun q => ?_
    have e : D = tp := Value.ref.inj (beq_iff_eq.mp q)
    subst e
    unfold clsIn at hcD
    split at hcD
    · rename_i c' d' cd' sl' ho
      have z := (X _ _ ho).symm.trans htp
      cases z
    · cases hcD
  ca := fun X I k => kin_classX hga hgt hsub hdct ha hn htk hm X I k
end
end Vm
namespace Vm
open PySem PySem.Spec PyProof.Rows L2
/-- isinstance(e, c) -/
def rIsX (K : PySem.W.Frag) : List V → Hp → VK → Prop := fun xs H Q => ∃ (a : Addr) (oe : Obj) (Dd : Addr) (c : V) (cv : Value) (b : Bool), xs = [.ref a, c] ∧ H a = some (.frz oe (.own a)) ∧ oe.cls = .ref Dd ∧ (∃ fv : Array Value, oe.data = .fields fv) ∧ (oe.dict = none ∨ ∃ p fs, oe.dict = some p ∧ H p = some (.xd fs)) ∧ ExcC K Dd ∧ ClsV c cv ∧ PySem.W.kitOne K (.ref Dd) cv = some b ∧ Q (.bl b) H
def rIsXT (K : PySem.W.Frag) : List V → Hp → VK → Prop := fun xs H Q => ∃ (a : Addr) (oe : Obj) (Dd tp : Addr) (cs : List V) (us : List Value) (b : Bool), xs = [.ref a, .ref tp] ∧ H a = some (.frz oe (.own a)) ∧ oe.cls = .ref Dd ∧ (∃ fv : Array Value, oe.data = .fields fv) ∧ (oe.dict = none ∨ ∃ p fs, oe.dict = some p ∧ H p = some (.xd fs)) ∧ ExcC K Dd ∧ H tp = some (.tup cs) ∧ Paired ClsV cs us ∧ PySem.W.kitAny K (.ref Dd) us = some b ∧ Q (.bl b) H
theorem instOf {K : PySem.W.Frag} {X : Cx} {pins : List (Addr × Obj)} {σ : L2.St} {H : Hp} {s : Shared} {a Dd : Addr} {oe : Obj} (I : Inv X pins σ H s) (h1 : H a = some (.frz oe (.own a))) (h2 : oe.cls = .ref Dd) (h3 : ∃ fv : Array Value, oe.data = .fields fv) (h4 : oe.dict = none ∨ ∃ p fs, oe.dict = some p ∧ H p = some (.xd fs)) : ∃ od, PySem.W.InstAt s.heap a oe Dd od := by
  obtain ⟨hget, _⟩ := (show ObjOk X.prog X.w H s.heap a (.frz oe (.own a)) from I.hok a _ h1)
  obtain ⟨fv, hv⟩ := h3
  obtain ⟨oc, od, oda, osl⟩ := oe
  dsimp only at h2 hv
  subst h2 hv
  rcases h4 with h4 | ⟨p, fs, e1, e2⟩
  · dsimp only at h4
    subst h4
    exact ⟨none, hget, rfl, rfl, trivial⟩
  · dsimp only at e1
    subst e1
    obtain ⟨mA, ⟨o, es, ep, ho, _⟩, _⟩ := (show ObjOk X.prog X.w H s.heap p (.xd fs) from I.hok p _ e2)
    exact ⟨some o, hget, rfl, rfl, ho⟩
section
variable {X : Cx}
theorem call_isX : CallR X (.builtin "isinstance") (rIsX X.K) := by
  intro pins s σ H xs us Q I r h
  obtain ⟨a, oe, Dd, c, cv, b, rfl, h1, h2, h3, h4, C, k, e, q⟩ := h
  obtain ⟨u1, u2, rfl, r1, r2⟩ := vals2 r
  cases (show u1 = Value.ref a from r1)
  have e2 := k.eq r2
  subst e2
  obtain ⟨odx, J⟩ := instOf (K := X.K) I h1 h2 h3 h4
  exact PySem.W.kia_one (kitx_exc odx C.hg C.hk C.hs C.hd C.ha C.hn C.ht C.hm) I.kIn J e (fun z => nomatch z) fun tk => ⟨.bl b, H, I.tok tk, rfl, q⟩
theorem call_isXT : CallR X (.builtin "isinstance") (rIsXT X.K) := by
  intro pins s σ H xs us Q I r h
  obtain ⟨a, oe, Dd, tp, cs, ws, b, rfl, h1, h2, h3, h4, C, hT, k, e, q⟩ := h
  obtain ⟨u1, u2, rfl, r1, r2⟩ := vals2 r
  cases (show u1 = Value.ref a from r1)
  cases (show u2 = Value.ref tp from r2)
  obtain ⟨odx, J⟩ := instOf (K := X.K) I h1 h2 h3 h4
  obtain ⟨_, its, rv, o, g1, g2, n, g3⟩ := (show ObjOk X.prog X.w H s.heap tp (.tup cs) from I.hok tp _ hT)
  have e3 := ClsV.all k rv
  subst e3
  obtain ⟨oc, od, dt, sl⟩ := o
  simp only at g2 g3
  subst g2 g3
  exact PySem.W.kia_tup (kitx_exc odx C.hg C.hk C.hs C.hd C.ha C.hn C.ht C.hm) I.kIn J g1 e (fun z => nomatch z) fun tk => ⟨.bl b, H, I.tok tk, rfl, q⟩
end
/-- a class of one's own that is an exception -/
structure XcOk (G : GC) (x : Str) : Prop where
  glo : G.mg.m x = some (.ref (He.ga G.K x))
  exc : ExcC G.K (He.ga G.K x)
def isXt (tab : List (Str × Bool)) : D → Option D
  | .exn c _ _ => (tab.lookup c).map .bl
  | _ => none
def fIsX (tab : List (Str × Bool)) (f : M D) : M D := fun r => (f r).bind fun d => rM (isXt tab d)
section
variable {fa : List He.Fa} {fn : List He.DefD} {cs : List (Str × D)} {G : GC} {N : List Str} {S : SC} {ms : Ms} {e e2 : Expr} {es : List Expr} {f : M D} {p p2 pos : Pos} {x y : Str} {kk : Nat}
theorem Ye.xc (Y : Ye fa fn cs G) (i j : Nat) (h : cs[i]? = some (x, .exn "exc" [] []) := by rfl) (hj : fa[j]? = some (.glo x) := by rfl) : XcOk G x := by
  obtain ⟨h0, X, Nn⟩ := Y.h
  have c := Y.xf i h
  have c : excB G.K (He.ga G.K x) = true := by
    unfold xfB at c
    rw [if_pos rfl] at c
    exact c
  obtain ⟨c1, c⟩ := He.ba c
  obtain ⟨c2, c⟩ := He.ba c
  obtain ⟨c3, c⟩ := He.ba c
  obtain ⟨c4, c⟩ := He.ba c
  obtain ⟨c5, c⟩ := He.ba c
  obtain ⟨c6, c⟩ := He.ba c
  obtain ⟨c7, c8⟩ := He.ba c
  exact ⟨He.glo_ok X Nn (Y.fact j hj), ⟨of_decide_eq_true c1, of_decide_eq_true c2, of_decide_eq_true c3, c4, of_decide_eq_true c5, of_decide_eq_true c6, of_decide_eq_true c7, of_decide_eq_true c8⟩⟩
theorem Ye.isa (Y : Ye fa fn cs G) (i j : Nat) {ns : List Str} {vs : List D} {b : Bool} (h : cs[i]? = some (x, .exn "isa" ns vs)) (hj : (ns.zip vs)[j]? = some (y, .bl b)) : PySem.W.kitOne G.K (.ref (He.ga G.K x)) (.ref (He.ga G.K y)) = some b := by
  have c := Y.xf i h
  unfold xfB at c
  rw [if_neg (by decide), if_pos rfl] at c
  have := List.all_eq_true.mp c _ (List.mem_of_getElem? hj)
  exact of_decide_eq_true this
theorem Ye.ve (Y : Ye fa fn cs G) (i : Nat) (h : cs[i]? = some (x, .exn "ve" [] []) := by rfl) : PySem.W.kitOne G.K (.ref (He.ga G.K x)) (.type "ValueError") = some true := by
  have c := Y.xf i h
  unfold xfB at c
  rw [if_neg (by decide), if_neg (by decide), if_pos rfl] at c
  exact of_decide_eq_true c
theorem lookup_mem {tab : List (Str × Bool)} {c : Str} {b : Bool} (h : tab.lookup c = some b) : (c, b) ∈ tab := PySem.mem_of_lookup h
theorem exn_at {H0 H : Hp} {n : Str} {ns : List Str} {vs : List D} {v : V} (s : Same H0 H) (X : XcOk G n) (h : Fz G.K G.mg H0 (.exn n ns vs) v) : ∃ a oe, v = .ref a ∧ H a = some (.frz oe (.own a)) ∧ oe.cls = .ref (He.ga G.K n) ∧ (∃ fv : Array Value, oe.data = .fields fv) ∧ (oe.dict = none ∨ ∃ p fs, oe.dict = some p ∧ H p = some (.xd fs)) := by
  obtain ⟨a, ws, e, ⟨C, oe, h1, h2, h3, ⟨fv, h4, _⟩, h5⟩, r⟩ := h
  rw [X.glo] at h1
  cases h1
  refine ⟨a, oe, e, s _ _ h2, h3, ⟨fv, h4⟩, ?_⟩
  rcases h5 with ⟨_, _, z⟩ | ⟨q, fs, e1, e2, _⟩
  · exact .inl z
  · exact .inr ⟨q, fs, e1, s _ _ e2⟩
theorem VO.isX {c : V} {cv : Value} (tab : List (Str × Bool)) (he : VO G N S .z ms e f) (h2 : ∀ R, At G.mg.hx S N (mkX G N R) → PE (mkX G N R) e2 (tC c)) (k : ClsV c cv) (ht : ∀ q ∈ tab, XcOk G q.1 ∧ PySem.W.kitOne G.K (.ref (He.ga G.K q.1)) cv = some q.2) (hm : G.mg.m "isinstance" = none) (hg : Glb S "isinstance" := by rfl)
    (hs : ∀ env, starEach [e, e2] env = (false, eval e env) :: starEach [e2] env := by intro _; rfl) (hs2 : ∀ env, starEach [e2] env = [(false, eval e2 env)] := by intro _; rfl) :
    VO G N S .z ms (.Call (.Name "isinstance" p) [e, e2] [] pos) (fIsX tab f) := by
  refine fun R a W t => (pe_callB call_isX (a.gl hg) hm (by decide +kernel) (pa_cons (he R a W t) (pa_cons (h2 R a) pa_nil (hs2 _)) (hs _)) (he := hs _) (hpl := by rw [hs2]; rfl)).imp fun σ H Q ⟨ρ, H0, co, l, o⟩ => ?_
  refine ⟨ρ, H0, co, l, (Out.bind (G := FO G.K G.mg .z ms) (ms1 := ms) back_FO o fun i e => e).imp fun x H1 ⟨d, H01, c1, ρ1, e1, s1, l1, ⟨fp, ow, _⟩, h1⟩ => ?_⟩
  have fz := (Ow.zero.mp ow).2
  cases d <;> first | exact h1.elim | skip
  rename_i n ns vs
  cases hl : tab.lookup n with
  | none =>
    have h1' : Out G.K G.mg W (FO G.K G.mg .z ms) ms H01 H1 c1 σ (rM ((tab.lookup n).map D.bl) ρ1) Q := h1
    rw [hl] at h1'; exact h1'.elim
  | some b =>
    have h1' : Out G.K G.mg W (FO G.K G.mg .z ms) ms H01 H1 c1 σ (rM ((tab.lookup n).map D.bl) ρ1) Q := h1
    rw [hl] at h1'
    obtain ⟨X, kk⟩ := ht _ (lookup_mem hl)
    obtain ⟨a, oe, ev, g1, g2, g3, g4⟩ := exn_at l1.sub X fz
    subst ev
    exact ⟨a, oe, He.ga G.K n, c, cv, b, rfl, g1, g2, g3, g4, X.exc, k, kk, h1'.here l1 rfl⟩
theorem VO.isXT {cs : List V} {us : List Value} (tab : List (Str × Bool)) (he : VO G N S .z ms e f) (h2 : ∀ R, At G.mg.hx S N (mkX G N R) → PA (mkX G N R) es (fun _ H Q => Q cs H)) (k : Paired ClsV cs us) (ht : ∀ q ∈ tab, XcOk G q.1 ∧ PySem.W.kitAny G.K (.ref (He.ga G.K q.1)) us = some q.2) (hm : G.mg.m "isinstance" = none) (hlen0 : decide (cs.length ≤ 1000) = true := by rfl) (hg : Glb S "isinstance" := by rfl)
    (hs : ∀ env, starEach [e, .Tuple es kk p2] env = (false, eval e env) :: starEach [.Tuple es kk p2] env := by intro _; rfl) (hs2 : ∀ env, starEach [.Tuple es kk p2] env = [(false, eval (.Tuple es kk p2) env)] := by intro _; rfl) :
    VO G N S .z ms (.Call (.Name "isinstance" p) [e, .Tuple es kk p2] [] pos) (fIsX tab f) := by
  have hlen : cs.length ≤ 1000 := of_decide_eq_true hlen0
  refine fun R a W t => (pe_callB call_isXT (a.gl hg) hm (by decide +kernel) (pa_cons (he R a W t) (pa_cons (pe_tup (h2 R a)) pa_nil (hs2 _)) (hs _)) (he := hs _) (hpl := by rw [hs2]; rfl)).imp fun σ H Q ⟨ρ, H0, co, l, o⟩ => ?_
  refine ⟨ρ, H0, co, l, (Out.bind (G := FO G.K G.mg .z ms) (ms1 := ms) back_FO o fun i e => e).imp fun x H1 ⟨d, H01, c1, ρ1, e1, s1, l1, ⟨fp, ow, _⟩, h1⟩ => ?_⟩
  have fz := (Ow.zero.mp ow).2
  cases d <;> first | exact h1.elim | skip
  rename_i n ns vs
  refine ⟨by rw [sizeLine_eq]; omega, fun tp htp => ?_⟩
  cases hl : tab.lookup n with
  | none =>
    have h1' : Out G.K G.mg W (FO G.K G.mg .z ms) ms H01 H1 c1 σ (rM ((tab.lookup n).map D.bl) ρ1) Q := h1
    rw [hl] at h1'; exact h1'.elim
  | some b =>
    have h1' : Out G.K G.mg W (FO G.K G.mg .z ms) ms H01 H1 c1 σ (rM ((tab.lookup n).map D.bl) ρ1) Q := h1
    rw [hl] at h1'
    obtain ⟨X, kk⟩ := ht _ (lookup_mem hl)
    have sm : Same H1 (upd H1 tp (.tup cs)) := same_upd0 htp
    obtain ⟨a, oe, ev, g1, g2, g3, g4⟩ := exn_at (l1.sub.trans sm) X fz
    subst ev
    exact ⟨a, oe, He.ga G.K n, tp, cs, us, b, rfl, g1, g2, g3, g4, X.exc, upd_same, k, kk, h1' (.bl b) H01 _ c1 (.new htp) (l1.upd_new htp) (ow_zero_fo rfl)⟩
end
end Vm
set_option Elab.async false
set_option linter.all false
set_option maxRecDepth 100000
set_option maxHeartbeats 4000000
/-! list comprehensions where an exception is handled, by data -/
namespace Vm
open PySem PySem.Spec PyProof.Rows L2
theorem PIX.imp {X : Cx} {tg e : Expr} {t t' : TI} (h : PIX X tg e t) (q : ∀ σ H Q, t' σ H Q → t σ H Q) : PIX X tg e t' := ⟨fun pins s σ H Q I z => h.run pins s σ H Q I (q σ H Q z)⟩
abbrev VIX (G : GC) (N : List Str) (S : SC) (bs ms : Ms) (tg e : Expr) (f : M (List D)) : Prop := VE G N S (fun X t => PIX X tg e t) (FI G.K G.mg bs) ms f
section
variable {G : GC} {N : List Str} {S : SC} {bs bs1 bs2 ms ms1 ms2 ms3 as as1 as2 : Ms} {m me rm : Md} {k : Kd} {e a b : Expr} {es : List Expr} {f fa fb : M D} {fs : M (List D)} {pos : Pos}
theorem VIX.lst {tg : Expr} (h : VB G N S bs ms e f) : VIX G N S bs ms tg e (iLst f) := by
  refine fun R a W t => PIX.imp (pi_listX (pe_small (h R a W t))) fun σ H Q ⟨ρ, H0, c, l, o⟩ => ?_
  refine ⟨ρ, H0, c, l, (Out.bind (G := FB G.K G.mg bs) (ms1 := ms) back_FI o fun i e => e).imp fun x H1 ⟨d, H01, c1, ρ1, e1, s1, l1, b1, h1⟩ hs => ?_⟩
  cases d with
  | lst ds =>
    obtain ⟨b, e, q, fi⟩ := FI.lst (Hh := H1) (cc := c1) l1.sub b1 (.inl ⟨ds, rfl, rfl⟩) hs
    exact ⟨b, e, q, h1 _ H01 H1 c1 .refl l1 fi⟩
  | scr ns =>
    obtain ⟨b, e, q, fi⟩ := FI.lst (Hh := H1) (cc := c1) l1.sub b1 (.inr ⟨ns, rfl, rfl⟩) hs
    exact ⟨b, e, q, h1 _ H01 H1 c1 .refl l1 fi⟩
  | _ => exact h1.elim
theorem VO.lcH {tg iter : Expr} {ifs : List Expr} {scope : Scope} {fi : M (List D)} {gt : D → M Fl} {ft fe : M D} (own : List (Str × Nat)) (hi : VIX G N S bs ms1 tg iter fi) (hg : VG G N (blkS S scope) as tg gt) (ht : VTs G N (blkS S scope) ms2 ifs ft) (he : VO G N (blkS S scope) me ms3 e fe)
    (dj : Dj bs (msU as (msU ms2 ms3)) := by intro i h; first | rfl | exact absurd h Bool.false_ne_true | (simp [lentM] at h ⊢ <;> omega)) (hc : S.cm = false := by rfl) (hb : blkC N S.sc scope own = true := by decide +kernel) (ho : ∀ i, as i = true → i ∈ own.map (·.2) := by intro i h; simpa using h) (hs : ∀ env x, foldedSetIterable iter env x = pure x := by intro _ _; rfl) :
    VO G N S (.o (.all me)) (msU ms1 (msU as (msU ms2 ms3))) (.ListComp e [⟨tg, iter, ifs, 0⟩] scope pos) (fLc (own.map (·.2)) fi gt ft fe) := by
  refine fun R a W t => ?_
  have ok : BlkOk (mkX G N R).N (mkX G N R).env.scope scope own := by
    rw [show (mkX G N R).env.scope = S.sc from a.sc]
    exact blkOk_by hb
  refine (pe_lcX (X := mkX G N R) (own := own) a.nd (hi R a W t) ok (g := tG G.K G.mg as gt) (tt := tR G.K G.mg WNo FT ms2 ft) (te := tR G.K G.mg WNo (FO G.K G.mg me ms3) ms3 fe)
    (fun s H C cl fp => ?_) (fun s H C cl fp => ?_) (fun s H C cl fp => ?_) (hs _)).imp fun σ H Q ⟨ρ, H0, c, l, o⟩ => ?_
  · obtain ⟨R', e1, a'⟩ := a.blk scope s H C cl fp
    rw [e1]; exact hg R' a'
  · obtain ⟨R', e1, a'⟩ := a.blk scope s H C cl fp
    rw [e1]; exact ht R' a' _ takes_no
  · obtain ⟨R', e1, a'⟩ := a.blk scope s H C cl fp
    rw [e1]; exact he R' a' _ takes_no
  generalize hO : own.map (·.2) = ow at ho o ⊢
  generalize hL : msU ms1 (msU as (msU ms2 ms3)) = L at o
  have iL1 : ∀ i, ms1 i = true → L i = true := fun i e => by rw [← hL]; exact or_l e
  have iLa : ∀ i, as i = true → L i = true := fun i e => by rw [← hL]; exact or_r (or_l e)
  have iL2 : ∀ i, ms2 i = true → L i = true := fun i e => by rw [← hL]; exact or_r (or_r (or_l e))
  have iL3 : ∀ i, ms3 i = true → L i = true := fun i e => by rw [← hL]; exact or_r (or_r (or_r e))
  have dja : Dj bs as := fun i h => (Bool.or_eq_false_iff.mp (dj i h)).1
  have dj2 : Dj bs ms2 := fun i h => (Bool.or_eq_false_iff.mp (Bool.or_eq_false_iff.mp (dj i h)).2).1
  have dj3 : Dj bs ms3 := fun i h => (Bool.or_eq_false_iff.mp (Bool.or_eq_false_iff.mp (dj i h)).2).2
  have dj0 : Dj bs ms0 := fun i h => rfl
  refine ⟨ρ, H0, c, l, (Out.bind (G := FI G.K G.mg bs) (ms1 := ms1) back_FO o iL1).imp fun J H1 ⟨ds, H01, c1, ρ1, e1, s1, l1, ⟨hlen, P, p1, sP, hJ⟩, o1⟩ B hD => ?_⟩
  have f0 : LcF G.K G.mg me L P H01 H1 c1 B [] [] [] H01 (upd H1 B (.lst [])) c1 := ⟨.new hD, upd_same, l1.nc hD, l1.n0 hD, ⟨rfl, rfl⟩, .nil, by simp, sP.run ms0 H01 H1 c1 H01 _ c1 dj0 p1 (.new hD)⟩
  refine ⟨fun i n H => n = ds.length - i ∧ i ≤ ds.length ∧ ∃ ρ H0 c acc g done, Lies G.K G.mg H0 H c (L2.wipe σ ow) ρ ∧ LcF G.K G.mg me L P H01 H1 c1 B done acc g H0 H c ∧ done.length ≤ i ∧
      Out G.K G.mg W (FO G.K G.mg (.o (.all me)) L) L H01 H1 c1 σ ((gLc ow gt ft fe (ds.drop i) ρ).bind fun ys r => .ok (.lst (done ++ ys)) (restE ρ1 ow r)) Q,
    ⟨ds.length, rfl, Nat.zero_le _, wipeE ow ρ1, H01, c1, [], [], [], (l1.upd_new hD).wipe ow, f0, Nat.zero_le _, o1⟩, ?_⟩
  rintro i n H ⟨em, hi, ρ, H0, c, acc, g, done, l, F, dl, o⟩
  refine ⟨l.hotT a hc, ?_⟩
  obtain ⟨hgo, hst⟩ := hJ H0 H c F.st.grow l.sub F.pH
  by_cases hlt : i < ds.length
  · have ed : ds.drop i = ds[i] :: ds.drop (i + 1) := List.drop_eq_getElem_cons hlt
    rw [ed] at o
    unfold gLc at o
    obtain ⟨go, step⟩ := hgo i ds[i] (List.getElem?_eq_getElem hlt)
    refine .inr ⟨go, fun H => ∃ ρ H0 c acc g done, Lies G.K G.mg H0 H c (L2.wipe σ ow) ρ ∧ LcF G.K G.mg me L P H01 H1 c1 B done acc g H0 H c ∧ done.length ≤ i + 1 ∧
      Out G.K G.mg W (FO G.K G.mg (.o (.all me)) L) L H01 H1 c1 σ ((gLc ow gt ft fe (ds.drop (i + 1)) ρ).bind fun ys r => .ok (.lst (done ++ ys)) (restE ρ1 ow r)) Q, fun H' h => ⟨ds.length - (i + 1), by omega, rfl, hlt, h⟩, fun x H' hy => ?_⟩
    obtain ⟨H0', k1, k2, k3, k4, fz⟩ := step x H' hy
    have l' := l.grow k1 k2 k3 k4
    have gr : Step ms0 H0 H c H0' H' c := Step.growth k1 k2 k4
    have F' := F.adv gr (fun i e => by cases e) dj0 sP
    refine ⟨WNo, { nx := fun σ2 H2 => ∃ ρ2 H02 c2, Lies G.K G.mg H02 H2 c2 σ2 ρ2 ∧ LcF G.K G.mg me L P H01 H1 c1 B done acc g H02 H2 c2 ∧ Agr as (L2.wipe σ ow) σ2 ∧  Out G.K G.mg W (FO G.K G.mg (.o (.all me)) L) L H01 H1 c1 σ (((Vm.noX (ft ρ2)).bind (lcT ow fe (gLc ow gt ft fe (ds.drop (i + 1))))).bind fun ys r => .ok (.lst (done ++ ys)) (restE ρ1 ow r)) Q, bk := fun _ _ => True, ct := fun _ _ => True, rt := fun _ _ => True }, .z, ρ, H0', c, ds[i], l', fz, ?_, ?_⟩
    · cases hh : gt ds[i] ρ with
      | ok fl r =>
        rw [hh, noX_ok, bind_ok] at o
        cases fl with
        | nx => exact fun σ2 H02 H2 c2 t l2 a2 => ⟨r, H02, c2, l2, F'.adv t iLa dja sP, a2, o⟩
        | bk => exact fun _ _ _ _ _ _ _ => trivial
        | ct => exact fun _ _ _ _ _ _ _ => trivial
        | rt d => exact fun _ _ _ _ _ _ _ _ _ => trivial
      | exc n ns vs r => rw [hh, noX_exc, bind_bad, bind_bad] at o; exact o.elim
      | bad => rw [hh, noX_bad, bind_bad, bind_bad] at o; exact o.elim
    · rintro σ2 H2 ⟨ρ2, H02, c2, l2, F2, a2, o2⟩
      have hw := wipe_agr a2 ho
      refine ⟨hw, ρ2, H02, c2, l2, ?_⟩
      cases hh : ft ρ2 with
      | exc n ns vs r => rw [hh, noX_exc, bind_bad, bind_bad] at o2; exact o2.elim
      | bad => rw [hh, noX_bad, bind_bad, bind_bad] at o2; exact o2.elim
      | ok d r =>
        rw [hh, noX_ok, bind_ok] at o2
        intro b H03 H3 c3 s3 l3 z
        have z : d = .bl b := z
        subst z
        have F3 := F2.adv s3 iL2 dj2 sP
        cases b with
        | false =>
          rw [if_neg Bool.false_ne_true]
          exact ⟨wipeE ow r, H03, c3, acc, g, done, by rw [← hw]; exact l3.wipe ow, F3, Nat.le_succ_of_le dl, o2⟩
        | true =>
          rw [if_pos rfl]
          refine ⟨r, H03, c3, l3, ?_⟩
          have o3 : Out G.K G.mg W (FO G.K G.mg (.o (.all me)) L) L H01 H1 c1 σ (((Vm.noX (fe r)).bind fun y r => (gLc ow gt ft fe (ds.drop (i + 1)) (wipeE ow r)).bind fun ys r => .ok (y :: ys) r).bind fun ys r => .ok (.lst (done ++ ys)) (restE ρ1 ow r)) Q := o2
          cases hh : fe r with
          | exc n ns vs r => rw [hh, noX_exc, bind_bad, bind_bad] at o3; exact o3.elim
          | bad => rw [hh, noX_bad, bind_bad, bind_bad] at o3; exact o3.elim
          | ok y r2 =>
            rw [hh, noX_ok, bind_ok] at o3
            intro v H04 H4 c4 s4 l4 ⟨fp, oy, fy⟩
            have F4 := F3.adv s4 iL3 dj3 sP
            have dfp : B ∉ fp := fun z => by
              rcases fy.new B z with w | ⟨j, w, _⟩
              · rw [F3.hD] at w; cases w
              · rw [F3.cD] at w; cases w
            refine ⟨acc, F4.hD, ?_, wipeE ow r2, H04, c4, acc ++ [v], g ++ fp, done ++ [y], ?_, ?_, ?_, ?_⟩
            · rw [F4.ow.length, sizeLine_eq]
              have : ds.length ≤ 16777216 := hlen
              omega
            · rw [← hw]; exact (l4.other F4.cD F4.D0).wipe ow
            · refine ⟨F4.st.other hD, upd_same, F4.cD, F4.D0, Ows.snoc (Ows.mono (Same.refl _) done _ acc g (fun b hb => upd_ne fun e => F4.dg (e ▸ hb)) F4.ow) (Ow.mono (Same.refl _) y me v fp (fun b hb => upd_ne fun e => dfp (e ▸ hb)) oy), ?_, ?_, ?_⟩
              · exact Fresh.other (Fresh.app F4.fr F3.fr.there F3.fr.nc fy (fun _ e => e) iL3 F3.st)
              · exact fun h => (List.mem_append.mp h).elim F4.dg dfp
              · exact sP.oth _ _ _ _ F4.cD F4.pH
            · rw [List.length_append]; exact Nat.succ_le_succ dl
            · cases hq : gLc ow gt ft fe (ds.drop (i + 1)) (wipeE ow r2) with
              | ok ys r3 =>
                rw [hq, bind_ok, bind_ok] at o3
                rw [bind_ok, List.append_assoc]
                exact o3
              | exc n ns vs r3 => rw [hq] at o3; exact o3
              | bad => rw [hq] at o3; exact o3
  · have e : i = ds.length := by omega
    subst e
    rw [List.drop_length] at o
    refine .inl ⟨hst, ?_⟩
    have o' : Out G.K G.mg W (FO G.K G.mg (.o (.all me)) L) L H01 H1 c1 σ (.ok (.lst (done ++ [])) (restE ρ1 ow ρ)) Q := o
    rw [List.append_nil] at o'
    refine o' (.ref B) H0 H c F.st (l1.rest l F.st.grow (wipe_length _ _) fun i hi v e => (wipe_some e).1) ⟨B :: g, ⟨B, acc, g, rfl, F.hD, rfl, F.ow⟩, ?_⟩
    refine ⟨List.nodup_cons.mpr ⟨F.dg, F.fr.nd⟩, ?_, ?_, ?_, ?_⟩ <;> intro b hb <;> rcases List.mem_cons.mp hb with z | hb
    · rw [z]; exact F.cD
    · exact F.fr.nc b hb
    · rw [z]; exact F.D0
    · exact F.fr.n0 b hb
    · rw [z]; exact ⟨_, F.hD⟩
    · exact F.fr.there b hb
    · rw [z]; exact .inl hD
    · exact F.fr.new b hb
end
end Vm
set_option Elab.async false
set_option linter.all false
set_option maxRecDepth 100000
set_option maxHeartbeats 4000000
/-! str(i), int(text), startswith, index -/
namespace Vm
open PySem PySem.Spec PyProof.Rows L2 TL
section
variable {G : GC} {N : List Str} {S : SC} {bs bs1 bs2 ms ms1 ms2 ms3 : Ms} {e o : Expr} {es : List Expr} {fo fe : M D} {fs : M (List D)} {p pos apos : Pos}
/-- o.m(e), o a text -/
def fStr2 (o : D → D → Option D) (fo fe : M D) : M D := fun r => (fo r).bind fun x r => match x with
  | .str _ => (fe r).bind fun y => rM (o x y)
  | _ => .bad
end
end Vm
set_option Elab.async false
set_option linter.all false
set_option maxRecDepth 100000
set_option maxHeartbeats 4000000
/-! x = [..] where an exception is handled; tables of classes -/
namespace Vm
open PySem PySem.Spec PyProof.Rows L2
section
variable {X : Cx}
end
section
variable {G : GC} {N : List Str} {S : SC} {bs ms ms1 ms2 ms3 as : Ms} {m me rm : Md} {e : Expr} {pos spos p apos : Pos} {tg iter : Expr} {ifs : List Expr} {scope : Scope} {fi : M (List D)} {gt : D → M Fl} {ft fe fo : M D} {es : List Expr} {fs : M (List D)}
end
section
variable {fa : List He.Fa} {fn : List He.DefD} {cs : List (Str × D)} {G : GC} {x y : Str} {K : PySem.W.Frag} {t c : Value} {r : List Value} {b : Bool}
theorem Ye.glo (Y : Ye fa fn cs G) (j : Nat) (h : fa[j]? = some (.glo x) := by rfl) : G.mg.m x = some (.ref (He.ga G.K x)) := by
  obtain ⟨h0, X, N⟩ := Y.h
  exact He.glo_ok X N (Y.fact j h)
theorem Ye.exm (Y : Ye fa fn cs G) (j : Nat) (h : fa[j]? = some (.exm x y b) := by rfl) : PySem.W.exmOne G.K (.ref (He.ga G.K x)) (.ref (He.ga G.K y)) = some b := He.exm_ok (Y.fact j h)
theorem tab_nil {P : Str × Bool → Prop} : ∀ q ∈ ([] : List (Str × Bool)), P q := fun _ h => nomatch h
theorem tab_cons {P : Str × Bool → Prop} {q0 : Str × Bool} {l : List (Str × Bool)} (h : P q0) (hl : ∀ q ∈ l, P q) : ∀ q ∈ q0 :: l, P q := fun z hz => by
  rcases List.mem_cons.mp hz with e | e
  · rw [e]; exact h
  · exact hl z e
variable {N : List Str} {S : SC} {as1 as2 : Ms} {rm : Md} {n : Str} {pos np pos' : Pos}
theorem VS.tryT {i : Nat} {b₀ : Stmt} {suite body : List Stmt} {gb gs : M Fl} (tab : List (Str × Bool)) (hb : VSs G N S rm as1 body gb) (hs : ∀ a, VSs (G.hot a) N ⟨S.sc, S.fn, S.k, false, S.tp⟩ rm as2 (b₀ :: suite) gs)
    (ht : ∀ q ∈ tab, G.mg.m q.1 = some (.ref (He.ga G.K q.1)) ∧ PySem.W.exmOne G.K (.ref (He.ga G.K q.1)) (.ref (He.ga G.K x)) = some q.2) (hx : G.mg.m x = some (.ref (He.ga G.K x))) (hg : Glb S x := by rfl) (hN : N[i]? = some n := by rfl) (hln : S.sc.names.lookup n = some .local := by rfl) (htp : S.tp = true := by rfl) (hcm : S.cm = true := by rfl) (hdb : (x == ("__debug__" : Str)) = false := by decide) :
    VS G N S rm (msU as1 (msU as2 (msO i))) (.Try body [.ExceptHandler (some (.Name x np)) (some n) (b₀ :: suite) pos'] [] [] pos) (gTry (fun n => tab.lookup n) i gb gs) :=
  VS.try_ (fun n => tab.lookup n) hb hs (fun n b h C hC => by
    obtain ⟨h1, h2⟩ := ht _ (lookup_mem h)
    have h1 : G.mg.m n = some (.ref (He.ga G.K n)) := h1
    rw [hC] at h1
    cases h1
    exact h2) hx hg hN hln htp hcm hdb
end
end Vm
set_option Elab.async false
set_option linter.all false
set_option maxRecDepth 100000
set_option maxHeartbeats 4000000
/-! the readings of suites, applied -/
namespace Vm
open PySem PySem.Spec PyProof.Rows L2
section
variable {α : Type} (s0 : Sl) (r : En) (f fa fb : M D) (fs : M (List D)) (gs gb : M Fl) (i : Nat) (F : M D) (ls : List (Option Nat)) (n : Str) (ns : List Str) (vs : List D)
theorem putBack_none (rp : En) : ∀ (ls : List (Option Nat)) (rp : En), ls.all Option.isNone = true → putBack ls rp r = r
  | [], _, _ => rfl
  | none :: ls, rp, h => by rw [putBack_z]; exact putBack_none rp ls rp.tail (by simpa using h)
  | some _ :: ls, _, h => by simp at h
@[simp high] theorem fCall_ap0 (h : ls.all Option.isNone = true) : fCall F ls fs (s0 :: r) = (fs (s0 :: r)).bind fun ds r => toR r (F (mkArgs ls ds r)) := by
  rw [fCall_ap]
  congr 1
  funext ds r
  cases F (mkArgs ls ds r) with
  | ok d rp => exact congrArg (Res.ok d) (putBack_none r rp ls rp h)
  | exc n ns vs rp => exact congrArg (Res.exc n ns vs) (putBack_none r rp ls rp h)
  | bad => rfl
@[simp] theorem toR_exc (rp : En) : toR r (.exc n ns vs rp) = .exc n ns vs r := rfl
@[simp] theorem toR_bad : toR r .bad = .bad := rfl
@[simp] theorem toR_ite {c : Prop} [Decidable c] {x y : Res D} : toR r (if c then x else y) = if c then toR r x else toR r y := by split <;> rfl
/-- what comes of a call that may not raise -/
def toH (r : En) : Res D → Res D
  | .ok d _ => .ok d r
  | _ => .bad
@[simp] theorem toH_ok (d : D) (rp : En) : toH r (.ok d rp) = .ok d r := rfl
@[simp] theorem fCallH_ap (h : ls.all Option.isNone = true) : fCallH F ls fs (s0 :: r) = (fs (s0 :: r)).bind fun ds r => toH r (F (mkArgs ls ds r)) := by
  show ((fs (s0 :: r)).bind fun ds r => _) = _
  congr 1
  funext ds r
  cases F (mkArgs ls ds r) with
  | ok d rp => exact congrArg (Res.ok d) (putBack_none r rp ls rp h)
  | exc n ns vs rp => rfl
  | bad => rfl
/-- how a suite ends -/
def tryE (i : Nat) : Res Fl → Res Fl
  | .ok fl r => .ok fl (r.set i none)
  | _ => .bad
@[simp] theorem tryE_ok (fl : Fl) : tryE i (.ok fl r) = .ok fl (r.set i none) := rfl
@[simp] theorem tryE_ite {c : Prop} [Decidable c] {x y : Res Fl} : tryE i (if c then x else y) = if c then tryE i x else tryE i y := by split <;> rfl
def tryX (sub : Str → Option Bool) (i : Nat) (gs : M Fl) : Res Fl → Res Fl
  | .ok fl r => .ok fl r
  | .exc n ns vs r => match sub n with
    | some true => tryE i (gs (r.set i (some (.z, .exn n ns vs))))
    | some false => .exc n ns vs r
    | none => .bad
  | .bad => .bad
@[simp] theorem gTry_ap (sub : Str → Option Bool) : gTry sub i gb gs (s0 :: r) = tryX sub i gs (gb (s0 :: r)) := by
  unfold gTry tryX
  cases gb (s0 :: r) with
  | ok fl r => rfl
  | bad => rfl
  | exc n ns vs r =>
    dsimp only
    cases sub n with
    | none => rfl
    | some b => cases b with
      | false => rfl
      | true =>
        dsimp only
        unfold tryE
        split <;> rename_i h <;> simp [h]
@[simp] theorem tryX_ok (sub : Str → Option Bool) (fl : Fl) : tryX sub i gs (.ok fl r) = .ok fl r := rfl
@[simp] theorem tryX_ite (sub : Str → Option Bool) {c : Prop} [Decidable c] {x y : Res Fl} : tryX sub i gs (if c then x else y) = if c then tryX sub i gs x else tryX sub i gs y := by split <;> rfl
@[simp] theorem gRaise_ap : gRaise n (s0 :: r) = .exc n [] [] (s0 :: r) := rfl
@[simp] theorem fIsX_ap (tab : List (Str × Bool)) : fIsX tab f (s0 :: r) = (f (s0 :: r)).bind fun d r => rM (isXt tab d) r := rfl
@[simp] theorem isXt_exn (tab : List (Str × Bool)) : isXt tab (.exn n ns vs) = (tab.lookup n).map .bl := rfl
/-- a text goes on -/
def onS (k : M α) (d : D) : M α := fun r => match d with
  | .str _ => k r
  | _ => .bad
@[simp] theorem onS_str (k : M α) (s : List Nat) : onS k (.str s) r = k r := rfl
@[simp] theorem fStr2_ap (o : D → D → Option D) : fStr2 o fa fb (s0 :: r) = (fa (s0 :: r)).bind fun x r => onS (fun r => (fb r).bind fun y r => rM (o x y) r) x r := by
  unfold fStr2
  congr 1
end
@[simp] theorem onR_ite (io : List Bool) {c : Prop} [Decidable c] {x y : Res Fl} : onR io (if c then x else y) = if c then onR io x else onR io y := by split <;> rfl
@[simp] theorem oIs_n (d : D) : oIs d .non = some (.bl (isNon d)) := rfl
@[simp] theorem oIsNot_n (d : D) : oIsNot d .non = some (.bl (!isNon d)) := rfl
@[simp] theorem isNon_non : isNon .non = true := rfl
@[simp] theorem isNon_bl (b : Bool) : isNon (.bl b) = false := rfl
@[simp] theorem isNon_int (b : Int) : isNon (.int b) = false := rfl
@[simp] theorem isNon_str (b : List Nat) : isNon (.str b) = false := rfl
@[simp] theorem isNon_tup (b : List D) : isNon (.tup b) = false := rfl
@[simp] theorem isNon_lst (b : List D) : isNon (.lst b) = false := rfl
@[simp] theorem isNon_dct (b c : List D) : isNon (.dct b c) = false := rfl
@[simp] theorem isNon_ins (n : Str) (b : List Str) (c : List D) : isNon (.ins n b c) = false := rfl
@[simp] theorem max2_int (i j : Int) : oMaxH oMax2 [.int i, .int j] = some (.int (if i < j then j else i)) := by
  have e : maxOk (.int i) (.int j) = true := rfl
  show (if true = true then oMax2 [.int i, .int j] else none) = _
  rw [if_pos rfl]
  unfold oMax2
  dsimp only
  rw [if_pos e, ltD_int]
  by_cases h : i < j <;> simp [h]
@[simp] theorem min2_int (i j : Int) : oMaxH oMin2 [.int i, .int j] = some (.int (if j < i then j else i)) := by
  have e : maxOk (.int i) (.int j) = true := rfl
  show (if true = true then oMin2 [.int i, .int j] else none) = _
  rw [if_pos rfl]
  unfold oMin2
  dsimp only
  rw [if_pos e, ltD_int]
  by_cases h : j < i <;> simp [h]
end Vm
set_option Elab.async false
set_option linter.all false
set_option maxRecDepth 100000
set_option maxHeartbeats 4000000
/-! defs by their depth, defs without arguments, joined texts -/
namespace Vm
open PySem PySem.Spec PyProof.Rows L2 TL
section
variable {G : GC} {N : List Str} {S : SC} {bs bs1 bs2 ms ms1 ms2 as : Ms} {m rm : Md} {k : Nat} {e o : Expr} {es : List Expr} {fo fe : M D} {fs : M (List D)} {pos p apos : Pos} {F : M D} {f : Addr} {fd : FuncData} {ps : List Str} {x : Str} {st : List Stmt}
theorem VSs.bad : VSs G N S rm ms0 st gBad := fun R a W t => ⟨fun pins s σ H D I ⟨ρ, H0, c, l, o⟩ => o.elim⟩
/-- a def that isn't followed -/
def fnBad : M D := fun _ => .bad
@[simp] theorem fnBad_ap (r : En) : fnBad r = .bad := rfl
/-! ### a text's join -/
def oJoin (x y : D) : Option D := match x with
  | .str a => (match y with
    | .lst ds => txts ds
    | .tup ds => txts ds
    | _ => none).bind fun ls => if (ls.map List.length).sum + ls.length * a.length ≤ 16777216 ∧ sOk (joinL a ls) = true then some (.str (joinL a ls)) else none
  | _ => none
theorem join_toS (a : List Nat) (ls : List (List Nat)) : Txt.join (toS a) (ls.map toS) = toS (joinL a ls) := by
  rw [join_eq]
  have h := tl_join (toS a) (ls.map toS)
  have h1 : tl (toS a) = a := by show (a.toArray).toList = a; simp
  have h2 : (ls.map toS).map tl = ls := by
    rw [List.map_map]
    conv => rhs; rw [← List.map_id ls]
    refine List.map_congr_left fun s _ => ?_
    show (s.toArray).toList = s
    simp
  rw [h1, h2] at h
  generalize Str.join (toS a) (ls.map toS) = z at h
  obtain ⟨⟨z⟩⟩ := z
  have h : z = joinL a ls := h
  rw [h]
theorem VO.smethS {id : String} {nm : Str} {r : V → List V → Hp → VK → Prop} {oo : D → D → Option D} (slot : Slot "str" nm id) (hty : typeOf (.builtin id) = pure (.type "method_descriptor")) (hmt : ∀ X : Cx, X.K = G.K → MtR X id r)
    (hr : ∀ (a : List Nat) (y : D) (v : V) (d : D) (H0 H : Hp) (Q : VK), Same H0 H → Fz G.K G.mg H0 y v → oo (.str a) y = some d → (∀ x, Fz G.K G.mg H0 d x → Q x H) → r (sV a) [v] H Q)
    (ho : VO G N S .z ms1 o fo) (he : VO G N S .z ms2 e fe) (hbase : ∀ env, attributeBase o nm env (eval o env) = eval o env := by intro _; rfl) (hline : (apos.endLine == pos.line) = true := by rfl) (hst : ∀ env, starEach [e] env = [(false, eval e env)] := by intro _; rfl)
    (hfew : ∀ env, ((backTo pos (starEach [e] env)).all (fun x => !x.1) && (backToKw pos (keywordEach [] env)).all (fun x => x.1.isSome) && decide (([e] : List Expr).length + ([] : List Keyword).length + (if ([] : List Keyword).isEmpty then 0 else 1) < 30)) = true := by intro _; rfl) :
    VO G N S .z (msU ms1 ms2) (.Call (.Attribute o nm apos) [e] [] pos) (fStr2 oo fo fe) := by
  refine fun R a W t => (pe_bm PySem.F.plainAttrs_str slot hty (hmt _ rfl) (ho R a W t) (pa_cons (he R a W t) pa_nil (hst _)) (hbase _) (hfew _) hline ((hst _).trans rfl) rfl).imp fun σ H Q ⟨ρ, H0, c, l, q⟩ => ?_
  refine ⟨ρ, H0, c, l, (Out.bind (G := FO G.K G.mg .z ms1) (ms1 := ms1) back_FO q fun i e => or_l e).imp fun x H1 ⟨d1, H01, c1, ρ1, e1, s1, l1, ⟨fp1, o1, _⟩, h1⟩ => ?_⟩
  have f1 := (Ow.zero.mp o1).2
  cases d1 <;> first | exact h1.elim | skip
  rename_i w
  have ex : x = sV w := f1.1
  subst ex
  refine ⟨rfl, ρ1, H01, c1, l1, (Out.bind (G := FO G.K G.mg .z ms2) (ms1 := ms2) back_FO h1 fun i e => or_r e).imp fun y H2 ⟨d2, H02, c2, ρ2, e2, s2, l2, ⟨fp2, o2, _⟩, h2⟩ => ?_⟩
  have f2 := (Ow.zero.mp o2).2
  cases hd : oo (.str w) d2 with
  | none => rw [hd] at h2; exact h2.elim
  | some d =>
    rw [hd] at h2
    exact hr w d2 y d H02 H2 Q l2.sub f2 hd fun z fz => h2 z H02 H2 c2 .refl l2 (ow_zero_fo fz)
theorem VO.join (ho : VO G N S .z ms1 o fo) (he : VO G N S .z ms2 e fe) (hbase : ∀ env, attributeBase o "join" env (eval o env) = eval o env := by intro _; rfl) (hline : (apos.endLine == pos.line) = true := by rfl) (hst : ∀ env, starEach [e] env = [(false, eval e env)] := by intro _; rfl)
    (hfew : ∀ env, ((backTo pos (starEach [e] env)).all (fun x => !x.1) && (backToKw pos (keywordEach [] env)).all (fun x => x.1.isSome) && decide (([e] : List Expr).length + ([] : List Keyword).length + (if ([] : List Keyword).isEmpty then 0 else 1) < 30)) = true := by intro _; rfl) :
    VO G N S .z (msU ms1 ms2) (.Call (.Attribute o "join" apos) [e] [] pos) (fStr2 oJoin fo fe) :=
  VO.smethS (r := fun x xs H Q => ∃ a p, ∃ ys : List Str, x = .str a ∧ xs = [.ref p] ∧ (SqL G.K H p (ys.map V.str) ∨ SqT G.K H p (ys.map V.str)) ∧ (ys.map (·.length)).sum + ys.length * a.length ≤ 16777216 ∧ Q (.str (Txt.join a ys)) H)
    PySem.F.slot_str_join PySem.F.type_str_join (fun X hX => hX ▸ mt_join) (fun a y v d H0 H Q s f h z => by
    unfold oJoin at h
    dsimp only at h
    obtain ⟨ls, e1, e2⟩ := Option.bind_eq_some_iff.mp h
    split at e2
    · rename_i hh
      cases e2
      have hlen : ((ls.map toS).map (·.length)).sum + (ls.map toS).length * (toS a).length ≤ 16777216 := by
        have e3 : (ls.map toS).map (·.length) = ls.map List.length := by
          rw [List.map_map]
          refine List.map_congr_left fun s _ => ?_
          show (s.toArray).size = s.length
          simp
        rw [e3, List.length_map, show (toS a).length = a.length from by show (a.toArray).size = _; simp]
        exact hh.1
      have fin : Q (.str (Txt.join (toS a) (ls.map toS))) H := by
        rw [join_toS]
        exact z _ ⟨rfl, hh.2⟩
      cases y with
      | lst ds =>
        obtain ⟨p, vs, e4, k, g⟩ := f
        have := txts_eq e1
        subst this
        obtain ⟨e5, _⟩ := fzs_txts g
        subst e5
        exact ⟨toS a, p, ls.map toS, rfl, by rw [e4], .inl (.of (s _ _ k)), hlen, fin⟩
      | tup ds =>
        obtain ⟨p, vs, e4, k, g⟩ := f
        have := txts_eq e1
        subst this
        obtain ⟨e5, _⟩ := fzs_txts g
        subst e5
        exact ⟨toS a, p, ls.map toS, rfl, by rw [e4], .inr (same_t s k), hlen, fin⟩
      | _ => cases e1
    · cases e2) ho he hbase hline hst hfew
end
@[simp] theorem oJoin_lst (a : List Nat) (ls : List (List Nat)) : oJoin (.str a) (.lst (ls.map .str)) = if (ls.map List.length).sum + ls.length * a.length ≤ 16777216 ∧ sOk (joinL a ls) = true then some (.str (joinL a ls)) else none := by
  show (txts (ls.map .str)).bind _ = _
  rw [txts_map]; rfl
@[simp] theorem oJoin_tup (a : List Nat) (ls : List (List Nat)) : oJoin (.str a) (.tup (ls.map .str)) = if (ls.map List.length).sum + ls.length * a.length ≤ 16777216 ∧ sOk (joinL a ls) = true then some (.str (joinL a ls)) else none := by
  show (txts (ls.map .str)).bind _ = _
  rw [txts_map]; rfl
@[simp] theorem oInt_bl (b : Bool) : oInt [.bl b] = some (.int (if b then 1 else 0)) := rfl
@[simp] theorem oInt_int (b : Int) : oInt [.int b] = some (.int b) := rfl
end Vm
set_option Elab.async false
set_option linter.all false
set_option maxRecDepth 100000
set_option maxHeartbeats 4000000
/-! sets of nested tuples: put in, one by one -/
namespace Vm
open PySem PySem.Spec PyProof.Rows L2
abbrev IsN (P : Program) (w : World) (hp : Heap) (q : NK) (b : Addr) : Prop := (nestedKind P w).is hp q b
def nRow (w : World) (L : List (Addr × NK)) : List (Int × Value) := L.map fun p => (p.2.hash w, .ref p.1)
abbrev nHs (w : World) (L : List (Addr × NK)) : List Int := L.map fun p => p.2.hash w
structure NTab (P : Program) (w : World) (hp : Heap) (a : Addr) (L : List (Addr × NK)) (es : Array (Int × Value)) (ep : Nat) (t : SetTable) : Prop where
  ob : ∃ o, hp.get? a = some o ∧ o.ExactSet ∧ o.data = .set es ep t
  rows : es.toList = nRow w L
  tab : TabOk t (nHs w L)
  nd : (L.map (·.2)).Nodup
  tup : ∀ p ∈ L, IsN P w hp p.2 p.1
  led : w.params.followText "set-order" = true ∨ t.led = true
  room : L.length * 5 < t.mask * 3
  few : L.length < 64
section
variable {P : Program} {w : World} {A : Around} {E : Value → Shared → Prop} {s : Shared} {hp hp' : Heap} {a b : Addr} {q : NK}
theorem IsN.at (x : IsN P w hp q b) (k : ∀ c o vs n, hp.get? c = some o → o.data = .seq vs n → hp'.get? c = some o) : IsN P w hp' q b := ⟨NestedIs.at k _ _ x.1, x.2⟩
theorem IsN.keep (x : IsN P w hp q b) (k : ∀ c o, hp.get? c = some o → hp'.get? c = some o) : IsN P w hp' q b := x.at fun c o _ _ e _ => k c o e
theorem IsN.other {o : Obj} {es : Array (Int × Value)} {ep : Nat} {t : SetTable} (x : IsN P w hp q b) (ho : hp.get? a = some o) (hd : o.data = .set es ep t) (sb : Heap.SameBut a hp hp') : IsN P w hp' q b := x.at fun c u vs n e e2 => by
  refine (sb.2 c fun z => ?_).trans e
  rw [z, ho] at e
  cases e
  rw [hd] at e2
  cases e2
/-! ### what is asked of a nested tuple -/
/-! ### the table of nested tuples -/
variable {L : List (Addr × NK)} {es : Array (Int × Value)} {ep : Nat} {t : SetTable}
theorem nRow_len (L : List (Addr × NK)) : (nRow w L).length = L.length := by unfold nRow; rw [List.length_map]
theorem rows_size (e : es.toList = nRow w L) : es.size = L.length := by rw [← Array.length_toList, e, nRow_len]
theorem NTab.fits (R : NTab P w hp a L es ep t) : t.fits es.size = true := by
  have h1 := R.tab.sz
  rw [List.length_map] at h1
  have h2 := rows_size R.rows
  have h3 := R.room
  unfold SetTable.fits SetTable.fill
  rw [R.tab.dm, Bool.and_eq_true, beq_iff_eq, decide_eq_true_eq]
  show t.place.size = es.size ∧ t.place.size + 0 ≤ t.mask
  omega
end
end Vm
set_option Elab.async false
set_option linter.all false
set_option maxRecDepth 100000
set_option maxHeartbeats 4000000
/-! sets of nested tuples: made of a list or a tuple -/
namespace Vm
open PySem PySem.Spec PyProof.Rows L2
section
variable {P : Program} {w : World} {A : Around} {E : Value → Shared → Prop} {s : Shared} {hp hp' : Heap} {a b : Addr} {q : NK} {L : List (Addr × NK)} {es : Array (Int × Value)} {ep : Nat} {t : SetTable}
end
end Vm
set_option Elab.async false
set_option linter.all false
set_option maxRecDepth 100000
set_option maxHeartbeats 6400000
/-! set(xs) of nested tuples -/
namespace Vm
open PySem PySem.Spec PyProof.Rows L2
/-- what the set has of the first i items -/
structure NGot (ks : List (Addr × NK)) (i : Nat) (L : List (Addr × NK)) : Prop where
  sub : ∀ p ∈ L, p ∈ ks.take i
  all : ∀ p ∈ ks.take i, p.2 ∈ L.map (·.2)
  len : L.length ≤ i
theorem NGot.more {ks L L' : List (Addr × NK)} {i : Nat} {x : Addr × NK} (g : NGot ks i L) (h : ks[i]? = some x) (pm : L'.Perm (x :: L)) : NGot ks (i + 1) L' := by
  refine ⟨fun p hp => ?_, fun p hp => ?_, by rw [pm.length_eq, List.length_cons]; exact Nat.succ_le_succ g.len⟩
  · rw [take_next h]
    rcases List.mem_cons.mp (pm.mem_iff.mp hp) with e | y
    · rw [e]; exact List.mem_append_right _ List.mem_cons_self
    · exact List.mem_append_left _ (g.sub p y)
  · rw [(pm.map (·.2)).mem_iff, List.map_cons]
    rw [take_next h] at hp
    rcases List.mem_append.mp hp with y | y
    · exact List.mem_cons_of_mem _ (g.all p y)
    · rw [List.mem_singleton.mp y]; exact List.mem_cons_self
/-- a set of some of the items, each key once, all of them there -/
def NSet (P : Program) (w : World) (hp : Heap) (a : Addr) (L : List (Addr × NK)) : Prop := ∃ es ep t, NTab P w hp a L es ep t
section
variable {P : Program} {w : World} {A : Around} {E : Value → Shared → Prop} {s : Shared} {R : Result → Shared → Prop} {I : Addr} {fp wr : List Addr} {G : Array GenState → Array GenState → Prop} {n : Nat} {Pv : Nat → Value → Prop} {St : Nat → Shared → Prop} {hp hp' : Heap} {a : Addr} {L : List (Addr × NK)}
theorem NSet.keep (x : NSet P w hp a L) (ha : ∀ o, hp.get? a = some o → hp'.get? a = some o) (ht : ∀ p ∈ L, IsN P w hp' p.2 p.1) : NSet P w hp' a L := by
  obtain ⟨es, ep, t, R⟩ := x
  obtain ⟨o, ho, r⟩ := R.ob
  exact ⟨es, ep, t, ⟨o, ha o ho, r⟩, R.rows, R.tab, R.nd, ht, R.led, R.room, R.few⟩
end
end Vm
set_option Elab.async false
set_option linter.all false
set_option maxRecDepth 100000
set_option maxHeartbeats 4000000
/-! len(set(x)) and sorted(set(x)), x nested tuples -/
namespace Vm
open PySem PySem.Spec PyProof.Rows L2
/-! ### keys of data -/
/-! ### the order is one -/
/-! ### by values -/
/-- what is known of the set itself -/
def NSt (w : World) (h : Heap) (a : Addr) (L : List (Addr × NK)) : Prop :=
  ∃ o es ep t, h.get? a = some o ∧ o.ExactSet ∧ o.data = .set es ep t ∧ es.toList = nRow w L ∧ t.fits es.size = true ∧ Ris t.place.toList ∧ (w.params.followText "set-order" = true ∨ t.led = true)
theorem NSet.st {P : Program} {w : World} {h : Heap} {a : Addr} {L : List (Addr × NK)} (x : NSet P w h a L) : NSt w h a L := by
  obtain ⟨es, ep, t, R⟩ := x
  obtain ⟨o, ho, hex, hd⟩ := R.ob
  exact ⟨o, es, ep, t, ho, hex, hd, R.rows, R.fits, R.tab.ris, R.led⟩
theorem NSet.nd {P : Program} {w : World} {h : Heap} {a : Addr} {L : List (Addr × NK)} (x : NSet P w h a L) : (L.map (·.2)).Nodup := by
  obtain ⟨es, ep, t, R⟩ := x
  exact R.nd
section
variable {X : Cx}
end
end Vm
set_option Elab.async false
set_option linter.all false
set_option maxRecDepth 100000
set_option maxHeartbeats 4000000
/-! len(set(x)), sorted(set(x)) of nested tuples, by data -/
namespace Vm
open PySem PySem.Spec PyProof.Rows L2
section
open Classical
end
section
variable {K : PySem.W.Frag} {mg : MG} {H : Hp}
end
section
variable {G : GC} {N : List Str} {S : SC} {bs bs1 bs2 ms ms1 ms2 ms3 as : Ms} {m : Md} {k : Kd} {e a b : Expr} {es : List Expr} {f fa fb : M D} {fs : M (List D)} {pos p q : Pos}
end
end Vm
set_option Elab.async false
set_option linter.all false
set_option maxRecDepth 100000
set_option maxHeartbeats 4000000
/-! reversed(a tuple), list(reversed(a tuple)) -/
namespace VmRev
open PySem PyProof.Rows
section
variable {prog : Program} {w : World} {A : Around} {E : Value → Shared → Prop} {s : Shared}
end
end VmRev
namespace Vm
open PySem PySem.Spec PyProof.Rows L2
theorem _root_.L2.PE.or {X : Cx} {e : Expr} {t t' : TE} (h : PE X e t) (h' : PE X e t') : PE X e fun σ H R => t σ H R ∨ t' σ H R :=
  ⟨fun pins s σ H Q I w => w.elim (h.run pins s σ H Q I) (h'.run pins s σ H Q I)⟩
section
variable {X : Cx}
end
/-- from the end -/
def revD : D → Option (List D)
  | .lst ds => some ds.reverse
  | .tup ds => some ds.reverse
  | _ => none
def iRevA (f : M D) : M (List D) := fun r => (f r).bind fun d => rM (revD d)
def fRevA (f : M D) : M D := fun r => (f r).bind fun d => rM ((revD d).map D.lst)
@[simp] theorem iRevA_ap (f : M D) (s0 : Sl) (r : En) : iRevA f (s0 :: r) = (f (s0 :: r)).bind fun d r => rM (revD d) r := rfl
@[simp] theorem fRevA_ap (f : M D) (s0 : Sl) (r : En) : fRevA f (s0 :: r) = (f (s0 :: r)).bind fun d r => rM ((revD d).map D.lst) r := rfl
@[simp] theorem revD_lst (ds : List D) : revD (.lst ds) = some ds.reverse := rfl
@[simp] theorem revD_tup (ds : List D) : revD (.tup ds) = some ds.reverse := rfl
section
variable {G : GC} {N : List Str} {S : SC} {bs ms : Ms} {m : Md} {e tg : Expr} {f : M D} {pos p p2 pos2 : Pos}
end
end Vm
set_option Elab.async false
set_option linter.all false
set_option maxRecDepth 100000
set_option maxHeartbeats 4000000
/-! [.. for x in d ..], d a dictionary that is held -/
namespace Vm
open PySem PySem.Spec PyProof.Rows L2
section
variable {G : GC} {N : List Str} {S : SC} {bs bs1 bs2 ms ms1 ms2 ms3 as as1 as2 : Ms} {m me rm : Md} {k : Kd} {e a b : Expr} {es : List Expr} {f fa fb : M D} {fs : M (List D)} {pos : Pos}
/-- [.. for x in d ..], d a name of a frozen dictionary -/
def fLcK (own : List Nat) (i : Nat) (gt : D → M Fl) (ft fe : M D) : M D := fun r => match getS r i with
  | some (.z, .dct ks _) => if ks.length ≤ LIM then (noX (gLc own gt ft fe ks (wipeE own r))).bind fun ys r' => .ok (.lst ys) (restE r own r') else .bad
  | _ => .bad
@[simp] theorem fLcK_ap (own : List Nat) (i : Nat) (gt : D → M Fl) (ft fe : M D) (s0 : Sl) (r : En) : fLcK own i gt ft fe (s0 :: r) = (rM ((fkS (getS (s0 :: r) i)).bind fun ks => if ks.length ≤ 16777216 then some ks else none) (s0 :: r)).bind fun ks r => (noX (gLc own gt ft fe ks (wipeE own r))).bind fun ys r' => .ok (.lst ys) (restE r own r') := by
  unfold fLcK fkS
  cases q : getS (s0 :: r) i with
  | none => rfl
  | some md =>
    obtain ⟨m, d⟩ := md
    cases m <;> cases d <;> first | rfl | skip
    rename_i ks ds
    show (if ks.length ≤ 16777216 then _ else _) = (rM ((some ks).bind fun ks => if ks.length ≤ 16777216 then some ks else none) (s0 :: r)).bind _
    by_cases c : ks.length ≤ 16777216
    · rw [if_pos c, Option.bind_some, if_pos c]; rfl
    · rw [if_neg c, Option.bind_some, if_neg c]; rfl
section
variable {x y : Str} {p p2 spos : Pos} {i i2 : Nat} {tg : Expr} {ifs : List Expr} {scope : Scope} {gt : D → M Fl} {ft fe : M D}
end
end
end Vm
set_option Elab.async false
set_option linter.all false
set_option maxRecDepth 100000
set_option maxHeartbeats 4000000
/-! children of a slot's tree: a child is carved out, then put back -/
namespace Vm
open PySem PySem.Spec PyProof.Rows L2 TL
def kidsD : D → List D
  | .lst ds => ds
  | .tup ds => ds
  | .dct _ ds => ds
  | .ins _ _ ds => ds
  | _ => []
def setKid : D → Nat → D → D
  | .lst ds, n, d => .lst (ds.set n d)
  | .tup ds, n, d => .tup (ds.set n d)
  | .dct ks ds, n, d => .dct ks (ds.set n d)
  | .ins c ns ds, n, d => .ins c ns (ds.set n d)
  | d, _, _ => d
def Kd.nth : Kd → Nat → Md
  | k, 0 => k.hd
  | k, n + 1 => Kd.nth k.tl n
def kidMd : Md → Nat → Option Md
  | .o k, n => some (k.nth n)
  | .f k, n => some (k.nth n)
  | .z, _ => none
  | .t, _ => none
/-- a child of what a slot holds -/
def kidS (n : Nat) : Sl → Sl
  | some (m, d) => match kidMd m n, (kidsD d)[n]? with
    | some m', some d' => some (m', d')
    | _, _ => none
  | none => none
/-- the slot with another child -/
def mrgS (m : Md) (d : D) (m' : Md) (n : Nat) : Sl → Sl
  | some (m2, d2) => if mdEq m' m2 = true then some (m, setKid d n d2) else none
  | none => none
def setKS (n : Nat) (s s' : Sl) : Sl := match s, kidS n s with
  | some (m, d), some (m', _) => mrgS m d m' n s'
  | _, _ => none
theorem kidS_ok {n : Nat} {s : Sl} {m' : Md} {d' : D} (h : kidS n s = some (m', d')) : ∃ m d, s = some (m, d) ∧ kidMd m n = some m' ∧ (kidsD d)[n]? = some d' := by
  unfold kidS at h
  cases s with
  | none => cases h
  | some p =>
    obtain ⟨m, d⟩ := p
    dsimp only at h
    cases h1 : kidMd m n with
    | none => rw [h1] at h; cases h
    | some m1 =>
      cases h2 : (kidsD d)[n]? with
      | none => rw [h1, h2] at h; cases h
      | some d1 =>
        rw [h1, h2] at h
        cases h
        exact ⟨m, d, rfl, h1, h2⟩
/-- the node at a has these children -/
def NodeO (H : Hp) (a : Addr) (vs : List V) : Prop := H a = some (.lst vs) ∨ H a = some (.tup vs) ∨ (∃ kvs : List (Key × V), Rd H a (.dK kvs) ∧ vs = kvs.map (·.2)) ∨ ∃ (C dx : Addr) (ns : List Str), H a = some (.ins C dx (ns.zip vs)) ∧ ns.length = vs.length
theorem NodeO.mono {H H' : Hp} {a : Addr} {vs : List V} (s : Same H H') (h : NodeO H a vs) : NodeO H' a vs := by
  rcases h with h | h | ⟨kvs, h, e⟩ | ⟨C, dx, ns, h, e⟩
  · exact .inl (s _ _ h)
  · exact .inr (.inl (s _ _ h))
  · exact .inr (.inr (.inl ⟨kvs, same_rd s h, e⟩))
  · exact .inr (.inr (.inr ⟨C, dx, ns, s _ _ h, e⟩))
theorem NodeO.keep {H H' : Hp} {a : Addr} {vs : List V} (e : ∀ o, H a = some o → H' a = some o) (h : NodeO H a vs) : NodeO H' a vs := by
  rcases h with h | h | ⟨kvs, h, e1⟩ | ⟨C, dx, ns, h, e1⟩
  · exact .inl (e _ h)
  · exact .inr (.inl (e _ h))
  · refine .inr (.inr (.inl ⟨kvs, ?_, e1⟩))
    rcases h with h | ⟨o, h⟩
    · exact .inl (e _ h)
    · exact .inr ⟨o, e _ h⟩
  · exact .inr (.inr (.inr ⟨C, dx, ns, e _ h, e1⟩))
theorem zip_vals {ns : List Str} {vs : List V} (e : ns.length = vs.length) : (ns.zip vs).map (·.2) = vs := by
  rw [← List.unzip_snd, List.unzip_zip (by rw [e])]
theorem NodeO.one {H : Hp} {a : Addr} {vs vs' : List V} (h : NodeO H a vs) (h' : NodeO H a vs') : vs = vs' := by
  have rdk : ∀ {kvs : List (Key × V)}, Rd H a (.dK kvs) → H a = some (.dK kvs) ∨ ∃ o, H a = some (.frz o (.dK kvs)) := fun h => h
  rcases h with h | h | ⟨kvs, h, e⟩ | ⟨C, dx, ns, h, e⟩ <;> rcases h' with h' | h' | ⟨kvs', h', e'⟩ | ⟨C', dx', ns', h', e'⟩
  case inl.inl => rw [h] at h'; cases h'; rfl
  case inr.inl.inr.inl => rw [h] at h'; cases h'; rfl
  case inr.inr.inl.inr.inr.inl =>
    rcases rdk h with h | ⟨o, h⟩ <;> rcases rdk h' with h' | ⟨o', h'⟩
    · rw [h] at h'; cases h'; rw [e, e']
    · rw [h] at h'; cases h'
    · rw [h] at h'; cases h'
    · rw [h] at h'; cases h'; rw [e, e']
  case inr.inr.inr.inr.inr.inr =>
    rw [h] at h'
    have h' := HO.ins.inj (Option.some.inj h')
    rw [← zip_vals e, ← zip_vals e', h'.2.2]
  all_goals first
    | (rw [h] at h'; cases h'; done)
    | (rcases rdk h with h | ⟨o, h⟩ <;> (rw [h] at h'; cases h'); done)
    | (rcases rdk h' with h' | ⟨o, h'⟩ <;> (rw [h] at h'; cases h'); done)
section
variable {K : PySem.W.Frag} {mg : MG} {ms : Ms} {H0 H H0' H' : Hp} {c c' : Co} {σ σ' : L2.St} {ρ ρ' : En} {d d' : D} {m m' : Md} {v v0 : V} {i n : Nat} {fp g : List Addr}
theorem Ows.kid : ∀ {ds : List D} {k : Kd} {vs : List V} {fp : List Addr} {n : Nat} {d' : D}, Ows K mg H0 H ds k vs fp → ds[n]? = some d' → ∃ v f1 g f2, vs[n]? = some v ∧ fp = f1 ++ (g ++ f2) ∧ Ow K mg H0 H d' (k.nth n) v g ∧
    ∀ (H0' H' : Hp) (d'' : D) (g' : List Addr), Same H0 H0' → (∀ a ∈ f1, H' a = H a) → (∀ a ∈ f2, H' a = H a) → Ow K mg H0' H' d'' (k.nth n) v g' → Ows K mg H0' H' (ds.set n d'') k vs (f1 ++ (g' ++ f2))
  | [], _, _, _, n, _, _, e => by simp at e
  | x :: ds, k, _, _, 0, d', ⟨v, r, f, g, e1, e2, h, t⟩, e => by
    subst e1 e2
    have e : x = d' := by simpa using e
    subst e
    exact ⟨v, [], f, g, rfl, rfl, h, fun H0' H' d'' g' s _ k2 o => ⟨v, r, g', g, rfl, rfl, o, Ows.mono s ds k.tl r g k2 t⟩⟩
  | x :: ds, k, _, _, n + 1, d', ⟨v, r, f, g, e1, e2, h, t⟩, e => by
    subst e1 e2
    obtain ⟨w, f1, g1, f2, q1, q2, q3, q4⟩ := Ows.kid (n := n) (d' := d') t (by simpa using e)
    refine ⟨w, f ++ f1, g1, f2, by simpa using q1, by rw [q2, List.append_assoc], q3, fun H0' H' d'' g' s k1 k2 o => ?_⟩
    exact ⟨v, r, f, f1 ++ (g' ++ f2), rfl, by rw [List.append_assoc], Ow.mono s x k.hd v f (fun a ha => k1 a (List.mem_append_left _ ha)) h, q4 H0' H' d'' g' s (fun a ha => k1 a (List.mem_append_right _ ha)) k2 o⟩
/-- a child of a tree -/
theorem Ow.kid (h : Ow K mg H0 H d m v0 fp) (hm : kidMd m n = some m') (hd : (kidsD d)[n]? = some d') : ∃ a vs v f1 g f2, v0 = .ref a ∧ vs[n]? = some v ∧ ((a ∈ f1 ∧ NodeO H a vs) ∨ NodeO H0 a vs) ∧ fp = f1 ++ (g ++ f2) ∧ Ow K mg H0 H d' m' v g ∧
    ∀ (H0' H' : Hp) (d'' : D) (g' : List Addr), Same H0 H0' → (∀ a ∈ f1, H' a = H a) → (∀ a ∈ f2, H' a = H a) → Ow K mg H0' H' d'' m' v g' → Ow K mg H0' H' (setKid d n d'') m v0 (f1 ++ (g' ++ f2)) := by
  cases m with
  | z => cases hm
  | o k =>
    cases hm
    cases d <;> first | (simp [kidsD] at hd; done) | skip
    case lst ds =>
      obtain ⟨a, vs, g, e, hH, ef, r⟩ := h
      subst ef
      obtain ⟨v, f1, g1, f2, q1, q2, q3, q4⟩ := Ows.kid r hd
      refine ⟨a, vs, v, a :: f1, g1, f2, e, q1, .inl ⟨List.mem_cons_self, .inl hH⟩, by rw [q2]; rfl, q3, fun H0' H' d'' g' s k1 k2 o => ?_⟩
      exact ⟨a, vs, f1 ++ (g' ++ f2), e, by rw [k1 a List.mem_cons_self]; exact hH, rfl, q4 H0' H' d'' g' s (fun b hb => k1 b (List.mem_cons_of_mem _ hb)) k2 o⟩
    case tup ds =>
      obtain ⟨a, vs, g, e, hH, ef, r⟩ := h
      subst ef
      obtain ⟨v, f1, g1, f2, q1, q2, q3, q4⟩ := Ows.kid r hd
      refine ⟨a, vs, v, a :: f1, g1, f2, e, q1, .inl ⟨List.mem_cons_self, .inr (.inl hH)⟩, by rw [q2]; rfl, q3, fun H0' H' d'' g' s k1 k2 o => ?_⟩
      exact ⟨a, vs, f1 ++ (g' ++ f2), e, by rw [k1 a List.mem_cons_self]; exact hH, rfl, q4 H0' H' d'' g' s (fun b hb => k1 b (List.mem_cons_of_mem _ hb)) k2 o⟩
    case dct ks ds =>
      obtain ⟨a, vs, g, e, ef, hH, r⟩ := h
      subst ef
      obtain ⟨v, f1, g1, f2, q1, q2, q3, q4⟩ := Ows.kid r hd
      have hn : NodeO H a vs := by
        obtain ⟨kvs, h1, h2, h3, h4⟩ := hH
        exact .inr (.inr (.inl ⟨kvs, .inl h1, h4⟩))
      refine ⟨a, vs, v, a :: f1, g1, f2, e, q1, .inl ⟨List.mem_cons_self, hn⟩, by rw [q2]; rfl, q3, fun H0' H' d'' g' s k1 k2 o => ?_⟩
      exact ⟨a, vs, f1 ++ (g' ++ f2), e, rfl, hH.eq (k1 a List.mem_cons_self), q4 H0' H' d'' g' s (fun b hb => k1 b (List.mem_cons_of_mem _ hb)) k2 o⟩
    case ins cn ns ds =>
      obtain ⟨a, C, dx, vs, g, e, ef, hmg, hH, hl, r⟩ := h
      subst ef
      obtain ⟨v, f1, g1, f2, q1, q2, q3, q4⟩ := Ows.kid r hd
      refine ⟨a, vs, v, a :: f1, g1, f2, e, q1, .inl ⟨List.mem_cons_self, .inr (.inr (.inr ⟨C, dx, ns, hH, by rw [hl]; exact (Ows.len r).symm⟩))⟩, by rw [q2]; rfl, q3, fun H0' H' d'' g' s k1 k2 o => ?_⟩
      exact ⟨a, C, dx, vs, f1 ++ (g' ++ f2), e, rfl, hmg, by rw [k1 a List.mem_cons_self]; exact hH, by rw [List.length_set]; exact hl, q4 H0' H' d'' g' s (fun b hb => k1 b (List.mem_cons_of_mem _ hb)) k2 o⟩
  | t => cases hm
  | f k =>
    cases hm
    cases d <;> first | (simp [kidsD] at hd; done) | skip
    case lst ds =>
      obtain ⟨a, vs, e, hH, r⟩ := h
      obtain ⟨v, f1, g1, f2, q1, q2, q3, q4⟩ := Ows.kid r hd
      exact ⟨a, vs, v, f1, g1, f2, e, q1, .inr (.inl hH), q2, q3, fun H0' H' d'' g' s k1 k2 o => ⟨a, vs, e, s _ _ hH, q4 H0' H' d'' g' s k1 k2 o⟩⟩
    case tup ds =>
      obtain ⟨a, vs, e, hH, r⟩ := h
      obtain ⟨v, f1, g1, f2, q1, q2, q3, q4⟩ := Ows.kid r hd
      exact ⟨a, vs, v, f1, g1, f2, e, q1, .inr (.inr (.inl hH)), q2, q3, fun H0' H' d'' g' s k1 k2 o => ⟨a, vs, e, s _ _ hH, q4 H0' H' d'' g' s k1 k2 o⟩⟩
    case dct ks ds =>
      obtain ⟨a, vs, e, hH, r⟩ := h
      obtain ⟨v, f1, g1, f2, q1, q2, q3, q4⟩ := Ows.kid r hd
      have hn : NodeO H0 a vs := by
        obtain ⟨kvs, h1, h2, h3, h4⟩ := hH
        exact .inr (.inr (.inl ⟨kvs, h1, h4⟩))
      exact ⟨a, vs, v, f1, g1, f2, e, q1, .inr hn, q2, q3, fun H0' H' d'' g' s k1 k2 o => ⟨a, vs, e, same_d s hH, q4 H0' H' d'' g' s k1 k2 o⟩⟩
    case ins cn ns ds =>
      obtain ⟨a, C, dx, vs, e, hmg, hH, hl, r⟩ := h
      obtain ⟨v, f1, g1, f2, q1, q2, q3, q4⟩ := Ows.kid r hd
      exact ⟨a, vs, v, f1, g1, f2, e, q1, .inr (.inr (.inr (.inr ⟨C, dx, ns, hH, by rw [hl]; exact (Ows.len r).symm⟩))), q2, q3, fun H0' H' d'' g' s k1 k2 o => ⟨a, C, dx, vs, e, hmg, s _ _ hH, by rw [List.length_set]; exact hl, q4 H0' H' d'' g' s k1 k2 o⟩⟩
/-- v is the child n of v0, a tree of slot i -/
def KidAt (H0 H : Hp) (c : Co) (i : Nat) (v0 : V) (n : Nat) (v : V) : Prop := ∃ a vs, v0 = .ref a ∧ vs[n]? = some v ∧ ((c a = some i ∧ NodeO H a vs) ∨ NodeO H0 a vs)
/-- .. its node is frozen -/
def KidZ (H0 : Hp) (v0 : V) (n : Nat) (v : V) : Prop := ∃ a vs, v0 = .ref a ∧ vs[n]? = some v ∧ NodeO H0 a vs
theorem KidZ.at (h : KidZ H0 v0 n v) : KidAt H0 H c i v0 n v := let ⟨a, vs, e, e1, e2⟩ := h; ⟨a, vs, e, e1, .inr e2⟩
theorem KidZ.mono (h : KidZ H0 v0 n v) (s : Same H0 H0') : KidZ H0' v0 n v := let ⟨a, vs, e, e1, e2⟩ := h; ⟨a, vs, e, e1, e2.mono s⟩
theorem KidAt.on (h : KidAt H0 H c i v0 n v) (s : Step ms H0 H c H0' H' c') (hi : ms i = false) : KidAt H0' H' c' i v0 n v := by
  obtain ⟨a, vs, e, e1, e2⟩ := h
  refine ⟨a, vs, e, e1, ?_⟩
  rcases e2 with ⟨ec, hn⟩ | hn
  · have kp : ∀ o, H a = some o → H' a = some o := fun o ho => s.keep a o ho fun j z => by rw [ec] at z; cases z; exact hi
    obtain ⟨o, ho⟩ : ∃ o, H a = some o := by
      rcases hn with h | h | ⟨kvs, h, _⟩ | ⟨C, dx, ns, h, _⟩
      · exact ⟨_, h⟩
      · exact ⟨_, h⟩
      · rcases h with h | ⟨o, h⟩ <;> exact ⟨_, h⟩
      · exact ⟨_, h⟩
    exact .inl ⟨(s.col a o ho fun j z => by rw [ec] at z; cases z; exact hi).trans ec, hn.keep kp⟩
  · exact .inr (hn.mono s.grow)
theorem KidAt.one {v' : V} (h : KidAt H0 H c i v0 n v) (h' : KidAt H0 H c i v0 n v') (s : Same H0 H) : v = v' := by
  obtain ⟨a, vs, e, e1, e2⟩ := h
  obtain ⟨a', vs', e', e1', e2'⟩ := h'
  rw [e] at e'
  cases e'
  have n1 : NodeO H a vs := e2.elim (·.2) (·.mono s)
  have n2 : NodeO H a vs' := e2'.elim (·.2) (·.mono s)
  rw [n1.one n2, e1'] at e1
  exact (Option.some.inj e1).symm
/-- the child's own colour -/
def coV (c : Co) (j : Nat) (g : List Addr) : Co := fun a => if a ∈ g then some j else if c a = some j then none else c a
theorem coV_in {j : Nat} {g : List Addr} {a : Addr} (h : a ∈ g) : coV c j g a = some j := if_pos h
theorem coV_out {j : Nat} {g : List Addr} {a : Addr} (h : a ∉ g) (h2 : c a ≠ some j) : coV c j g a = c a := by unfold coV; rw [if_neg h, if_neg h2]
theorem coV_old {j : Nat} {g : List Addr} {a : Addr} (h : a ∉ g) (h2 : c a = some j) : coV c j g a = none := by unfold coV; rw [if_neg h, if_pos h2]
theorem coV_some {j k : Nat} {g : List Addr} {a : Addr} (h : coV c j g a = some k) : (a ∈ g ∧ k = j) ∨ (a ∉ g ∧ c a = some k ∧ k ≠ j) := by
  by_cases z : a ∈ g
  · rw [coV_in z] at h; exact .inl ⟨z, (Option.some.inj h).symm⟩
  · by_cases y : c a = some j
    · rw [coV_old z y] at h; cases h
    · rw [coV_out z y] at h
      exact .inr ⟨z, h, fun e => y (by rw [h, e])⟩
theorem getS_snoc {r : En} {s : Sl} : getS (r ++ [s]) r.length = s := by simp [getS, List.getD_eq_getElem?_getD]
theorem getS_app {r : En} {s : Sl} {j : Nat} (h : j < r.length) : getS (r ++ [s]) j = getS r j := by simp [getS, List.getD_eq_getElem?_getD, List.getElem?_append_left h]
theorem getS_ge {r : En} {j : Nat} (h : r.length ≤ j) : getS r j = none := by simp [getS, List.getD_eq_getElem?_getD, List.getElem?_eq_none h]
/-- a child that was carved out -/
structure Carved (K : PySem.W.Frag) (mg : MG) (H0 H : Hp) (c : Co) (σ : L2.St) (i n : Nat) (m : Md) (d : D) (m' : Md) (v : V) (g : List Addr) : Prop where
  lt : i < σ.length
  col : ∀ a ∈ g, c a = some i
  old : ∀ a, c a = some σ.length → H0 a = none ∧ ∃ o, H a = some o
  kid : ∃ v0, σ[i]? = some (some v0) ∧ KidAt H0 H c i v0 n v
  ex : ∃ v0 f1 f2, σ[i]? = some (some v0) ∧ (f1 ++ (g ++ f2)).Nodup ∧ (∀ a ∈ f1 ++ f2, c a = some i ∧ ∃ o, H a = some o) ∧
    ∀ (H0' H' : Hp) (d'' : D) (g' : List Addr), Same H0 H0' → (∀ a ∈ f1, H' a = H a) → (∀ a ∈ f2, H' a = H a) → Ow K mg H0' H' d'' m' v g' → Ow K mg H0' H' (setKid d n d'') m v0 (f1 ++ (g' ++ f2))
theorem Lies.carve (l : Lies K mg H0 H c σ ρ) (hs : getS ρ i = some (m, d)) (hm : kidMd m n = some m') (hd : (kidsD d)[n]? = some d') :
    ∃ v g, Carved K mg H0 H c σ i n m d m' v g ∧ Lies K mg H0 H (coV c σ.length g) (σ ++ [some v]) (ρ.set i none ++ [some (m', d')]) := by
  obtain ⟨v0, fp, e1, ow, nd, hc⟩ := l.slot i m d hs
  obtain ⟨a, vs, v, f1, g, f2, q1, q2, q3, q4, q5, q6⟩ := ow.kid hm hd
  subst q4
  have kid : KidAt H0 H c i v0 n v := ⟨a, vs, q1, q2, q3.imp (fun z => ⟨hc a (List.mem_append_left _ z.1), z.2⟩) fun z => z⟩
  have hi : i < σ.length := (List.getElem?_eq_some_iff.mp e1).1
  have hg : ∀ b ∈ g, c b = some i := fun b hb => hc b (List.mem_append_right _ (List.mem_append_left _ hb))
  refine ⟨v, g, ⟨hi, hg, fun b hb => ⟨l.apart b _ hb, l.there b _ hb⟩, ⟨v0, e1, kid⟩, v0, f1, f2, e1, nd, fun b hb => ?_, q6⟩, ⟨l.sub, l.hot, fun b j q => ?_, fun b j q => ?_, ?_, fun j mj dj q => ?_⟩⟩
  · have : b ∈ f1 ++ (g ++ f2) := by
      rcases List.mem_append.mp hb with z | z
      · exact List.mem_append_left _ z
      · exact List.mem_append_right _ (List.mem_append_right _ z)
    exact ⟨hc b this, l.there b i (hc b this)⟩
  · rcases coV_some q with ⟨z, _⟩ | ⟨_, z, _⟩
    · exact l.apart b i (hg b z)
    · exact l.apart b j z
  · rcases coV_some q with ⟨z, _⟩ | ⟨_, z, _⟩
    · exact l.there b i (hg b z)
    · exact l.there b j z
  · simp only [List.length_append, List.length_set, List.length_singleton]; rw [l.len]
  · have lr : (ρ.set i none).length = σ.length := by rw [List.length_set]; exact l.len
    rcases Nat.lt_trichotomy j σ.length with h | h | h
    · rw [getS_app (by rw [lr]; exact h)] at q
      by_cases z : i = j
      · subst z
        rw [getS_set_eq (by rw [l.len]; exact h)] at q; cases q
      · rw [getS_set_ne z] at q
        obtain ⟨w, fj, e2, owj, ndj, hcj⟩ := l.slot j mj dj q
        refine ⟨w, fj, by rw [List.getElem?_append_left h]; exact e2, owj, ndj, fun b hb => ?_⟩
        have h1 : b ∉ g := fun y => by
          have e3 := hg b y
          rw [hcj b hb] at e3
          exact z (Option.some.inj e3).symm
        rw [coV_out h1 (by rw [hcj b hb]; exact fun y => absurd (Option.some.inj y) (Nat.ne_of_lt h))]
        exact hcj b hb
    · subst h
      rw [← lr, getS_snoc] at q
      cases q
      exact ⟨v, g, by simp, q5, (List.nodup_append.mp (List.nodup_append.mp nd).2.1).1, fun b hb => coV_in hb⟩
    · rw [getS_ge (by simp only [List.length_append, List.length_singleton]; omega)] at q; cases q
section
variable {j : Nat} {ms' : Ms} {d'' : D} {ρ1 : En} {s1 : Sl}
end
end
end Vm
set_option Elab.async false
set_option linter.all false
set_option maxRecDepth 100000
set_option maxHeartbeats 4000000
/-! places: a child of a slot's tree is read, lent, changed -/
namespace Vm
open PySem PySem.Spec PyProof.Rows L2 TL
def FPl (σ : L2.St) (i : Nat) : Fam Nat V := fun _ _ n H0' H' c' v => ∃ v0, σ[i]? = some (some v0) ∧ KidAt H0' H' c' i v0 n v
def FPz (σ : L2.St) (i : Nat) : Fam Nat V := fun _ _ n H0' _ _ v => ∃ v0, σ[i]? = some (some v0) ∧ KidZ H0' v0 n v
def tPl (K : PySem.W.Frag) (mg : MG) (W : WX) (i : Nat) (ms : Ms) (f : M Nat) : TE := fun σ H Q => ∃ ρ H0 c, Lies K mg H0 H c σ ρ ∧ Out K mg W (FPl σ i) ms H0 H c σ (f ρ) Q
def tPz (K : PySem.W.Frag) (mg : MG) (W : WX) (i : Nat) (ms : Ms) (f : M Nat) : TE := fun σ H Q => ∃ ρ H0 c, Lies K mg H0 H c σ ρ ∧ Out K mg W (FPz σ i) ms H0 H c σ (f ρ) Q
/-- e tells the child f of slot i -/
abbrev VPl (G : GC) (N : List Str) (S : SC) (i : Nat) (ms : Ms) (e : Expr) (f : M Nat) : Prop := ∀ R, At G.mg.hx S N (mkX G N R) → ∀ W, L2N.Takes (mkX G N R) W → PE (mkX G N R) e (tPl G.K G.mg W i ms f)
/-- .. of a frozen node -/
abbrev VPz (G : GC) (N : List Str) (S : SC) (i : Nat) (ms : Ms) (e : Expr) (f : M Nat) : Prop := ∀ R, At G.mg.hx S N (mkX G N R) → ∀ W, L2N.Takes (mkX G N R) W → PE (mkX G N R) e (tPz G.K G.mg W i ms f)
theorem VPz.pl {G : GC} {N : List Str} {S : SC} {i : Nat} {ms : Ms} {e : Expr} {f : M Nat} (h : VPz G N S i ms e f) : VPl G N S i ms e f := fun R a W t => (h R a W t).imp fun σ H Q ⟨ρ, H0, c, l, o⟩ => ⟨ρ, H0, c, l, o.mono (fun _ h => h) fun _ _ _ _ _ ⟨v0, e, k⟩ => ⟨v0, e, k.at⟩⟩
def posK (k : Key) : List D → Option Nat
  | x :: ks => if keyD x = some k then some 0 else (posK k ks).map (· + 1)
  | [] => none
def posD (d e : D) : Option Nat := match d with
  | .lst ds => (match e with | .int z => ixN ds.length z | _ => none)
  | .tup ds => (match e with | .int z => ixN ds.length z | _ => none)
  | .dct ks _ => (keyD e).bind fun k => posK k ks
  | _ => none
theorem posK_val {k : Key} : ∀ {kvs : List (Key × V)} {n : Nat}, posK k (kvs.map fun p => kD p.1) = some n → (kvs.map (·.2))[n]? = valV kvs k
  | [], n, h => by cases h
  | p :: kvs, n, h => by
    by_cases z : p.1 = k
    · have z' : keyD (kD p.1) = some k := by rw [keyD_kD, z]
      rw [List.map_cons, posK, if_pos z'] at h
      cases h
      rw [valV_pos z]; rfl
    · have z' : ¬ keyD (kD p.1) = some k := by rw [keyD_kD]; exact fun q => z (Option.some.inj q)
      rw [List.map_cons, posK, if_neg z'] at h
      obtain ⟨n', e1, e2⟩ := Option.map_eq_some_iff.mp h
      subst e2
      rw [valV_neg z, List.map_cons, List.getElem?_cons_succ]
      exact posK_val e1
theorem posK_lt {k : Key} : ∀ {ks : List D} {n : Nat}, posK k ks = some n → n < ks.length
  | [], n, h => by cases h
  | x :: ks, n, h => by
    rw [posK] at h
    split at h
    · cases h; exact Nat.succ_pos _
    · obtain ⟨n', e1, e2⟩ := Option.map_eq_some_iff.mp h
      subst e2
      exact Nat.succ_lt_succ (posK_lt e1)
def isZ : Md → Bool
  | .z => true
  | .t => true
  | _ => false
def isF : Md → Bool
  | .f _ => true
  | _ => false
def plS0 : Sl → Option Bool
  | some (_, d) => some (isDct d)
  | none => none
def plS1 (ok : Md → Bool) (b : Bool) (j : D) : Sl → Option Nat
  | some (m, d) => if isDct d = b ∧ ok m = true then posD d j else none
  | none => none
/-- x[e], x the slot i -/
def fPl (ok : Md → Bool) (i : Nat) (fe : M D) : M Nat := fun r => (rM (plS0 (getS r i)) r).bind fun b r => (fe r).bind fun j r => rM (plS1 ok b j (getS r i)) r
section
variable {K : PySem.W.Frag} {mg : MG} {H0 H : Hp} {c : Co} {d j : D} {m : Md} {v0 y : V} {fp : List Addr} {n i : Nat}
theorem num_at {ds : List D} {vs : List V} {j : D} {n : Nat} (hl : vs.length = ds.length) (hp : (match j with | .int z => ixN ds.length z | _ => none) = some n) : ∃ z v, j = .int z ∧ vs[n]? = some v ∧ atI vs z = some v := by
  cases j <;> first | (cases hp; done) | skip
  rename_i z
  have hp : ixN ds.length z = some n := hp
  have hn : n < ds.length := (ixN_seq hp).2.1
  obtain ⟨v, e⟩ : ∃ v, vs[n]? = some v := ⟨_, List.getElem?_eq_getElem (by rw [hl]; exact hn)⟩
  refine ⟨z, v, rfl, e, ?_⟩
  show (ixN vs.length z).bind (fun j => vs[j]?) = _
  rw [hl, hp]; exact e
/-- the child that a key or a number names -/
theorem Ow.look (h : Ow K mg H0 H d m v0 fp) (s : Same H0 H) (hz : isZ m = false) (hp : posD d j = some n) : ∃ a vs v, v0 = .ref a ∧ vs[n]? = some v ∧ ((isF m = false ∧ a ∈ fp ∧ NodeO H a vs) ∨ NodeO H0 a vs) ∧
    ((isDct d = false ∧ ∃ z, j = .int z ∧ (SqL K H a vs ∨ SqT K H a vs) ∧ atI vs z = some v) ∨ (isDct d = true ∧ ∃ k kvs, keyD j = some k ∧ Rd H a (.dK kvs) ∧ valV kvs k = some v)) := by
  cases m with
  | z => cases hz
  | o k =>
    cases d <;> first | (cases hp; done) | skip
    case lst ds =>
      obtain ⟨a, vs, g, e, hH, ef, r⟩ := h
      obtain ⟨z, v, e1, e2, e3⟩ := num_at (vs := vs) (Ows.len r) hp
      exact ⟨a, vs, v, e, e2, .inl ⟨rfl, by rw [ef]; exact List.mem_cons_self, .inl hH⟩, .inl ⟨rfl, z, e1, .inl (.of hH), e3⟩⟩
    case tup ds =>
      obtain ⟨a, vs, g, e, hH, ef, r⟩ := h
      obtain ⟨z, v, e1, e2, e3⟩ := num_at (vs := vs) (Ows.len r) hp
      exact ⟨a, vs, v, e, e2, .inl ⟨rfl, by rw [ef]; exact List.mem_cons_self, .inr (.inl hH)⟩, .inl ⟨rfl, z, e1, .inr (.inl (.inl hH)), e3⟩⟩
    case dct ks ds =>
      obtain ⟨a, vs, g, e, ef, ⟨kvs, h1, h2, h3, h4⟩, r⟩ := h
      obtain ⟨k, hk, hp⟩ := Option.bind_eq_some_iff.mp (show ((keyD j).bind fun k => posK k ks) = some n from hp)
      subst h3
      have hv := posK_val hp
      have hn : n < (kvs.map (·.2)).length := by
        rw [List.length_map]
        have := posK_lt hp
        rwa [List.length_map] at this
      obtain ⟨v, e2⟩ : ∃ v, (kvs.map (·.2))[n]? = some v := ⟨_, List.getElem?_eq_getElem hn⟩
      exact ⟨a, vs, v, e, by rw [h4]; exact e2, .inl ⟨rfl, by rw [ef]; exact List.mem_cons_self, .inr (.inr (.inl ⟨kvs, .inl h1, h4⟩))⟩, .inr ⟨rfl, k, kvs, hk, .inl h1, by rw [← hv, e2]⟩⟩
  | t => cases hz
  | f k =>
    cases d <;> first | (cases hp; done) | skip
    case lst ds =>
      obtain ⟨a, vs, e, hH, r⟩ := h
      obtain ⟨z, v, e1, e2, e3⟩ := num_at (vs := vs) (Ows.len r) hp
      exact ⟨a, vs, v, e, e2, .inr (.inl hH), .inl ⟨rfl, z, e1, .inl (.of (s _ _ hH)), e3⟩⟩
    case tup ds =>
      obtain ⟨a, vs, e, hH, r⟩ := h
      obtain ⟨z, v, e1, e2, e3⟩ := num_at (vs := vs) (Ows.len r) hp
      exact ⟨a, vs, v, e, e2, .inr (.inr (.inl hH)), .inl ⟨rfl, z, e1, .inr (.inl (.inl (s _ _ hH))), e3⟩⟩
    case dct ks ds =>
      obtain ⟨a, vs, e, ⟨kvs, h1, h2, h3, h4⟩, r⟩ := h
      obtain ⟨k, hk, hp⟩ := Option.bind_eq_some_iff.mp (show ((keyD j).bind fun k => posK k ks) = some n from hp)
      subst h3
      have hv := posK_val hp
      have hn : n < (kvs.map (·.2)).length := by
        rw [List.length_map]
        have := posK_lt hp
        rwa [List.length_map] at this
      obtain ⟨v, e2⟩ : ∃ v, (kvs.map (·.2))[n]? = some v := ⟨_, List.getElem?_eq_getElem hn⟩
      exact ⟨a, vs, v, e, by rw [h4]; exact e2, .inr (.inr (.inr (.inl ⟨kvs, h1, h4⟩))), .inr ⟨rfl, k, kvs, hk, same_rd s h1, by rw [← hv, e2]⟩⟩
end
section
variable {G : GC} {N : List Str} {S : SC} {bs bs1 bs2 ms ms1 ms2 as : Ms} {m rm : Md} {e a b : Expr} {es : List Expr} {f fa fb fe : M D} {fs : M (List D)} {pl : M Nat} {pos p apos : Pos} {i n k : Nat} {x : Str} {F : M D} {ps : List Str} {ls : List (Option Nat)}
/-- the read of a place, in one piece -/
theorem pl_run {R : Rs} {W : WX} (ok : Md → Bool) (hok : ∀ m, ok m = true → isZ m = false) (FF : L2.St → Fam Nat V) (hF : ∀ (σ : L2.St) (H0 H H0' H' : Hp) (c c' : Co) (ρ : En) (md : Md × D) (n : Nat) (v0 v : V) (fp : List Addr), getS ρ i = some md → ok md.1 = true → σ[i]? = some (some v0) → (∀ b ∈ fp, c' b = some i) → (∃ a vs, v0 = .ref a ∧ vs[n]? = some v ∧ ((isF md.1 = false ∧ a ∈ fp ∧ NodeO H' a vs) ∨ NodeO H0' a vs)) → FF σ H c n H0' H' c' v)
    (a_ : At G.mg.hx S N (mkX G N R)) (t : L2N.Takes (mkX G N R) W) (hb : VO G N S .z ms b fb) (hN : N[i]? = some x) (hv : Vis S.sc x) (hd : (x == ("__debug__" : Str)) = false) (hcd : (x == ("__classdict__" : Str)) = false) (hs : NoSl b) (hp : PlainIx b) :
    PE (mkX G N R) (.Subscript (.Name x p) b pos) fun σ H Q => ∃ ρ H0 c, Lies G.K G.mg H0 H c σ ρ ∧ Out G.K G.mg W (FF σ) ms H0 H c σ (fPl ok i fb ρ) Q := by
  have pv := pe_var (X := mkX G N R) (pos := p) (i := i) hN (a_.vis hv) hd hcd
  refine (PE.or (pe_ix (pos := pos) ix_seq pv (hb R a_ W t) hp) (pe_dget (pos := pos) (by have := a_.u100; omega) pv (hb R a_ W t) hs)).imp fun σ H Q ⟨ρ, H0, c, l, o⟩ => ?_
  unfold fPl at o
  cases es : getS ρ i with
  | none => rw [es] at o; exact o.elim
  | some md0 =>
    obtain ⟨m0, d0⟩ := md0
    obtain ⟨v0, fp0, e1, _⟩ := l.slot i m0 d0 es
    rw [es] at o
    have o : Out G.K G.mg W (FF σ) ms H0 H c σ ((fb ρ).bind fun j r => rM (plS1 ok (isDct d0) j (getS r i)) r) Q := o
    cases hb0 : isDct d0 with
    | false =>
      refine .inl ⟨v0, e1, ρ, H0, c, l, ?_⟩
      cases hf : fb ρ with
      | exc nn ns vs r => rw [hf] at o; exact o
      | bad => rw [hf] at o; exact o
      | ok j r =>
        rw [hf, bind_ok] at o
        intro y H0' H' c' st l' ⟨fp, ow, fr⟩
        have fj := (Ow.zero.mp ow).2
        cases hp1 : plS1 ok (isDct d0) j (getS r i) with
        | none => rw [hp1] at o; exact o.elim
        | some n =>
          rw [hp1] at o
          have o : ∀ v H0'' H'' c'', Step ms H0 H c H0'' H'' c'' → Lies G.K G.mg H0'' H'' c'' σ r → FF σ H c n H0'' H'' c'' v → Q v H'' := o
          cases es2 : getS r i with
          | none => rw [es2] at hp1; cases hp1
          | some md =>
            obtain ⟨m, d⟩ := md
            rw [es2] at hp1
            have hp1 : (if isDct d = isDct d0 ∧ ok m = true then posD d j else none) = some n := hp1
            split at hp1
            · rename_i hh
              obtain ⟨w, g, e2, ow2, nd2, hc2⟩ := l'.slot i m d es2
              rw [e1] at e2
              cases e2
              obtain ⟨a, vs, v, q1, q2, q3, q4⟩ := ow2.look l'.sub (hok m hh.2) hp1
              rcases q4 with ⟨_, z, ez, hsq, hat⟩ | ⟨hd1, _⟩
              · subst ez
                have qv := o v H0' H' c' st l' (hF σ H0 H H0' H' c c' r (m, d) n v0 v g es2 hh.2 e1 hc2 ⟨a, vs, q1, q2, q3⟩)
                rcases hsq with hsq | hsq
                · exact .inl ⟨a, vs, z, v, q1, fj, hsq, hat, qv⟩
                · exact .inr (.inl ⟨a, vs, z, v, q1, fj, hsq, hat, qv⟩)
              · rw [hh.1, hb0] at hd1; cases hd1
            · cases hp1
    | true =>
      refine .inr ⟨v0, e1, ρ, H0, c, l, ?_⟩
      cases hf : fb ρ with
      | exc nn ns vs r => rw [hf] at o; exact o
      | bad => rw [hf] at o; exact o
      | ok j r =>
        rw [hf, bind_ok] at o
        intro y H0' H' c' st l' ⟨fp, ow, fr⟩
        have fj := (Ow.zero.mp ow).2
        cases hp1 : plS1 ok (isDct d0) j (getS r i) with
        | none => rw [hp1] at o; exact o.elim
        | some n =>
          rw [hp1] at o
          have o : ∀ v H0'' H'' c'', Step ms H0 H c H0'' H'' c'' → Lies G.K G.mg H0'' H'' c'' σ r → FF σ H c n H0'' H'' c'' v → Q v H'' := o
          cases es2 : getS r i with
          | none => rw [es2] at hp1; cases hp1
          | some md =>
            obtain ⟨m, d⟩ := md
            rw [es2] at hp1
            have hp1 : (if isDct d = isDct d0 ∧ ok m = true then posD d j else none) = some n := hp1
            split at hp1
            · rename_i hh
              obtain ⟨w, g, e2, ow2, nd2, hc2⟩ := l'.slot i m d es2
              rw [e1] at e2
              cases e2
              obtain ⟨a, vs, v, q1, q2, q3, q4⟩ := ow2.look l'.sub (hok m hh.2) hp1
              rcases q4 with ⟨hd1, _⟩ | ⟨_, k, kvs, hk, hr, hval⟩
              · rw [hh.1, hb0] at hd1; cases hd1
              · have qv := o v H0' H' c' st l' (hF σ H0 H H0' H' c c' r (m, d) n v0 v g es2 hh.2 e1 hc2 ⟨a, vs, q1, q2, q3⟩)
                exact ⟨a, v, q1, .inl ⟨kvs, k, hr, key_v (Fz.sh (Same.refl _) fj) hk, hval.symm⟩, qv⟩
            · cases hp1
abbrev okO (m : Md) : Bool := !isZ m
theorem VPl.ix (hb : VO G N S .z ms b fb) (hN : N[i]? = some x := by rfl) (hv : Vis S.sc x := by first | exact Or.inl rfl | exact Or.inr (Or.inl rfl) | exact Or.inr (Or.inr rfl)) (hd : (x == ("__debug__" : Str)) = false := by decide) (hcd : (x == ("__classdict__" : Str)) = false := by decide) (hs : NoSl b := by exact fun _ _ => rfl) (hp : PlainIx b := by exact fun _ _ => rfl) :
    VPl G N S i ms (.Subscript (.Name x p) b pos) (fPl okO i fb) := fun R a W t => pl_run okO (fun m h => by simpa [okO] using h) (fun σ => FPl σ i) (fun σ H0 H H0' H' c c' ρ md n v0 v fp _ _ e1 hc ⟨a, vs, q1, q2, q3⟩ => ⟨v0, e1, a, vs, q1, q2, q3.imp (fun z => ⟨hc a z.2.1, z.2.2⟩) fun z => z⟩) a t hb hN hv hd hcd hs hp
theorem VPz.ix (hb : VO G N S .z ms b fb) (hN : N[i]? = some x := by rfl) (hv : Vis S.sc x := by first | exact Or.inl rfl | exact Or.inr (Or.inl rfl) | exact Or.inr (Or.inr rfl)) (hd : (x == ("__debug__" : Str)) = false := by decide) (hcd : (x == ("__classdict__" : Str)) = false := by decide) (hs : NoSl b := by exact fun _ _ => rfl) (hp : PlainIx b := by exact fun _ _ => rfl) :
    VPz G N S i ms (.Subscript (.Name x p) b pos) (fPl isF i fb) := fun R a W t => pl_run isF (fun m h => by cases m <;> first | rfl | cases h) (fun σ => FPz σ i) (fun σ H0 H H0' H' c c' ρ md n v0 v fp _ hf e1 hc ⟨a, vs, q1, q2, q3⟩ => ⟨v0, e1, a, vs, q1, q2, q3.elim (fun z => by rw [hf] at z; cases z.1) fun z => z⟩) a t hb hN hv hd hcd hs hp
/-! ### a child is read -/
def borS : Sl → Option D
  | some (.z, d) => some d
  | some (.o (.all .z), d) => if lend d = true ∨ atom d = true then some d else none
  | some (_, d) => if atom d = true then some d else none
  | none => none
def fKid (i : Nat) (pl : M Nat) : M D := fun r => (pl r).bind fun n r => rM (borS (kidS n (getS r i))) r
theorem borS_bw {K : PySem.W.Frag} {mg : MG} {H0 H : Hp} {c : Co} {m : Md} {d d' : D} {v : V} {g : List Addr} (hb : borS (some (m, d)) = some d') (ow : Ow K mg H0 H d m v g) (hc : ∀ a ∈ g, c a = some i) : d' = d ∧ Bw K mg (msO i) H0 H c d v := by
  have at_ : (if atom d = true then some d else none) = some d' → d' = d ∧ Bw K mg (msO i) H0 H c d v := fun h => by
    split at h
    · cases h; exact ⟨rfl, .inl (ow_atom ow (by assumption))⟩
    · cases h
  cases m with
  | z => cases hb; exact ⟨rfl, .inl (Ow.zero.mp ow).2⟩
  | f k => exact at_ hb
  | t => exact at_ hb
  | o k =>
    cases k with
    | one m k => exact at_ hb
    | all m =>
      cases m with
      | o k => exact at_ hb
      | f k => exact at_ hb
      | t => exact at_ hb
      | z =>
        have hb : (if lend d = true ∨ atom d = true then some d else none) = some d' := hb
        split at hb
        · rename_i h
          cases hb
          refine ⟨rfl, ?_⟩
          rcases h with h | h
          · exact .inr ⟨g, i, by simp, h, ow, hc⟩
          · exact .inl (ow_atom ow h)
        · cases hb
theorem VB.kid (h : VPl G N S i ms e pl) : VB G N S (msO i) ms e (fKid i pl) := by
  refine fun R a W t => (h R a W t).imp fun σ H Q ⟨ρ, H0, c, l, o⟩ => ⟨ρ, H0, c, l, ?_⟩
  unfold fKid at o
  cases hp : pl ρ with
  | exc n ns vs r => rw [hp] at o; exact o
  | bad => rw [hp] at o; exact o
  | ok n r =>
    rw [hp, bind_ok] at o
    intro v H0' H' c' s l' ⟨v0, e1, kid⟩
    cases hb : borS (kidS n (getS r i)) with
    | none => rw [hb] at o; exact o.elim
    | some d' =>
      rw [hb] at o
      have o : ∀ v H0'' H'' c'', Step ms H0 H c H0'' H'' c'' → Lies G.K G.mg H0'' H'' c'' σ r → Bw G.K G.mg (msO i) H0'' H'' c'' d' v → Q v H'' := o
      cases hk : kidS n (getS r i) with
      | none => rw [hk] at hb; cases hb
      | some md =>
        obtain ⟨m', d1⟩ := md
        obtain ⟨m, d, es, hm, hd⟩ := kidS_ok hk
        obtain ⟨w, g, C, lc⟩ := l'.carve es hm hd
        obtain ⟨v0', e1', kid'⟩ := C.kid
        rw [e1] at e1'
        cases e1'
        have ew := kid.one kid' l'.sub
        subst ew
        obtain ⟨w2, g2, e2, ow, _, hc2⟩ := lc.slot σ.length m' d1 (by rw [← l'.len, ← List.length_set (as := r) (i := i) (a := none)]; exact getS_snoc)
        have ew2 : w2 = v := by
          rw [List.getElem?_append_right (Nat.le_refl _)] at e2
          simpa using e2.symm
        subst ew2
        rw [hk] at hb
        obtain ⟨ed, bw⟩ := borS_bw (i := i) hb ow fun a ha => by
          rcases coV_some (hc2 a ha) with ⟨z, _⟩ | ⟨_, _, z⟩
          · exact C.col a z
          · exact absurd rfl z
        subst ed
        refine o w2 H0' H' c' s l' ?_
        rcases bw with bw | ⟨fp, i', hi', hl, ow', hc'⟩
        · exact .inl bw
        · refine .inr ⟨fp, i', hi', hl, ow', fun a ha => ?_⟩
          exact hc' a ha
end
end Vm
set_option Elab.async false
set_option linter.all false
set_option maxRecDepth 100000
set_option maxHeartbeats 4000000
/-! a child is lent to a call, a method changes a child -/
namespace Vm
open PySem PySem.Spec PyProof.Rows L2 TL
/-- behind a call that changed the child n of slot i -/
def putKd (i n : Nat) (s : Sl) (ls : List (Option Nat)) (rp r : En) : En := (putBack ls rp.tail (r.set i none)).set i (setKS n s (getS rp 0))
/-- F(x[e], ..): the child is lent -/
def fCallK (F : M D) (i : Nat) (pl : M Nat) (ls : List (Option Nat)) (fs : M (List D)) : M D := fun r => (pl r).bind fun n r => (fs r).bind fun ds r => match kidS n (getS r i) with
  | some md => (match F (some md :: mkArgs ls ds (r.set i none)) with
    | .ok d rp => .ok d (putKd i n (getS r i) ls rp r)
    | .exc c ns vs rp => .exc c ns vs (putKd i n (getS r i) ls rp r)
    | .bad => .bad)
  | none => .bad
section
variable {K : PySem.W.Frag} {mg : MG} {H0 H : Hp} {σ : L2.St} {ls : List (Option Nat)} {ds : List D} {vs : List V} {ρ rp r : En} {w : V} {s1 : Sl} {i n : Nat}
theorem AMr.ext : ∀ {ls : List (Option Nat)} {ds : List D} {vs : List V}, AMr K mg H0 σ ls ds vs → AMr K mg H0 (σ ++ [some w]) ls ds vs
  | [], _, _, h => h
  | none :: ls, _, _, ⟨d, r, v, x, e1, e2, f, h⟩ => ⟨d, r, v, x, e1, e2, f, AMr.ext h⟩
  | some i :: ls, _, _, ⟨v, x, e1, e2, h⟩ => ⟨v, x, e1, by rw [List.getElem?_append_left (List.getElem?_eq_some_iff.mp e2).1]; exact e2, AMr.ext h⟩
theorem AMr.lt : ∀ {ls : List (Option Nat)} {ds : List D} {vs : List V}, AMr K mg H0 σ ls ds vs → ∀ i, some i ∈ ls → i < σ.length
  | [], _, _, _, i, h => by cases h
  | none :: ls, _, _, ⟨d, r, v, x, e1, e2, f, h⟩, i, hi => AMr.lt h i (by simpa using hi)
  | some j :: ls, _, _, ⟨v, x, e1, e2, h⟩, i, hi => by
    rcases List.mem_cons.mp hi with z | z
    · cases z; exact (List.getElem?_eq_some_iff.mp e2).1
    · exact AMr.lt h i z
end
section
variable {G : GC} {N : List Str} {S : SC} {bs bs1 bs2 ms ms1 ms2 as : Ms} {m me rm : Md} {e a b : Expr} {es : List Expr} {f fa fb fe : M D} {fs : M (List D)} {pl : M Nat} {pos p apos spos : Pos} {i n k : Nat} {c x nm : Str} {F : M D} {ps : List Str} {ls : List (Option Nat)}
/-! ### methods on a child -/
/-- x[e].m(a), the child a list -/
def gMtK (i : Nat) (pl : M Nat) (me : Md) (g : D → List D → Option (List D)) (f : M D) : M Fl := fun r => (pl r).bind fun n r => if rcvS (kidS n (getS r i)) = true then (f r).bind fun d r => (rM (lsS me (kidS n (getS r i))) r).bind fun ds r => (rM (g d ds) r).bind fun ds' r => .ok .nx (r.set i (setKS n (getS r i) (some (.o (.all me), .lst ds')))) else .bad
end
end Vm
set_option Elab.async false
set_option linter.all false
set_option maxRecDepth 100000
set_option maxHeartbeats 4000000
/-! a node frozen over owned children; atoms at any mode; what is handed over one by one -/
namespace Vm
open PySem PySem.Spec PyProof.Rows L2 TL
section
variable {K : PySem.W.Frag} {mg : MG} {ms : Ms} {H0 H H0' H' : Hp} {c c' : Co} {σ : L2.St} {ρ : En} {k : Kd} {W : WX} {v : V} {fp : List Addr}
theorem Fresh.part {g : List Addr} (f : Fresh ms H c H0' H' c' fp) (nd : g.Nodup) (h : ∀ a ∈ g, a ∈ fp) : Fresh ms H c H0' H' c' g := ⟨nd, fun a ha => f.nc a (h a ha), fun a ha => f.n0 a (h a ha), fun a ha => f.there a (h a ha), fun a ha => f.new a (h a ha)⟩
end
section
variable {G : GC} {N : List Str} {S : SC} {bs bs1 bs2 ms ms1 ms2 ms3 as asb : Ms} {m me rm : Md} {k : Kd} {e a b : Expr} {es : List Expr} {f fa fb fo fe : M D} {fs : M (List D)} {pos p apos spos : Pos} {i : Nat} {x xa : Str} {body : List Stmt} {gb : M Fl} {pa fpos : Pos}
/-- an atom, at any mode -/
def atmD (d : D) : Option D := if atom d = true then some d else none
def fAtm (f : M D) : M D := fun r => (f r).bind fun d => rM (atmD d)
/-! ### the first place of a text in a list of texts -/
def oIndexL (x y : D) : Option D := match x, y with
  | .lst ds, .str s => (txts ds).bind fun ls => (ls.findIdx? fun t => t == s).map fun (j : Nat) => D.int (j : Int)
  | _, _ => none
def fLs2 (o : D → D → Option D) (fo fe : M D) : M D := fun r => (fo r).bind fun x r => match x with
  | .lst _ => (fe r).bind fun y => rM (o x y)
  | _ => .bad
/-! ### a part of a list moves out with its items -/
def mvCut (me : Md) (lo hi : Option Int) : Sl → Option (List D)
  | some (.o (.all m), .lst ds) => if mdEq m me = true then some (cutL ds lo hi) else none
  | some (.f (.all m), .lst ds) => if mdEq m me = true then some (cutL ds lo hi) else none
  | _ => none
theorem Ows.take_all {K : PySem.W.Frag} {mg : MG} {H0 H : Hp} : ∀ {ds : List D} {vs : List V} {fp : List Addr} (n : Nat), Ows K mg H0 H ds (.all me) vs fp → ∃ g, Ows K mg H0 H (ds.take n) (.all me) (vs.take n) g ∧ List.Sublist g fp
  | [], vs, fp, n, h => ⟨[], by rw [h.1]; simpa using ⟨rfl, rfl⟩, List.nil_sublist _⟩
  | d :: ds, vs, fp, 0, h => ⟨[], ⟨rfl, rfl⟩, List.nil_sublist _⟩
  | d :: ds, _, _, n + 1, ⟨v, r, f, g, e, ef, h, t⟩ => by
    subst e ef
    obtain ⟨g', o, s⟩ := Ows.take_all n t
    exact ⟨f ++ g', ⟨v, r.take n, f, g', rfl, rfl, h, o⟩, List.Sublist.append_left s f⟩
theorem Ows.drop_all {K : PySem.W.Frag} {mg : MG} {H0 H : Hp} : ∀ {ds : List D} {vs : List V} {fp : List Addr} (n : Nat), Ows K mg H0 H ds (.all me) vs fp → ∃ g, Ows K mg H0 H (ds.drop n) (.all me) (vs.drop n) g ∧ List.Sublist g fp
  | [], vs, fp, n, h => ⟨[], by rw [h.1]; simpa using ⟨rfl, rfl⟩, List.nil_sublist _⟩
  | d :: ds, vs, fp, 0, h => ⟨fp, h, List.Sublist.refl _⟩
  | d :: ds, _, _, n + 1, ⟨v, r, f, g, e, ef, h, t⟩ => by
    subst e ef
    obtain ⟨g', o, s⟩ := Ows.drop_all n t
    exact ⟨g', o, s.trans (List.sublist_append_right f g)⟩
end
end Vm
set_option Elab.async false
set_option linter.all false
set_option maxRecDepth 100000
set_option maxHeartbeats 4000000
namespace Vm
open PySem PySem.Spec PyProof.Rows L2 TL
theorem txts_vals {K : PySem.W.Frag} {mg : MG} {H : Hp} {ds : List D} {vs : List V} {ls : List (List Nat)} (h : txts ds = some ls) (f : Fzs K mg H ds vs) : vs = ls.map sV := by
  have e := txts_eq h
  subst e
  clear h
  induction ls generalizing vs with
  | nil => exact f
  | cons s ls ih =>
    obtain ⟨v, r, e, h, t⟩ := f
    rw [e, ih t, show v = sV s from h.1]; rfl
theorem eqV_sV {a b : List Nat} : eqV (sV a) (sV b) = (a == b) := str_beq a b
section
variable {G : GC} {N : List Str} {S : SC} {bs bs1 bs2 ms ms1 ms2 ms3 as asb : Ms} {m me rm : Md} {k : Kd} {e a b : Expr} {es : List Expr} {f fa fb fo fe : M D} {fs : M (List D)} {pos p apos spos : Pos} {i : Nat} {x xa : Str} {body : List Stmt} {gb : M Fl} {pa fpos : Pos} {o : Expr}
/-- xs.index(t) -/
theorem VO.lindex (ho : VO G N S .z ms1 o fo) (he : VO G N S .z ms2 e fe) (hbase : ∀ env, attributeBase o "index" env (eval o env) = eval o env := by intro _; rfl) (hline : (apos.endLine == pos.line) = true := by rfl) (hst : ∀ env, starEach [e] env = [(false, eval e env)] := by intro _; rfl)
    (hfew : ∀ env, ((backTo pos (starEach [e] env)).all (fun x => !x.1) && (backToKw pos (keywordEach [] env)).all (fun x => x.1.isSome) && decide (([e] : List Expr).length + ([] : List Keyword).length + (if ([] : List Keyword).isEmpty then 0 else 1) < 30)) = true := by intro _; rfl) :
    VO G N S .z (msU ms1 ms2) (.Call (.Attribute o "index" apos) [e] [] pos) (fLs2 oIndexL fo fe) := by
  refine fun R a W t => (pe_bm PySem.F.plainAttrs_list PySem.F.slot_list_index PySem.F.type_list_index mt_index (ho R a W t) (pa_cons (he R a W t) pa_nil (hst _)) (hbase _) (hfew _) hline ((hst _).trans rfl) rfl).imp fun σ H Q ⟨ρ, H0, c, l, q⟩ => ?_
  refine ⟨ρ, H0, c, l, (Out.bind (G := FO G.K G.mg .z ms1) (ms1 := ms1) back_FO q fun i e => or_l e).imp fun x H1 ⟨d1, H01, c1, ρ1, e1, s1, l1, ⟨fp1, o1, _⟩, h1⟩ => ?_⟩
  have f1 := (Ow.zero.mp o1).2
  cases d1 <;> first | exact h1.elim | skip
  rename_i ds
  obtain ⟨q1, vs, ex, hH, fz⟩ := f1
  subst ex
  refine ⟨.inl ⟨rfl, vs, .of (l1.sub _ _ hH)⟩, ρ1, H01, c1, l1, (Out.bind (G := FO G.K G.mg .z ms2) (ms1 := ms2) back_FO h1 fun i e => or_r e).imp fun y H2 ⟨d2, H02, c2, ρ2, e2, s2, l2, ⟨fp2, o2, _⟩, h2⟩ => ?_⟩
  have f2 := (Ow.zero.mp o2).2
  cases d2 <;> first | exact h2.elim | skip
  rename_i s
  cases hd : oIndexL (.lst ds) (.str s) with
  | none => rw [hd] at h2; exact h2.elim
  | some d =>
    rw [hd] at h2
    obtain ⟨ls, hls, hj⟩ := Option.bind_eq_some_iff.mp hd
    obtain ⟨j, hfi, ed⟩ := Option.map_eq_some_iff.mp hj
    subst ed
    have ev := txts_vals (K := G.K) (mg := G.mg) hls fz
    obtain ⟨h3, h4, h5⟩ := List.findIdx?_eq_some_iff_getElem.mp hfi
    have ey : y = sV s := f2.1
    refine ⟨q1, vs, y, j, sV ls[j], rfl, rfl, .of (l2.sub _ _ (s2.grow _ _ hH)), by rw [ey]; rfl, by rw [ev]; simp [flatV], by rw [ev]; simp [List.getElem?_eq_getElem h3], ?_, fun m z' hm hz => ?_, h2 _ H02 H2 c2 .refl l2 (ow_zero_fo rfl)⟩
    · rw [ey]
      have : ls[j] = s := by simpa using h4
      rw [this]
      exact eqV_sV.trans (by simp)
    · rw [ev] at hz
      have hm' : m < ls.length := Nat.lt_trans hm h3
      rw [List.getElem?_map, List.getElem?_eq_getElem hm'] at hz
      have hz : sV ls[m] = z' := by simpa using hz
      rw [ey, ← hz, eqV_sV]
      simpa using h5 m hm
/-- x[lo:hi], the items move out -/
def fMvCut (i : Nat) (me : Md) (fl fh : M (Option Int)) : M D := fun r => (rM (plS0 (getS r i)) r).bind fun _ r => (fl r).bind fun lo r => (fh r).bind fun hi r => (rM (mvCut me lo hi (getS r i)) r).bind fun ds r => .ok (.lst ds) (r.set i none)
theorem VO.mvCut {lo hi : Option Expr} {fl fh : M (Option Int)} {p2 : Pos} (hl : VP G N S ms2 lo fl) (hh : VP G N S ms3 hi fh) (hN : N[i]? = some x := by rfl) (hv : Vis S.sc x := by first | exact Or.inl rfl | exact Or.inr (Or.inl rfl) | exact Or.inr (Or.inr rfl)) (hd : (x == ("__debug__" : Str)) = false := by decide) (hcd : (x == ("__classdict__" : Str)) = false := by decide) :
    VO G N S (.o (.all me)) (msU (msU ms2 ms3) (msO i)) (.Subscript (.Name x p) (.Slice lo hi none p2) pos) (fMvCut i me fl fh) := by
  refine fun R a W t => (pe_slice sl_list (pe_var (i := i) hN (a.vis hv) hd hcd) (hl R a W t) (hh R a W t)).imp fun σ H Q ⟨ρ, H0, c, l, o⟩ => ?_
  unfold fMvCut at o
  cases es : getS ρ i with
  | none => rw [es] at o; exact o.elim
  | some md0 =>
    obtain ⟨m0, d0⟩ := md0
    obtain ⟨v0, fp0, e1, _⟩ := l.slot i m0 d0 es
    rw [es] at o
    have o : Out G.K G.mg W (FO G.K G.mg (.o (.all me)) (msU (msU ms2 ms3) (msO i))) (msU (msU ms2 ms3) (msO i)) H0 H c σ ((fl ρ).bind fun lo r => (fh r).bind fun hi r => (rM (Vm.mvCut me lo hi (getS r i)) r).bind fun ds r => .ok (.lst ds) (r.set i none)) Q := o
    refine ⟨v0, e1, ρ, H0, c, l, (Out.bind (G := fun _ _ d _ _ _ v => v = d) (ms1 := ms2) back_FO o fun i e => or_l (or_l e)).imp fun y H2 ⟨d2, H02, c2, ρ2, e2, s2, l2, b2, h2⟩ => ?_⟩
    refine ⟨ρ2, H02, c2, l2, (Out.bind (G := fun _ _ d _ _ _ v => v = d) (ms1 := ms3) back_FO h2 fun i e => or_l (or_r e)).imp fun z H3 ⟨d3, H03, c3, ρ3, e3, s3, l3, b3, h3⟩ => ?_⟩
    subst b2 b3
    cases hm : Vm.mvCut me y z (getS ρ3 i) with
    | none => rw [hm] at h3; exact h3.elim
    | some ds =>
      rw [hm, rM_some, bind_ok] at h3
      have key : ∃ (q : Addr) (vs : List V) (g fp : List Addr), v0 = .ref q ∧ H3 q = some (.lst vs) ∧ Ows G.K G.mg H03 H3 ds (.all me) (cutV vs y z) g ∧ g.Nodup ∧ (∀ b ∈ g, b ∈ fp) ∧ (∀ b ∈ fp, c3 b = some i) := by
        cases es3 : getS ρ3 i with
        | none => rw [es3] at hm; cases hm
        | some md =>
          obtain ⟨m, d⟩ := md
          rw [es3] at hm
          obtain ⟨w, fp, e4, ow, nd, hc⟩ := l3.slot i m d es3
          rw [e1] at e4
          cases e4
          have cut : ∀ {ds0 : List Vm.D} {vs : List V} {g0 : List Addr}, Ows G.K G.mg H03 H3 ds0 (.all me) vs g0 → ∃ g, Ows G.K G.mg H03 H3 (Vm.cutL ds0 y z) (.all me) (cutV vs y z) g ∧ List.Sublist g g0 := fun {ds0 vs g0} ow => by
            unfold Vm.cutL cutV
            rw [← Ows.len ow]
            obtain ⟨g1, o1, s1⟩ := Ows.drop_all (HT.sIx vs.length 0 y) ow
            obtain ⟨g2, o2, s2⟩ := Ows.take_all (HT.sIx vs.length vs.length z - HT.sIx vs.length 0 y) o1
            exact ⟨g2, o2, s2.trans s1⟩
          cases m with
          | z => cases hm
          | t => cases d <;> cases hm
          | o k =>
            cases k with
            | one => cases d <;> cases hm
            | all mm =>
              cases d <;> first | (cases hm; done) | skip
              rename_i ds0
              have hm : (if mdEq mm me = true then some (Vm.cutL ds0 y z) else none) = some ds := hm
              split at hm
              · rename_i hq
                cases hm
                have hq := mdEq_ok hq
                subst hq
                obtain ⟨q, vs, g0, ev, hH, ef, ows⟩ := ow
                subst ef
                obtain ⟨g, o2, s2⟩ := cut ows
                exact ⟨q, vs, g, _, ev, hH, o2, (List.nodup_cons.mp nd).2.sublist s2, fun b hb => List.mem_cons_of_mem _ (s2.subset hb), hc⟩
              · cases hm
          | f k =>
            cases k with
            | one => cases d <;> cases hm
            | all mm =>
              cases d <;> first | (cases hm; done) | skip
              rename_i ds0
              have hm : (if mdEq mm me = true then some (Vm.cutL ds0 y z) else none) = some ds := hm
              split at hm
              · rename_i hq
                cases hm
                have hq := mdEq_ok hq
                subst hq
                obtain ⟨q, vs, ev, hH, ows⟩ := ow
                obtain ⟨g, o2, s2⟩ := cut ows
                exact ⟨q, vs, g, _, ev, l3.sub _ _ hH, o2, nd.sublist s2, fun b hb => s2.subset hb, hc⟩
              · cases hm
      obtain ⟨q, vs, g, fp, ev, hH, ows, ndg, hgf, hc⟩ := key
      refine ⟨q, vs, ev, .of hH, fun pn hp => ?_⟩
      have st : Step (msU (msU ms2 ms3) (msO i)) H03 H3 c3 H03 H3 (coDrop c3 fp) := Step.drop hc (or_r (by simp))
      have fg : Fresh (msU (msU ms2 ms3) (msO i)) H3 c3 H03 H3 (coDrop c3 fp) g := ⟨ndg, fun b hb => by unfold coDrop; rw [if_pos (hgf b hb)], fun b hb => l3.apart b i (hc b (hgf b hb)), fun b hb => l3.there b i (hc b (hgf b hb)), fun b hb => .inr ⟨i, hc b (hgf b hb), or_r (by simp)⟩⟩
      refine Out.node (Hs := H3) (cs := c3) h3 st (l3.drop hc) hp fg ⟨pn, cutV vs y z, g, rfl, upd_same, rfl, Ows.mono (Same.refl _) ds _ _ g (fun b hb => ?_) ows⟩
      obtain ⟨u, e⟩ := fg.there b hb
      exact upd_ne (ne_of_none e hp)
/-! ### for over a list of one's own: its items are handed over -/
def gTk (a : Nat) (me : Md) (gb : M Fl) : List D → M Fl
  | [] => gNx
  | d :: ds => fun r => (gb (r.set a (some (me, d)))).bind (lpK (gTk a me gb ds))
def gForO (a : Nat) (me : Md) (f : M D) (gb : M Fl) : M Fl := fun r => (f r).bind fun d r => match d with
  | .lst ds => gTk a me gb ds r
  | _ => .bad
structure TkO (K : PySem.W.Frag) (mg : MG) (me : Md) (H0o Ho : Hp) (co : Co) (q : Addr) (vs : List V) (ds : List D) (j : Nat) (g : List Addr) (H0 H : Hp) (c : Co) : Prop where
  st : Step msA H0o Ho co H0 H c
  hq : H q = some (.lst vs)
  cq : c q = none
  q0 : H0 q = none
  ow : Ows K mg H0 H (ds.drop j) (.all me) (vs.drop j) g
  nd : (q :: g).Nodup
  cg : ∀ b ∈ g, c b = none
  g0 : ∀ b ∈ g, H0 b = none
  og : ∀ b ∈ g, Ho b = none ∨ ∃ j, co b = some j ∧ msA j = true
theorem TkO.adv {K : PySem.W.Frag} {mg : MG} {H0o Ho H0 H H0' H' : Hp} {co c c' : Co} {q : Addr} {vs : List V} {ds : List D} {j : Nat} {g : List Addr} (f : TkO K mg me H0o Ho co q vs ds j g H0 H c) (t : Step msA H0 H c H0' H' c') : TkO K mg me H0o Ho co q vs ds j g H0' H' c' := by
  have cc : ∀ b, c b = none → ∀ j, c b = some j → msA j = false := fun b e j z => by rw [e] at z; cases z
  have z0 : ∀ b u, H b = some u → H0 b = none → c b = none → H0' b = none := fun b u e e0 ec => by
    cases w : H0' b with
    | none => rfl
    | some o =>
      rcases t.new0 b o w with ⟨u', z⟩ | z | ⟨j, z, _⟩
      · rw [e0] at z; cases z
      · rw [e] at z; cases z
      · rw [ec] at z; cases z
  have th : ∀ b ∈ g, ∃ u, H b = some u := fun b hb => Ows.there _ _ _ _ f.ow b hb
  refine ⟨f.st.trans t, t.keep q _ f.hq (cc q f.cq), (t.col q _ f.hq (cc q f.cq)).trans f.cq, z0 q _ f.hq f.q0 f.cq, Ows.mono t.grow _ _ _ _ (fun b hb => ?_) f.ow, f.nd, fun b hb => ?_, fun b hb => ?_, f.og⟩
  · obtain ⟨u, e⟩ := th b hb
    rw [e, t.keep b u e (cc b (f.cg b hb))]
  · obtain ⟨u, e⟩ := th b hb
    exact (t.col b u e (cc b (f.cg b hb))).trans (f.cg b hb)
  · obtain ⟨u, e⟩ := th b hb
    exact z0 b u e (f.g0 b hb) (f.cg b hb)
end
end Vm
set_option Elab.async false
set_option linter.all false
set_option maxRecDepth 100000
set_option maxHeartbeats 4000000
/-! a dictionary written with texts as keys -/
namespace Vm
open PySem PySem.Spec PyProof.Rows L2 TL
/-- keys and values, as they are written -/
def VDs (G : GC) (N : List Str) (S : SC) (k : Kd) (ms : Ms) (pos : Pos) (ks : List (Option Expr)) (es : List Expr) (xs : List (List Nat)) (f : M (List D)) : Prop :=
  (∀ R, At G.mg.hx S N (mkX G N R) → ∀ W, L2N.Takes (mkX G N R) W → ∃ trs, PPs (mkX G N R) pos ks es trs ∧ ∀ σ H (Q : List (V × V) → Hp → Prop), (∃ ρ H0 c, Lies G.K G.mg H0 H c σ ρ ∧ Out G.K G.mg W (FOs G.K G.mg k ms) ms H0 H c σ (f ρ) fun vs H' => Q ((xs.map sV).zip vs) H') → tPairs trs σ H Q) ∧
  (∀ r ds r', f r = .ok ds r' → ds.length = xs.length) ∧ ks.length = es.length ∧ ks.length = xs.length ∧ ks.all (·.isSome) = true
section
variable {G : GC} {N : List Str} {S : SC} {ms ms1 ms2 : Ms} {k : Kd} {e : Expr} {ks : List (Option Expr)} {es : List Expr} {xs : List (List Nat)} {f : M D} {fs : M (List D)} {pos : Pos} {x : Str} {s : List Nat}
theorem VDs.nil : VDs G N S k ms0 pos [] [] [] fNil := by
  refine ⟨fun R a W t => ⟨[], pps_nil, fun σ H Q ⟨ρ, H0, c, l, o⟩ => ?_⟩, fun r ds r' h => ?_, rfl, rfl, rfl⟩
  · exact o [] H0 H c .refl l ⟨[], ⟨rfl, rfl⟩, .nil⟩
  · cases h; rfl
theorem VDs.cons {j} {p : Pos} (he : VO G N S k.hd ms1 e f) (hr : VDs G N S k.tl ms2 pos ks es xs fs) (hx : x = ⟨s.toArray⟩ := by rfl) : VDs G N S k (msU ms1 ms2) pos (some (.Constant (.str x) j p) :: ks) (e :: es) (s :: xs) (fCons f fs) := by
  obtain ⟨h1, h2, h3, h4, h5⟩ := hr
  refine ⟨fun R a W t => ?_, fun r ds r' h => ?_, by rw [List.length_cons, List.length_cons, h3], by rw [List.length_cons, List.length_cons, h4], by rw [List.all_cons, h5]; rfl⟩
  · obtain ⟨trs, p1, p2⟩ := h1 R a W t
    refine ⟨_, pps_cons (pe_str (x := x)) (he R a W t) p1, fun σ H Q ⟨ρ, H0, c, l, h⟩ => ?_⟩
    have ex : V.str x = sV s := by rw [hx]
    show tR G.K G.mg W (FO G.K G.mg k.hd ms1) ms1 f σ H fun y H2 => tPairs trs σ H2 fun ps H3 => Q ((V.str x, y) :: ps) H3
    refine ⟨ρ, H0, c, l, (Out.bind (G := FO G.K G.mg k.hd ms1) (ms1 := ms1) back_FOs h fun i e => or_l e).imp fun y H1 ⟨d1, H01, c1, ρ1, e1, s1, l1, ⟨fp1, o1, f1⟩, h1⟩ => p2 σ H1 _ ?_⟩
    refine ⟨ρ1, H01, c1, l1, (Out.bind (G := FOs G.K G.mg k.tl ms2) (ms1 := ms2) back_FOs h1 fun i e => or_r e).imp fun ys H2 ⟨d2, H02, c2, ρ2, e2, s2, l2, ⟨fp2, o2, f2⟩, h2⟩ => ?_⟩
    obtain ⟨f1', hk⟩ := f1.on s2
    have hh : Out G.K G.mg W (FOs G.K G.mg k (msU ms1 ms2)) (msU ms1 ms2) H0 H c σ (.ok (d1 :: d2) ρ2) fun vs H' => Q (((s :: xs).map sV).zip vs) H' := by
      have z : fCons f fs ρ = .ok (d1 :: d2) ρ2 := by unfold fCons; rw [e1, bind_ok, e2, bind_ok]
      rw [← z]; exact h
    have s1' := s1.mono (ms' := msU ms1 ms2) fun i e => or_l e
    have s2' := s2.mono (ms' := msU ms1 ms2) fun i e => or_r e
    have := hh (y :: ys) H02 H2 c2 (s1'.trans s2') l2 ⟨fp1 ++ fp2, ⟨y, ys, fp1, fp2, rfl, rfl, Ow.mono s2.grow d1 k.hd y fp1 hk o1, o2⟩, Fresh.app f1' (f1.there) (f1.nc) f2 (fun i e => or_l e) (fun i e => or_r e) s1'⟩
    rw [ex]
    exact this
  · unfold fCons at h
    cases e1 : f r with
    | ok d r1 =>
      rw [e1, bind_ok] at h
      cases e2 : fs r1 with
      | ok ds2 r2 =>
        rw [e2, bind_ok] at h
        cases h
        rw [List.length_cons, List.length_cons, h2 _ _ _ e2]
      | exc => rw [e2] at h; cases h
      | bad => rw [e2] at h; cases h
    | exc => rw [e1] at h; cases h
    | bad => rw [e1] at h; cases h
def fDispN (xs : List (List Nat)) (fs : M (List D)) : M D := fun r => (fs r).bind fun ds r => .ok (.dct (xs.map .str) ds) r
end
end Vm
set_option Elab.async false
set_option linter.all false
set_option maxRecDepth 100000
set_option maxHeartbeats 4000000
/-! readings, applied -/
namespace Vm
open PySem PySem.Spec PyProof.Rows L2 TL
mutual
theorem mdEq_refl : ∀ m : Md, mdEq m m = true
  | .z => rfl
  | .o k => kdEq_refl k
  | .f k => kdEq_refl k
  | .t => rfl
theorem kdEq_refl : ∀ k : Kd, kdEq k k = true
  | .all m => mdEq_refl m
  | .one m k => by show (mdEq m m && kdEq k k) = true; rw [mdEq_refl m, kdEq_refl k]; rfl
end
@[simp] theorem mdEq_same (m : Md) : mdEq m m = true := mdEq_refl m
section
variable {α : Type} (s0 : Sl) (r : En) (i n : Nat) (m me : Md) (d j : D) (ds ks : List D) (f fe : M D) (fs : M (List D)) (pl : M Nat) (F : M D) (ls : List (Option Nat)) (ok : Md → Bool)
@[simp] theorem nth_all : ∀ n, Kd.nth (.all m) n = m
  | 0 => rfl
  | n + 1 => nth_all n
@[simp] theorem fPl_ap : fPl ok i fe (s0 :: r) = (rM (plS0 (getS (s0 :: r) i)) (s0 :: r)).bind fun b r => (fe r).bind fun j r => rM (plS1 ok b j (getS r i)) r := rfl
@[simp] theorem plS0_some : plS0 (some (m, d)) = some (isDct d) := rfl
@[simp] theorem plS1_some (b : Bool) : plS1 ok b j (some (m, d)) = if isDct d = b ∧ ok m = true then posD d j else none := rfl
@[simp] theorem posD_lst (z : Int) : posD (.lst ds) (.int z) = ixN ds.length z := rfl
@[simp] theorem posD_tup (z : Int) : posD (.tup ds) (.int z) = ixN ds.length z := rfl
@[simp] theorem ixN_nat (n k : Nat) : ixN n (k : Int) = if k < n then some k else none := by
  unfold ixN
  rw [if_pos (Int.natCast_nonneg k)]
  by_cases h : k < n
  · rw [if_pos h, if_pos (by omega)]; simp
  · rw [if_neg h, if_neg (by omega)]
@[simp] theorem isDct_lst : isDct (.lst ds) = false := rfl
@[simp] theorem isDct_tup : isDct (.tup ds) = false := rfl
@[simp] theorem isDct_dct : isDct (.dct ks ds) = true := rfl
@[simp] theorem isZ_o (k : Kd) : isZ (.o k) = false := rfl
@[simp] theorem isZ_f (k : Kd) : isZ (.f k) = false := rfl
@[simp] theorem isF_f (k : Kd) : isF (.f k) = true := rfl
@[simp] theorem kidS_o (k : Kd) : kidS n (some (.o k, d)) = ((kidsD d)[n]?).map fun d' => (k.nth n, d') := by
  unfold kidS
  dsimp only [kidMd]
  cases (kidsD d)[n]? <;> rfl
@[simp] theorem kidS_f (k : Kd) : kidS n (some (.f k, d)) = ((kidsD d)[n]?).map fun d' => (k.nth n, d') := by
  unfold kidS
  dsimp only [kidMd]
  cases (kidsD d)[n]? <;> rfl
@[simp] theorem kidsD_lst : kidsD (.lst ds) = ds := rfl
@[simp] theorem kidsD_tup : kidsD (.tup ds) = ds := rfl
@[simp] theorem kidsD_dct : kidsD (.dct ks ds) = ds := rfl
@[simp] theorem mrgS_some (m m' m2 : Md) (d2 : D) : mrgS m d m' n (some (m2, d2)) = if mdEq m' m2 = true then some (m, setKid d n d2) else none := rfl
@[simp] theorem mrgS_none (m m' : Md) : mrgS m d m' n none = none := rfl
@[simp] theorem setKid_lst : setKid (.lst ds) n d = .lst (ds.set n d) := rfl
@[simp] theorem setKid_tup : setKid (.tup ds) n d = .tup (ds.set n d) := rfl
@[simp] theorem setKid_dct : setKid (.dct ks ds) n d = .dct ks (ds.set n d) := rfl
@[simp] theorem fKid_ap : fKid i pl (s0 :: r) = (pl (s0 :: r)).bind fun n r => rM (borS (kidS n (getS r i))) r := rfl
@[simp] theorem borS_z : borS (some (.z, d)) = some d := rfl
@[simp] theorem borS_1 : borS (some (.o (.all .z), d)) = if lend d = true ∨ atom d = true then some d else none := rfl
/-- behind a call -/
def kR (i n : Nat) (ls : List (Option Nat)) (r : En) : Res D → Res D
  | .ok d rp => .ok d (putKd i n (getS r i) ls rp r)
  | .exc c ns vs rp => .exc c ns vs (putKd i n (getS r i) ls rp r)
  | .bad => .bad
@[simp] theorem fCallK_ap : fCallK F i pl ls fs (s0 :: r) = (pl (s0 :: r)).bind fun n r => (fs r).bind fun ds r => (rM (kidS n (getS r i)) r).bind fun md r => kR i n ls r (F (some md :: mkArgs ls ds (r.set i none))) := by
  unfold fCallK
  congr 1
  funext n r
  congr 1
  funext ds r
  cases kidS n (getS r i) with
  | none => rfl
  | some md =>
    show _ = kR i n ls r _
    dsimp only
    cases F (some md :: mkArgs ls ds (r.set i none)) <;> rfl
@[simp] theorem kR_ok (rp : En) : kR i n ls r (.ok d rp) = .ok d (putKd i n (getS r i) ls rp r) := rfl
@[simp] theorem putKd_eq (rp : En) (s : Sl) : putKd i n s ls rp r = (putBack ls rp.tail (r.set i none)).set i (setKS n s (getS rp 0)) := rfl
@[simp] theorem gMtK_ap (g : D → List D → Option (List D)) : gMtK i pl me g f (s0 :: r) = (pl (s0 :: r)).bind fun n r => if rcvS (kidS n (getS r i)) = true then (f r).bind fun d r => (rM (lsS me (kidS n (getS r i))) r).bind fun ds r => (rM (g d ds) r).bind fun ds' r => .ok .nx (r.set i (setKS n (getS r i) (some (.o (.all me), .lst ds')))) else .bad := rfl
@[simp] theorem fAtm_ap : fAtm f (s0 :: r) = (f (s0 :: r)).bind fun d => rM (atmD d) := rfl
@[simp] theorem atmD_int (z : Int) : atmD (.int z) = some (.int z) := rfl
@[simp] theorem atmD_bl (b : Bool) : atmD (.bl b) = some (.bl b) := rfl
@[simp] theorem atmD_str (s : List Nat) : atmD (.str s) = some (.str s) := rfl
@[simp] theorem atmD_non : atmD .non = some .non := rfl
/-- a list's road -/
def ls2 (k : M D) : D → M D
  | .lst _ => k
  | _ => fun _ => .bad
@[simp] theorem fLs2_ap (o : D → D → Option D) (fo : M D) : fLs2 o fo fe (s0 :: r) = (fo (s0 :: r)).bind fun x r => ls2 (fun r => (fe r).bind fun y => rM (o x y)) x r := by
  unfold fLs2
  congr 1
  funext x r
  cases x <;> rfl
@[simp] theorem ls2_lst (k : M D) : ls2 k (.lst ds) r = k r := rfl
@[simp] theorem oIndexL_eq (s : List Nat) : oIndexL (.lst ds) (.str s) = (txts ds).bind fun ls => (ls.findIdx? fun t => t == s).map fun (j : Nat) => D.int (j : Int) := rfl
@[simp] theorem fMvCut_ap (fl fh : M (Option Int)) : fMvCut i me fl fh (s0 :: r) = (rM (plS0 (getS (s0 :: r) i)) (s0 :: r)).bind fun _ r => (fl r).bind fun lo r => (fh r).bind fun hi r => (rM (mvCut me lo hi (getS r i)) r).bind fun ds r => .ok (.lst ds) (r.set i none) := rfl
@[simp] theorem mvCut_o (lo hi : Option Int) : mvCut me lo hi (some (.o (.all m), .lst ds)) = if mdEq m me = true then some (cutL ds lo hi) else none := rfl
@[simp] theorem mvCut_f (lo hi : Option Int) : mvCut me lo hi (some (.f (.all m), .lst ds)) = if mdEq m me = true then some (cutL ds lo hi) else none := rfl
def gTkD (a : Nat) (me : Md) (gb : M Fl) : D → M Fl
  | .lst ds => gTk a me gb ds
  | _ => fun _ => .bad
@[simp] theorem gForO_ap (gb : M Fl) : gForO i me f gb (s0 :: r) = (f (s0 :: r)).bind fun d r => gTkD i me gb d r := by
  unfold gForO
  congr 1
  funext d r
  cases d <;> rfl
@[simp] theorem gTkD_lst (gb : M Fl) : gTkD i me gb (.lst ds) r = gTk i me gb ds r := rfl
@[simp] theorem gTk_nil (gb : M Fl) : gTk i me gb [] r = .ok .nx r := rfl
@[simp] theorem mvS_same : mvS m (some (m, d)) = some d := by
  show (if mdEq m m = true then some d else none) = _
  rw [if_pos (mdEq_refl m)]
@[simp] theorem lsS_same : lsS me (some (.o (.all me), .lst ds)) = some ds := by
  show (if mdEq me me = true then some ds else none) = _
  rw [if_pos (mdEq_refl me)]
@[simp] theorem fDispN_ap (xs : List (List Nat)) : fDispN xs fs (s0 :: r) = (fs (s0 :: r)).bind fun ds r => .ok (.dct (xs.map .str) ds) r := rfl
end
end Vm
set_option Elab.async false
set_option linter.all false
set_option maxRecDepth 100000
set_option maxHeartbeats 4000000
/-! list(range(n)) -/
namespace Vm
open PySem PySem.Spec PyProof.Rows L2 TL
def rgD (n : Nat) : List D := (List.range n).map fun i : Nat => D.int (i : Int)
def rgR : D → M D
  | .int j => fun r => if 0 ≤ j ∧ j ≤ 16777216 then .ok (.lst (rgD j.toNat)) r else .bad
  | _ => fun _ => .bad
def fRgL (f : M D) : M D := fun r => (f r).bind rgR
section
variable {G : GC} {N : List Str} {S : SC} {bs ms : Ms} {m : Md} {e : Expr} {f : M D} {pos p p2 pos2 : Pos}
@[simp] theorem fRgL_ap (s0 : Sl) (r : En) : fRgL f (s0 :: r) = (f (s0 :: r)).bind rgR := rfl
@[simp] theorem rgR_int (j : Int) (r : En) : rgR (.int j) r = if 0 ≤ j ∧ j ≤ 16777216 then .ok (.lst (rgD j.toNat)) r else .bad := rfl
end
end Vm
set_option Elab.async false
set_option linter.all false
set_option maxRecDepth 100000
set_option maxHeartbeats 4000000
/-! zip over a list and a tuple, in any mix -/
namespace VmZip
open PySem
open PySem.Sem (wp)
/-- an iterator of a list (true) or of a tuple -/
def IsIt : Bool → Heap → Addr → Addr → Nat → Prop
  | true => fun h it l k => h.IsListIter it l k
  | false => fun h it l k => h.IsTupleIter it l k
def IsSq : Bool → Heap → Addr → Array Value → Prop
  | true => fun h l xs => h.IsList l xs
  | false => fun h l xs => h.IsTuple l xs
def itO : Bool → Addr → Obj
  | true => fun l => { cls := .type "list_iterator", data := .fields #[.ref l, .int 0 0] }
  | false => fun l => { cls := .type "tuple_iterator", data := .fields #[.ref l, .int 0 0] }
section
variable {h h' : Heap} {a b l : Addr} {i : Nat} {xs : Array Value} {q : Bool}
theorem IsIt.extBut (x : IsIt q h a l i) (hs : Heap.ExtBut b h h') (hab : a ≠ b) : IsIt q h' a l i := by
  cases q
  · exact Heap.IsTupleIter.extBut x hs hab
  · exact Heap.IsListIter.extBut x hs hab
theorem IsSq.extBut (x : IsSq q h a xs) (hs : Heap.ExtBut b h h') (hab : a ≠ b) : IsSq q h' a xs := by
  cases q
  · exact Heap.IsTuple.extBut x hs hab
  · exact Heap.IsList.extBut x hs hab
theorem IsIt.at (x : IsIt q h a l i) (e : ∀ o, h.get? a = some o → h'.get? a = some o) : IsIt q h' a l i := by
  cases q
  · exact Heap.IsTupleIter.at x e
  · exact Heap.IsListIter.at x e
theorem IsIt.fld (x : IsIt q h a l i) : ∃ o, h.get? a = some o ∧ o.data = .fields #[.ref l, .int i 0] := by
  cases q
  · obtain ⟨o, e, _, d⟩ := x; exact ⟨o, e, d⟩
  · obtain ⟨o, e, _, d⟩ := x; exact ⟨o, e, d⟩
theorem IsIt.lt (x : IsIt q h a l i) : a < h.objs.size := by
  obtain ⟨o, e, _⟩ := x.fld
  exact Heap.lt_size e
theorem IsIt.new (e : h.get? a = some (itO q l)) : IsIt q h a l 0 := by
  cases q
  · exact ⟨_, e, rfl, rfl⟩
  · exact ⟨_, e, rfl, rfl⟩
theorem IsSq.push (x : IsSq q h a xs) (o : Obj) : IsSq q (h.push o) a xs := by
  cases q
  · exact Heap.IsTuple.push x _
  · exact Heap.IsList.push x _
end
section
variable {prog : Program} {w : World} {A : Around} {E : Value → Shared → Prop} {s : Shared} {b1 b2 : Bool}
theorem nextOf_item {q : Bool} {it l : Addr} {i : Nat} {items} {x : Value} {Q : Value → Shared → Prop} (hit : IsIt q s.heap it l i) (hl : IsSq q s.heap l items) (hx : items[i]? = some x)
    (hQ : ∀ h', IsIt q h' it l (i + 1) → Heap.SameBut it s.heap h' → Q x { s with heap := h' }) : wpAny (model prog w) A (Builtin.SmallTypes.nextOf (.ref it)) Q E s := by
  cases q
  · exact RZ.nextOf_tuple_item hit hl hx hQ
  · exact wpAny_nextOf_list_item hit hl hx hQ
theorem nextOf_end {q : Bool} {it l : Addr} {i : Nat} {items} {Q : Value → Shared → Prop} (hh : A.handled = none) (hit : IsIt q s.heap it l i) (hl : IsSq q s.heap l items) (hx : items[i]? = none)
    (hE : ∀ h' e, Heap.ExtBut it s.heap h' → (∃ o, h'.get? e = some o ∧ o.cls = .type "StopIteration") → E (.ref e) { s with heap := h' }) : wpAny (model prog w) A (Builtin.SmallTypes.nextOf (.ref it)) Q E s := by
  cases q
  · exact RZ.nextOf_tuple_end hh hit hl hx hE
  · exact wpAny_nextOf_list_end hh hit hl hx hE
theorem zipM_item {z TI TO i1 i2 l1 l2 : Addr} {k1 k2 : Nat} {xs ys : Array Value} {x y a b : Value} {Q : Value → Shared → Prop} (D : ZipApart z TI TO i1 i2 l1 l2)
    (hz : IsZip s.heap z TI TO .none) (hTI : IsPair s.heap TI (.ref i1) (.ref i2)) (hTO : IsPair s.heap TO a b)
    (h1 : IsIt b1 s.heap i1 l1 k1) (h2 : IsIt b2 s.heap i2 l2 k2) (hl1 : IsSq b1 s.heap l1 xs) (hl2 : IsSq b2 s.heap l2 ys) (hx : xs[k1]? = some x) (hy : ys[k2]? = some y)
    (hQ : ∀ h', IsZip h' z TI TO (rawInt s.heap.objs.size) → IsPair h' TO x y → IsIt b1 h' i1 l1 (k1 + 1) → IsIt b2 h' i2 l2 (k2 + 1) → IsPair h' s.heap.objs.size x y → h'.objs.size = s.heap.objs.size + 1 →
      (∀ c o, c ≠ z → c ≠ TO → c ≠ i1 → c ≠ i2 → s.heap.get? c = some o → h'.get? c = some o) → Q (.ref s.heap.objs.size) { s with heap := h' }) :
    wpAny (model prog w) A (Builtin.«zip.__next__» ⟨[.ref z], []⟩) (fun fin s' => ∃ v, fin = .done (.ret v) ∧ Q v s') E s := by
  show wpAny _ _ (field (.ref z) 2 >>= _) _ _ _
  refine wpAny_bind (wpAny_field hz rfl (x := .bool false) rfl ?_)
  show wpAny _ _ (field (.ref z) 3 >>= _) _ _ _
  refine wpAny_bind (wpAny_field hz rfl (x := .ref TI) rfl ?_)
  refine wpAny_bind (wpAny_seqItems hTI rfl ?_)
  show wpAny _ _ (Builtin.SmallTypes.ownedTupleIsFree (.ref z) >>= _) _ _ _
  refine wpAny_bind ?_
  unfold Builtin.SmallTypes.ownedTupleIsFree
  refine wpAny_bind (wpAny_field hz rfl (x := .none) rfl (wpAny_pure ?_))
  simp only [if_true]
  refine wpAny_bind (wpAny_rule ?_)
  refine wpAny_bind (wpAny_field hz rfl (x := .ref TO) rfl ?_)
  refine wpAny_bind (wpAny_setField_rec hz (by simp) fun h₁ hz₁ hs₁ => ?_)
  replace hz₁ : IsZip h₁ z TI TO .ellipsis := hz₁
  refine wpAny_bind ?_
  simp only [List.zipIdx_cons, List.zipIdx_nil, List.forIn_cons, List.forIn_nil]

  refine wpAny_bind (wpAny_bind (wpAny_onRaise ?_))
  show wpAny _ _ (Builtin.SmallTypes.nextOf (.ref i1) >>= _) _ _ _
  refine wpAny_bind (nextOf_item (h1.extBut hs₁.extBut D.i1z) (hl1.extBut hs₁.extBut D.l1z) hx fun h₂ h1₂ hs₂ => wpAny_pure ?_)
  have hTO₂ : IsPair h₂ TO a b := hs₂.extBut _ _ D.TOi1 (hs₁.extBut _ _ D.TOz hTO)
  refine wpAny_bind (wpAny_seqItems hTO₂ rfl ?_)
  refine wpAny_bind (wpAny_updateSeq_pair hTO₂ fun h₃ hTO₃ hs₃ => ?_)
  replace hTO₃ : IsPair h₃ TO x b := hTO₃
  refine wpAny_bind (wpAny_letGo (wpAny_pure ?_))

  refine wpAny_bind (wpAny_bind (wpAny_onRaise ?_))
  show wpAny _ _ (Builtin.SmallTypes.nextOf (.ref i2) >>= _) _ _ _
  refine wpAny_bind (nextOf_item (((h2.extBut hs₁.extBut D.i2z).extBut hs₂.extBut D.i12.symm).extBut hs₃.extBut D.TOi2.symm)
    (((hl2.extBut hs₁.extBut D.l2z).extBut hs₂.extBut D.l2i1).extBut hs₃.extBut D.l2TO) hy fun h₄ h2₄ hs₄ => wpAny_pure ?_)
  have hTO₄ : IsPair h₄ TO x b := hs₄.extBut _ _ D.TOi2 hTO₃
  refine wpAny_bind (wpAny_seqItems hTO₄ rfl ?_)
  refine wpAny_bind (wpAny_updateSeq_pair hTO₄ fun h₅ hTO₅ hs₅ => ?_)
  replace hTO₅ : IsPair h₅ TO x y := hTO₅
  refine wpAny_bind (wpAny_letGo (wpAny_pure (wpAny_pure ?_)))

  refine wpAny_bind (wpAny_seqItems hTO₅ rfl ?_)
  refine wpAny_bind (wpAny_newTuple ?_)
  have hsz : h₅.objs.size = s.heap.objs.size := by rw [hs₅.1, hs₄.1, hs₃.1, hs₂.1, hs₁.1]
  have hz₅ : IsZip h₅ z TI TO .ellipsis := hs₅.extBut _ _ D.TOz.symm (hs₄.extBut _ _ D.i2z.symm (hs₃.extBut _ _ D.TOz.symm (hs₂.extBut _ _ D.i1z.symm hz₁)))
  have hk₅ : ∀ c o, c ≠ z → c ≠ TO → c ≠ i1 → c ≠ i2 → s.heap.get? c = some o → h₅.get? c = some o := fun c o c1 c2 c3 c4 e =>
    hs₅.extBut _ _ c2 (hs₄.extBut _ _ c4 (hs₃.extBut _ _ c2 (hs₂.extBut _ _ c3 (hs₁.extBut _ _ c1 e))))
  have h1₅ : IsIt b1 h₅ i1 l1 (k1 + 1) := ((h1₂.extBut hs₃.extBut D.TOi1.symm).extBut hs₄.extBut D.i12).extBut hs₅.extBut D.TOi1.symm
  have h2₅ : IsIt b2 h₅ i2 l2 (k2 + 1) := h2₄.extBut hs₅.extBut D.TOi2.symm
  have hzlt : z < h₅.objs.size := Heap.lt_size hz₅
  have hTOlt : TO < h₅.objs.size := Heap.lt_size hTO₅
  have hi1lt : i1 < h₅.objs.size := h1₅.lt
  have hi2lt : i2 < h₅.objs.size := h2₅.lt
  show wpAny _ _ (Builtin.SmallTypes.ownedTupleHandOut (.ref z) (.ref h₅.objs.size) >>= _) _ _ _
  refine wpAny_bind ?_
  unfold Builtin.SmallTypes.ownedTupleHandOut
  have hz₆ : IsZip (h₅.push { cls := .type "tuple", data := .seq #[x, y] }) z TI TO .ellipsis := Heap.get?_push_of_some _ hz₅
  refine wpAny_bind (wpAny_setField_rec hz₆ (by simp) fun h₇ hz₇ hs₇ => ?_)
  replace hz₇ : IsZip h₇ z TI TO (rawInt h₅.objs.size) := hz₇
  refine wpAny_setField_rec hz₇ (by simp) fun h₈ hz₈ hs₈ => ?_
  replace hz₈ : IsZip h₈ z TI TO (rawInt h₅.objs.size) := hz₈
  have up : ∀ c o, c ≠ z → h₅.get? c = some o → h₈.get? c = some o := fun c o c1 e => hs₈.extBut _ _ c1 (hs₇.extBut _ _ c1 (Heap.get?_push_of_some _ e))
  have hT₈ : IsPair h₈ h₅.objs.size x y := hs₈.extBut _ _ (Nat.ne_of_gt hzlt) (hs₇.extBut _ _ (Nat.ne_of_gt hzlt) (Heap.get?_push_size _ rfl))
  have hz8 : h₈.objs.size = h₅.objs.size + 1 := by rw [hs₈.1, hs₇.1, Heap.size_push]
  rw [hsz] at hz₈ hT₈ hz8
  refine wpAny_pure ⟨_, rfl, ?_⟩
  show Q (.ref h₅.objs.size) _
  rw [hsz]
  exact hQ h₈ hz₈ (up _ _ D.TOz hTO₅) (h1₅.at fun o e => up _ o D.i1z e) (h2₅.at fun o e => up _ o D.i2z e) hT₈ hz8 fun c o c1 c2 c3 c4 e => up c o c1 (hk₅ c o c1 c2 c3 c4 e)

theorem zipM_end {z TI TO i1 i2 l1 l2 : Addr} {k1 k2 : Nat} {xs ys : Array Value} {a b : Value} {Q : Fin → Shared → Prop} (hh : A.handled = none) (D : ZipApart z TI TO i1 i2 l1 l2)
    (hz : IsZip s.heap z TI TO .none) (hTI : IsPair s.heap TI (.ref i1) (.ref i2)) (hTO : IsPair s.heap TO a b)
    (h1 : IsIt b1 s.heap i1 l1 k1) (h2 : IsIt b2 s.heap i2 l2 k2) (hl1 : IsSq b1 s.heap l1 xs) (hl2 : IsSq b2 s.heap l2 ys) (hend : xs[k1]? = none ∨ ys[k2]? = none)
    (hE : ∀ h' e, (∀ c o, c ≠ z → c ≠ TO → c ≠ i1 → c ≠ i2 → s.heap.get? c = some o → h'.get? c = some o) → (∃ o, h'.get? e = some o ∧ o.cls = .type "StopIteration") → E (.ref e) { s with heap := h' }) :
    wpAny (model prog w) A (Builtin.«zip.__next__» ⟨[.ref z], []⟩) Q E s := by
  show wpAny _ _ (field (.ref z) 2 >>= _) _ _ _
  refine wpAny_bind (wpAny_field hz rfl (x := .bool false) rfl ?_)
  show wpAny _ _ (field (.ref z) 3 >>= _) _ _ _
  refine wpAny_bind (wpAny_field hz rfl (x := .ref TI) rfl ?_)
  refine wpAny_bind (wpAny_seqItems hTI rfl ?_)
  show wpAny _ _ (Builtin.SmallTypes.ownedTupleIsFree (.ref z) >>= _) _ _ _
  refine wpAny_bind ?_
  unfold Builtin.SmallTypes.ownedTupleIsFree
  refine wpAny_bind (wpAny_field hz rfl (x := .none) rfl (wpAny_pure ?_))
  simp only [if_true]
  refine wpAny_bind (wpAny_rule ?_)
  refine wpAny_bind (wpAny_field hz rfl (x := .ref TO) rfl ?_)
  refine wpAny_bind (wpAny_setField_rec hz (by simp) fun h₁ hz₁ hs₁ => ?_)
  replace hz₁ : IsZip h₁ z TI TO .ellipsis := hz₁
  refine wpAny_bind ?_
  simp only [List.zipIdx_cons, List.zipIdx_nil, List.forIn_cons, List.forIn_nil]
  refine wpAny_bind (wpAny_bind (wpAny_onRaise ?_))
  show wpAny _ _ (Builtin.SmallTypes.nextOf (.ref i1) >>= _) _ _ _
  cases hx : xs[k1]? with
  | none =>
    refine wpAny_bind (nextOf_end hh (h1.extBut hs₁.extBut D.i1z) (hl1.extBut hs₁.extBut D.l1z) hx fun h₂ e hs₂ he => ?_)
    obtain ⟨oe, hoe, hce⟩ := he
    have hz₂ : IsZip h₂ z TI TO .ellipsis := hs₂ _ _ D.i1z.symm hz₁
    have hez : e ≠ z := fun x => by subst x; rw [hz₂] at hoe; cases hoe; simp at hce
    refine wpAny_setField_rec hz₂ (by simp) fun h₃ _ hs₃ => hE h₃ e (fun c o c1 _ c3 _ x => hs₃.extBut _ _ c1 (hs₂ _ _ c3 (hs₁.extBut _ _ c1 x))) ⟨oe, hs₃.extBut _ _ hez hoe, hce⟩
  | some x =>
    have hy : ys[k2]? = none := by rcases hend with h | h; rw [hx] at h; cases h; exact h
    refine wpAny_bind (nextOf_item (h1.extBut hs₁.extBut D.i1z) (hl1.extBut hs₁.extBut D.l1z) hx fun h₂ h1₂ hs₂ => wpAny_pure ?_)
    have hTO₂ : IsPair h₂ TO a b := hs₂.extBut _ _ D.TOi1 (hs₁.extBut _ _ D.TOz hTO)
    refine wpAny_bind (wpAny_seqItems hTO₂ rfl ?_)
    refine wpAny_bind (wpAny_updateSeq_pair hTO₂ fun h₃ hTO₃ hs₃ => ?_)
    refine wpAny_bind (wpAny_letGo (wpAny_pure ?_))
    refine wpAny_bind (wpAny_bind (wpAny_onRaise ?_))
    show wpAny _ _ (Builtin.SmallTypes.nextOf (.ref i2) >>= _) _ _ _
    refine wpAny_bind (nextOf_end hh (((h2.extBut hs₁.extBut D.i2z).extBut hs₂.extBut D.i12.symm).extBut hs₃.extBut D.TOi2.symm)
      (((hl2.extBut hs₁.extBut D.l2z).extBut hs₂.extBut D.l2i1).extBut hs₃.extBut D.l2TO) hy fun h₄ e hs₄ he => ?_)
    obtain ⟨oe, hoe, hce⟩ := he
    have hz₄ : IsZip h₄ z TI TO .ellipsis := hs₄ _ _ D.i2z.symm (hs₃.extBut _ _ D.TOz.symm (hs₂.extBut _ _ D.i1z.symm hz₁))
    have hez : e ≠ z := fun x => by subst x; rw [hz₄] at hoe; cases hoe; simp at hce
    refine wpAny_setField_rec hz₄ (by simp) fun h₅ _ hs₅ => hE h₅ e (fun c o c1 c2 c3 c4 x => hs₅.extBut _ _ c1 (hs₄ _ _ c4 (hs₃.extBut _ _ c2 (hs₂.extBut _ _ c3 (hs₁.extBut _ _ c1 x))))) ⟨oe, hs₅.extBut _ _ hez hoe, hce⟩

theorem pyNext_zipM_item {z TI TO i1 i2 l1 l2 : Addr} {k1 k2 : Nat} {xs ys : Array Value} {x y a b : Value} {Q : Option Value → Shared → Prop} (D : ZipApart z TI TO i1 i2 l1 l2)
    (hz : IsZip s.heap z TI TO .none) (hTI : IsPair s.heap TI (.ref i1) (.ref i2)) (hTO : IsPair s.heap TO a b)
    (h1 : IsIt b1 s.heap i1 l1 k1) (h2 : IsIt b2 s.heap i2 l2 k2) (hl1 : IsSq b1 s.heap l1 xs) (hl2 : IsSq b2 s.heap l2 ys) (hx : xs[k1]? = some x) (hy : ys[k2]? = some y)
    (hQ : ∀ h', IsZip h' z TI TO (rawInt s.heap.objs.size) → IsPair h' TO x y → IsIt b1 h' i1 l1 (k1 + 1) → IsIt b2 h' i2 l2 (k2 + 1) → IsPair h' s.heap.objs.size x y → h'.objs.size = s.heap.objs.size + 1 →
      (∀ c o, c ≠ z → c ≠ TO → c ≠ i1 → c ≠ i2 → s.heap.get? c = some o → h'.get? c = some o) → Q (some (.ref s.heap.objs.size)) { s with heap := h' }) :
    wpAny (model prog w) A (pyNext (.ref z)) Q E s := by
  have hT : s.TypeIs (.ref z) "zip" := ⟨_, hz, rfl⟩
  unfold pyNext
  exact wpAny_bind (wpAny_attempt (wpAny_callSpecial?_slot (name := Str.ofString "__next__") hT F.slot_zip_next
    (wpAny_call_entry F.slot_zip_next hT F.entry_zip_next
      (zipM_item D hz hTI hTO h1 h2 hl1 hl2 hx hy fun h' a1 a2 a3 a4 a5 a6 a7 => wpAny_pure (hQ h' a1 a2 a3 a4 a5 a6 a7)) (F.args_zip_next_1 _))))

theorem pyNext_zipM_end {z TI TO i1 i2 l1 l2 : Addr} {k1 k2 : Nat} {xs ys : Array Value} {a b : Value} {Q : Option Value → Shared → Prop} (hh : A.handled = none) (D : ZipApart z TI TO i1 i2 l1 l2)
    (hz : IsZip s.heap z TI TO .none) (hTI : IsPair s.heap TI (.ref i1) (.ref i2)) (hTO : IsPair s.heap TO a b)
    (h1 : IsIt b1 s.heap i1 l1 k1) (h2 : IsIt b2 s.heap i2 l2 k2) (hl1 : IsSq b1 s.heap l1 xs) (hl2 : IsSq b2 s.heap l2 ys) (hend : xs[k1]? = none ∨ ys[k2]? = none)
    (hQ : ∀ h', (∀ c o, c ≠ z → c ≠ TO → c ≠ i1 → c ≠ i2 → s.heap.get? c = some o → h'.get? c = some o) → Q none { s with heap := h' }) : wpAny (model prog w) A (pyNext (.ref z)) Q E s := by
  have hT : s.TypeIs (.ref z) "zip" := ⟨_, hz, rfl⟩
  unfold pyNext
  refine wpAny_bind (wpAny_attempt (wpAny_callSpecial?_slot (name := Str.ofString "__next__") hT F.slot_zip_next
    (wpAny_call_entry F.slot_zip_next hT F.entry_zip_next (zipM_end hh D hz hTI hTO h1 h2 hl1 hl2 hend fun h' e hk he => ?_) (F.args_zip_next_1 _))))
  obtain ⟨o, ho, hc⟩ := he
  refine wpAny_bind (wpAny_isInstance (T := "StopIteration") (b := true) ⟨o, ho, hc⟩ isSubtype_stop ?_)
  exact wpAny_pure (hQ _ hk)
end


abbrev zH1 (q1 : Bool) (h : Heap) (l1 : Addr) : Heap := h.push (itO q1 l1)
abbrev zH2 (q1 q2 : Bool) (h : Heap) (l1 l2 : Addr) : Heap := (zH1 q1 h l1).push (itO q2 l2)
abbrev zH3 (q1 q2 : Bool) (h : Heap) (l1 l2 : Addr) : Heap := (zH2 q1 q2 h l1 l2).push { cls := .type "tuple", data := .seq #[.ref h.objs.size, .ref (zH1 q1 h l1).objs.size] }
abbrev zH4 (q1 q2 : Bool) (h : Heap) (l1 l2 : Addr) : Heap := (zH3 q1 q2 h l1 l2).push { cls := .type "tuple", data := .seq #[.none, .none] }
abbrev zH5 (q1 q2 : Bool) (h : Heap) (l1 l2 : Addr) : Heap := (zH4 q1 q2 h l1 l2).push { cls := .type "zip", data := .fields #[.none, .bool false, .bool false, .ref (zH2 q1 q2 h l1 l2).objs.size, .ref (zH3 q1 q2 h l1 l2).objs.size] }
theorem meets_lt (l1 l2 : Addr) (xs ys : Array Value) :
    Meets (Builtin.«zip.__new__» ⟨[.type "zip", .ref l1, .ref l2], []⟩) (fun _ R s => IsSq true s.heap l1 xs ∧ IsSq false s.heap l2 ys ∧
      R (.ok (.ret (.ref (zH4 true false s.heap l1 l2).objs.size))) { s with heap := zH5 true false s.heap l1 l2 }) :=
  .of_wp fun prog w A R s h => by
    obtain ⟨hp, g, d, tk, os⟩ := s; obtain ⟨hl1, hl2, h⟩ := h
    have hsub := sub_zip
    have hL1 : Heap.IsList (Shared.heap ⟨hp, g, d, tk, os⟩) l1 xs := hl1
    have hL2 : Heap.IsTuple (Shared.heap ⟨hp.push { cls := .type "list_iterator", data := .fields #[.ref l1, .int 0 0] }, g, d, tk, os⟩) l2 ys := Heap.IsTuple.push hl2 _
    wp_walk using wpAny_pyIter_list hL1, wpAny_pyIter_tuple hL2
    exact ⟨_, rfl, h⟩
theorem meets_tl (l1 l2 : Addr) (xs ys : Array Value) :
    Meets (Builtin.«zip.__new__» ⟨[.type "zip", .ref l1, .ref l2], []⟩) (fun _ R s => IsSq false s.heap l1 xs ∧ IsSq true s.heap l2 ys ∧
      R (.ok (.ret (.ref (zH4 false true s.heap l1 l2).objs.size))) { s with heap := zH5 false true s.heap l1 l2 }) :=
  .of_wp fun prog w A R s h => by
    obtain ⟨hp, g, d, tk, os⟩ := s; obtain ⟨hl1, hl2, h⟩ := h
    have hsub := sub_zip
    have hL1 : Heap.IsTuple (Shared.heap ⟨hp, g, d, tk, os⟩) l1 xs := hl1
    have hL2 : Heap.IsList (Shared.heap ⟨hp.push { cls := .type "tuple_iterator", data := .fields #[.ref l1, .int 0 0] }, g, d, tk, os⟩) l2 ys := Heap.IsList.push hl2 _
    wp_walk using wpAny_pyIter_tuple hL1, wpAny_pyIter_list hL2
    exact ⟨_, rfl, h⟩
theorem meets_ll (l1 l2 : Addr) (xs ys : Array Value) :
    Meets (Builtin.«zip.__new__» ⟨[.type "zip", .ref l1, .ref l2], []⟩) (fun _ R s => IsSq true s.heap l1 xs ∧ IsSq true s.heap l2 ys ∧
      R (.ok (.ret (.ref (zH4 true true s.heap l1 l2).objs.size))) { s with heap := zH5 true true s.heap l1 l2 }) := meets_zip_new l1 l2 xs ys
theorem meets_tt (l1 l2 : Addr) (xs ys : Array Value) :
    Meets (Builtin.«zip.__new__» ⟨[.type "zip", .ref l1, .ref l2], []⟩) (fun _ R s => IsSq false s.heap l1 xs ∧ IsSq false s.heap l2 ys ∧
      R (.ok (.ret (.ref (zH4 false false s.heap l1 l2).objs.size))) { s with heap := zH5 false false s.heap l1 l2 }) := RZ.meets_zipT_new l1 l2 xs ys
theorem meets_zip : ∀ (q1 q2 : Bool) (l1 l2 : Addr) (xs ys : Array Value),
    Meets (Builtin.«zip.__new__» ⟨[.type "zip", .ref l1, .ref l2], []⟩) (fun _ R s => IsSq q1 s.heap l1 xs ∧ IsSq q2 s.heap l2 ys ∧
      R (.ok (.ret (.ref (zH4 q1 q2 s.heap l1 l2).objs.size))) { s with heap := zH5 q1 q2 s.heap l1 l2 })
  | true, true => meets_ll
  | true, false => meets_lt
  | false, true => meets_tl
  | false, false => meets_tt
section
variable {prog : Program} {w : World} {A : Around} {E : Value → Shared → Prop} {s : Shared} {b1 b2 : Bool}
theorem call_zipM {l1 l2 : Addr} {xs ys : Array Value} {Q : Value → Shared → Prop} (hl1 : IsSq b1 s.heap l1 xs) (hl2 : IsSq b2 s.heap l2 ys)
    (h : ∀ h', IsZip h' (s.heap.objs.size + 4) (s.heap.objs.size + 2) (s.heap.objs.size + 3) .none → IsPair h' (s.heap.objs.size + 2) (.ref s.heap.objs.size) (.ref (s.heap.objs.size + 1)) →
      IsPair h' (s.heap.objs.size + 3) .none .none → IsIt b1 h' s.heap.objs.size l1 0 → IsIt b2 h' (s.heap.objs.size + 1) l2 0 → h'.objs.size = s.heap.objs.size + 5 →
      (∀ c o, s.heap.get? c = some o → h'.get? c = some o) → Q (.ref (s.heap.objs.size + 4)) { s with heap := h' }) :
    wpAny (model prog w) A (call (.type "zip") [.ref l1, .ref l2]) Q E s := by
  refine callType_new F.called_zip (by decide) (F.typeCall_zip_2 _ _) (F.newCall_zip_2 _ _) (fun obj => F.args_object_init_3 obj _ _) F.entry_zip_new
    (meets_zip b1 b2 l1 l2 xs ys) ⟨hl1, hl2, ?_⟩
  have nf : ∀ q l, (itO q l).isFreed = false := fun q l => by cases q <;> rfl
  have z1 : (zH1 b1 s.heap l1).objs.size = s.heap.objs.size + 1 := Heap.size_push ..
  have z2 : (zH2 b1 b2 s.heap l1 l2).objs.size = s.heap.objs.size + 2 := by rw [Heap.size_push, z1]
  have z3 : (zH3 b1 b2 s.heap l1 l2).objs.size = s.heap.objs.size + 3 := by rw [Heap.size_push, z2]
  have z4 : (zH4 b1 b2 s.heap l1 l2).objs.size = s.heap.objs.size + 4 := by rw [Heap.size_push, z3]
  have z5 : (zH5 b1 b2 s.heap l1 l2).objs.size = s.heap.objs.size + 5 := by rw [Heap.size_push, z4]
  have g5 : (zH5 b1 b2 s.heap l1 l2).get? (zH4 b1 b2 s.heap l1 l2).objs.size = some _ := Heap.get?_push_size _ rfl
  have g4 : (zH5 b1 b2 s.heap l1 l2).get? (zH3 b1 b2 s.heap l1 l2).objs.size = some _ := Heap.get?_push_of_some _ (Heap.get?_push_size _ rfl)
  have g3 : (zH5 b1 b2 s.heap l1 l2).get? (zH2 b1 b2 s.heap l1 l2).objs.size = some _ := Heap.get?_push_of_some _ (Heap.get?_push_of_some _ (Heap.get?_push_size _ rfl))
  have g2 : (zH5 b1 b2 s.heap l1 l2).get? (zH1 b1 s.heap l1).objs.size = some _ := Heap.get?_push_of_some _ (Heap.get?_push_of_some _ (Heap.get?_push_of_some _ (Heap.get?_push_size _ (nf _ _))))
  have g1 : (zH5 b1 b2 s.heap l1 l2).get? s.heap.objs.size = some _ := Heap.get?_push_of_some _ (Heap.get?_push_of_some _ (Heap.get?_push_of_some _ (Heap.get?_push_of_some _ (Heap.get?_push_size _ (nf _ _)))))
  show _ ∧ _
  rw [z2, z3, z4] at g5
  rw [z1, z2] at g3
  rw [z3] at g4
  rw [z1] at g2
  rw [z4]
  exact ⟨⟨_, g5, rfl⟩, h _ g5 g3 g4 (.new g1) (.new g2) z5 fun c o x =>
    Heap.get?_push_of_some _ (Heap.get?_push_of_some _ (Heap.get?_push_of_some _ (Heap.get?_push_of_some _ (Heap.get?_push_of_some _ x))))⟩
end
open PySem.Spec PyProof.Rows L2
/-- a list or a tuple of the model -/
def SqB : Bool → PySem.W.Frag → Hp → Addr → List V → Prop
  | true => SqL
  | false => SqT
theorem sq_at {X : Cx} {pins : List (Addr × Obj)} {σ : L2.St} {H : Hp} {s : Shared} {q : Bool} {a : Addr} {xs : List V} (I : Inv X pins σ H s) (h : SqB q X.K H a xs) : ∃ its, Vals xs its ∧ IsSq q s.heap a its.toArray ∧ a < s.heap.objs.size := by
  cases q
  · obtain ⟨its, rv, p, _⟩ := I.tuple h
    obtain ⟨o, ho, _⟩ := id p
    exact ⟨its, rv, (show s.heap.IsTuple a its.toArray from p), Heap.lt_size ho⟩
  · obtain ⟨its, rv, p, _⟩ := I.list h
    exact ⟨its, rv, p.isList, p.lt⟩
theorem sq_inj {X : Cx} {pins : List (Addr × Obj)} {σ : L2.St} {H : Hp} {s : Shared} {q : Bool} {a : Addr} {xs ys : List V} (I : Inv X pins σ H s) (h1 : SqB q X.K H a xs) (h2 : SqB q X.K H a ys) : xs = ys := by
  cases q
  · exact I.tuple_inj h1 h2
  · exact I.list_inj h1 h2
/-- the lists or tuples at a and b as they stand at each turn, the items in new pairs -/
def ItzM (q1 q2 : Bool) (K : PySem.W.Frag) (a b : Addr) : It :=
  ⟨fun i H => ∃ (xs ys : List V) (x y : V), SqB q1 K H a xs ∧ SqB q2 K H b ys ∧ xs[i]? = some x ∧ ys[i]? = some y,
    fun i H v H' => ∃ T x y, v = .ref T ∧ H T = none ∧ H' = upd H T (.tup [x, y]) ∧ (∀ xs, SqB q1 K H a xs → xs[i]? = some x) ∧ ∀ ys, SqB q2 K H b ys → ys[i]? = some y,
    fun i H => ∃ xs ys : List V, SqB q1 K H a xs ∧ SqB q2 K H b ys ∧ (xs.length ≤ i ∨ ys.length ≤ i)⟩
theorem turn_zipM {q1 q2 : Bool} {P : Program} {w : World} {K : PySem.W.Frag} {elts : List Expr} {kk : Nat} {tpos : Pos} {a b z TI TO i1 i2 : Addr} (D : ZipApart z TI TO i1 i2 a b) :
    Turn P w K (.Tuple elts kk tpos) (ItzM q1 q2 K a b) [z, TI, TO, i1, i2] z (fun i h => IsZip h z TI TO .none ∧ IsPair h TI (.ref i1) (.ref i2) ∧ (∃ x y, IsPair h TO x y) ∧ IsIt q1 h i1 a i ∧ IsIt q2 h i2 b i) where
  mem := by simp
  obj := fun i h st c hc => by
    obtain ⟨hz, hTI, ⟨x, y, hTO⟩, h1, h2⟩ := st
    obtain ⟨o1, e1, d1⟩ := h1.fld
    obtain ⟨o2, e2, d2⟩ := h2.fld
    have e' : c = z ∨ c = TI ∨ c = TO ∨ c = i1 ∨ c = i2 := by simpa using hc
    rcases e' with q | q | q | q | q
    · rw [q]; exact ⟨_, hz, fun v q => nomatch q⟩
    · rw [q]; exact ⟨_, hTI, fun v q => nomatch q⟩
    · rw [q]; exact ⟨_, hTO, fun v q => nomatch q⟩
    · rw [q]; exact ⟨o1, e1, fun v q => by rw [d1] at q; cases q⟩
    · rw [q]; exact ⟨o2, e2, fun v q => by rw [d2] at q; cases q⟩
  keep := fun i h h' st k => by
    obtain ⟨hz, hTI, ⟨x, y, hTO⟩, h1, h2⟩ := st
    exact ⟨k z (by simp) _ hz, k TI (by simp) _ hTI, ⟨x, y, k TO (by simp) _ hTO⟩, h1.at fun o q => k i1 (by simp) o q, h2.at fun o q => k i2 (by simp) o q⟩
  item := by
    intro X hP hw hK hc i pins s σ H E I hf st hg
    subst hP hw hK
    obtain ⟨hz, hTI, ⟨x0, y0, hTO⟩, h1, h2⟩ := st
    obtain ⟨xs, ys, x, y, hqx, hqy, hx, hy⟩ := hg
    obtain ⟨its, rv, p, _⟩ := sq_at I hqx
    obtain ⟨its2, rv2, p2, _⟩ := sq_at I hqy
    obtain ⟨u, hu, ru⟩ := rv.get hx
    obtain ⟨u2, hu2, ru2⟩ := rv2.get hy
    have hzl : z < s.heap.objs.size := Heap.lt_size hz
    refine pyNext_zipM_item D hz hTI hTO h1 h2 p p2 (x := u) (y := u2) (by simpa using hu) (by simpa using hu2) fun h' z' TO' h1' h2' hT hsz hk => ?_
    refine ⟨_, rfl, wpAny_letOwnedTupleGo_zip (s := { s with heap := h' }) z' fun h'' z'' sb => ?_⟩
    have hT2 : h''.get? s.heap.objs.size = some { cls := .type "tuple", data := .seq #[u, u2] } := (sb.2 _ (Nat.ne_of_gt hzl)).trans hT
    have new : ObjOk X.prog X.w (upd H s.heap.objs.size (.tup [x, y])) h'' s.heap.objs.size (.tup [x, y]) :=
      ⟨by show 2 ≤ sizeLine; decide, [u, u2], .cons ru (.cons ru2 .nil), ⟨_, hT2, rfl, _, rfl⟩⟩
    have I1 : Inv X pins σ (upd H s.heap.objs.size (.tup [x, y])) { s with heap := h'' } :=
      I.turnedNew (t' := s.toks) (ch := [z, TI, TO, i1, i2]) (fun c o hb q => (sb.2 c (fun q' => hb (by simp [q']))).trans (hk c o (fun q' => hb (by simp [q'])) (fun q' => hb (by simp [q'])) (fun q' => hb (by simp [q'])) (fun q' => hb (by simp [q'])) q)) hf (Nat.le_refl _) new
    refine ⟨.ref s.heap.objs.size, _, I1, rfl, ⟨_, x, y, rfl, I.hok.fresh (Nat.le_refl _), rfl, fun l hl => by rw [sq_inj I hl hqx]; exact hx, fun l hl => by rw [sq_inj I hl hqy]; exact hy⟩, ⟨z'', ?_, ⟨u, u2, ?_⟩, ?_, ?_⟩, fun c hcm => ?_⟩
    · exact (sb.2 _ D.TIz).trans (hk _ _ D.TIz D.TITO D.TIi1 D.TIi2 hTI)
    · exact (sb.2 _ D.TOz).trans TO'
    · exact h1'.at fun o q => (sb.2 _ D.i1z).trans q
    · exact h2'.at fun o q => (sb.2 _ D.i2z).trans q
    · have hlt : c < s.heap.objs.size := by
        have e' : c = z ∨ c = TI ∨ c = TO ∨ c = i1 ∨ c = i2 := by simpa using hcm
        rcases e' with q | q | q | q | q
        · rw [q]; exact hzl
        · rw [q]; exact Heap.lt_size hTI
        · rw [q]; exact Heap.lt_size hTO
        · rw [q]; exact h1.lt
        · rw [q]; exact h2.lt
      rw [upd_ne (Nat.ne_of_lt hlt)]
      exact (hf c hcm).1
  done := by
    intro X hP hw hK hc i pins s σ H E I hf st hg
    subst hP hw hK
    obtain ⟨hz, hTI, ⟨x0, y0, hTO⟩, h1, h2⟩ := st
    obtain ⟨xs, ys, hqx, hqy, hend⟩ := hg
    obtain ⟨its, rv, p, _⟩ := sq_at I hqx
    obtain ⟨its2, rv2, p2, _⟩ := sq_at I hqy
    have l1 := rv.length
    have l2 := rv2.length
    have he : its.toArray[i]? = none ∨ its2.toArray[i]? = none := by
      rcases hend with q | q
      · exact .inl (by simp; omega)
      · exact .inr (by simp; omega)
    exact pyNext_zipM_end (I.ok.hd hc) D hz hTI hTO h1 h2 p p2 he fun h' hk => ⟨rfl, I.turnedL (t' := s.toks) (ch := [z, TI, TO, i1, i2]) (fun c o hb q =>
      hk c o (fun q' => hb (by simp [q'])) (fun q' => hb (by simp [q'])) (fun q' => hb (by simp [q'])) (fun q' => hb (by simp [q'])) q) hf⟩
  self := fun A i s Q E st h => wpAny_pyIter_zip st.1 h

def iZipM (K : PySem.W.Frag) (ta : TA) : TI := fun σ H R => ta σ H fun vs H1 => ∃ q1 q2 a b xs ys, vs = [.ref a, .ref b] ∧ SqB q1 K H1 a xs ∧ SqB q2 K H1 b ys ∧ R (ItzM q1 q2 K a b) H1
theorem pi_zipM {X : Cx} {e e2 : Expr} {ta : TA} {p pos tpos : Pos} {elts : List Expr} {kk : Nat} (hg : Gl X "zip") (hm : X.mg "zip" = none) (ha : PA X [e, e2] ta)
    (hs : starEach [e, e2] X.env = (false, eval e X.env) :: starEach [e2] X.env := by rfl) (hpl : (backTo pos (starEach [e2] X.env)).any (·.1) = false := by rfl) :
    PI X (.Tuple elts kk tpos) (.Call (.Name "zip" p) [e, e2] [] pos) (iZipM X.K ta) := by
  refine ⟨fun pins s σ H R I h => ?_⟩
  refine Call_ (ld_blt I hg hm PyProof.Rows.boot_zip (PyProof.Rows.callWith_type1 (thn (ha.run pos pins s σ H _ I h) fun us s1 ⟨vs, H1, I1, r1, q1⟩ => ?_) hs hpl))
  obtain ⟨t1, t2, a, b, xs, ys, ex, hqx, hqy, q⟩ := q1
  subst ex
  cases r1 with
  | cons r rr =>
    cases rr with
    | cons r' rr =>
      cases rr
      cases r
      cases r'
      have fresh5 : ∀ c, c ∈ [s1.heap.objs.size + 4, s1.heap.objs.size + 2, s1.heap.objs.size + 3, s1.heap.objs.size, s1.heap.objs.size + 1] → FpOk X pins H1 c := fun c hcm => by
        have hle : s1.heap.objs.size ≤ c := by
          simp at hcm
          omega
        exact I1.fpOk hle (I1.hok.fresh hle)
      obtain ⟨its, rv, p1, lt1⟩ := sq_at I1 hqx
      obtain ⟨its2, rv2, p2, lt2⟩ := sq_at I1 hqy
      refine call_zipM p1 p2 fun h' hz hTI hTO h1 h2 hsz hk => wpAny_pyIter_zip hz ?_
      have I2 : Inv X pins σ H1 { s1 with heap := h' } := I1.kept (t' := s1.toks) hk
      exact ⟨s1.heap.objs.size + 4, [s1.heap.objs.size + 4, s1.heap.objs.size + 2, s1.heap.objs.size + 3, s1.heap.objs.size, s1.heap.objs.size + 1], _, _, H1, rfl, I2, turn_zipM (PySem.W.ktu_apart s1.heap.objs.size a b lt1 lt2), ⟨hz, hTI, ⟨_, _, hTO⟩, h1, h2⟩, fresh5, q⟩
end VmZip
set_option Elab.async false
set_option linter.all false
set_option maxRecDepth 100000
set_option maxHeartbeats 4000000
namespace Vm
open PySem PySem.Spec PyProof.Rows L2 TL
open VmZip (SqB ItzM pi_zipM)
def seqL : D → Option (List D)
  | .lst ds => some ds
  | .scr ns => some (ns.map .int)
  | .tup ds => some ds
  | _ => none
def iZpA (fa fb : M D) : M (List D) := fun r => (fa r).bind fun x r => (fb r).bind fun y => rM ((seqL x).bind fun xs => (seqL y).map fun ys => zipD xs ys)
section
variable {G : GC} {N : List Str} {S : SC} {bs bs1 bs2 ms ms1 ms2 ms3 as : Ms} {m : Md} {k : Kd} {e a b : Expr} {es : List Expr} {f fa fb : M D} {fs : M (List D)} {pos : Pos} {tg : Expr}
@[simp] theorem iZpA_ap (s0 : Sl) (r : En) : iZpA fa fb (s0 :: r) = (fa (s0 :: r)).bind fun x r => (fb r).bind fun y r => rM ((seqL x).bind fun xs => (seqL y).map fun ys => zipD xs ys) r := rfl
end
end Vm
set_option Elab.async false
set_option linter.all false
set_option maxRecDepth 100000
set_option maxHeartbeats 4000000
namespace Vm
open PySem PySem.Spec PyProof.Rows L2
/-! ### dictionaries by nested tuples: made, read, changed -/
def hasNd (k : NK) (ks : List D) : Bool := ks.any fun x => decide (tkD x = some k)
def putKsN (k : NK) (e : D) (ks : List D) : List D := if hasNd k ks = true then ks else ks ++ [e]
def repVN (k : NK) (d : D) : List D → List D → List D
  | x :: ks, v :: vs => (if tkD x = some k then d else v) :: repVN k d ks vs
  | _, _ => []
def putVsN (k : NK) (d : D) (ks vs : List D) : List D := if hasNd k ks = true then repVN k d ks vs else vs ++ [d]
section
variable {K : PySem.W.Frag} {mg : MG} {H : Hp}
end
section
variable {X : Cx} {mg : MG} {pins : List (Addr × Obj)} {σ : L2.St} {H : Hp} {s : Shared} {a : Addr} {L : List (NK × Addr × V)} {ks : List D}
end
section
variable {G : GC} {N : List Str} {S : SC} {bs bs1 bs2 ms ms1 ms2 ms3 as : Ms} {m rm : Md} {k : Kd} {e a b : Expr} {es : List Expr} {f fa fb : M D} {fs : M (List D)} {pos p : Pos} {tg : Expr} {i : Nat} {x : Str}
/-- x[e] = v -/
def dnS : Sl → Option (List D × List D)
  | some (.o (.all m), .dnt ks vs) => if mdEq m .z = true then some (ks, vs) else none
  | _ => none
def nPutO (e d : D) (p : List D × List D) : Option (List D × List D) := (tkD e).bind fun k => if p.1.length < 16777216 then some (putKsN k e p.1, putVsN k d p.1 p.2) else none
def gNPut (i : Nat) (fv fi : M D) : M Fl := fun r => (fv r).bind fun d r => (rM (dnS (getS r i)) r).bind fun _ r => (fi r).bind fun j r => (rM (dnS (getS r i)) r).bind fun p r => (rM (nPutO j d p) r).bind fun p' r => .ok .nx (r.set i (some (m1, .dnt p'.1 p'.2)))
end
end Vm
set_option Elab.async false
set_option linter.all false
set_option maxRecDepth 100000
set_option maxHeartbeats 4000000
namespace Vm
open PySem PySem.Spec PyProof.Rows L2
/-! ### dictionaries by nested tuples: walked -/
section
variable {X : Cx} {mg : MG} {pins : List (Addr × Obj)} {σ : L2.St} {H : Hp} {s : Shared} {a d : Addr} {o : Obj} {L : List (NK × Addr × V)} {ks : List D}
end
section
variable {G : GC} {N : List Str} {S : SC} {bs ms as as1 as2 ms2 ms3 : Ms} {m rm me : Md} {e : Expr} {pos : Pos}
/-- for x in d, d a name of a frozen dictionary by nested tuples -/
def gForN (i : Nat) (gt : D → M Fl) (gb : M Fl) : M Fl := fun r => match getS r i with
  | some (.z, .dnt ks _) => noXc (gLoop gt gb ks r)
  | _ => .bad
/-- [.. for x in d ..], d a name of a frozen dictionary by nested tuples -/
def fLcNd (own : List Nat) (i : Nat) (gt : D → M Fl) (ft fe : M D) : M D := fun r => match getS r i with
  | some (.z, .dnt ks _) => if ks.length ≤ LIM then (noX (gLc own gt ft fe ks (wipeE own r))).bind fun ys r' => .ok (.lst ys) (restE r own r') else .bad
  | _ => .bad
def isDnt : Sl → Bool
  | some (.z, .dnt _ _) => true
  | _ => false
/-- [.. for x in d ..], d a name of a frozen thing: a dictionary by nested tuples, a list or a tuple -/
noncomputable def fLcN (own : List Nat) (i : Nat) (gt : D → M Fl) (ft fe : M D) : M D := fun r => if isDnt (getS r i) = true then fLcNd own i gt ft fe r else fLc own (iAny (eVar i)) gt ft fe r
end
end Vm
set_option Elab.async false
set_option linter.all false
set_option maxRecDepth 100000
set_option maxHeartbeats 4000000
namespace Vm
open PySem PySem.Spec PyProof.Rows L2
/-! ### list(d), sorted(d), len(d) of a dictionary by nested tuples -/
section
variable {prog : Program} {w : World} {A : Around} {E : Value → Shared → Prop} {s : Shared} {d : Addr} {o : Obj} {es : Array DictEntry} {ep : Nat}
end
section
variable {X : Cx}
end
section
variable {G : GC} {N : List Str} {S : SC} {bs ms : Ms} {m : Md} {e a : Expr} {es : List Expr} {fs : M (List D)} {pos p q : Pos}
def oListNd : List D → Option D
  | [.dnt ks _] => some (.lst ks)
  | _ => none
end
end Vm
set_option Elab.async false
set_option linter.all false
set_option maxRecDepth 100000
set_option maxHeartbeats 4000000
namespace Vm
open PySem PySem.Spec PyProof.Rows L2
section
variable {G : GC} {N : List Str} {S : SC} {bs bs1 bs2 ms ms1 ms2 ms3 as as1 as2 : Ms} {m rm me : Md} {k : Kd} {e a b : Expr} {es : List Expr} {f fa fb : M D} {fs : M (List D)} {pos p : Pos} {tg : Expr} {i : Nat} {x : Str} {st : Stmt} {g : M Fl}
section
variable {x y : Str} {p p2 spos : Pos} {i i2 : Nat} {tg : Expr} {ifs : List Expr} {scope : Scope} {gt : D → M Fl} {ft fe : M D}
end
end
section
variable {G : GC} {N : List Str} {S : SC} {as : Ms} {rm : Md} {i : Nat} {st : Stmt} {g : M Fl}
/-- ahead of a statement what a slot owns is frozen -/
def gFzS (i : Nat) (g : M Fl) : M Fl := fun r => match getS r i with
  | some (_, d) => g (r.set i (some (.z, d)))
  | none => .bad
theorem VS.fzS (i : Nat) (h : VS G N S rm as st g) : VS G N S rm as st (gFzS i g) := by
  refine fun R a W t => (h R a W t).imp fun E σ H ⟨ρ, H0, c, l, o⟩ => ?_
  unfold gFzS at o
  cases es : getS ρ i with
  | none => rw [es] at o; exact o.elim
  | some md =>
    obtain ⟨m', d⟩ := md
    obtain ⟨v, fp, e1, ow, nd, hc⟩ := l.slot i m' d es
    rw [es] at o
    have l1 := l.drop hc
    have nc : ∀ a ∈ fp, coDrop c fp a = none := fun a ha => by unfold coDrop; rw [if_pos ha]
    have l2 := l1.take nc
    have fz : Fz G.K G.mg (Vm.ext H0 H fp) d v := Ow.frz l.sub d m' v fp ow
    have fr : Fresh msA H c H0 H (coDrop c fp) fp := ⟨nd, nc, fun a ha => l.apart a i (hc a ha), fun a ha => l.there a i (hc a ha), fun a ha => .inr ⟨i, hc a ha, rfl⟩⟩
    have s1 : Step msA H0 H c (Vm.ext H0 H fp) H (coDrop c fp) := Step.take (.drop hc rfl) l.sub fr
    have l3 := l2.set (i := i) (m := .z) (d := d) (v := v) (fp := []) (Ow.zero.mpr ⟨rfl, fz⟩) List.nodup_nil (by simp) (by simp) (by simp)
    rw [set_same e1, List.set_set] at l3
    have s2 : Step msA H0 H c (Vm.ext H0 H fp) H (coSet (coDrop c fp) i []) := Step.store (K := G.K) (mg := G.mg) s1 .nil
    exact ⟨_, _, _, l3, OutS.on o s2 .refl⟩
end
/-! ### how the readings run -/
section
variable {i : Nat} {own : List Nat} {gt : D → M Fl} {gb g : M Fl} {ft fe fv fi fa fb : M D} {fs : M (List D)} {s0 : Sl} {r : En} {ks vs : List D} {d e : D}
def nkS : Sl → Option (List D)
  | some (.z, .dnt ks _) => some ks
  | _ => none
@[simp] theorem nkS_dnt (ks vs : List D) : nkS (some (.z, .dnt ks vs)) = some ks := rfl
@[simp] theorem gForN_ap : gForN i gt gb (s0 :: r) = (rM (nkS (getS (s0 :: r) i)) (s0 :: r)).bind fun ks r => noXc (gLoop gt gb ks r) := by
  unfold gForN nkS
  cases q : getS (s0 :: r) i with
  | none => rfl
  | some md =>
    obtain ⟨m, d⟩ := md
    cases m <;> cases d <;> rfl
@[simp] theorem fLcNd_ap : fLcNd own i gt ft fe (s0 :: r) = (rM ((nkS (getS (s0 :: r) i)).bind fun ks => if ks.length ≤ 16777216 then some ks else none) (s0 :: r)).bind fun ks r => (noX (gLc own gt ft fe ks (wipeE own r))).bind fun ys r' => .ok (.lst ys) (restE r own r') := by
  unfold fLcNd nkS
  cases q : getS (s0 :: r) i with
  | none => rfl
  | some md =>
    obtain ⟨m, d⟩ := md
    cases m <;> cases d <;> first | rfl | skip
    rename_i ks ds
    show (if ks.length ≤ 16777216 then _ else _) = (rM ((some ks).bind fun ks => if ks.length ≤ 16777216 then some ks else none) (s0 :: r)).bind _
    by_cases c : ks.length ≤ 16777216
    · rw [if_pos c, Option.bind_some, if_pos c]; rfl
    · rw [if_neg c, Option.bind_some, if_neg c]; rfl
@[simp] theorem fLcN_ap : fLcN own i gt ft fe (s0 :: r) = if isDnt (getS (s0 :: r) i) = true then fLcNd own i gt ft fe (s0 :: r) else fLc own (iAny (eVar i)) gt ft fe (s0 :: r) := rfl
@[simp] theorem isDnt_dnt (ks vs : List D) : isDnt (some (.z, .dnt ks vs)) = true := rfl
@[simp] theorem isDnt_lst (ds : List D) : isDnt (some (.z, .lst ds)) = false := rfl
@[simp] theorem isDnt_tup (ds : List D) : isDnt (some (.z, .tup ds)) = false := rfl
@[simp] theorem gNPut_ap : gNPut i fv fi (s0 :: r) = (fv (s0 :: r)).bind fun d r => (rM (dnS (getS r i)) r).bind fun _ r => (fi r).bind fun j r => (rM (dnS (getS r i)) r).bind fun p r => (rM (nPutO j d p) r).bind fun p' r => .ok .nx (r.set i (some (m1, .dnt p'.1 p'.2))) := rfl
@[simp] theorem dnS_0 (ks vs : List D) : dnS (some (m1, .dnt ks vs)) = some (ks, vs) := rfl
def fzT (g : M Fl) (i : Nat) (r : En) : Sl → Res Fl
  | some (_, d) => g (r.set i (some (.z, d)))
  | none => .bad
@[simp] theorem gFzS_ap : gFzS i g (s0 :: r) = fzT g i (s0 :: r) (getS (s0 :: r) i) := by
  unfold gFzS fzT
  cases getS (s0 :: r) i with
  | none => rfl
  | some md => rfl
@[simp] theorem fzT_some (m : Md) (d : D) : fzT g i r (some (m, d)) = g (r.set i (some (.z, d))) := rfl
@[simp] theorem oListNd_dnt : oListNd [.dnt ks vs] = some (.lst ks) := rfl
end
/-! ### what such a dictionary holds -/
section
variable {α : Type} {enc : α → D} {nk : α → NK}
end
end Vm
set_option Elab.async false
set_option linter.all false
set_option maxRecDepth 100000
set_option maxHeartbeats 4000000
namespace Vm
open PySem PySem.Spec PyProof.Rows L2
/-! ### trees that are one's own with all within -/
theorem Ow.tt {K : PySem.W.Frag} {mg : MG} {H0 H : Hp} {d : D} {v : V} {fp : List Addr} : Ow K mg H0 H d .t v fp ↔ Ow K mg H0 H d (.o (.all .t)) v fp := by cases d <;> exact Iff.rfl
section
variable {G : GC} {N : List Str} {S : SC} {bs bs1 bs2 ms ms1 ms2 ms3 as as1 as2 : Ms} {m rm me : Md} {k : Kd} {e a b : Expr} {es : List Expr} {f fa fb : M D} {fs : M (List D)} {pos p : Pos} {i : Nat} {x : Str} {st : Stmt} {g : M Fl}
/-- a list of atoms is one's own with all within -/
def upDeep (d : D) : Option D := match d with
  | .lst ds => if ds.all atom = true then some d else none
  | _ => none
def fUp (f : M D) : M D := fun r => (f r).bind fun d => rM (upDeep d)
theorem ows_atoms {K : PySem.W.Frag} {mg : MG} {H0 H : Hp} : ∀ {ds : List D} {vs : List V}, ds.all atom = true → Fzs K mg H0 ds vs → Ows K mg H0 H ds (.all me) vs []
  | [], vs, _, h => ⟨h, rfl⟩
  | d :: ds, vs, a, ⟨v, r, e, h, t⟩ => by
    rw [List.all_cons, Bool.and_eq_true] at a
    exact ⟨v, r, [], [], e, rfl, ow_of_atom h a.1, ows_atoms a.2 t⟩
theorem VO.up (h : VO G N S m1 ms e f) : VO G N S (.o (.all me)) ms e (fUp f) := by
  refine fun R s W t => (h R s W t).imp fun σ H Q ⟨ρ, H0, c, l, o⟩ => ⟨ρ, H0, c, l, ?_⟩
  unfold fUp at o
  cases hf : f ρ with
  | exc n ns vs r => rw [hf] at o; exact o
  | bad => rw [hf] at o; exact o
  | ok d r =>
    rw [hf, bind_ok] at o
    unfold upDeep at o
    cases d <;> try (exact o.elim)
    rename_i ds
    dsimp only at o
    by_cases ha : ds.all atom = true
    · rw [if_pos ha] at o
      intro v H0' H' c' s' l' ⟨fp, ⟨q, vs, g, e1, e2, e3, ows⟩, fr⟩
      obtain ⟨eg, fz⟩ := Ows.all_z.mp ows
      exact o v H0' H' c' s' l' ⟨fp, ⟨q, vs, [], e1, e2, by rw [e3, eg], ows_atoms ha fz⟩, fr⟩
    · rw [if_neg ha] at o; exact o.elim
/-- an item of a list that is just made: the item is one's own -/
def fItT (n : Nat) (f : M D) : M D := fun r => (f r).bind fun d => rM (match d with
  | .lst ds => ds[n]?
  | _ => none)
/-- a slot's tree, seen with all within -/
def gTT (i : Nat) (g : M Fl) : M Fl := fun r => match getS r i with
  | some (.t, d) => g (r.set i (some (.o (.all .t), d)))
  | _ => .bad
theorem VS.tt (i : Nat) (h : VS G N S rm as st g) : VS G N S rm as st (gTT i g) := by
  refine fun R s W t => (h R s W t).imp fun E σ H ⟨ρ, H0, c, l, o⟩ => ?_
  unfold gTT at o
  cases es : getS ρ i with
  | none => rw [es] at o; exact o.elim
  | some md =>
    obtain ⟨m', d⟩ := md
    rw [es] at o
    cases m' <;> try (exact o.elim)
    obtain ⟨v, fp, e1, ow, nd, hc⟩ := l.slot i .t d es
    have l1 := l.drop hc
    have nc : ∀ a ∈ fp, coDrop c fp a = none := fun a ha => by unfold coDrop; rw [if_pos ha]
    have fr : Fresh msA H c H0 H (coDrop c fp) fp := ⟨nd, nc, fun a ha => l.apart a i (hc a ha), fun a ha => l.there a i (hc a ha), fun a ha => .inr ⟨i, hc a ha, rfl⟩⟩
    have s1 : Step msA H0 H c H0 H (coDrop c fp) := .drop hc rfl
    have l3 := l1.set (i := i) (m := .o (.all .t)) (d := d) (v := v) (fp := fp) (Ow.tt.mp ow) nd (fun a ha => .inl (nc a ha)) (fun a ha => l.apart a i (hc a ha)) (fun a ha => l.there a i (hc a ha))
    rw [set_same e1, List.set_set] at l3
    have s2 : Step msA H0 H c H0 H (coSet (coDrop c fp) i fp) := Step.store (K := G.K) (mg := G.mg) s1 fr
    exact ⟨_, _, _, l3, OutS.on o s2 .refl⟩
end
/-! ### how the readings run -/
section
variable {i n : Nat} {g : M Fl} {f : M D} {s0 : Sl} {r : En}
@[simp] theorem fUp_ap : fUp f (s0 :: r) = (f (s0 :: r)).bind fun d r => rM (upDeep d) r := rfl
@[simp] theorem upDeep_lst (ds : List D) : upDeep (.lst ds) = if ds.all atom = true then some (.lst ds) else none := rfl
def itT (n : Nat) : D → Option D
  | .lst ds => ds[n]?
  | _ => none
@[simp] theorem fItT_ap : fItT n f (s0 :: r) = (f (s0 :: r)).bind fun d r => rM (itT n d) r := by
  show ((f (s0 :: r)).bind fun d => rM _) = _
  congr 1
@[simp] theorem itT_lst (ds : List D) : itT n (.lst ds) = ds[n]? := rfl
def ttS (g : M Fl) (i : Nat) (r : En) : Sl → Res Fl
  | some (.t, d) => g (r.set i (some (.o (.all .t), d)))
  | _ => .bad
@[simp] theorem gTT_ap : gTT i g (s0 :: r) = ttS g i (s0 :: r) (getS (s0 :: r) i) := by
  unfold gTT ttS
  cases getS (s0 :: r) i with
  | none => rfl
  | some md =>
    obtain ⟨m, d⟩ := md
    cases m <;> rfl
@[simp] theorem ttS_t (d : D) : ttS g i r (some (.t, d)) = g (r.set i (some (.o (.all .t), d))) := rfl
end
end Vm
set_option Elab.async false
set_option linter.all false
set_option maxRecDepth 100000
set_option maxHeartbeats 4000000
/-! exceptions whose own __init__ sets fields: raised, their fields read -/
namespace Vm
open PySem PySem.Spec PyProof.Rows L2
/-! ### facts -/
structure OexK (K : PySem.W.Frag) (C B : Addr) (ns : List Str) : Prop where
  T : OexC K C
  iC : PySem.W.findIn K (.ref C) "__init__" = some (some (.ref (He.ma K C "__init__")))
  tI : PySem.W.typeIn K (.ref (He.ma K C "__init__")) = some (.type "function")
  no : ∀ f ∈ ns, PySem.W.findIn K (.ref C) f = some none
  rd : ClX.CRead K B (.type "type")
  bi : PySem.W.findCls K (.ref B) (.type "type") "__init__" = some (.val (.builtin "ValueError.__init__"))
theorem oexC_of {K : PySem.W.Frag} {C : Addr} (c1 : oexB1 K C = true) (c2 : PySem.W.findIn K (.ref C) "__setattr__" = some (some (.builtin "object.__setattr__"))) (c3 : PySem.W.subIn K (.ref C) (.type "BaseException") = some true) (c4 : PySem.W.typeIn K (.ref C) = some (.type "type")) (c5 : PySem.W.keepIn K (.ref C) = true) : OexC K C := by
  refine ⟨?_, c2, c3, c4, c5⟩
  unfold oexB1 at c1
  split at c1
  · rename_i dd cd sl ho
    split at c1
    · rename_i C' bm k0 k1 k2 k3 n k5 hm hs
      simp only [Bool.and_eq_true, beq_iff_eq, Bool.not_eq_true'] at c1
      obtain ⟨⟨⟨⟨rfl, rfl⟩, hdel⟩, hdct⟩, ht⟩ := c1
      obtain ⟨nm, bs, mro, ns, qn, hd, sn, sub, ab, col, del⟩ := cd
      dsimp only at hm hdel hdct
      subst hm hdel hdct
      have hsl : sl = #[k0, k1, k2, k3, some (.builtin "ValueError.__new__"), k5] := by
        obtain ⟨l⟩ := sl
        simp only at hs
        rw [hs]
      subst hsl
      exact ⟨nm, qn, ns, bs, bm, sn, sub, ab, col, dd, k0, k1, k2, k3, k5, ho, ht⟩
    · cases c1
  · cases c1
section
variable {fa : List He.Fa} {fn : List He.DefD} {cs : List (Str × D)} {G : GC} {x b : Str} {ns : List Str}
theorem Ye.oex (Y : Ye fa fn cs G) (i : Nat) (h : cs[i]? = some (x, .exn "oex" (b :: ns) []) := by rfl) : OexK G.K (He.ga G.K x) (He.ga G.K b) ns := by
  have c := Y.xf i h
  have c : oexB G.K (He.ga G.K x) (He.ga G.K b) ns = true := by
    unfold xfB at c
    rw [if_neg (by decide), if_neg (by decide), if_neg (by decide), if_pos rfl] at c
    exact c
  obtain ⟨c1, c⟩ := He.ba c
  obtain ⟨c2, c⟩ := He.ba c
  obtain ⟨c3, c⟩ := He.ba c
  obtain ⟨c4, c⟩ := He.ba c
  obtain ⟨c5, c⟩ := He.ba c
  obtain ⟨c6, c⟩ := He.ba c
  obtain ⟨c7, c⟩ := He.ba c
  obtain ⟨c8, c⟩ := He.ba c
  obtain ⟨c9, c⟩ := He.ba c
  obtain ⟨c10, c11⟩ := He.ba c
  have bi : PySem.W.findCls G.K (.ref (He.ga G.K b)) (.type "type") "__init__" = some (.val (.builtin "ValueError.__init__")) := by
    split at c11
    · rename_i n hn
      rw [hn, of_decide_eq_true c11]
    · cases c11
  exact ⟨oexC_of c1 (of_decide_eq_true c2) (of_decide_eq_true c3) (of_decide_eq_true c4) c5, of_decide_eq_true c6, of_decide_eq_true c7, fun f hf => of_decide_eq_true (List.all_eq_true.mp c8 f hf), ⟨c9, of_decide_eq_true c10⟩, bi⟩
end
/-! ### B.__init__(self, ..), B a class of one's own without __init__ -/
theorem pe_binit {X : Cx} {B : Addr} {x : Str} {e : Expr} {es : List Expr} {ta : TA} {pl : Sem Bool} {p1 p2 pos : Pos} (hg : Gl X x) (hm : X.mg x = some (.ref B)) (rd : ClX.CRead X.K B (.type "type")) (bi : PySem.W.findCls X.K (.ref B) (.type "type") "__init__" = some (.val (.builtin "ValueError.__init__"))) (ha : PA X (e :: es) ta) (hdb : (x == ("__debug__" : Str)) = false)
    (hc : eval (.Call (.Attribute (.Name x p1) "__init__" p2) (e :: es) [] pos) X.env = (do
      let ov ← eval (.Name x p1) X.env
      standAt p2.atName
      let (f, first) ← holding [ov] (getMethod ov "__init__" pl)
      callWith pos f first (backTo pos (starEach (e :: es) X.env)) (backToKw pos (keywordEach [] X.env))) := by rfl)
    (he : starEach (e :: es) X.env = (false, eval e X.env) :: starEach es X.env := by rfl) (hpl : (backTo pos (starEach es X.env)).any (·.1) = false := by rfl) :
    PE X (.Call (.Attribute (.Name x p1) "__init__" p2) (e :: es) [] pos) (tVeI X.K ta) := by
  refine ⟨fun pins s σ H Q I h => ?_⟩
  refine PySem.W.methodCall_KW (ld_glob I hg hm ?_ hdb) hc
  refine PySem.W.method_cls I.kIn rd.ga ?_
  refine PySem.W.cls_value I.kIn rd.rd bi rfl ?_
  show wpAny _ _ (callWith pos (Value.builtin "ValueError.__init__") [] (backTo pos (starEach (e :: es) X.env)) []) _ _ _
  refine PyProof.Rows.callWith_method1 (thn (ha.run pos pins _ σ H _ (I.tok _) h) fun us s1 ⟨vs, H1, I1, r1, a, C, ws, ev, hl, T, ea, q⟩ => ?_) he hpl
  subst ev
  cases r1 with
  | @cons _ u0 _ ur ra rw' =>
    obtain rfl : u0 = Value.ref a := ra
    have hlen : ur.length ≤ sizeLine := by
      rw [← Paired.length rw', sizeLine_eq]
      omega
    exact oinit_ok T I1 ea hlen fun s' J => ⟨.non, H1, J, rfl, q⟩
/-! ### the body of such an __init__ -/
/-- self.f = e, one behind another -/
inductive VIs (G : GC) (N : List Str) (S : SC) : List Stmt → List Str → List (M D) → Prop
  | nil : VIs G N S [] [] []
  | cons {f : Str} {e : Expr} {p1 p2 p3 : Pos} {rest : List Stmt} {ns : List Str} {fe : M D} {fs : List (M D)} (he : VO G N S .z ms0 e fe) (hr : VIs G N S rest ns fs)
      (hs : ∀ env, swapsWith e (some (.Attribute (.Name "self" p1) f p2)) p3.line env = pure false := by intro _; rfl) : VIs G N S (.Assign [.Attribute (.Name "self" p1) f p2] e p3 :: rest) (f :: ns) (fe :: fs)
def gFs : List (M D) → M (List D)
  | [] => fun r => .ok [] r
  | f :: fs => fun r => (noX (f r)).bind fun d r => (gFs fs r).bind fun ds r => .ok (d :: ds) r
/-- the exception at a and its dict -/
def exS (H : Hp) (a C : Addr) : Option Addr → List (Str × V) → Prop
  | none, fs => H a = some (exo a C none) ∧ fs = []
  | some dx, fs => H a = some (exo a C (some dx)) ∧ H dx = some (exd dx fs)
section
variable {G : GC} {N : List Str} {S : SC}
/-- where one stands in the body -/
structure InB (G : GC) (H1 : Hp) (c1 : Co) (H01 : Hp) (a C : Addr) (σ : L2.St) (dx : Option Addr) (fs : List (Str × V)) (ds : List D) (ρ : En) (H0 H : Hp) (c : Co) : Prop where
  lies : Lies G.K G.mg H0 H c σ ρ
  st : Step ms0 H01 H1 c1 H0 H c
  ex : exS H a C dx fs
  a1 : H1 a = none
  ac : c a = none
  a0 : H0 a = none
  dc : ∀ d, dx = some d → H1 d = none ∧ c d = none ∧ H0 d = none ∧ d ≠ a
  fz : Fzs G.K G.mg H0 ds (fs.map (·.2))
theorem VIs.run {body : List Stmt} {ns : List Str} {fs : List (M D)} (h : VIs G N S body ns fs) (hN : N[0]? = some ("self" : Str)) (hv : Vis S.sc "self") : ∀ R, At G.mg.hx S N (mkX G N R) →
    ∃ t, PSs (mkX G N R) body t ∧ ∀ (D0 : Ends) (H1 : Hp) (c1 : Co) (H01 : Hp) (a C : Addr) (σ : L2.St) (dx : Option Addr) (gs : List (Str × V)) (es ds : List D) (ρ ρ' : En) (H0 H : Hp) (c : Co), OexC G.K C → (∀ f ∈ ns, PySem.W.findIn G.K (.ref C) f = some none) → gs.length + ns.length ≤ 900 → σ[0]? = some (some (.ref a)) →
      InB G H1 c1 H01 a C σ dx gs es ρ H0 H c → gFs fs ρ = .ok ds ρ' →
      (∀ dx' gs' H0' H' c', InB G H1 c1 H01 a C σ dx' gs' (ds.reverse ++ es) ρ' H0' H' c' → gs'.map (·.1) = ns.reverse ++ gs.map (·.1) → (ns ≠ [] → dx' ≠ none) → D0.nx σ H') → t D0 σ H := by
  induction h with
  | nil =>
    refine fun R a => ⟨_, pss_nil, ?_⟩
    intro D0 H1 c1 H01 ad C σ dx gs es ds ρ ρ' H0 H c T hno hlen hσ B hg k
    cases hg
    exact k dx gs H0 H c B rfl (fun z => absurd rfl z)
  | @cons f e p1 p2 p3 rest ns fe fs he hr hs ih =>
    intro R at_
    obtain ⟨t, ht, ih⟩ := ih R at_
    refine ⟨_, pss_cons (ps_ost (pe_var (i := 0) hN (at_.vis hv) (by decide) (by decide)) (he R at_ _ takes_no) (hs _)) ht, ?_⟩
    intro D0 H1 c1 H01 ad C σ dx gs es ds ρ ρ' H0 H c T hno hlen hσ B hg k
    unfold gFs at hg
    cases hf : fe ρ with
    | exc n ms vs r => rw [hf, noX_exc, bind_bad] at hg; cases hg
    | bad => rw [hf, noX_bad, bind_bad] at hg; cases hg
    | ok d r =>
      rw [hf, noX_ok, bind_ok] at hg
      cases hgs : gFs fs r with
      | exc n ms vs r2 => rw [hgs] at hg; cases hg
      | bad => rw [hgs] at hg; cases hg
      | ok ds2 r2 =>
        rw [hgs, bind_ok] at hg
        cases hg
        show tR G.K G.mg WNo (FO G.K G.mg .z ms0) ms0 fe σ H _
        refine ⟨ρ, H0, c, B.lies, ?_⟩
        rw [hf]
        intro y H0' H' c' s l ⟨fp, ow, _⟩
        have fz := (Ow.zero.mp ow).2
        refine ⟨.ref ad, hσ, ad, C, rfl, T, hno f List.mem_cons_self, ?_⟩
        have nof : ∀ {b : Addr} {o : HO}, H b = some o → H' b = some o := fun {b o} q => s.keep b o q fun _ _ => rfl
        have cof : ∀ {b : Addr} {o : HO}, H b = some o → c' b = c b := fun {b o} q => s.col b o q fun _ _ => rfl
        have h0f : ∀ {b : Addr} {o : HO}, H b = some o → H0 b = none → H0' b = none := fun {b o} q z => by
          cases e : H0' b with
          | none => rfl
          | some u =>
            rcases s.new0 b u e with ⟨w, q2⟩ | q2 | ⟨i, _, q2⟩
            · rw [z] at q2; cases q2
            · rw [q] at q2; cases q2
            · cases q2
        have st2 := B.st.trans s
        cases dx with
        | none =>
          obtain ⟨ea, eg⟩ := B.ex
          subst eg
          refine .inl ⟨nof ea, fun dx hdx hne => ?_⟩
          have hd1 : H1 dx = none := by
            cases q : H1 dx with
            | none => rfl
            | some o => have := st2.keep dx o q fun _ _ => rfl; rw [hdx] at this; cases this
          have ca : c' ad = none := (cof ea).trans B.ac
          have a0 : H0' ad = none := h0f ea B.a0
          have cd : c' dx = none := l.nc hdx
          have d0 : H0' dx = none := l.sub.free hdx
          refine ih D0 H1 c1 H01 ad C σ (some dx) [(f, y)] (d :: es) ds2 r ρ' H0' _ c' T (fun f' hf' => hno f' (List.mem_cons_of_mem _ hf')) (by simp at hlen ⊢; omega) hσ ⟨(l.other cd d0).other ca a0, (st2.other hd1).other B.a1, ⟨upd_same, by rw [upd_ne hne]; exact upd_same⟩, B.a1, ca, a0, fun d' e => by cases e; exact ⟨hd1, cd, d0, hne⟩, ?_⟩ hgs ?_
          · exact ⟨y, _, rfl, fz, Fzs.mono s.grow _ _ B.fz⟩
          · intro dx' gs' H0'' H'' c'' B' e1 e2
            refine k dx' gs' H0'' H'' c'' (by simpa using B') (by simpa using e1) fun _ z => ?_
            subst z
            have q := B'.ex.2
            rw [q] at e1
            simp at e1
        | some dx =>
          obtain ⟨ea, ed⟩ := B.ex
          obtain ⟨hd1, cd0, d00, hne⟩ := B.dc dx rfl
          refine .inr ⟨dx, gs, nof ea, nof ed, by simp at hlen; omega, ?_⟩
          have ca : c' ad = none := (cof ea).trans B.ac
          have a0 : H0' ad = none := h0f ea B.a0
          have cd : c' dx = none := (cof ed).trans cd0
          have d0 : H0' dx = none := h0f ed d00
          refine ih D0 H1 c1 H01 ad C σ (some dx) ((f, y) :: gs) (d :: es) ds2 r ρ' H0' _ c' T (fun f' hf' => hno f' (List.mem_cons_of_mem _ hf')) (by simp at hlen ⊢; omega) hσ ⟨l.other cd d0, st2.other hd1, ⟨by rw [upd_ne (Ne.symm hne)]; exact nof ea, upd_same⟩, B.a1, ca, a0, fun d' e => by cases e; exact ⟨hd1, cd, d0, hne⟩, ?_⟩ hgs ?_
          · exact ⟨y, _, rfl, fz, Fzs.mono s.grow _ _ B.fz⟩
          · intro dx' gs' H0'' H'' c'' B' e1 e2
            refine k dx' gs' H0'' H'' c'' (by simpa using B') (by simpa using e1) fun _ z => ?_
            subst z
            have q := B'.ex.2
            rw [q] at e1
            simp at e1
end
end Vm
set_option Elab.async false
set_option linter.all false
set_option maxRecDepth 100000
set_option maxHeartbeats 4000000
/-! raise X(..), X's own __init__ setting fields; e.f of such an exception -/
namespace Vm
open PySem PySem.Spec PyProof.Rows L2
/-- what such an __init__ promises -/
def spI (G : GC) (p n : Nat) (ns : List Str) (fs : List (M D)) : Sp := fun vs H Q E => vs.length = p ∧ ∃ (a C : Addr) (ws : List V) (H1 H0 : Hp) (c : Co) (ρ ρ' : En) (ds : List D), vs = .ref a :: ws ∧ H = upd H1 a (exo a C none) ∧ H1 a = none ∧ OexC G.K C ∧ (∀ f ∈ ns, PySem.W.findIn G.K (.ref C) f = some none) ∧
  Lies G.K G.mg H0 H1 c (vs.map some) ρ ∧ gFs fs (ρ ++ List.replicate n none) = .ok ds ρ' ∧ ∀ σ dx gs H0' H' c', InB G H1 c H0 a C σ (some dx) gs ds.reverse ρ' H0' H' c' → gs.map (·.1) = ns.reverse → Q .non H'
section
variable {G : GC} {N : List Str} {S : SC}
theorem FnI.mk {k : Nat} {f : Addr} {fd : FuncData} {ps : List Str} {x qual : Str} {params : Arguments} {scope : Scope} {dvs : List V} {kws : List (Str × V)} {b m : Str} {B : Addr} {p1 p2 p3 p4 p5 : Pos} {j : Nat} {pc : Pos} {rest : List Stmt} {ns : List Str} {fs : List (M D)}
    (F : FunD G.K x qual params (.Expr (.Call (.Attribute (.Name b p1) "__init__" p2) [.Name "self" p3, .Constant (.str m) j pc] [] p4) p5 :: rest) scope dvs kws f fd) (Sc : FnScope N ps scope) (n : Nat)
    (hb : VIs G N ⟨scope, fun _ => true, k, true, true⟩ rest ns fs) (hn : N.length = ps.length + n) (hN : N[0]? = some ("self" : Str)) (hv : Vis scope "self") (hne : ns ≠ []) (hsz : ns.length ≤ 900)
    (hm : G.mg b = some (.ref B)) (rd : ClX.CRead G.K B (.type "type")) (bi : PySem.W.findCls G.K (.ref B) (.type "type") "__init__" = some (.val (.builtin "ValueError.__init__")))
    (hgl : Glb ⟨scope, fun _ => true, k, true, true⟩ b) (hdb : (b == ("__debug__" : Str)) = false) (hcv : ∀ env : Env, ∃ pl : Sem Bool, eval (.Call (.Attribute (.Name b p1) "__init__" p2) [.Name "self" p3, .Constant (.str m) j pc] [] p4) env = (do
      let ov ← eval (.Name b p1) env
      standAt p2.atName
      let (f, first) ← holding [ov] (getMethod ov "__init__" pl)
      callWith p4 f first (backTo p4 (starEach [.Name "self" p3, .Constant (.str m) j pc] env)) (backToKw p4 (keywordEach [] env)))) : FnK G.P G.w G.K G.mg G.base (L2N.CX G.P G.w) (k + 1) f fd ps (spI G ps.length n ns fs) := by
  refine FunD.okG F Sc (fun vs H Q E h => h.1) (fun cdv A outer s H vs Q E hgd hr ⟨hl, a, C, ws, H1, H0, c, ρ, ρ', ds, ev, eH, ha, T, hno, l, hg, q⟩ => ?_)
  have hlen : ρ.length = vs.length := by rw [l.len, List.length_map]
  have at_ : At G.mg.hx ⟨scope, fun _ => true, k, true, true⟩ N (mkX G N ⟨A.deeper (envOfC qual scope s.heap.objs.size f cdv), s, H, envOfC qual scope s.heap.objs.size f cdv, outer, envOfC qual scope s.heap.objs.size f cdv :: outer, [], fun _ => true, true, [],
    fun e s' => wpAny (model G.P G.w) (A.deeper (envOfC qual scope s.heap.objs.size f cdv)) (leaving (envOfC qual scope s.heap.objs.size f cdv) e) (fun _ s'' => L2N.CX G.P G.w outer H s E e s'') (fun e' s'' => L2N.CX G.P G.w outer H s E e' s'') s'⟩) :=
    ⟨rfl, rfl, Sc.nd, rfl, fun _ => hr, (fun z => by cases z), L2H.roomH_of hr, hgd, fun _ => ⟨rfl, rfl, rfl⟩, PassesOwn.leaving⟩
  obtain ⟨t, ht, run⟩ := hb.run hN hv _ at_
  obtain ⟨pl, hpl⟩ := hcv (mkX G N ⟨A.deeper (envOfC qual scope s.heap.objs.size f cdv), s, H, envOfC qual scope s.heap.objs.size f cdv, outer, envOfC qual scope s.heap.objs.size f cdv :: outer, [], fun _ => true, true, [],
    fun e s' => wpAny (model G.P G.w) (A.deeper (envOfC qual scope s.heap.objs.size f cdv)) (leaving (envOfC qual scope s.heap.objs.size f cdv) e) (fun _ s'' => L2N.CX G.P G.w outer H s E e s'') (fun e' s'' => L2N.CX G.P G.w outer H s E e' s'') s'⟩).env
  refine ⟨_, pss_cons (ps_expr (pe_binit (at_.gl hgl) hm rd bi (pa_cons (pe_var (i := 0) hN (at_.vis hv) (by decide) (by decide)) (pa_cons pe_str pa_nil)) hdb hpl)) ht, ?_⟩
  have e0 : (L2.start N vs)[0]? = some (some (.ref a)) := by
    subst ev
    unfold L2.start
    rfl
  refine ⟨.ref a, e0, a, C, [.str m], rfl, by simp, T, by rw [eH]; exact upd_same, ?_⟩
  have c0 := l.nc ha
  have h0 := l.sub.free ha
  have l2 : Lies G.K G.mg H0 H1 c (L2.start N vs) (ρ ++ List.replicate n none) := by
    refine ⟨l.sub, l.hot, l.apart, l.there, ?_, fun i m d e => ?_⟩
    · unfold L2.start
      simp only [List.length_append, List.length_map, List.length_replicate]
      omega
    · have hi : i < ρ.length := by
        rcases Nat.lt_or_ge i ρ.length with h | h
        · exact h
        · exfalso
          have z : getS (ρ ++ List.replicate n none) i = none := by
            simp only [getS, List.getD_eq_getElem?_getD]
            rw [List.getElem?_append_right h, List.getElem?_replicate]
            split <;> rfl
          rw [z] at e; cases e
      have e' : getS ρ i = some (m, d) := by
        simp only [getS, List.getD_eq_getElem?_getD] at e ⊢
        rw [List.getElem?_append_left hi] at e
        exact e
      obtain ⟨v, fp, e1, ow, nd, hc⟩ := l.slot i m d e'
      refine ⟨v, fp, ?_, ow, nd, hc⟩
      unfold L2.start
      rw [List.getElem?_append_left (by rw [List.length_map]; omega)]
      exact e1
  have B0 : InB G H1 c H0 a C (L2.start N vs) none [] [] (ρ ++ List.replicate n none) H0 H c := by
    subst eH
    exact ⟨l2.other c0 h0, Step.new ha, ⟨upd_same, rfl⟩, ha, c0, h0, (fun d e => by cases e), rfl⟩
  refine run _ H1 c H0 a C _ none [] [] ds _ ρ' H0 H c T hno (by simpa using hsz) e0 B0 hg fun dx' gs' H0' H' c' B' e1 e2 => ?_
  cases dx' with
  | none => exact absurd rfl (e2 hne)
  | some dx => exact q _ dx gs' H0' H' c' (by simpa using B') (by simpa using e1)
end
/-! ### such an exception made -/
theorem pmk_oexK {X : Cx} {x : Str} {e : Expr} {es : List Expr} {ta : TA} {p pos : Pos} {C fI : Addr} {k : Nat} {fd : FuncData} {ps : List Str} {sp : Sp} (T : OexC X.K C) (iC : PySem.W.findIn X.K (.ref C) "__init__" = some (some (.ref fI))) (tI : PySem.W.typeIn X.K (.ref fI) = some (.type "function"))
    (F1 : FnK X.prog X.w X.K X.mg X.base (L2N.CX X.prog X.w) k fI fd ps sp) (hgd : X.A.guards = some []) (hr : Room (k + 1) X.A) (hb : Binds X.K fd ps []) (hg : Gl X x) (hm : X.mg x = some (.ref C)) (ha : PA X (e :: es) ta)
    (hdb : (x == ("__debug__" : Str)) = false) (he : starEach (e :: es) X.env = (false, eval e X.env) :: starEach es X.env) (hpl : (backTo pos (starEach es X.env)).any (·.1) = false) :
    L2N.PMk X (.Call (.Name x p) (e :: es) [] pos) (tMkO C sp [] ta) := by
  intro pins s σ H Q I h
  obtain ⟨nm, q, N, bs, bm, sn, sub, ab, col, dd, k0, k1, k2, k3, k5, hC, hbm⟩ := T.cls
  refine wpAny_Call_Name_kw (ld_glob I hg hm ?_ hdb)
  refine PySem.W.callWith_K (h₀ := X.base) I.ok.mod.kin T.kC (thn (ha.run pos pins s σ H _ I h) fun us s1 ⟨vs, H1, I1, r1, hz, q1⟩ => ⟨I1.kIn, ?_⟩) he hpl
  show wpAny _ _ (call (.ref C) us) _ _ _
  obtain ⟨hp, g, dr, tk, os⟩ := s1
  have hsz : hp.objs.size ≤ hp.objs.size + 1 := Nat.le_succ _
  have hn : H1 (hp.objs.size + 1) = none := I1.hok.fresh hsz
  have hq := q1 (hp.objs.size + 1) hn
  rw [List.append_nil] at hq
  have kk : ∀ b o, hp.get? b = some o → ((hp.push (PySem.W.kdv_tup us)).push (PySem.HandSPX.excO C hp.objs.size)).get? b = some o := fun b o e => Heap.get?_push_of_some _ (Heap.get?_push_of_some _ e)
  have hget : ((hp.push (PySem.W.kdv_tup us)).push (PySem.HandSPX.excO C hp.objs.size)).get? (hp.objs.size + 1) = some (PySem.HandSPX.excO C hp.objs.size) := by heap_get
  have I2 : Inv X pins σ (upd H1 (hp.objs.size + 1) (exo (hp.objs.size + 1) C none)) ⟨(hp.push (PySem.W.kdv_tup us)).push (PySem.HandSPX.excO C hp.objs.size), g, dr, tk, os⟩ :=
    I1.laid (t' := tk) (a := hp.objs.size + 1) (o := exo (hp.objs.size + 1) C none) (h' := (hp.push (PySem.W.kdv_tup us)).push (PySem.HandSPX.excO C hp.objs.size)) kk hsz (exo_ok hget)
  have r2 : Vals (V.ref (hp.objs.size + 1) :: vs) (Value.ref (hp.objs.size + 1) :: us) := .cons rfl r1
  have hl : (Value.ref (hp.objs.size + 1) :: us ++ []).length = ps.length := by
    have e := r2.length
    rw [F1.len _ _ _ _ hq] at e
    rw [List.append_nil]
    exact e.symm
  have hus : us.length ≤ sizeLine := by
    rw [← Paired.length r1, sizeLine_eq]
    omega
  have b2 := hb _ (Value.ref (hp.objs.size + 1) :: us) I2.kIn hl
  rw [List.append_nil] at b2
  refine wpAny_call (PySem.HandSPX.call_own F.excBase_ValueError (fun Y => PySem.HandSPX.refsVE_contains Y bm hbm) (I1.kIn _ _ hC) (PySem.W.looks_findIn I1.kIn iC) (fun self => PySem.W.bind_fn I1.kIn self tI) hus
    (codeAny_mono (F1.run _ X.stack _ _ ⟨Value.ref (hp.objs.size + 1) :: us, []⟩ (Value.ref (hp.objs.size + 1) :: us) _ _ (fun _ _ _ => False) (guards_make hgd C us []) (hr.make C us []) (I2.env0.make C us []) b2 r2 hq) fun r s' hq' => ?_))
  cases r with
  | error er =>
    obtain ⟨_, _, _, _, _, _, _, _, _, _, _, _, z⟩ := hq'
    exact z.elim
  | ok fl =>
    cases fl with
    | ret u =>
      obtain ⟨v, H2, os2, bare2, un2, hok2, rv, ev, d, fs, ea, ed, hd1, q2⟩ := hq'
      subst ev
      obtain ⟨h2, g2, d2, t2, os'⟩ := s'
      obtain ⟨t0, G, J, kG, ge, hoe, na⟩ := mk_end0 (d2 := d2) (t2 := t2) I1 hsz kk un2 hok2 os2 bare2 ea ed hd1
      refine ⟨rv, hp.objs.size + 1, _, _, ⟨G, g2, d2, t2, os'⟩, _, .ref C, some d, rfl, J, kG, ge, hoe, ⟨rfl, rfl, fun vs hv => ?_⟩, rfl, rfl, na, rfl, bare2, raises_own T.exC T.tyC, q2⟩
      cases hv
      rfl
    | next => exact False.elim hq'
    | brk => exact False.elim hq'
    | cont => exact False.elim hq'
/-- raise x(..): the fields ns come from fs -/
def gRaiseF (x : Str) (n : Nat) (ns : List Str) (fs : List (M D)) (ls : List (Option Nat)) (fa : M (List D)) : M Fl := fun r => (fa r).bind fun ds r => match gFs fs (none :: mkArgs ls ds r ++ List.replicate n none) with
  | .ok es _ => .exc x ns.reverse es.reverse r
  | _ => .bad
section
variable {G : GC} {N : List Str} {S : SC} {a C dx : Addr} {H1 H01 H0 H : Hp} {c1 c : Co} {σ σ' : L2.St} {r ρ' : En} {gs : List (Str × V)} {es : List D}
theorem exc_end (l : Lies G.K G.mg H01 H1 c1 σ r) (B : InB G H1 c1 H01 a C σ' (some dx) gs es ρ' H0 H c) :
    Step ms0 H01 H1 c1 (upd H0 dx (.xd gs)) (upd (del H a) dx (.xd gs)) c ∧ Lies G.K G.mg (upd H0 dx (.xd gs)) (upd (del H a) dx (.xd gs)) c σ r := by
  obtain ⟨hd1, cd, d0, hne⟩ := B.dc dx rfl
  have nx : ∀ {b : Addr} {o : HO}, H1 b = some o → b ≠ dx ∧ b ≠ a := fun {b o} q => ⟨ne_of_none q hd1, ne_of_none q B.a1⟩
  have kp : ∀ {b : Addr} {o : HO}, H1 b = some o → (upd (del H a) dx (.xd gs)) b = some o := fun {b o} q => by
    rw [upd_ne (nx q).1, del_ne (nx q).2]; exact B.st.keep b o q fun _ _ => rfl
  have gr : Same H01 (upd H0 dx (.xd gs)) := fun b o q => by
    rw [upd_ne (nx (l.sub b o q)).1]; exact B.st.grow b o q
  refine ⟨⟨fun b o q _ => kp q, B.st.col, gr, fun b o q => ?_, B.st.newc⟩, ⟨fun b o q => ?_, fun b q => (l.hot b q).mono gr, fun b i q => ?_, fun b i q => ?_, l.len, fun i m d q => ?_⟩⟩
  · by_cases z : b = dx
    · rw [z]; exact .inr (.inl hd1)
    · rw [upd_ne z] at q; exact B.st.new0 b o q
  · by_cases z : b = dx
    · subst z
      rw [upd_same] at q ⊢
      exact q
    · rw [upd_ne z] at q ⊢
      rw [del_ne fun w => by rw [w, B.a0] at q; cases q]
      exact B.lies.sub b o q
  · have : b ≠ dx := fun w => by rw [w, cd] at q; cases q
    rw [upd_ne this]; exact B.lies.apart b i q
  · have w1 : b ≠ dx := fun w => by rw [w, cd] at q; cases q
    have w2 : b ≠ a := fun w => by rw [w, B.ac] at q; cases q
    rw [upd_ne w1, del_ne w2]; exact B.lies.there b i q
  · obtain ⟨v, fp, e1, ow, nd, hc⟩ := l.slot i m d q
    refine ⟨v, fp, e1, Ow.mono gr d m v fp (fun b hb => ?_) ow, nd, fun b hb => ?_⟩
    · obtain ⟨o, e⟩ := l.there b i (hc b hb)
      rw [kp e, e]
    · obtain ⟨o, e⟩ := l.there b i (hc b hb)
      rw [B.st.col b o e fun _ _ => rfl]; exact hc b hb
/-- a class of one's own whose __init__ sets fields -/
structure RsF (G : GC) (x : Str) (k : Nat) (ps : List Str) (n : Nat) (ns : List Str) (fs : List (M D)) : Prop where
  ex : ∃ B fd, G.mg x = some (.ref (He.ga G.K x)) ∧ OexK G.K (He.ga G.K x) B ns ∧ Binds G.K fd ps [] ∧ FnK G.P G.w G.K G.mg G.base (L2N.CX G.P G.w) k (He.ma G.K (He.ga G.K x) "__init__") fd ps (spI G ps.length n ns fs)
theorem VS.raiseF {x : Str} {k : Nat} {ps : List Str} {n : Nat} {ns : List Str} {fs : List (M D)} {ls : List (Option Nat)} {ms : Ms} {rm : Md} {e : Expr} {es : List Expr} {fa : M (List D)} {p pos pos' : Pos} (F : RsF G x k ps n ns fs) (ha : VM G N S ls ms (e :: es) fa)
    (hk : k + 1 ≤ S.k := by decide) (hc : S.cm = true := by rfl) (hn : ls.filterMap id = [] := by rfl) (hl : ls.length + 1 = ps.length := by rfl) (hlen : ls.length ≤ 1000 := by decide) (hg : Glb S x := by rfl) (hdb : (x == ("__debug__" : Str)) = false := by decide)
    (he : ∀ env, starEach (e :: es) env = (false, eval e env) :: starEach es env := by intro _; rfl) (hpl : ∀ env, (backTo pos (starEach es env)).any (·.1) = false := by intro _; rfl) :
    VS G N S rm ms0 (.Raise (some (.Call (.Name x p) (e :: es) [] pos)) none pos') (gRaiseF x n ns fs ls fa) := by
  obtain ⟨B, fd, hm, X, hb, F1⟩ := F.ex
  refine fun R at_ W t => (L2N.ps_raise (at_.calm.trans hc) t (pmk_oexK (X := mkX G N R) X.T X.iC X.tI F1 at_.gd ((at_.room hc).mono hk) hb (at_.gl hg) hm (ha R at_ W t) hdb (he _) (hpl _))).imp fun D σ H ⟨ρ, H0, c, l, o⟩ => ?_
  refine ⟨ρ, H0, c, l, ?_⟩
  unfold gRaiseF at o
  cases hfa : fa ρ with
  | exc nm ms' vs r =>
    rw [hfa] at o
    exact fun cls dx H0' H' c' s l' ex => o cls dx σ H0' H' c' (s.mono fun _ _ => rfl) l' .refl ex
  | bad => rw [hfa] at o; exact o
  | ok ds r =>
    rw [hfa, bind_ok] at o
    cases hgf : gFs fs (none :: mkArgs ls ds r ++ List.replicate n none) with
    | exc nm ms' vs r2 => simp only [hgf] at o; exact o.elim
    | bad => simp only [hgf] at o; exact o.elim
    | ok ys r2 =>
      simp only [hgf] at o
      intro vs H0' H1 c1 s l' am
      obtain ⟨hml, hvl⟩ := mkArgs_len (r := r) am
      refine ⟨by rw [hvl]; exact hlen, fun a ha => ?_⟩
      rw [List.append_nil]
      refine ⟨by rw [List.length_cons, hvl]; exact hl, a, He.ga G.K x, vs, H1, H0', c1, none :: mkArgs ls ds r, r2, ys, rfl, rfl, ha, X.T, X.no, ?_, hgf, fun σ' dx gs H0'' H'' c'' B' en => ?_⟩
      · refine ⟨l'.sub, l'.hot, l'.apart, l'.there, by simp [hml, hvl], fun i m d q => ?_⟩
        cases i with
        | zero => cases q
        | succ i =>
          rcases mkArgs_get (r := r) am (show getS (mkArgs ls ds r) i = some (m, d) by simpa [getS] using q) with ⟨_, v, q2, q3, q4⟩ | ⟨i', v, q1, _⟩
          · have q3 : m = .z := q3
            subst q3
            exact ⟨v, [], by simpa using q2, Ow.zero.mpr ⟨rfl, q4⟩, List.nodup_nil, by simp⟩
          · have : i' ∈ ls.filterMap id := List.mem_filterMap.mpr ⟨some i', List.mem_of_getElem? q1, rfl⟩
            rw [hn] at this; cases this
      · obtain ⟨hd1, cd, d0, hne⟩ := B'.dc dx rfl
        obtain ⟨ea, ed⟩ := B'.ex
        obtain ⟨st, li⟩ := exc_end l' B'
        refine ⟨rfl, dx, gs, ea, ed, hd1, ?_⟩
        refine o (.ref (He.ga G.K x)) (some dx) σ _ _ c'' ((s.mono fun _ _ => rfl).trans (st.mono fun _ _ => rfl)) li .refl ⟨_, hm, rfl, .inr ⟨dx, gs, rfl, upd_same, en, ?_⟩⟩
        exact Fzs.mono (same_upd0 d0) _ _ B'.fz
end
section
variable {fa : List He.Fa} {fn : List He.DefD} {cs : List (Str × D)} {G : GC}
theorem RsF.mk' (Y : Ye fa fn cs G) (i jg jb jo : Nat) {d : He.DefD} {x b m : Str} {k : Nat} {N ps : List Str} {ns : List Str} {fs : List (M D)} {p1 p2 p3 p4 p5 : Pos} {j : Nat} {pc : Pos} {rest : List Stmt} (n : Nat) (hb : VIs G N ⟨d.scope, fun _ => true, k, true, true⟩ rest ns fs)
    (hbi : ∀ (kV doc pm : Value) (an : Option Addr) (cdv ct : Value) (us : List Value), us.length = ps.length → bindArgs (PySem.W.fnOf d.name d.qual d.params d.body d.scope .none kV doc pm an cdv ct) ⟨us, []⟩ = pure (ps.zip us))
    (Sc : FnScope N ps d.scope) (hne : ns ≠ [] := by decide) (hbody : d.body = .Expr (.Call (.Attribute (.Name b p1) "__init__" p2) [.Name "self" p3, .Constant (.str m) j pc] [] p4) p5 :: rest := by rfl) (hd : fn[i]? = some d := by rfl) (hg : fa[jg]? = some (.glo x) := by rfl) (hgb : fa[jb]? = some (.glo b) := by rfl) (ho : cs[jo]? = some (x, .exn "oex" (b :: ns) []) := by rfl)
    (hx : d.at_ = (x, some ("__init__" : Str)) := by rfl) (h0 : d.dfl = [] := by rfl) (hn : N.length = ps.length + n := by rfl) (hN : N[0]? = some ("self" : Str) := by rfl) (hv : Vis d.scope "self" := by first | exact Or.inl rfl | exact Or.inr (Or.inl rfl) | exact Or.inr (Or.inr rfl)) (hsz : ns.length ≤ 900 := by decide)
    (hgl : Glb ⟨d.scope, fun _ => true, k, true, true⟩ b := by rfl) (hdb : (b == ("__debug__" : Str)) = false := by decide) (hcv : ∀ env : Env, ∃ pl : Sem Bool, eval (.Call (.Attribute (.Name b p1) "__init__" p2) [.Name "self" p3, .Constant (.str m) j pc] [] p4) env = (do
      let ov ← eval (.Name b p1) env
      standAt p2.atName
      let (f, first) ← holding [ov] (getMethod ov "__init__" pl)
      callWith p4 f first (backTo p4 (starEach [.Name "self" p3, .Constant (.str m) j pc] env)) (backToKw p4 (keywordEach [] env))) := by intro env; exact ⟨_, rfl⟩) : RsF G x (k + 1) ps n ns fs := by
  obtain ⟨h, X, Nn⟩ := Y.h
  obtain ⟨fd, F⟩ := Y.s.d.def_ i hd
  have e0 : d.dvs G.K = [] := by unfold He.DefD.dvs; rw [h0]; rfl
  rw [e0] at F
  have ea : He.fAd G.K d.at_ = He.ma G.K (He.ga G.K x) "__init__" := by rw [hx]; rfl
  have O := Y.oex jo ho
  refine ⟨_, fd, He.glo_ok X Nn (Y.fact jg hg), O, F.bindsN hbi, ?_⟩
  rw [ea] at F
  rw [hbody] at F
  exact FnI.mk F Sc n hb hn hN hv hne hsz (He.glo_ok X Nn (Y.fact jb hgb)) O.rd O.bi hgl hdb hcv
end
/-! ### e.f -/
/-- the field f of an exception of one of these classes -/
def xfT (tab : List Str) (f : Str) : D → Option D
  | .exn c ns ds => if tab.contains c then (ns.zip ds).lookup f else none
  | _ => none
def fXf (tab : List Str) (f : Str) (fe : M D) : M D := fun r => (fe r).bind fun d r => rM (xfT tab f d) r
theorem pe_xfH {X : Cx} {e : Expr} {te : TE} {pos : Pos} {n : Str} (he : PE X e te) (hb : attributeBase e n X.env (eval e X.env) = eval e X.env) :
    PE X (.Attribute e n pos) (fun σ H Q => te σ H fun x H1 => ∃ (a C dd : Addr) (oe : Obj) (fs : List (Str × V)) (v : V), x = .ref a ∧ H1 a = some (.frz oe (.own a)) ∧ oe.cls = .ref C ∧ (∃ fv : Array Value, oe.data = .fields fv) ∧ XfC X.K C ∧ PySem.W.findIn X.K (.ref C) n = some none ∧ oe.dict = some dd ∧ H1 dd = some (.xd fs) ∧ fs.lookup n = some v ∧ Q v H1) := by
  refine ⟨fun pins s σ H Q I h => ?_⟩
  refine attr_of hb (thn (he.run pins s σ H _ I h) fun u s1 hh => ?_)
  obtain ⟨x, H1, I1, rx, a, C, dd, oe, fs, v, ex, e1, e2, ⟨fv, e3⟩, T, hno, ed, ea, l, q⟩ := hh
  subst ex
  obtain rfl : u = Value.ref a := rx
  obtain ⟨ha, _⟩ := (show ObjOk X.prog X.w H1 s1.heap a (.frz oe (.own a)) from I1.hok a _ e1)
  have hx : ObjOk X.prog X.w H1 s1.heap dd (.xd fs) := I1.hok dd _ ea
  obtain ⟨mA, hns, hr⟩ := hx
  obtain ⟨od, ho, hl⟩ := lookIn_ns hns
  obtain ⟨u, hu, ru⟩ := RelO.some_of (v := v) (o := mA n) (by rw [← l]; exact hr n)
  have J : PySem.W.InstAt s1.heap a oe C (some od) := ⟨ha, e2, by unfold PySem.W.notCls; rw [e3] <;> rfl, by rw [ed]; exact ho⟩
  exact HandSPX.exc_get I1.kIn J T.ga T.gg T.exC (PySem.W.findObj_own T.hdC hno rfl (by rw [hl, hu])) (handed_of ru) ⟨v, H1, I1.tok _, ru, q⟩
theorem xf_look {K : PySem.W.Frag} {mg : MG} {H : Hp} {n : Str} {d : D} : ∀ {fs : List (Str × V)} {ds : List D}, Fzs K mg H ds (fs.map (·.2)) → ((fs.map (·.1)).zip ds).lookup n = some d → ∃ v, fs.lookup n = some v ∧ Fz K mg H d v
  | [], ds, h, e => by simp at e
  | (f, v) :: fs, [], h, e => by simp at e
  | (f, v) :: fs, d0 :: ds, ⟨v', r, q, fz, t⟩, e => by
    have q : v :: fs.map (·.2) = v' :: r := q
    cases q
    have e : ((f, d0) :: (fs.map (·.1)).zip ds).lookup n = some d := e
    by_cases z : n = f
    · subst z
      simp at e
      subst e
      exact ⟨v, by simp, fz⟩
    · have zz : (n == f) = false := by simpa using z
      simp only [List.lookup_cons, zz] at e ⊢
      exact xf_look t e
section
variable {fa : List He.Fa} {fn : List He.DefD} {cs : List (Str × D)} {G : GC} {N : List Str} {S : SC} {ms : Ms} {e : Expr} {f : M D} {pos : Pos} {n : Str}
theorem VO.xfld (tab : List Str) (he : VO G N S .z ms e f) (ht : ∀ c ∈ tab, XcOk G c ∧ PySem.W.findIn G.K (.ref (He.ga G.K c)) n = some none) (hb : ∀ env, attributeBase e n env (eval e env) = eval e env := by intro _; rfl) :
    VO G N S .z ms (.Attribute e n pos) (fXf tab n f) := by
  refine fun R a W t => (pe_xfH (he R a W t) (hb _)).imp fun σ H Q ⟨ρ, H0, co, l, o⟩ => ?_
  refine ⟨ρ, H0, co, l, (Out.bind (G := FO G.K G.mg .z ms) (ms1 := ms) back_FO o fun i e => e).imp fun x H1 ⟨d, H01, c1, ρ1, e1, s1, l1, ⟨fp, ow, _⟩, h1⟩ => ?_⟩
  have fz := (Ow.zero.mp ow).2
  have h1' : Out G.K G.mg W (FO G.K G.mg .z ms) ms H01 H1 c1 σ (rM (xfT tab n d) ρ1) Q := h1
  cases hx : xfT tab n d with
  | none => rw [hx] at h1'; exact h1'.elim
  | some y =>
    rw [hx] at h1'
    cases d <;> first | (cases hx; done) | skip
    rename_i c ns ds
    unfold xfT at hx
    dsimp only at hx
    by_cases hc : tab.contains c = true
    · rw [if_pos hc] at hx
      obtain ⟨X, hno⟩ := ht c (by simpa using hc)
      obtain ⟨ad, ws, ev, ⟨C, oe, g1, g2, g3, ⟨fv, g4, _⟩, g5⟩, r⟩ := id fz
      rw [X.glo] at g1
      cases g1
      rcases g5 with ⟨en, _, _⟩ | ⟨p, fs, q1, q2, q3, q4⟩
      · subst en; simp at hx
      · subst q3 q4
        obtain ⟨v, hv, fv'⟩ := xf_look r hx
        exact ⟨ad, He.ga G.K c, p, oe, fs, v, ev, l1.sub _ _ g2, g3, ⟨fv, g4⟩, ⟨X.exc.hg, X.exc.hk, X.exc.hs, X.exc.hd⟩, hno, q1, l1.sub _ _ q2, hv, h1'.here l1 fv'⟩
    · rw [if_neg hc] at hx; cases hx
end
theorem ht_nil {P : Str → Prop} : ∀ c ∈ ([] : List Str), P c := fun _ h => nomatch h
theorem ht_cons {P : Str → Prop} {c0 : Str} {l : List Str} (h : P c0) (hl : ∀ c ∈ l, P c) : ∀ c ∈ c0 :: l, P c := fun z hz => by
  rcases List.mem_cons.mp hz with e | e
  · rw [e]; exact h
  · exact hl z e
end Vm
set_option Elab.async false
set_option linter.all false
set_option maxRecDepth 100000
set_option maxHeartbeats 4000000
/-! d.pop(key) on a dictionary of one's own -/
namespace Vm
open PySem PySem.Spec PyProof.Rows L2
def dropKs (k : Key) : List D → List D → List D × List D
  | x :: ks, v :: vs => if keyD x = some k then dropKs k ks vs else (x :: (dropKs k ks vs).1, v :: (dropKs k ks vs).2)
  | _, _ => ([], [])
def dPopO (k : D) (p : List D × List D) : Option (List D × List D) := (keyD k).bind fun k => if hasK k p.1 = true then some (dropKs k p.1 p.2) else none
def gDPop (i : Nat) (fi : M D) : M Fl := fun r => (rM (dcS (getS r i)) r).bind fun _ r => (fi r).bind fun j r => (rM (dcS (getS r i)) r).bind fun p r => (rM (dPopO j p) r).bind fun p' r => .ok .nx (r.set i (some (m1, .dct p'.1 p'.2)))
section
variable {G : GC} {N : List Str} {S : SC} {ms2 : Ms} {rm : Md} {b : Expr} {fb : M D} {pos p : Pos} {i : Nat} {x : Str}
/-! ### simp rules -/
variable {s0 : Sl} {r : En}
@[simp] theorem gDPop_ap (fi : M D) : gDPop i fi (s0 :: r) = (rM (dcS (getS (s0 :: r) i)) (s0 :: r)).bind fun _ r => (fi r).bind fun j r => (rM (dcS (getS r i)) r).bind fun p r => (rM (dPopO j p) r).bind fun p' r => .ok .nx (r.set i (some (m1, .dct p'.1 p'.2))) := rfl
@[simp] theorem gRaiseF_ap (x : Str) (n : Nat) (ns : List Str) (fs : List (M D)) (ls : List (Option Nat)) (fa : M (List D)) : gRaiseF x n ns fs ls fa (s0 :: r) = (fa (s0 :: r)).bind fun ds r => match gFs fs (none :: mkArgs ls ds r ++ List.replicate n none) with
  | .ok es _ => .exc x ns.reverse es.reverse r
  | _ => .bad := rfl
@[simp] theorem fXf_ap (tab : List Str) (f : Str) (fe : M D) : fXf tab f fe (s0 :: r) = (fe (s0 :: r)).bind fun d r => rM (xfT tab f d) r := rfl
end
/-! ### dict(d) of a dictionary -/
def oDictD : List D → Option D
  | [.dct ks vs] => some (.dct ks vs)
  | _ => none
@[simp] theorem oDictD_dct (ks vs : List D) : oDictD [.dct ks vs] = some (.dct ks vs) := rfl
section
variable {G : GC} {N : List Str} {S : SC} {bs ms : Ms} {e : Expr} {es : List Expr} {fs : M (List D)} {pos p : Pos}
end
end Vm
set_option Elab.async false
set_option linter.all false
set_option maxRecDepth 100000
set_option maxHeartbeats 4000000
/-! while an exception is handled: for over zip of two lists, len(set(list)) -/
namespace Vm
open PySem PySem.Spec PyProof.Rows L2 HotX
section
variable {prog : Program} {w : World} {A : Around} {E : Value → Shared → Prop} {s : Shared}
end
section
variable {G : GC} {N : List Str} {S : SC} {bs1 bs2 ms1 ms2 : Ms} {a b : Expr} {fa fb : M D} {pos : Pos}
end
end Vm
set_option Elab.async false
set_option linter.all false
set_option maxRecDepth 100000
set_option maxHeartbeats 4000000
namespace Vm
open PySem PySem.Spec PyProof.Rows L2
section
variable {X : Cx} {tg : Expr}
end
section
variable {G : GC} {N : List Str} {S : SC} {bs bs1 bs2 ms ms1 ms2 ms3 as as1 as2 : Ms} {m rm : Md} {k : Kd} {e a b : Expr} {es : List Expr} {f fa fb : M D} {fs : M (List D)} {pos : Pos} {g g1 g2 : M Fl} {st : Stmt} {rest st1 st2 : List Stmt}
end
end Vm
set_option Elab.async false
set_option linter.all false
set_option maxRecDepth 100000
set_option maxHeartbeats 4000000
/-! len(set(list)), an exception being handled -/
namespace Vm
open PySem PySem.Spec PyProof.Rows L2
section
variable {P : Program} {w : World} {A : Around} {E : Value → Shared → Prop} {s : Shared}
end
def oLenSetL : List D → Option D
  | [.lst ds] => lenSet ds
  | _ => none
@[simp] theorem oLenSetL_lst (ls : List (List Nat)) : oLenSetL [.lst (ls.map .str)] = if ls.length ≤ 60 then some (.int ((dedL ls).length : Nat)) else none := oLenSet_lst
section
variable {G : GC} {N : List Str} {S : SC} {ms : Ms} {a : Expr} {f : M D} {p p2 q pos : Pos}
end
end Vm
set_option Elab.async false
set_option linter.all false
set_option maxRecDepth 100000
set_option maxHeartbeats 4000000
/-! a call whose second argument is handed over -/
namespace Vm
open PySem PySem.Spec PyProof.Rows L2
def fCallO1 (F : M D) (m : Md) (ls : List (Option Nat)) (f0 fe : M D) (fs : M (List D)) : M D := fun r => (f0 r).bind fun d0 r => (fe r).bind fun d r => (fs r).bind fun ds r => match F (some (.z, d0) :: some (m, d) :: mkArgs ls ds r) with
  | .ok d' _ => .ok d' r
  | .exc n ns vs _ => .exc n ns vs r
  | .bad => .bad
section
variable {G : GC} {N : List Str} {S : SC} {bs ms ms0' ms1 ms2 : Ms} {m rm : Md} {e e0 a b : Expr} {es : List Expr} {f f0 fa fb fe : M D} {fs : M (List D)} {pos p : Pos} {c x : Str} {k : Nat} {ps : List Str} {F : M D} {ls : List (Option Nat)}
end
@[simp] theorem fCallO1_ap {F : M D} {m : Md} {ls : List (Option Nat)} {f0 fe : M D} {fs : M (List D)} {s0 : Sl} {r : En} : fCallO1 F m ls f0 fe fs (s0 :: r) = (f0 (s0 :: r)).bind fun d0 r => (fe r).bind fun d r => (fs r).bind fun ds r => toR r (F (some (.z, d0) :: some (m, d) :: mkArgs ls ds r)) := by
  unfold fCallO1
  congr 1
end Vm
set_option Elab.async false
set_option linter.all false
set_option maxRecDepth 100000
set_option maxHeartbeats 4000000
/-! repr of a list or tuple -/
namespace Vm
open PySem PySem.Spec PyProof.Rows L2
mutual
theorem noDict_py : ∀ d : D, plain d = true → (toPy d).hasDict = false
  | .non, _ => rfl
  | .bl _, _ => rfl
  | .int _, _ => rfl
  | .str _, _ => rfl
  | .tup ds, h => noDicts_py ds h
  | .lst ds, h => noDicts_py ds h
  | .dct _ _, h => by cases h
  | .dnt _ _, h => by cases h
  | .ins _ _ _, h => by cases h
  | .scr _, h => by cases h
  | .exn _ _ _, h => by cases h
  | .unk, h => by cases h
theorem noDicts_py : ∀ ds : List D, plains ds = true → PyData.hasDictAll (toPys ds) = false
  | [], _ => rfl
  | d :: ds, h => by
    obtain ⟨h1, h2⟩ := Bool.and_eq_true_iff.mp (show (plain d && plains ds) = true from h)
    show ((toPy d).hasDict || PyData.hasDictAll (toPys ds)) = false
    rw [noDict_py d h1, noDicts_py ds h2]; rfl
end
/-- what repr shows -/
def shD (d : D) : List Nat := (toPy d).shown.cps.toList
def reprOk (d : D) : Bool := plain d && ((toPy d).showable && (decide (dep d ≤ 60) && (decide ((toPy d).shown.length ≤ 16777216) && sOk (shD d))))
def oRepr : List D → Option D
  | [.lst ds] => if reprOk (.lst ds) = true then some (.str (shD (.lst ds))) else none
  | [.tup ds] => if reprOk (.tup ds) = true then some (.str (shD (.tup ds))) else none
  | _ => none
def rRepr (K : PySem.W.Frag) : List V → Hp → VK → Prop := fun xs H Q => ∃ (a : Addr) (d : PyData), xs = [.ref a] ∧ Dp K H (.ref a) d ∧ d.showable = true ∧ d.hasDict = false ∧ d.depth ≤ 60 ∧ d.shown.length ≤ 16777216 ∧ Q (.str d.shown) H
theorem cr_repr {X : Cx} (hg : X.A.guards = some []) (hu : X.A.units + 100 < cLine) : CallR X (.builtin "repr") (rRepr X.K) := by
  intro pins s σ H xs us Q I r ⟨a, d, ex, hd, hs, hn, hdp, hsz, q⟩
  subst ex
  rw [Vals.ref1 r]
  obtain ⟨as, rd⟩ := Dp.reads I d (.ref a) (.ref a) hd rfl
  exact repr_of_reads' rd hs (PyData.noDict_hsm hn) hg (by omega) (fun _ _ e => e) (fun h' u tk hk => ⟨.str _, H, I.kept (t' := tk) hk, ⟨u, rfl⟩, q⟩) (by rw [sizeLine_eq]; exact hsz)
section
variable {G : GC} {N : List Str} {S : SC} {bs ms : Ms} {e : Expr} {es : List Expr} {fs : M (List D)} {pos p : Pos}
theorem ru_repr : RuA G (rRepr G.K) .z oRepr := by
  intro H0 H ds xs d Q s h ho f
  have main : ∀ d0 : D, (∃ a x, Fz G.K G.mg H d0 x ∧ x = V.ref a ∧ xs = [x]) → reprOk d0 = true → d = .str (shD d0) → rRepr G.K xs H Q := by
    rintro d0 ⟨a, x, fz, ex, e⟩ hk ed
    subst ed ex e
    obtain ⟨h1, hk⟩ := Bool.and_eq_true_iff.mp hk
    obtain ⟨h2, hk⟩ := Bool.and_eq_true_iff.mp hk
    obtain ⟨h3, hk⟩ := Bool.and_eq_true_iff.mp hk
    obtain ⟨h4, h5⟩ := Bool.and_eq_true_iff.mp hk
    have h3 := of_decide_eq_true h3
    have h6 := dep_py d0
    refine ⟨a, toPy d0, rfl, Fz.dp d0 _ fz h1, h2, noDict_py d0 h1, by omega, of_decide_eq_true h4, ?_⟩
    have et : V.str (toPy d0).shown = sV (shD d0) := rfl
    rw [et]
    exact f.atom s ⟨rfl, h5⟩ rfl
  unfold oRepr at ho
  split at ho
  · split at ho
    · rename_i hk
      cases ho
      obtain ⟨x, e, h1⟩ := shs_one h
      have fz := h1.fz s
      obtain ⟨a, vs, ex, _⟩ := id fz
      exact main _ ⟨a, x, fz, ex, e⟩ hk rfl
    · cases ho
  · split at ho
    · rename_i hk
      cases ho
      obtain ⟨x, e, h1⟩ := shs_one h
      have fz := h1.fz s
      obtain ⟨a, vs, ex, _⟩ := id fz
      exact main _ ⟨a, x, fz, ex, e⟩ hk rfl
    · cases ho
  · cases ho
theorem VO.repr (hm : G.mg "repr" = none) (ha : VA G N S bs ms (e :: es) fs) (hcm : True := trivial) (hg : Glb S "repr" := by rfl) (he : ∀ env, starEach (e :: es) env = (false, eval e env) :: starEach es env := by intro _; rfl) (hpl : ∀ env, (backTo pos (starEach es env)).any (·.1) = false := by intro _; rfl) :
    VO G N S .z ms (.Call (.Name "repr" p) (e :: es) [] pos) (fA oRepr fs) := .callB (fun _ a => cr_repr a.gd (a.u100 hcm)) ru_repr hm (by decide +kernel) ha hg (by decide) (by decide) he hpl
end
end Vm
set_option Elab.async false
set_option linter.all false
set_option maxRecDepth 100000
set_option maxHeartbeats 4000000
/-! for k, v in d.items(), d a dictionary by nested tuples -/
namespace Vm
open PySem PySem.Spec PyProof.Rows L2
section
variable {X : Cx} {mg : MG} {pins : List (Addr × Obj)} {σ : L2.St} {H : Hp} {s : Shared} {a d : Addr} {o : Obj} {L : List (NK × Addr × V)} {ks : List D}
end
section
variable {G : GC} {N : List Str} {S : SC} {bs ms as as1 as2 ms2 ms3 : Ms} {m rm me : Md} {e : Expr} {pos : Pos}
/-- for k, v in d.items(), d a name of a frozen dictionary by nested tuples -/
def gForNi (i : Nat) (gt : D → M Fl) (gb : M Fl) : M Fl := fun r => match getS r i with
  | some (.z, .dnt ks ds) => noXc (gLoop gt gb (zipD ks ds) r)
  | _ => .bad
def niS : Sl → Option (List D)
  | some (.z, .dnt ks ds) => some (zipD ks ds)
  | _ => none
@[simp] theorem niS_dnt (ks vs : List D) : niS (some (.z, .dnt ks vs)) = some (zipD ks vs) := rfl
@[simp] theorem gForNi_ap {i : Nat} {gt : D → M Fl} {gb : M Fl} {s0 : Sl} {r : En} : gForNi i gt gb (s0 :: r) = (rM (niS (getS (s0 :: r) i)) (s0 :: r)).bind fun ds r => noXc (gLoop gt gb ds r) := by
  unfold gForNi niS
  cases q : getS (s0 :: r) i with
  | none => rfl
  | some md =>
    obtain ⟨m, d⟩ := md
    cases m <;> cases d <;> rfl
end
end Vm
set_option Elab.async false
set_option linter.all false
set_option maxRecDepth 100000
set_option maxHeartbeats 4000000
/-! f = [x for x in xs if ..]; if f == []: .. else: f[0].append(e), xs an owned list of owned lists: the first one that passes is changed -/
namespace Vm
open PySem PySem.Spec PyProof.Rows L2 TL
section
variable {G : GC} {N : List Str} {S : SC} {bs bs1 bs2 ms ms1 ms2 ms3 as as1 as2 : Ms} {m me rm : Md} {e b : Expr} {f fa fb fe : M D} {pos p apos spos : Pos}
end
section
variable {G : GC} {N : List Str} {S : SC} {bs bs1 bs2 ms ms1 ms2 ms3 as as1 as2 : Ms} {m me rm : Md} {e b : Expr} {f fa fb fe : M D} {pos p apos spos : Pos}
end
end Vm
set_option Elab.async false
set_option linter.all false
set_option maxRecDepth 100000
set_option maxHeartbeats 4000000
/-! sorted(tuples), some of them perhaps without items -/
namespace Vm
open PySem PySem.Spec PyProof.Rows L2
section
variable {prog : Program} {w : World} {A : Around} {s : Shared}
theorem call_tuple_lt2 {E : Value → Shared → Prop} {Q : Value → Shared → Prop} {l b : Addr} {items items2 : Array Value} {e r : Nat → Bool} (hl : s.heap.IsTuple l items) (hb : s.heap.IsTuple b items2)
    (he : ∀ j (h1 : j < items.size) (h2 : j < items2.size), SeqAt.EqAt A.in1 s items[j] items2[j] (e j)) (hr : ∀ j (h1 : j < items.size) (h2 : j < items2.size), e j = false → SeqAt.RcLt A.in1 s items[j] items2[j] (r j))
    (h : Q (.bool (SeqAt.firstLt e r (decide (items.size < items2.size)) (List.range (min items.size items2.size)))) s) : wpAny (model prog w) A (call (.builtin "tuple.__lt__") [.ref l, .ref b]) Q E s := by
  obtain ⟨⟨cls, dd, data, sl⟩, ho, hc, n, hd⟩ := id hl
  obtain ⟨⟨cls2, dd2, data2, sl2⟩, ho2, hc2, n2, hd2⟩ := id hb
  simp only at hc hd hc2 hd2
  subst hc hd hc2 hd2
  exact call_meets F.slot_tuple_lt ⟨_, ho, rfl⟩ F.entry_tuple_lt (F.args_tuple_lt_2 _ _) (SeqAt.tuple_ltAt l b items items2 n n2 dd dd2 sl sl2 e r) ⟨ho, ho2, he, hr, h⟩
end
end Vm
namespace PySem.W
open PySem PySem.Calls PySem.SeqAt PyProof.Rows
section
variable {prog : Program} {w : World} {A : Around} {s : Shared} {E : Value → Shared → Prop}
theorem oneLt_tups {f : Bool} {xs ys : List PyData} {a b : Value} {as bs : List Addr} {Q : Bool → Shared → Prop} (ra : Reads s.heap a (PyData.tuple xs) as) (rb : Reads s.heap b (PyData.tuple ys) bs) (h : alike (PyData.tuple xs) (PyData.tuple ys) = true)
    (hu : A.units + min (PyData.tuple xs).depth (PyData.tuple ys).depth < cLine) (hq : Q (dataLt (PyData.tuple xs) (PyData.tuple ys)) s) : wpAny (model prog w) A (oneLt' f a b) Q E s := by
  cases f with
  | false => exact oneLt_alike (fun z => by cases z) ra rb h (fun z => by cases z) hu hq
  | true =>
    have hal : alikeAll xs ys = true := by simpa [alike] using h
    cases ra with
    | @tuple l o vs n _ as₁ h1 h2 h3 h4 =>
      cases rb with
      | @tuple l' o' vs' n' _ bs₁ k1 k2 k3 k4 =>
        have n1 : vs.size = xs.length := by simpa using SeqAt.ReadsAll.length _ _ _ h4
        have n2 : vs'.size = ys.length := by simpa using SeqAt.ReadsAll.length _ _ _ k4
        rw [dataLt_tuple, ← firstLt_toks xs ys hal, ← n1, ← n2] at hq
        rw [oneLt'_eq]
        simp only [if_true]
        refine wpAny_bind (wpAny_cRoomFor (SeqAt.room_here hu) ?_)
        refine wpAny_bind (wpAny_callSpecialIfBound?_slot (T := "tuple") ⟨_, h1, h2⟩ F.slot_tuple_lt (Vm.call_tuple_lt2 (e := pairEq xs ys) (r := fun j => dataLt (xs.getD j .none) (ys.getD j .none)) ⟨_, h1, h2, _, h3⟩ ⟨_, k1, k2, _, k3⟩ (fun j j1 j2 => ?_) (fun j j1 j2 hj => ?_) ?_))
        · have := eqAt_alikeAll xs ys A.in1 s vs.toList vs'.toList _ _ h4 k4 hal (SeqAt.room_in hu) j (by simpa using j1) (by simpa using j2)
          simpa using this
        · have := rcLt_alikeAll xs ys A.in1 s vs.toList vs'.toList _ _ h4 k4 hal (SeqAt.room_in hu) j (by simpa using j1) (by simpa using j2) hj
          simpa using this
        · exact wpAny_truthy_bool hq
/-- their first items, if any -/
theorem firsts_any {M : Model} : ∀ (vs : List Value) (ds : List PyData) {Q : List (Option Value) → Shared → Prop}, EachIs (fun v d => ∃ as, Reads s.heap v d as) vs ds → (∀ d ∈ ds, ∃ xs, d = PyData.tuple xs) →
    (∀ fs : List (Option Value), fs.length = vs.length → (∀ (i : Nat) (d : PyData), ds[i]? = some d → ((fs[i]?.bind id).isSome = true ↔ d ≠ PyData.tuple [])) → Q fs s) → wpAny M A (vs.mapM firstOfTuple') Q E s
  | [], _, _, e, _, h => by
    cases e
    rw [List.mapM_nil]
    exact wpAny_pure (h [] rfl fun i d hd => by cases hd)
  | v :: vs, _, Q, e, ht, h => by
    cases e with
    | @cons _ d _ ds r t =>
      obtain ⟨as, r⟩ := r
      obtain ⟨xs, rfl⟩ := ht d List.mem_cons_self
      cases r with
      | @tuple a o its n _ _ ho hc hd hr =>
        rw [List.mapM_cons]
        refine wpAny_bind ?_
        rw [kas_first_eq]
        refine wpAny_bind (Looks.here (show Looks M s.heap (typeOf (.ref a)) o.cls from (Looks.ld ho).andThen .now) ?_)
        rw [hc, if_neg (by first | decide | simp)]
        refine wpAny_bind (listItems_at ho hd (wpAny_pure ?_))
        refine wpAny_bind (firsts_any vs ds (Q := fun bs s' => wpAny M A (pure (its[0]? :: bs)) Q E s') t (fun d hd => ht d (List.mem_cons_of_mem _ hd)) fun fs hl hf => wpAny_pure (h _ (by rw [List.length_cons, List.length_cons, hl]) fun i d hd => ?_))
        cases i with
        | zero =>
          cases hd
          have n1 : its.size = xs.length := by simpa using SeqAt.ReadsAll.length _ _ _ hr
          cases xs with
          | nil =>
            have : its[0]? = none := by
              rw [List.length_nil] at n1
              exact Array.getElem?_eq_none (by omega)
            simp [this]
          | cons x xs =>
            have h0 : 0 < its.size := by rw [n1]; simp
            simp [h0]
        | succ i => simpa using hf i d hd
/-- tuples that read as alike data -/
theorem SortsAt.tups {vs : List Value} {ds : List PyData} (e : EachIs (fun v d => ∃ as, Reads s.heap v d as) vs ds) (hal : AllAlike ds) (ht : ∀ d ∈ ds, ∃ xs, d = PyData.tuple xs) (hu : ∀ d, d ∈ ds → A.units + d.depth < cLine) : SortsAt prog w A s (dataKind s.heap ds) vs := by
  by_cases hne : ∀ d ∈ ds, d ≠ PyData.tuple []
  · refine SortsAt.data e hal (.inl fun d hd => ?_) hu
    obtain ⟨xs, rfl⟩ := ht d hd
    cases xs with
    | nil => exact absurd rfl (hne _ hd)
    | cons x r => exact ⟨x, r, rfl⟩
  have room : ∀ {d d' : PyData}, d ∈ ds → A.units + min d.depth d'.depth < cLine := fun {d d'} hd => Nat.lt_of_le_of_lt (Nat.add_le_add_left (Nat.min_le_left _ _) _) (hu d hd)
  obtain ⟨d0, hd0, ed0⟩ : ∃ d0 ∈ ds, d0 = PyData.tuple [] := by
    simp only [ne_eq] at hne
    by_cases q : ∃ d0 ∈ ds, d0 = PyData.tuple []
    · exact q
    · exact absurd (fun d hd z => q ⟨d, hd, z⟩) hne
  subst ed0
  have lt : ∀ f : Bool, ∀ (E : Value → Shared → Prop) (x y : Value) (a b : List (Int ⊕ List Nat)) (Q : Bool → Shared → Prop), (dataKind s.heap ds).keyOf x = some a → (dataKind s.heap ds).keyOf y = some b → Q ((dataKind s.heap ds).blt a b) s → wpAny (model prog w) A (oneLt' f x y) Q E s := fun f E x y a b Q ha hb hq => by
    obtain ⟨d, as, hd, ra, rfl⟩ := dataKind_inv ha
    obtain ⟨d', as', hd', rb, rfl⟩ := dataKind_inv hb
    obtain ⟨xs, rfl⟩ := ht d hd
    obtain ⟨ys, rfl⟩ := ht d' hd'
    exact oneLt_tups ra rb (hal _ hd _ hd') (room hd) hq
  refine ⟨fun v hv => ?_, ?_⟩
  · obtain ⟨d, hd, as, r⟩ := e.left v hv
    exact ⟨_, dataKind_some hal hd r⟩
  · obtain ⟨i0, hi0⟩ := List.getElem?_of_mem hd0
    have hT : ∀ v ∈ vs, Looks (model prog w) s.heap (typeOf v) (.type "tuple") := fun v hv => by
      obtain ⟨d, hd, as, r⟩ := e.left v hv
      obtain ⟨xs, rfl⟩ := ht d hd
      exact looks_reads r
    have hlen : vs.length = ds.length := e.length
    have nall : ∀ fs : List (Option Value), fs.length = vs.length → (∀ (i : Nat) (d : PyData), ds[i]? = some d → ((fs[i]?.bind id).isSome = true ↔ d ≠ PyData.tuple [])) → ¬ (fs.toArray.all (·.isSome)) = true := fun fs hl hf hall => by
      have hlt : i0 < fs.length := by
        rw [hl, hlen]; exact (List.getElem?_eq_some_iff.mp hi0).1
      have q := (hf i0 _ hi0)
      have : (fs[i0]?.bind id).isSome = true := by
        rw [List.getElem?_eq_getElem hlt]
        simp only [List.all_toArray, List.all_eq_true] at hall
        exact hall _ (List.getElem_mem hlt)
      exact q.mp this rfl
    cases ds with
    | nil => cases hd0
    | cons d1 ds1 =>
      by_cases h1 : d1 = PyData.tuple []
      · refine ⟨oneType', fun E x y a b Q ha hb hq => lt true E x y a b Q ha hb hq, fun h2 E Q hq => ?_⟩
        rw [kat_kind_eq, List.mapM_toArray, map_eq_pure_bind]
        refine wpAny_bind (wpAny_bind (firsts_any vs _ e ht fun fs hl hf => wpAny_pure ?_))
        rw [if_neg (nall fs hl hf)]
        have h0 : ¬ ((fs.toArray[0]?.bind id).isSome) = true := fun z => by
          have z : (fs[0]?.bind id).isSome = true := by simpa using z
          exact (hf 0 d1 rfl).mp z h1
        rw [if_neg h0]
        obtain ⟨v₁, vr, rfl⟩ : ∃ v₁ vr, vs = v₁ :: vr := by
          cases vs with
          | nil => simp at h2
          | cons a b => exact ⟨a, b, rfl⟩
        rw [oneTypeOnly'_eq, List.mapM_toArray, map_eq_pure_bind]
        refine wpAny_bind (wpAny_bind (wpAny_bind (kas_mapM (r := Value.type "tuple") _ (fun v hv Q' hq => (hT v hv).here hq) (wpAny_pure ?_))))
        have hall : ((List.map (fun _ => Value.type "tuple") (v₁ :: vr)).toArray.all fun x => x == Value.type "tuple") = true := by
          simp only [List.all_toArray, List.all_map, List.all_eq_true]
          intro _ _
          exact beq_self_eq_true _
        have h0 : (List.map (fun _ => Value.type "tuple") (v₁ :: vr)).toArray[0]? = some (Value.type "tuple") := by simp
        rw [h0]
        simp only [hall, if_true]
        exact wpAny_pure (wpAny_pure hq)
      · refine ⟨general', fun E x y a b Q ha hb hq => lt false E x y a b Q ha hb hq, fun h2 E Q hq => ?_⟩
        rw [kat_kind_eq, List.mapM_toArray, map_eq_pure_bind]
        refine wpAny_bind (wpAny_bind (firsts_any vs _ e ht fun fs hl hf => wpAny_pure ?_))
        rw [if_neg (nall fs hl hf)]
        have h0 : ((fs.toArray[0]?.bind id).isSome) = true := by
          have := (hf 0 d1 rfl).mpr h1
          simpa using this
        rw [if_pos h0]
        exact wpAny_pure hq
end
section
variable {prog : Program} {w : World} {A : Around} {s : Shared} {E : Value → Shared → Prop} {β : Type} {R : Value → β → Prop} {enc : β → PyData} {vs : List Value} {bs : List β}
end
end PySem.W
namespace Vm
open PySem PySem.Spec PyProof.Rows L2
section
variable {X : Cx}
end
section
variable {G : GC} {N : List Str} {S : SC} {bs ms : Ms} {m : Md} {e a : Expr} {es : List Expr} {fs : M (List D)} {pos p q : Pos}
end
end Vm
set_option Elab.async false
set_option linter.all false
set_option maxRecDepth 100000
set_option maxHeartbeats 4000000
/-! {k: v}, k a tuple of data -/
namespace Vm
open PySem PySem.Spec PyProof.Rows L2
section
variable {X : Cx} {mg : MG}
end
section
variable {G : GC} {N : List Str} {S : SC} {ms1 ms2 : Ms} {a b : Expr} {fa fb : M D} {pos : Pos}
def fDispN1 (fa fb : M D) : M D := fun r => (fa r).bind fun k r => (fb r).bind fun d r => (rM (tkD k) r).bind fun _ r => .ok (.dnt [k] [d]) r
@[simp] theorem fDispN1_ap {s0 : Sl} {r : En} : fDispN1 fa fb (s0 :: r) = (fa (s0 :: r)).bind fun k r => (fb r).bind fun d r => (rM (tkD k) r).bind fun _ r => .ok (.dnt [k] [d]) r := rfl
end
end Vm
set_option Elab.async false
set_option linter.all false
set_option maxRecDepth 100000
set_option maxHeartbeats 4000000
namespace Vm
open PySem PySem.Spec PyProof.Rows L2
/-! lists and tuples times a number -/
section
variable {G : GC} {N : List Str} {S : SC} {X : Cx}
theorem Fzs.rep {K : PySem.W.Frag} {mg : MG} {H : Hp} {ds : List D} {vs : List V} (h : Fzs K mg H ds vs) : ∀ n : Nat, Fzs K mg H (List.replicate n ds).flatten (List.replicate n vs).flatten
  | 0 => rfl
  | n + 1 => by
    rw [List.replicate_succ, List.replicate_succ, List.flatten_cons, List.flatten_cons]
    exact h.append (Fzs.rep h n)
def oMulL (d e : D) : Option D := match d, e with
  | .lst s, .int n => if 0 ≤ n ∧ n ≤ 1000 ∧ s.length ≤ 1000 then some (.lst (List.replicate n.toNat s).flatten) else none
  | _, _ => none
theorem ru_mulL : Ru2 G rRep m1 oMulL := by
  intro H0 H d1 d2 x y d Q s h1 h2 ho f
  unfold oMulL at ho
  split at ho
  · rename_i a n
    split at ho
    · rename_i hl
      cases ho
      obtain ⟨a1, vs, e1, k1, f1⟩ := h1
      have l1 := f1.length
      refine ⟨a1, n, vs, e1, h2, k1, by omega, by omega, ?_, fun p hp => f.lst (.inr rfl) s (f1.rep n.toNat) hp⟩
      rw [l1, sizeLine_eq]
      have : a.length * n.toNat ≤ 1000 * 1000 := Nat.mul_le_mul hl.2.2 (by omega)
      omega
    · cases ho
  · cases ho
theorem VO.mulL (ha : VB G N S bs1 ms1 a fa) (hb : VB G N S bs2 ms2 b fb) (dj : Dj bs1 ms2 := by intro i h; first | rfl | exact absurd h Bool.false_ne_true | (simp [lentM] at h ⊢ <;> omega)) : VO G N S m1 (msU ms1 ms2) (.BinOp a .Mult b pos) (fOp2 oMulL fa fb) := .op (fun _ _ => op_rep) ru_mulL ha hb dj
def oMulT (d e : D) : Option D := match d, e with
  | .tup s, .int n => if 1 ≤ n ∧ n ≤ 1000 ∧ s.length ≤ 1000 ∧ 1 ≤ s.length then some (.tup (List.replicate n.toNat s).flatten) else none
  | _, _ => none
@[simp] theorem oMulL_lst (s : List D) (n : Int) : oMulL (.lst s) (.int n) = if 0 ≤ n ∧ n ≤ 1000 ∧ s.length ≤ 1000 then some (.lst (List.replicate n.toNat s).flatten) else none := rfl
@[simp] theorem oMulT_tup (s : List D) (n : Int) : oMulT (.tup s) (.int n) = if 1 ≤ n ∧ n ≤ 1000 ∧ s.length ≤ 1000 ∧ 1 ≤ s.length then some (.tup (List.replicate n.toNat s).flatten) else none := rfl
end
end Vm
set_option Elab.async false
set_option linter.all false
set_option maxRecDepth 100000
set_option maxHeartbeats 4000000
namespace Vm
open PySem PySem.Spec PyProof.Rows L2
/-! an exception made and held -/
/-- made, laid as a value -/
def tMkE (C : Addr) (sp : Sp) (ta : TA) : TE := fun σ H Q => ta σ H fun vs H1 => vs.length ≤ 1000 ∧ ∀ a, H1 a = none → sp (.ref a :: (vs ++ [])) (upd H1 a (exo a C none))
  (fun v H2 => v = .non ∧ ∃ (d : Addr) (fs : List (Str × V)), H2 a = some (exo a C (some d)) ∧ H2 d = some (exd d fs) ∧ H1 d = none ∧ (upd (del H2 a) d (.xd fs)) a = none ∧ ∀ oe : Obj, oe.cls = .ref C → oe.dict = some d → (∃ fv : Array Value, oe.data = .fields fv ∧ fv[2]? = some .none) → Q (.ref a) (upd (upd (del H2 a) d (.xd fs)) a (.frz oe (.own a)))) (fun _ _ _ => False)
theorem pe_oexK {X : Cx} {x : Str} {e : Expr} {es : List Expr} {ta : TA} {p pos : Pos} {C fI : Addr} {k : Nat} {fd : FuncData} {ps : List Str} {sp : Sp} (T : OexC X.K C) (iC : PySem.W.findIn X.K (.ref C) "__init__" = some (some (.ref fI))) (tI : PySem.W.typeIn X.K (.ref fI) = some (.type "function"))
    (F1 : FnK X.prog X.w X.K X.mg X.base (L2N.CX X.prog X.w) k fI fd ps sp) (hgd : X.A.guards = some []) (hr : Room (k + 1) X.A) (hb : Binds X.K fd ps []) (hg : Gl X x) (hm : X.mg x = some (.ref C)) (ha : PA X (e :: es) ta)
    (hdb : (x == ("__debug__" : Str)) = false) (he : starEach (e :: es) X.env = (false, eval e X.env) :: starEach es X.env) (hpl : (backTo pos (starEach es X.env)).any (·.1) = false) :
    PE X (.Call (.Name x p) (e :: es) [] pos) (tMkE C sp ta) := by
  refine ⟨fun pins s σ H Q I h => ?_⟩
  obtain ⟨nm, q, N, bs, bm, sn, sub, ab, col, dd, k0, k1, k2, k3, k5, hC, hbm⟩ := T.cls
  refine wpAny_Call_Name_kw (ld_glob I hg hm ?_ hdb)
  refine PySem.W.callWith_K (h₀ := X.base) I.ok.mod.kin T.kC (thn (ha.run pos pins s σ H _ I h) fun us s1 ⟨vs, H1, I1, r1, hz, q1⟩ => ⟨I1.kIn, ?_⟩) he hpl
  show wpAny _ _ (call (.ref C) us) _ _ _
  obtain ⟨hp, g, dr, tk, os⟩ := s1
  have hsz : hp.objs.size ≤ hp.objs.size + 1 := Nat.le_succ _
  have hn : H1 (hp.objs.size + 1) = none := I1.hok.fresh hsz
  have hq := q1 (hp.objs.size + 1) hn
  rw [List.append_nil] at hq
  have kk : ∀ b o, hp.get? b = some o → ((hp.push (PySem.W.kdv_tup us)).push (PySem.HandSPX.excO C hp.objs.size)).get? b = some o := fun b o e => Heap.get?_push_of_some _ (Heap.get?_push_of_some _ e)
  have hget : ((hp.push (PySem.W.kdv_tup us)).push (PySem.HandSPX.excO C hp.objs.size)).get? (hp.objs.size + 1) = some (PySem.HandSPX.excO C hp.objs.size) := by heap_get
  have I2 : Inv X pins σ (upd H1 (hp.objs.size + 1) (exo (hp.objs.size + 1) C none)) ⟨(hp.push (PySem.W.kdv_tup us)).push (PySem.HandSPX.excO C hp.objs.size), g, dr, tk, os⟩ :=
    I1.laid (t' := tk) (a := hp.objs.size + 1) (o := exo (hp.objs.size + 1) C none) (h' := (hp.push (PySem.W.kdv_tup us)).push (PySem.HandSPX.excO C hp.objs.size)) kk hsz (exo_ok hget)
  have r2 : Vals (V.ref (hp.objs.size + 1) :: vs) (Value.ref (hp.objs.size + 1) :: us) := .cons rfl r1
  have hl : (Value.ref (hp.objs.size + 1) :: us ++ []).length = ps.length := by
    have e := r2.length
    rw [F1.len _ _ _ _ hq] at e
    rw [List.append_nil]
    exact e.symm
  have hus : us.length ≤ sizeLine := by
    rw [← Paired.length r1, sizeLine_eq]
    omega
  have b2 := hb _ (Value.ref (hp.objs.size + 1) :: us) I2.kIn hl
  rw [List.append_nil] at b2
  refine wpAny_call (PySem.HandSPX.call_own F.excBase_ValueError (fun Y => PySem.HandSPX.refsVE_contains Y bm hbm) (I1.kIn _ _ hC) (PySem.W.looks_findIn I1.kIn iC) (fun self => PySem.W.bind_fn I1.kIn self tI) hus
    (codeAny_mono (F1.run _ X.stack _ _ ⟨Value.ref (hp.objs.size + 1) :: us, []⟩ (Value.ref (hp.objs.size + 1) :: us) _ _ (fun _ _ _ => False) (guards_make hgd C us []) (hr.make C us []) (I2.env0.make C us []) b2 r2 hq) fun r s' hq' => ?_))
  cases r with
  | error er =>
    obtain ⟨_, _, _, _, _, _, _, _, _, _, _, _, z⟩ := hq'
    exact z.elim
  | ok fl =>
    cases fl with
    | ret u =>
      obtain ⟨v, H2, os2, bare2, un2, hok2, rv, ev, d, fs, ea, ed, hd1, hna, q2⟩ := hq'
      subst ev
      obtain ⟨h2, g2, d2, t2, os'⟩ := s'
      obtain ⟨t0, G, J, kG, ge, hoe, na⟩ := mk_end0 (d2 := d2) (t2 := t2) I1 hsz kk un2 hok2 os2 bare2 ea ed hd1
      exact ⟨rv, .ref (hp.objs.size + 1), _, J.laidN (t' := t2) (o := .frz _ (.own (hp.objs.size + 1))) kG ge na ⟨hoe, ⟨_, hoe⟩⟩, rfl, q2 _ rfl rfl ⟨_, rfl, rfl⟩⟩
    | next => exact False.elim hq'
    | brk => exact False.elim hq'
    | cont => exact False.elim hq'
section
variable {K : PySem.W.Frag} {mg : MG} {H H0 : Hp} {c : Co} {σ : L2.St} {ρ : En} {a : Addr} {oe : Obj}
theorem Lies.withExc (l : Lies K mg H0 H c σ ρ) {n : Str} {ns : List Str} {vs : List D} {cls : Value} {dx : Option Addr} (ex : ExcAt K mg H0 n ns vs cls dx) (na : H a = none) (h1 : oe.cls = cls) (h2 : oe.dict = dx) {fv : Array Value} (h3 : oe.data = .fields fv) (h4 : fv[2]? = some .none) :
    Step ms0 H0 H c (upd H0 a (.frz oe (.own a))) (upd H a (.frz oe (.own a))) c ∧ Lies K mg (upd H0 a (.frz oe (.own a))) (upd H a (.frz oe (.own a))) c σ ρ ∧ Fz K mg (upd H0 a (.frz oe (.own a))) (.exn n ns vs) (.ref a) := by
  have n0 : H0 a = none := l.sub.free na
  have gr : Same H0 (upd H0 a (.frz oe (.own a))) := same_upd0 n0
  have ca : c a = none := l.nc na
  obtain ⟨C, hC, hcl, hd⟩ := ex
  have fz : Fz K mg (upd H0 a (.frz oe (.own a))) (.exn n ns vs) (.ref a) := by
    rcases hd with ⟨e1, e2, e3⟩ | ⟨p, fs, e1, e2, e3, e4⟩
    · subst e1 e2
      exact ⟨a, [], rfl, ⟨C, oe, hC, upd_same, h1.trans hcl, ⟨fv, h3, h4⟩, .inl ⟨rfl, rfl, h2.trans e3⟩⟩, rfl⟩
    · exact ⟨a, fs.map (·.2), rfl, ⟨C, oe, hC, upd_same, h1.trans hcl, ⟨fv, h3, h4⟩, .inr ⟨p, fs, h2.trans e1, gr _ _ e2, e3, rfl⟩⟩, Fzs.mono gr vs _ e4⟩
  have hne : ∀ b i, c b = some i → b ≠ a := fun b i e z => by rw [z, ca] at e; cases e
  refine ⟨⟨fun b o e _ => by rw [upd_ne fun z => by rw [z, na] at e; cases e]; exact e, fun b o e _ => rfl, gr, fun b o e => ?_, fun b j e => .inl e⟩, ⟨same_upd2 l.sub, fun b e => (l.hot b e).mono gr, fun b j e => ?_, fun b j e => ?_, l.len, fun j m d e => ?_⟩, fz⟩
  · by_cases z : b = a
    · rw [z]; exact .inr (.inl na)
    · rw [upd_ne z] at e; exact .inl ⟨o, e⟩
  · rw [upd_ne (hne b j e)]; exact l.apart b j e
  · rw [upd_ne (hne b j e)]; exact l.there b j e
  · obtain ⟨v, fp, e1, ow, nd, hc⟩ := l.slot j m d e
    exact ⟨v, fp, e1, Ow.mono gr d m v fp (fun b hb => upd_ne (hne b j (hc b hb))) ow, nd, hc⟩
end
def fMkF (x : Str) (n : Nat) (ns : List Str) (fs : List (M D)) (ls : List (Option Nat)) (fa : M (List D)) : M D := fun r => (fa r).bind fun ds r => match gFs fs (none :: mkArgs ls ds r ++ List.replicate n none) with
  | .ok es _ => .ok (.exn x ns.reverse es.reverse) r
  | _ => .bad
section
variable {G : GC} {N : List Str} {S : SC}
end
end Vm
set_option Elab.async false
set_option linter.all false
set_option maxRecDepth 100000
set_option maxHeartbeats 4000000
namespace Vm
open PySem PySem.Spec PyProof.Rows L2
/-! a child taken out of a slot's tree, to be owned elsewhere -/
/-- what can be taken out: a node that is owned -/
def nodeO : Md → D → Bool
  | .o _, .lst _ => true
  | .o _, .tup _ => true
  | .o _, .dct _ _ => true
  | _, _ => false
def kmS (m' : Md) (n : Nat) : Sl → Option (D × Md × D)
  | some (m, d) => match kidMd m n, (kidsD d)[n]? with
    | some mk, some d' => if mdEq m' mk = true ∧ nodeO mk d' = true then some (d', m, setKid d n .unk) else none
    | _, _ => none
  | none => none
def eKMv (i : Nat) (m' : Md) (pl : M Nat) : M D := fun r => (pl r).bind fun n r => (rM (kmS m' n (getS r i)) r).bind fun p r => .ok p.1 (r.set i (some (p.2.1, p.2.2)))
section
variable {K : PySem.W.Frag} {mg : MG} {ms : Ms} {H0 H H0' H' : Hp} {c c' : Co} {σ : L2.St} {ρ : En} {d d' : D} {m m' : Md} {v v0 : V} {i n : Nat} {fp g : List Addr}
end
section
variable {G : GC} {N : List Str} {S : SC} {ms ms1 ms2 : Ms} {m' rm : Md} {e a b : Expr} {f fa fb : M D} {pl : M Nat} {pos p : Pos} {i : Nat} {x : Str}
end
/-! ### x[k] = v, v owned, a new key -/
def Kd.app : Nat → Md → Kd
  | 0, m' => .one m' (.all .z)
  | n + 1, m' => .one .z (Kd.app n m')
section
variable {K : PySem.W.Frag} {mg : MG} {H0 H : Hp} {m' : Md} {d : D} {v : V} {g : List Addr}
theorem Ows.app : ∀ {ds : List D} {vs : List V}, Fzs K mg H0 ds vs → Ow K mg H0 H d m' v g → Ows K mg H0 H (ds ++ [d]) (Kd.app ds.length m') (vs ++ [v]) g
  | [], vs, h, o => by
    rw [show vs = [] from h]
    exact ⟨v, [], g, [], rfl, by simp, o, Ows.all_z.mpr ⟨rfl, rfl⟩⟩
  | x :: ds, _, ⟨w, r, e, h, t⟩, o => by
    subst e
    exact ⟨w, r ++ [v], [], g, rfl, rfl, Ow.zero.mpr ⟨rfl, h⟩, Ows.app t o⟩
end
section
variable {G : GC} {N : List Str} {S : SC} {ms1 : Ms} {m' rm : Md} {a : Expr} {fa : M D} {p : Pos} {i j : Nat} {x y : Str}
end
end Vm
set_option Elab.async false
set_option linter.all false
set_option maxRecDepth 100000
set_option maxHeartbeats 4000000
namespace Vm
open PySem PySem.Spec PyProof.Rows L2
/-! a frozen child of an owned node, as a value -/
def kzS (n : Nat) : Sl → Option D
  | some (m, d) => match kidMd m n, (kidsD d)[n]? with
    | some .z, some d' => some d'
    | _, _ => none
  | none => none
def eKZ (i : Nat) (pl : M Nat) : M D := fun r => (pl r).bind fun n r => rM (kzS n (getS r i)) r
section
variable {G : GC} {N : List Str} {S : SC} {ms : Ms} {e : Expr} {pl : M Nat} {i : Nat}
end
@[simp] theorem eKZ_ap (pl : M Nat) (s0 : Sl) (r : En) : eKZ i pl (s0 :: r) = (pl (s0 :: r)).bind fun n r => rM (kzS n (getS r i)) r := rfl
@[simp] theorem eKMv_ap (m' : Md) (pl : M Nat) (s0 : Sl) (r : En) : eKMv i m' pl (s0 :: r) = (pl (s0 :: r)).bind fun n r => (rM (kmS m' n (getS r i)) r).bind fun p r => .ok p.1 (r.set i (some (p.2.1, p.2.2))) := rfl
end Vm
set_option Elab.async false
set_option linter.all false
set_option maxRecDepth 100000
set_option maxHeartbeats 4000000
/-! a list deep within a slot's tree, named by whole numbers, is changed -/
namespace Vm
open PySem PySem.Spec PyProof.Rows L2 TL
/-- the child k of a node of one's own -/
def stepP (k : Int) : Md × D → Option (Nat × Md × D)
  | (.o kd, .lst ds) => (ixN ds.length k).bind fun n => (ds[n]?).map fun d => (n, kd.nth n, d)
  | (.o kd, .tup ds) => (ixN ds.length k).bind fun n => (ds[n]?).map fun d => (n, kd.nth n, d)
  | _ => none
def walkP : List Int → Md × D → Option (Md × D)
  | [], p => some p
  | k :: ks, p => (stepP k p).bind fun q => walkP ks q.2
def putP : List Int → Md × D → D → Option D
  | [], _, d => some d
  | k :: ks, p, d => (stepP k p).bind fun q => (putP ks q.2 d).map fun d' => setKid p.2 q.1 d'
def Hop1 (H : Hp) (v : V) (k : Int) (w : V) : Prop := ∃ a vs, v = .ref a ∧ (H a = some (.lst vs) ∨ H a = some (.tup vs)) ∧ L2.atI vs k = some w
def Hops (H : Hp) : V → List Int → V → Prop
  | v, [], w => v = w
  | v, k :: ks, w => ∃ u, Hop1 H v k u ∧ Hops H u ks w
theorem Hop1.mono {H H' : Hp} {v w : V} {k : Int} (s : Same H H') (h : Hop1 H v k w) : Hop1 H' v k w := by
  obtain ⟨a, vs, e, h, q⟩ := h
  exact ⟨a, vs, e, h.imp (s _ _) (s _ _), q⟩
theorem Hops.mono {H H' : Hp} (s : Same H H') : ∀ {ks : List Int} {v w : V}, Hops H v ks w → Hops H' v ks w
  | [], _, _, h => h
  | _ :: _, _, _, ⟨u, h, t⟩ => ⟨u, h.mono s, Hops.mono s t⟩
theorem Hop1.one {H : Hp} {v w w' : V} {k : Int} (h : Hop1 H v k w) (h' : Hop1 H v k w') : w = w' := by
  obtain ⟨a, vs, e, h, q⟩ := h
  obtain ⟨a', vs', e', h', q'⟩ := h'
  rw [e] at e'
  cases e'
  have ev : vs = vs' := by
    rcases h with h | h <;> rcases h' with h' | h' <;> rw [h] at h' <;> cases h' <;> rfl
  rw [ev, q'] at q
  exact (Option.some.inj q).symm
theorem Hops.one {H : Hp} : ∀ {ks : List Int} {v w w' : V}, Hops H v ks w → Hops H v ks w' → w = w'
  | [], _, _, _, h, h' => h.symm.trans h'
  | _ :: _, _, _, _, ⟨u, h, t⟩, ⟨u', h', t'⟩ => by
    have := h.one h'
    subst this
    exact Hops.one t t'
theorem Hops.snoc {H : Hp} {k : Int} {w : V} : ∀ {ks : List Int} {v : V}, Hops H v (ks ++ [k]) w → ∃ u, Hops H v ks u ∧ Hop1 H u k w
  | [], v, ⟨u, h, t⟩ => by
    have t : u = w := t
    subst t
    exact ⟨v, rfl, h⟩
  | _ :: _, v, ⟨u, h, t⟩ => by
    obtain ⟨u', h', t'⟩ := Hops.snoc t
    exact ⟨u', ⟨u, h, h'⟩, t'⟩
section
variable {K : PySem.W.Frag} {mg : MG} {H0 H : Hp} {d d' : D} {m m' : Md} {v0 : V} {fp : List Addr} {k : Int} {n : Nat}
theorem ix_at {ds : List D} {vs : List V} (hl : vs.length = ds.length) (hn : ixN ds.length k = some n) {v : V} (hv : vs[n]? = some v) : L2.atI vs k = some v := by
  show (ixN vs.length k).bind (fun j => vs[j]?) = _
  rw [hl, hn]; exact hv
theorem Ow.stepP (h : Ow K mg H0 H d m v0 fp) (hs : stepP k (m, d) = some (n, m', d')) : ∃ v f1 g f2, Hop1 H v0 k v ∧ fp = f1 ++ (g ++ f2) ∧ Ow K mg H0 H d' m' v g ∧
    ∀ (H' : Hp) (d'' : D) (g' : List Addr), (∀ a ∈ f1, H' a = H a) → (∀ a ∈ f2, H' a = H a) → Ow K mg H0 H' d'' m' v g' → Ow K mg H0 H' (setKid d n d'') m v0 (f1 ++ (g' ++ f2)) := by
  cases m with
  | z => cases hs
  | t => cases hs
  | f kd => cases hs
  | o kd =>
    cases d <;> first | (cases hs; done) | skip
    case lst ds =>
      obtain ⟨n1, hn, hs⟩ := Option.bind_eq_some_iff.mp (show ((ixN ds.length k).bind fun n => (ds[n]?).map fun d => (n, kd.nth n, d)) = some (n, m', d') from hs)
      obtain ⟨d1, hd, hs⟩ := Option.map_eq_some_iff.mp hs
      cases hs
      obtain ⟨a, vs, g, e, hH, ef, r⟩ := h
      subst ef
      obtain ⟨v, f1, g1, f2, q1, q2, q3, q4⟩ := Ows.kid r hd
      refine ⟨v, a :: f1, g1, f2, ⟨a, vs, e, .inl hH, ix_at (Ows.len r) hn q1⟩, by rw [q2]; rfl, q3, fun H' d'' g' k1 k2 o => ?_⟩
      exact ⟨a, vs, f1 ++ (g' ++ f2), e, by rw [k1 a List.mem_cons_self]; exact hH, rfl, q4 H0 H' d'' g' (Same.refl _) (fun b hb => k1 b (List.mem_cons_of_mem _ hb)) k2 o⟩
    case tup ds =>
      obtain ⟨n1, hn, hs⟩ := Option.bind_eq_some_iff.mp (show ((ixN ds.length k).bind fun n => (ds[n]?).map fun d => (n, kd.nth n, d)) = some (n, m', d') from hs)
      obtain ⟨d1, hd, hs⟩ := Option.map_eq_some_iff.mp hs
      cases hs
      obtain ⟨a, vs, g, e, hH, ef, r⟩ := h
      subst ef
      obtain ⟨v, f1, g1, f2, q1, q2, q3, q4⟩ := Ows.kid r hd
      refine ⟨v, a :: f1, g1, f2, ⟨a, vs, e, .inr hH, ix_at (Ows.len r) hn q1⟩, by rw [q2]; rfl, q3, fun H' d'' g' k1 k2 o => ?_⟩
      exact ⟨a, vs, f1 ++ (g' ++ f2), e, by rw [k1 a List.mem_cons_self]; exact hH, rfl, q4 H0 H' d'' g' (Same.refl _) (fun b hb => k1 b (List.mem_cons_of_mem _ hb)) k2 o⟩
end
/-- the slot with the list at its end changed -/
def endP (g : Md → List D → Option (List D)) : Md × D → Option D
  | (.o (.all me), .lst ds) => (g me ds).map .lst
  | _ => none
def modP (ks : List Int) (g : Md → List D → Option (List D)) : Sl → Option Sl
  | some p => (walkP ks p).bind fun q => (endP g q).bind fun d => (putP ks p d).map fun dn => some (p.1, dn)
  | none => none
def lsP (ks : List Int) : Sl → Bool
  | some p => match walkP ks p with
    | some (.o _, .lst _) => true
    | _ => false
  | none => false
def gMtP (i : Nat) (ks : List Int) (g : D → Md → List D → Option (List D)) (f : M D) : M Fl := fun r => if lsP ks (getS r i) = true then (f r).bind fun d r => (rM (modP ks (g d) (getS r i)) r).bind fun s r => .ok .nx (r.set i s) else .bad
def gMtP0 (i : Nat) (ks : List Int) (g : Md → List D → Option (List D)) : M Fl := fun r => if lsP ks (getS r i) = true then (rM (modP ks g (getS r i)) r).bind fun s r => .ok .nx (r.set i s) else .bad
/-- e tells the node at the path ks of slot i -/
abbrev VPp (G : GC) (N : List Str) (S : SC) (i : Nat) (ks : List Int) (e : Expr) : Prop := ∀ R, At G.mg.hx S N (mkX G N R) → PE (mkX G N R) e fun σ H Q => ∃ v0, σ[i]? = some (some v0) ∧ ∃ v, Hops H v0 ks v ∧ Q v H
section
variable {G : GC} {N : List Str} {S : SC} {ms ms2 : Ms} {rm : Md} {e a b : Expr} {f fa fb : M D} {ks : List Int} {pos p apos spos : Pos} {i : Nat} {x nm : Str}
theorem VPp.var (hN : N[i]? = some x := by rfl) (hv : Vis S.sc x := by first | exact Or.inl rfl | exact Or.inr (Or.inl rfl) | exact Or.inr (Or.inr rfl)) (hd : (x == ("__debug__" : Str)) = false := by decide) (hcd : (x == ("__classdict__" : Str)) = false := by decide) :
    VPp G N S i [] (.Name x p) := fun R a => (pe_var (X := mkX G N R) (pos := p) (i := i) hN (a.vis hv) hd hcd).imp fun σ H Q ⟨v0, e, v, ev, q⟩ => ⟨v0, e, by
      have ev : v0 = v := ev
      rw [ev]; exact q⟩
theorem VPp.ix {k : Int} {kp : Pos} {kj} (h : VPp G N S i ks b) (hp : PlainIx (.Constant (.int k) kj kp) := by exact fun _ _ => rfl) (hc : ∀ X : Cx, PE X (.Constant (.int k) kj kp) (tC (.int k)) := by exact fun _ => pe_int) : VPp G N S i (ks ++ [k]) (.Subscript b (.Constant (.int k) kj kp) pos) := by
  refine fun R s => (pe_ix ix_seq (h R s) (hc _) hp).imp fun σ H Q ⟨v0, e, v, hops, q⟩ => ?_
  obtain ⟨u, hu, a, vs, eu, hH, hat⟩ := hops.snoc
  subst eu
  refine ⟨v0, e, .ref a, hu, ?_⟩
  rcases hH with hH | hH
  · exact .inl ⟨a, vs, k, v, rfl, rfl, .of hH, hat, q⟩
  · exact .inr (.inl ⟨a, vs, k, v, rfl, rfl, .inl (.inl hH), hat, q⟩)
@[simp] theorem gMtP_ap {g : D → Md → List D → Option (List D)} (s0 : Sl) (r : En) : gMtP i ks g f (s0 :: r) = if lsP ks (getS (s0 :: r) i) = true then (f (s0 :: r)).bind fun d r => (rM (modP ks (g d) (getS r i)) r).bind fun s r => .ok .nx (r.set i s) else .bad := rfl
@[simp] theorem gMtP0_ap {g : Md → List D → Option (List D)} (s0 : Sl) (r : En) : gMtP0 i ks g (s0 :: r) = if lsP ks (getS (s0 :: r) i) = true then (rM (modP ks g (getS (s0 :: r) i)) (s0 :: r)).bind fun s r => .ok .nx (r.set i s) else .bad := rfl
end
end Vm
set_option Elab.async false
set_option linter.all false
set_option maxRecDepth 100000
set_option maxHeartbeats 4000000
/-! a bracket around a tree of lists: what is made of tuples stays known -/
namespace Vm
open PySem PySem.Spec PyProof.Rows L2
section
variable {K : PySem.W.Frag} {mg : MG} {H0 H H0' H' H0'' H'' : Hp} {c c' : Co} {σ σ' : L2.St} {ρ ρ' : En} {d : D} {m : Md} {v : V} {i : Nat} {fp : List Addr} {k : Kd} {as : Ms}
end
section
variable {G : GC} {N : List Str} {S : SC} {as : Ms} {rm : Md} {st : Stmt} {g : M Fl}
end
end Vm
namespace Vm
open PySem PySem.Spec PyProof.Rows L2
section
variable {G : GC} {N : List Str} {S : SC} {as1 : Ms} {rm : Md} {st : Stmt} {g : M Fl}
end
/-! how it runs -/
section
variable {as : Ms} {g : M Fl} {i : Nat}
end
end Vm
set_option Elab.async false
set_option linter.all false
set_option maxRecDepth 100000
set_option maxHeartbeats 4000000
namespace Vm
open PySem PySem.Spec PyProof.Rows L2
/-! an exception made of what is lent -/
section
variable {G : GC} {a C dx : Addr} {H1 H01 H0 H : Hp} {c1 c2 c : Co} {σ σ' : L2.St} {r ρ' : En} {gs : List (Str × V)} {es : List D}
/-- what is new has no colour -/
def coOld (H1 : Hp) (c1 : Co) : Co := fun b => if (H1 b).isSome = true then c1 b else none
theorem coOld_in {b : Addr} {o : HO} (h : H1 b = some o) : coOld H1 c1 b = c1 b := by unfold coOld; rw [h]; rfl
theorem coOld_some {b : Addr} {j : Nat} (h : coOld H1 c1 b = some j) : (∃ o, H1 b = some o) ∧ c1 b = some j := by
  unfold coOld at h
  cases e : H1 b with
  | none => rw [e] at h; simp at h
  | some o => rw [e] at h; exact ⟨⟨o, rfl⟩, by simpa using h⟩
theorem exc_endL (l : Lies G.K G.mg H01 H1 c1 σ r) (B : InB G H1 c2 H01 a C σ' (some dx) gs es ρ' H0 H c) :
    Step ms0 H01 H1 c1 (upd H0 dx (.xd gs)) (upd (del H a) dx (.xd gs)) (coOld H1 c1) ∧ Lies G.K G.mg (upd H0 dx (.xd gs)) (upd (del H a) dx (.xd gs)) (coOld H1 c1) σ r := by
  obtain ⟨hd1, cd, d0, hne⟩ := B.dc dx rfl
  have nx : ∀ {b : Addr} {o : HO}, H1 b = some o → b ≠ dx ∧ b ≠ a := fun {b o} q => ⟨ne_of_none q hd1, ne_of_none q B.a1⟩
  have kp : ∀ {b : Addr} {o : HO}, H1 b = some o → (upd (del H a) dx (.xd gs)) b = some o := fun {b o} q => by
    rw [upd_ne (nx q).1, del_ne (nx q).2]; exact B.st.keep b o q fun _ _ => rfl
  have gr : Same H01 (upd H0 dx (.xd gs)) := fun b o q => by
    rw [upd_ne (nx (l.sub b o q)).1]; exact B.st.grow b o q
  have n0 : ∀ {b : Addr} {o : HO}, H1 b = some o → H01 b = none → H0 b = none := fun {b o} q z => by
    cases e : H0 b with
    | none => rfl
    | some u =>
      rcases B.st.new0 b u e with ⟨w, y⟩ | y | ⟨j, _, y⟩
      · rw [z] at y; cases y
      · rw [q] at y; cases y
      · cases y
  refine ⟨⟨fun b o q _ => kp q, fun b o q _ => coOld_in q, gr, fun b o q => ?_, fun b j q => .inl (coOld_some q).2⟩, ⟨fun b o q => ?_, fun b q => (l.hot b q).mono gr, fun b i q => ?_, fun b i q => ?_, l.len, fun i m d q => ?_⟩⟩
  · by_cases z : b = dx
    · rw [z]; exact .inr (.inl hd1)
    · rw [upd_ne z] at q
      rcases B.st.new0 b o q with y | y | ⟨j, _, y⟩
      · exact .inl y
      · exact .inr (.inl y)
      · cases y
  · by_cases z : b = dx
    · subst z
      rw [upd_same] at q ⊢
      exact q
    · rw [upd_ne z] at q ⊢
      rw [del_ne fun w => by rw [w, B.a0] at q; cases q]
      exact B.lies.sub b o q
  · obtain ⟨⟨o, ho⟩, q1⟩ := coOld_some q
    rw [upd_ne (nx ho).1]
    exact n0 ho (l.apart b i q1)
  · obtain ⟨⟨o, ho⟩, q1⟩ := coOld_some q
    exact ⟨o, kp ho⟩
  · obtain ⟨v, fp, e1, ow, nd, hc⟩ := l.slot i m d q
    refine ⟨v, fp, e1, Ow.mono gr d m v fp (fun b hb => ?_) ow, nd, fun b hb => ?_⟩
    · obtain ⟨o, e⟩ := l.there b i (hc b hb)
      rw [kp e, e]
    · obtain ⟨o, e⟩ := l.there b i (hc b hb)
      rw [coOld_in e]; exact hc b hb
end
section
variable {G : GC} {N : List Str} {S : SC}
theorem VO.mkFL {x : Str} {k : Nat} {ps : List Str} {n : Nat} {ns : List Str} {fs : List (M D)} {ls : List (Option Nat)} {ms : Ms} {e : Expr} {es : List Expr} {fa : M (List D)} {p pos : Pos} (F : RsF G x k ps n ns fs) (ha : VM G N S ls ms (e :: es) fa)
    (hk : k + 1 ≤ S.k := by decide) (hc : S.cm = true := by rfl) (nd : (ls.filterMap id).Nodup := by decide) (hl : ls.length + 1 = ps.length := by rfl) (hlen : ls.length ≤ 1000 := by decide) (hg : Glb S x := by rfl) (hdb : (x == ("__debug__" : Str)) = false := by decide)
    (he : ∀ env, starEach (e :: es) env = (false, eval e env) :: starEach es env := by intro _; rfl) (hpl : ∀ env, (backTo pos (starEach es env)).any (·.1) = false := by intro _; rfl) :
    VO G N S .z ms (.Call (.Name x p) (e :: es) [] pos) (fMkF x n ns fs ls fa) := by
  obtain ⟨B, fd, hm, X, hb, F1⟩ := F.ex
  refine fun R at_ W t => (pe_oexK (X := mkX G N R) X.T X.iC X.tI F1 at_.gd ((at_.room hc).mono hk) hb (at_.gl hg) hm (ha R at_ W t) hdb (he _) (hpl _)).imp fun σ H Q ⟨ρ, H0, c, l, o⟩ => ?_
  refine ⟨ρ, H0, c, l, ?_⟩
  unfold fMkF at o
  cases hfa : fa ρ with
  | exc nm ms' vs r =>
    rw [hfa] at o
    exact fun cls dx H0' H' c' s l' ex => o cls dx H0' H' c' s l' ex
  | bad => rw [hfa] at o; exact o
  | ok ds r =>
    rw [hfa, bind_ok] at o
    cases hgf : gFs fs (none :: mkArgs ls ds r ++ List.replicate n none) with
    | exc nm ms' vs r2 => simp only [hgf] at o; exact o.elim
    | bad => simp only [hgf] at o; exact o.elim
    | ok ys r2 =>
      simp only [hgf] at o
      intro vs H0' H1 c1 s l' am
      obtain ⟨hml, hvl⟩ := mkArgs_len (r := r) am
      refine ⟨by rw [hvl]; exact hlen, fun a ha => ?_⟩
      rw [List.append_nil]
      have am' : AMr G.K G.mg H0' σ (none :: ls) (.unk :: ds) (.ref a :: vs) := ⟨.unk, ds, .ref a, vs, rfl, rfl, ⟨a, rfl⟩, am⟩
      have nd' : ((none :: ls).filterMap id).Nodup := by simpa using nd
      have le := l'.enter nd' am'
      refine ⟨by rw [List.length_cons, hvl]; exact hl, a, He.ga G.K x, vs, H1, H0', coIn (none :: ls) c1, none :: mkArgs ls ds r, r2, ys, rfl, rfl, ha, X.T, X.no, ?_, hgf, fun σ' dx gs H0'' H'' c'' B' en => ?_⟩
      · refine ⟨le.sub, le.hot, le.apart, le.there, by simp [hml, hvl], fun i m d q => ?_⟩
        cases i with
        | zero => cases q
        | succ i => exact le.slot (i + 1) m d (by simpa [getS, mkArgs] using q)
      · obtain ⟨hd1, cd, d0, hne⟩ := B'.dc dx rfl
        obtain ⟨ea, ed⟩ := B'.ex
        obtain ⟨st, li⟩ := exc_endL l' B'
        have na : (upd (del H'' a) dx (.xd gs)) a = none := by
          rw [upd_ne hne.symm]
          exact del_same
        refine ⟨rfl, dx, gs, ea, ed, hd1, na, fun oe h1 h2 ⟨fv, h3, h4⟩ => ?_⟩
        have ex : ExcAt G.K G.mg (upd H0'' dx (.xd gs)) x ns.reverse ys.reverse (.ref (He.ga G.K x)) (some dx) := ⟨_, hm, rfl, .inr ⟨dx, gs, rfl, upd_same, en, Fzs.mono (same_upd0 d0) _ _ B'.fz⟩⟩
        obtain ⟨st2, li2, fz⟩ := li.withExc (a := a) (oe := oe) ex na h1 h2 h3 h4
        exact o (.ref a) _ _ _ (s.trans ((st.trans st2).mono fun _ h => by cases h)) li2 (ow_zero_fo fz)
end
end Vm
set_option Elab.async false
set_option linter.all false
set_option maxRecDepth 100000
set_option maxHeartbeats 4000000
namespace Vm
open PySem PySem.Spec PyProof.Rows L2 HotX
/-! range, while an exception is handled -/
theorem turnx_range {P : Program} {w : World} {K : PySem.W.Frag} {tg : Expr} (it : Addr) (lo : Int) (n : Nat) : TurnX P w K tg (Itr lo n) [it] it (fun i h => IsRangeIter h it (lo + (i : Nat) * 1) ((n : Int) - (i : Nat)) 1) where
  mem := (turn_range (P := P) (w := w) (K := K) (tg := tg) it lo n).mem
  obj := (turn_range (P := P) (w := w) (K := K) (tg := tg) it lo n).obj
  keep := (turn_range (P := P) (w := w) (K := K) (tg := tg) it lo n).keep
  item := by
    intro X hP hw hK i pins s σ H E _ I hf st hg
    subst hP hw hK
    obtain ⟨f0, f1, f2, f3, f4, f5⟩ := hf it (by simp)
    have hlt : i < n := hg
    refine wpAny_pyNext_range_item st (by omega) fun h' st' sb => ?_
    have st2 : IsRangeIter h' it (lo + ((i + 1 : Nat) : Int) * 1) ((n : Int) - ((i + 1 : Nat) : Int)) 1 := by
      have e1 : lo + ((i : Nat) : Int) * 1 + 1 = lo + ((i + 1 : Nat) : Int) * 1 := by omega
      have e2 : (n : Int) - ((i : Nat) : Int) - 1 = (n : Int) - ((i + 1 : Nat) : Int) := by omega
      rw [← e1, ← e2]
      exact st'
    have I1 : Inv X pins σ H { s with heap := h', toks := s.toks + 1 } := I.turned (fun b o hb e => (sb.2 b hb).trans e) f0 f1 f3 f4 f5
    refine ⟨_, rfl, go_of (s := { s with heap := h', toks := s.toks + 1 }) (n := "range_iterator") st2 rfl rfl (by decide) ⟨.int (lo + i), H, I1, ⟨s.toks, ?_⟩, ⟨rfl, rfl⟩, st2, fun b hb => (hf b hb).1⟩⟩
    rw [Int.mul_one]
  done := by
    intro X hP hw hK i pins s σ H E hot I hf st hg
    subst hP hw hK
    obtain ⟨f0, f1, f2, f3, f4, f5⟩ := hf it (by simp)
    obtain ⟨x1, n1, ha⟩ := hot.at_ I
    exact pyNext_range_end_hot ha st (by have : n ≤ i := hg; omega) fun h' eb => ⟨rfl, I.turned (t' := s.toks) (fun b o _ e => eb b o e) f0 f1 f3 f4 f5⟩
  self := (turn_range (P := P) (w := w) (K := K) (tg := tg) it lo n).self
section
variable {X : Cx} {tg : Expr}
theorem range_itX {pins : List (Addr × Obj)} {σ : L2.St} {H : Hp} {s : Shared} {R : It → Hp → Prop} {E : Value → Shared → Prop} {lo hi : Int} {t u v : Tok} {tk : Nat} (I : Inv X pins σ H s) (h1 : -(2 ^ 62) ≤ lo) (h2 : lo < 2 ^ 62) (h3 : -(2 ^ 62) ≤ hi) (h4 : hi < 2 ^ 62)
    (q : R (Itr lo (hi - lo).toNat) H) : wpAny (model X.prog X.w) X.A (pyIter (.ref s.heap.objs.size)) (fun itv s2 => PIEX X pins σ tg R itv s2) E { s with heap := s.heap.push { cls := .type "range", data := .fields #[.int lo t, .int hi u, .int 1 v] }, toks := tk } := by
  refine wpAny_pyIter_range (IsRange.new ..) (small_one h1 h2 h3 h4) ?_
  have I1 : Inv X pins σ H { s with heap := s.heap.push { cls := .type "range", data := .fields #[.int lo t, .int hi u, .int 1 v] }, toks := tk } := I.kept fun b o e => Heap.get?_push_of_some _ e
  refine ⟨(s.heap.push { cls := .type "range", data := .fields #[.int lo t, .int hi u, .int 1 v] }).objs.size, [(s.heap.push { cls := .type "range", data := .fields #[.int lo t, .int hi u, .int 1 v] }).objs.size], _, _, H, rfl,
    I1.kept (t' := tk) fun b o e => Heap.get?_push_of_some _ e, turnx_range _ lo (hi - lo).toNat, ?_, fun b hb => ?_, q⟩
  · have e1 : lo + ((0 : Nat) : Int) * 1 = lo := by simp
    have e2 : (((hi - lo).toNat : Nat) : Int) - ((0 : Nat) : Int) = Builtin.Range.rangeSize lo hi 1 := by rw [rangeSize_one]; split <;> omega
    show IsRangeIter _ _ (lo + ((0 : Nat) : Int) * 1) ((((hi - lo).toNat : Nat) : Int) - ((0 : Nat) : Int)) 1
    rw [e1, e2]
    exact Heap.get?_push_size _ rfl
  · have e : b = (s.heap.push { cls := .type "range", data := .fields #[.int lo t, .int hi u, .int 1 v] }).objs.size := by simpa using hb
    subst e
    exact I1.fpOk (Nat.le_refl _) (I1.hok.fresh (Nat.le_refl _))
theorem pi_range1X {a : Expr} {ta : TA} {p pos : Pos} (hg : Gl X "range") (hm : X.mg "range" = none) (ha : PA X [a] ta) (hs : starEach [a] X.env = [(false, eval a X.env)] := by rfl) : PIX X tg (.Call (.Name "range" p) [a] [] pos) (iRng1 ta) := by
  refine ⟨fun pins s σ H R I h => ?_⟩
  refine Call_ (ld_blt I hg hm boot_range (PyProof.Rows.callWith_type1 (thn (ha.run pos pins s σ H _ I h) fun us s1 ⟨vs, H1, I1, r1, q1⟩ => ?_) hs rfl))
  obtain ⟨j, e, q1, q2, q⟩ := q1
  subst e
  cases r1 with
  | cons r rr =>
    cases rr
    obtain ⟨t, rfl⟩ := r
    exact call_range_1 (range_itX I1 (by omega) (by omega) q1 q2 (by simpa using q))
end
section
variable {G : GC} {N : List Str} {S : SC} {bs ms : Ms} {tg e : Expr} {f : M D} {pos : Pos}
theorem VIX.rng {p : Pos} (h : VO G N S .z ms e f) (hm : G.mg "range" = none) (hg : Glb S "range" := by rfl) (hs : ∀ env, starEach [e] env = [(false, eval e env)] := by intro _; rfl) : VIX G N S bs ms tg (.Call (.Name "range" p) [e] [] pos) (iRng f) := by
  refine fun R a W t => PIX.imp (pi_range1X (a.gl hg) hm (pa_cons (h R a W t) pa_nil (hs _)) (hs _)) fun σ H Q ⟨ρ, H0, c, l, o⟩ => ?_
  refine ⟨ρ, H0, c, l, (Out.bind (G := FO G.K G.mg .z ms) (ms1 := ms) back_FI o fun i e => e).imp fun x H1 ⟨d, H01, c1, ρ1, e1, s1, l1, ⟨fp, o1, f1⟩, h1⟩ => ?_⟩
  have z := (Ow.zero.mp o1).2
  cases d with
  | int j =>
    have z : x = .int j := z
    subst z
    have h1' : Out G.K G.mg W (FI G.K G.mg bs) ms H01 H1 c1 σ (if j ≤ 16777216 ∧ -4611686018427387904 ≤ j then .ok (rngD 0 j.toNat) ρ1 else .bad) Q := h1
    by_cases hj : j ≤ 16777216 ∧ -4611686018427387904 ≤ j
    · rw [if_pos hj] at h1'
      exact ⟨j, rfl, by omega, by omega, h1' _ H01 H1 c1 .refl l1 ⟨by rw [rngD_len]; show j.toNat ≤ 16777216; omega, fun _ _ => True, trivial, .tt, .rng⟩⟩
    · rw [if_neg hj] at h1'
      exact h1'.elim
  | _ => exact h1.elim
end
end Vm
set_option Elab.async false
set_option linter.all false
set_option maxRecDepth 100000
set_option maxHeartbeats 4000000
namespace Vm
open PySem PySem.Spec PyProof.Rows L2
def t_abcdefghijklmnopqrstuvwxyz : List Nat := [97, 98, 99, 100, 101, 102, 103, 104, 105, 106, 107, 108, 109, 110, 111, 112, 113, 114, 115, 116, 117, 118, 119, 120, 121, 122]
def t_any : List Nat := [97, 110, 121]
def t_none : List Nat := [110, 111, 110, 101]
def t_blank : List Nat := [98, 108, 97, 110, 107]
def t_new : List Nat := [110, 101, 119]
def t_yak : List Nat := [121, 97, 107]
def t_zebra : List Nat := [122, 101, 98, 114, 97]
def top (i : Nat) : Stmt := PySem.Challenge.pw_fitmost_k17_refusals_by_hand.main.body.getD i (.Pass ⟨0, 0, 0, 0⟩)
def clsB : Stmt → List Stmt
  | .ClassDef _ _ _ b _ _ _ _ _ _ _ => b
  | _ => []
def mtd (i j : Nat) : Stmt := (clsB (top i)).getD j (.Pass ⟨0, 0, 0, 0⟩)
def q_is_name : He.DefD := ⟨("is_name", none), "is_name", "is_name", defArgs (top 19), defBody (top 19), defScope (top 19), [], []⟩
def q_look_at_names : He.DefD := ⟨("look_at_names", none), "look_at_names", "look_at_names", defArgs (top 21), defBody (top 21), defScope (top 21), [], []⟩
def q_in_rings : He.DefD := ⟨("in_rings", none), "in_rings", "in_rings", defArgs (top 22), defBody (top 22), defScope (top 22), [], []⟩
def q_look_for_rings : He.DefD := ⟨("look_for_rings", none), "look_for_rings", "look_for_rings", defArgs (top 23), defBody (top 23), defScope (top 23), [], []⟩
def q_Web___init__ : He.DefD := ⟨("Web", some "__init__"), "__init__", "Web.__init__", defArgs (mtd 24 0), defBody (mtd 24 0), defScope (mtd 24 0), [], []⟩
def q_Web_names : He.DefD := ⟨("Web", some "names"), "names", "Web.names", defArgs (mtd 24 1), defBody (mtd 24 1), defScope (mtd 24 1), [], []⟩
def q_Web_over : He.DefD := ⟨("Web", some "over"), "over", "Web.over", defArgs (mtd 24 2), defBody (mtd 24 2), defScope (mtd 24 2), [], []⟩
def q__law_pick : He.DefD := ⟨("_law_pick", none), "_law_pick", "_law_pick", defArgs (top 26), defBody (top 26), defScope (top 26), [], []⟩
def q__law_word : He.DefD := ⟨("_law_word", none), "_law_word", "_law_word", defArgs (top 27), defBody (top 27), defScope (top 27), [], []⟩
def q__law_classes : He.DefD := ⟨("_law_classes", none), "_law_classes", "_law_classes", defArgs (top 28), defBody (top 28), defScope (top 28), [], []⟩
def q__law_refused : He.DefD := ⟨("_law_refused", none), "_law_refused", "_law_refused", defArgs (top 29), defBody (top 29), defScope (top 29), [], []⟩
def q__law_made : He.DefD := ⟨("_law_made", none), "_law_made", "_law_made", defArgs (top 30), defBody (top 30), defScope (top 30), [], []⟩
def q_law : He.DefD := ⟨("law", none), "law", "law", defArgs (top 31), defBody (top 31), defScope (top 31), [], []⟩
def q_Ring___init__ : He.DefD := ⟨("Ring", some "__init__"), "__init__", "Ring.__init__", defArgs (mtd 6 0), defBody (mtd 6 0), defScope (mtd 6 0), [], []⟩
def q_Alike___init__ : He.DefD := ⟨("Alike", some "__init__"), "__init__", "Alike.__init__", defArgs (mtd 9 0), defBody (mtd 9 0), defScope (mtd 9 0), [], []⟩
def q_NoLine___init__ : He.DefD := ⟨("NoLine", some "__init__"), "__init__", "NoLine.__init__", defArgs (mtd 14 0), defBody (mtd 14 0), defScope (mtd 14 0), [], []⟩
def q_NoTerm___init__ : He.DefD := ⟨("NoTerm", some "__init__"), "__init__", "NoTerm.__init__", defArgs (mtd 12 0), defBody (mtd 12 0), defScope (mtd 12 0), [], []⟩
def fnL : List He.DefD := [q_is_name, q_look_at_names, q_in_rings, q_look_for_rings, q_Web___init__, q_Web_names, q_Web_over, q__law_pick, q__law_word, q__law_classes, q__law_refused, q__law_made, q_law, q_Ring___init__, q_Alike___init__, q_NoLine___init__, q_NoTerm___init__]
def faL : List He.Fa := [.free "isinstance", .free "str", .free "len", .free "all", .glo "is_name", .glo "NoName", .exc "NoName", .free "set", .glo "Taken", .exc "Taken", .glo "NoKind", .exc "NoKind", .glo "look_at_names", .free "list", .free "any", .glo "in_rings", .glo "Ring", .glo "FitError", .glo "look_for_rings", .glo "Web", .cls "Web", .noat "Web" "uppers", .free "sorted", .mkr "Web", .meth "Web" "names", .meth "Web" "over", .glo "_law_pick", .free "range", .glo "_law_word", .glo "NoTerm", .glo "NoLine", .glo "Alike", .glo "NoBody", .glo "NoPlaces", .glo "NoText", .glo "Held", .glo "TooMany", .free "ValueError", .free "int", .glo "_law_classes", .exm "Taken" "FitError" true, .exm "Ring" "FitError" true, .exm "NoTerm" "FitError" true, .exm "NoName" "FitError" true, .exm "NoLine" "FitError" true, .exm "NoKind" "FitError" true, .exm "Alike" "FitError" true, .glo "_law_refused", .free "bool", .glo "_law_made", .glo "law"]
def csL : List (Str × D) := [("LETTERS", (.str t_abcdefghijklmnopqrstuvwxyz)), ("MOST_LETTERS", (.int 8)), ("OTHER_WORDS", (.tup [(.str t_any), (.str t_none), (.str t_blank), (.str t_new), (.str [111, 110])])), ("Ring", .exn "oex" ["FitError", "ring"] []), ("Taken", .exn "exc" [] []), ("Taken", .exn "isa" ["FitError", "NoName", "Taken", "NoKind", "Ring", "NoText", "NoPlaces", "Alike", "NoBody", "TooMany", "NoTerm", "Held", "NoLine"] [.bl true, .bl false, .bl true, .bl false, .bl false, .bl false, .bl false, .bl false, .bl false, .bl false, .bl false, .bl false, .bl false]), ("Ring", .exn "exc" [] []), ("Ring", .exn "isa" ["FitError", "NoName", "Taken", "NoKind", "Ring", "NoText", "NoPlaces", "Alike", "NoBody", "TooMany", "NoTerm", "Held", "NoLine"] [.bl true, .bl false, .bl false, .bl false, .bl true, .bl false, .bl false, .bl false, .bl false, .bl false, .bl false, .bl false, .bl false]), ("NoTerm", .exn "exc" [] []), ("NoTerm", .exn "isa" ["FitError", "NoName", "Taken", "NoKind", "Ring", "NoText", "NoPlaces", "Alike", "NoBody", "TooMany", "NoTerm", "Held", "NoLine"] [.bl true, .bl false, .bl false, .bl false, .bl false, .bl false, .bl false, .bl false, .bl false, .bl false, .bl true, .bl false, .bl false]), ("NoName", .exn "exc" [] []), ("NoName", .exn "isa" ["FitError", "NoName", "Taken", "NoKind", "Ring", "NoText", "NoPlaces", "Alike", "NoBody", "TooMany", "NoTerm", "Held", "NoLine"] [.bl true, .bl true, .bl false, .bl false, .bl false, .bl false, .bl false, .bl false, .bl false, .bl false, .bl false, .bl false, .bl false]), ("NoLine", .exn "exc" [] []), ("NoLine", .exn "isa" ["FitError", "NoName", "Taken", "NoKind", "Ring", "NoText", "NoPlaces", "Alike", "NoBody", "TooMany", "NoTerm", "Held", "NoLine"] [.bl true, .bl false, .bl false, .bl false, .bl false, .bl false, .bl false, .bl false, .bl false, .bl false, .bl false, .bl false, .bl true]), ("NoKind", .exn "exc" [] []), ("NoKind", .exn "isa" ["FitError", "NoName", "Taken", "NoKind", "Ring", "NoText", "NoPlaces", "Alike", "NoBody", "TooMany", "NoTerm", "Held", "NoLine"] [.bl true, .bl false, .bl false, .bl true, .bl false, .bl false, .bl false, .bl false, .bl false, .bl false, .bl false, .bl false, .bl false]), ("Alike", .exn "exc" [] []), ("Alike", .exn "isa" ["FitError", "NoName", "Taken", "NoKind", "Ring", "NoText", "NoPlaces", "Alike", "NoBody", "TooMany", "NoTerm", "Held", "NoLine"] [.bl true, .bl false, .bl false, .bl false, .bl false, .bl false, .bl false, .bl true, .bl false, .bl false, .bl false, .bl false, .bl false]), ("Taken", .exn "ve" [] []), ("Ring", .exn "ve" [] []), ("NoTerm", .exn "ve" [] []), ("NoName", .exn "ve" [] []), ("NoLine", .exn "ve" [] []), ("NoKind", .exn "ve" [] []), ("Alike", .exn "ve" [] []), ("Alike", .exn "oex" ["FitError", "one", "other"] []), ("NoLine", .exn "oex" ["FitError", "line"] []), ("NoTerm", .exn "oex" ["FitError", "function", "body"] [])]
abbrev YeL (G : GC) : Prop := Ye faL fnL csL G
set_option maxHeartbeats 0
abbrev rwO : PySem.W.OpenRow := PySem.W.OpenLaw.row PySem.Challenge.rw_fitmost_k17_refusals_by_hand
def nmL0 : List PySem.Str := ["_wall", "FitError", "NoName", "Taken", "NoKind", "Ring", "NoText", "NoPlaces", "Alike", "NoBody", "TooMany", "NoTerm"]
def nmL1 : List PySem.Str := ["Held", "NoLine", "LETTERS", "MOST_LETTERS", "OTHER_WORDS", "is_name", "look_at_names", "in_rings", "look_for_rings", "Web", "_law_pick", "_law_word"]
def nmL2 : List PySem.Str := ["_law_classes", "_law_refused", "_law_made"]
abbrev nmL : List PySem.Str := nmL0 ++ nmL1 ++ nmL2
def obL (s : PySem.W.SharedT) : AlV := obsV 5 faL fnL csL (HandSHeadRun.getT s)
theorem obL_eq (s : PySem.W.SharedT) : obL s = (hookV 5 faL fnL csL).obs s.abs := obsV_eq (HandSHeadRun.getT_eq s)
section
open HandSHeadRun PySem.W PySem.Calls
theorem map_two {α β γ : Type} {E : Option α} {f : α → β} {g : α → γ} {x : β} {y : γ} (h1 : E.map f = some x) (h2 : E.map g = some y) : E.map (fun s => (f s, g s)) = some (x, y) := by
  cases E with
  | none => cases h1
  | some s =>
    have h1 := Option.some.inj h1
    have h2 := Option.some.inj h2
    show some (f s, g s) = _
    rw [h1, h2]
theorem runL1 (w : World) (os : OsState) : (endF (stepQ (denQ tabQ) rwO.prog w) 8000 rwO.prog w os).map (fun s => looksF rwO.prog (boot_heap w.params) s.abs) = some true := by kernel_rfl
theorem runL2 (w : World) (os : OsState) : (endF (stepQ (denQ tabQ) rwO.prog w) 8000 rwO.prog w os).map (fun s => seenQ (PySem.W.view rwO.prog [31]) nmL (importedModules rwO.prog.main.body) (fun s => xlAt (PySem.W.view rwO.prog [31]) [] s && recOk rwO.toRowW.records s) s.abs) = some (openGood (PySem.W.view rwO.prog [31]) nmL) := by kernel_rfl
theorem runL3 (w : World) (os : OsState) : (endF (stepQ (denQ tabQ) rwO.prog w) 8000 rwO.prog w os).map (fun s => He.obsD faL fnL (He.frG (HandSHeadRun.getT s) (cStatics :: He.asD (HandSHeadRun.getT s) 5))) = some (He.valD fnL) := by kernel_rfl
theorem runL4 (w : World) (os : OsState) : (endF (stepQ (denQ tabQ) rwO.prog w) 8000 rwO.prog w os).map (fun s => csL.all fun p => glbB (He.frG (HandSHeadRun.getT s) (cStatics :: He.asD (HandSHeadRun.getT s) 5)) p) = some true := by kernel_rfl
theorem runL (w : World) : HandSHeadRun.RunEq rwO (PySem.W.view rwO.prog [31]) (hookV 5 faL fnL csL) obL 8000 nmL w := fun os => map_two (runL1 w os) (map_two (runL2 w os) (map_two (runL3 w os) (runL4 w os)))
end
set_option maxHeartbeats 4000000
noncomputable def fs_Ring : List (M D) := [(fA oListA (fCons (eVar 1) fNil))]
theorem sc_Ring___init__ : FnScope ["self", "ring"] ["self", "ring"] (defScope (mtd 6 0)) := ⟨rfl, rfl, rfl, by decide +kernel, rfl, by decide +kernel, by decide +kernel⟩
theorem ok_Ring___init__ {G : GC} (Y : YeL G) : RsF G "Ring" 1 ["self", "ring"] 0 ["ring"] fs_Ring :=
  RsF.mk' Y 13 16 17 3 (d := q_Ring___init__) (k := 0) (N := ["self", "ring"]) 0
    (VIs.cons (VO.frz (VO.listA (Y.free 13) (VA.cons (VO.vb (VO.var (i := 1))) VA.nil))) VIs.nil)
    (fun _ _ _ _ _ _ us hl => match us, hl with | [_, _], _ => rfl) sc_Ring___init__
noncomputable def fs_RingL : List (M D) := [(fA oListA (fCons (eBor 1) fNil))]
theorem ok_RingL___init__ {G : GC} (Y : YeL G) : RsF G "Ring" 1 ["self", "ring"] 0 ["ring"] fs_RingL :=
  RsF.mk' Y 13 16 17 3 (d := q_Ring___init__) (k := 0) (N := ["self", "ring"]) 0
    (VIs.cons (VO.frz (VO.listA (Y.free 13) (VA.cons (VB.var (i := 1)) VA.nil))) VIs.nil)
    (fun _ _ _ _ _ _ us hl => match us, hl with | [_, _], _ => rfl) sc_Ring___init__
noncomputable def fs_Alike : List (M D) := [(eVar 1), (eVar 2)]
theorem sc_Alike___init__ : FnScope ["self", "one", "other"] ["self", "one", "other"] (defScope (mtd 9 0)) := ⟨rfl, rfl, rfl, by decide +kernel, rfl, by decide +kernel, by decide +kernel⟩
theorem ok_Alike___init__ {G : GC} (Y : YeL G) : RsF G "Alike" 1 ["self", "one", "other"] 0 ["one", "other"] fs_Alike :=
  RsF.mk' Y 14 31 17 25 (d := q_Alike___init__) (k := 0) (N := ["self", "one", "other"]) 0
    (VIs.cons (VO.var (i := 1)) (VIs.cons (VO.var (i := 2)) VIs.nil))
    (fun _ _ _ _ _ _ us hl => match us, hl with | [_, _, _], _ => rfl) sc_Alike___init__
noncomputable def fs_NoLine : List (M D) := [(eVar 1)]
theorem sc_NoLine___init__ : FnScope ["self", "line"] ["self", "line"] (defScope (mtd 14 0)) := ⟨rfl, rfl, rfl, by decide +kernel, rfl, by decide +kernel, by decide +kernel⟩
theorem ok_NoLine___init__ {G : GC} (Y : YeL G) : RsF G "NoLine" 1 ["self", "line"] 0 ["line"] fs_NoLine :=
  RsF.mk' Y 15 30 17 26 (d := q_NoLine___init__) (k := 0) (N := ["self", "line"]) 0
    (VIs.cons (VO.var (i := 1)) VIs.nil)
    (fun _ _ _ _ _ _ us hl => match us, hl with | [_, _], _ => rfl) sc_NoLine___init__
noncomputable def fs_NoTerm : List (M D) := [(eVar 1), (eVar 2)]
theorem sc_NoTerm___init__ : FnScope ["self", "function", "body"] ["self", "function", "body"] (defScope (mtd 12 0)) := ⟨rfl, rfl, rfl, by decide +kernel, rfl, by decide +kernel, by decide +kernel⟩
theorem ok_NoTerm___init__ {G : GC} (Y : YeL G) : RsF G "NoTerm" 1 ["self", "function", "body"] 0 ["function", "body"] fs_NoTerm :=
  RsF.mk' Y 16 29 17 27 (d := q_NoTerm___init__) (k := 0) (N := ["self", "function", "body"]) 0
    (VIs.cons (VO.var (i := 1)) (VIs.cons (VO.var (i := 2)) VIs.nil))
    (fun _ _ _ _ _ _ us hl => match us, hl with | [_, _, _], _ => rfl) sc_NoTerm___init__
noncomputable def F_is_name : M D := fnRun [false] 1 (gSeq (fIf (fOr (fNot (fB (fIsi .str (eVar 0)))) (fOr (fB (fOp2 oEq (eVar 0) (eC (.str [])))) (fB (fOp2 oGt (fA oLenA (fCons (eVar 0) fNil)) (eC (.int 8)))))) (gRet (eC (.bl false))) gNx) (gRet (fAnd (fOp2 oNotInA (eVar 0) (eC (.tup [(.str t_any), (.str t_none), (.str t_blank), (.str t_new), (.str [111, 110])]))) (fA oAll (fCons (fLc [1] (iAny (eVar 0)) (tName 1) ftY (fOp2 oInA (eVar 1) (eC (.str t_abcdefghijklmnopqrstuvwxyz)))) fNil)))))
theorem sc_is_name : FnScope ["thing", "sign"] ["thing"] (defScope (top 19)) := ⟨rfl, rfl, rfl, by decide +kernel, rfl, by decide +kernel, by decide +kernel⟩
theorem ok_is_name {G : GC} (Y : YeL G) : Fx G 1 "is_name" ["thing"] .z F_is_name :=
  Fx.mk' Y 0 4 (d := q_is_name) (k := 0) (N := ["thing", "sign"]) [false] 1
    (VSs.cons (VS.ite (VW.pt (VW.or (VT.not (VT.of (VO.isi .str (Y.free 0) (Y.free 1) (VO.vb (VO.var (i := 0)))))) (VW.or (VT.cp Cm.eq (VO.vb (VO.var (i := 0))) (VO.vb (VO.str (s := [])))) (VW.or1 (VT.cp Cm.gt' (VO.vb (VO.lenA (Y.free 2) (VA.cons (VO.vb (VO.var (i := 0))) VA.nil))) (VO.vb (VO.glob (Y.glob 1)))))))) (VSs.one (VS.ret VO.bl)) VSs.nil) (VSs.one (VS.ret (VO.and (VO.cp Cm.ninA (VO.vb (VO.var (i := 0))) (VO.vb (VO.glob (Y.glob 2)))) (VO.one (VO.all (Y.free 3) (VA.cons (VO.vb (VO.frz (VO.lc (me := .z) [("sign", 1)] (VI.any (VO.var (i := 0))) (VG.name (i := 1)) VTs.nil (VO.cp Cm.inA (VO.vb (VO.var (i := 1))) (VO.vb (VO.glob (Y.glob 0))))))) VA.nil)))))))
    (fun _ _ _ _ _ _ us hl => match us, hl with | [_], _ => rfl) sc_is_name
noncomputable def F_look_at_names : M D := fnRun [false] 4 (gSeq (gFor (iAny (eVar 0)) (tTupl 2 (tCon (tName 2) (tCon (tName 3) tNil))) (fIf (fOr (fNot (fB (fCall F_is_name [none] (fCons (eVar 2) fNil)))) (fNot (fB (fA oAll (fCons (fLc [4] (iAny (eVar 3)) (tName 4) ftY (fCall F_is_name [none] (fCons (eVar 4) fNil))) fNil))))) (gRaise "NoName") gNx)) (gSeq (gSet 1 .z (fLc [2, 3] (iAny (eVar 0)) (tTupl 2 (tCon (tName 2) (tCon (tName 3) tNil))) ftY (eVar 2))) (gSeq (fIf (fB (fOp2 oLt (fA oLenSet (fCons (eVar 1) fNil)) (fA oLenA (fCons (eVar 1) fNil)))) (gRaise "Taken") gNx) (gFor (iAny (eVar 0)) (tTupl 2 (tCon (tName 2) (tCon (tName 3) tNil))) (fIf (fNot (fB (fA oAll (fCons (fLc [4] (iAny (eVar 3)) (tName 4) ftY (fOp2 oInA (eVar 4) (eVar 1))) fNil)))) (gRaise "NoKind") gNx)))))
theorem sc_look_at_names : FnScope ["tuples", "names", "name", "over", "one"] ["tuples"] (defScope (top 21)) := ⟨rfl, rfl, rfl, by decide +kernel, rfl, by decide +kernel, by decide +kernel⟩
theorem ok_look_at_names {G : GC} (Y : YeL G) : Fx G 2 "look_at_names" ["tuples"] .z F_look_at_names :=
  Fx.mk' Y 1 12 (d := q_look_at_names) (k := 1) (N := ["tuples", "names", "name", "over", "one"]) [false] 4
    (VSs.cons (VS.for_ (VI.any (VO.var (i := 0))) (VG.tup (VGs.cons (VG.name (i := 2)) (VGs.cons (VG.name (i := 3)) VGs.nil))) (VSs.one (VS.ite (VW.pt (VW.or (VT.not (VT.of (VO.callX (ok_is_name Y) (VM.frz (VO.var (i := 2)) VM.nil)))) (VW.or1 (VT.not (VT.of (VO.all (Y.free 3) (VA.cons (VO.vb (VO.frz (VO.lc (me := .z) [("one", 4)] (VI.any (VO.var (i := 3))) (VG.name (i := 4)) VTs.nil (VO.callX (ok_is_name Y) (VM.frz (VO.var (i := 4)) VM.nil))))) VA.nil))))))) (VSs.one (VS.raise Y 5 6)) VSs.nil))) (VSs.cons (VS.setC (i := 1) (m := .z) (VO.frz (VO.lc (me := .z) [("name", 2), ("over", 3)] (VI.any (VO.var (i := 0))) (VG.tup (VGs.cons (VG.name (i := 2)) (VGs.cons (VG.name (i := 3)) VGs.nil))) VTs.nil (VO.var (i := 2))))) (VSs.cons (VS.ite (VT.cp Cm.lt' (VO.vb (VO.lenSet (Y.free 2) (Y.free 7) (VA.cons (VO.vb (VO.var (i := 1))) VA.nil))) (VO.vb (VO.lenA (Y.free 2) (VA.cons (VO.vb (VO.var (i := 1))) VA.nil)))) (VSs.one (VS.raise Y 8 9)) VSs.nil) (VSs.one (VS.for_ (VI.any (VO.var (i := 0))) (VG.tup (VGs.cons (VG.name (i := 2)) (VGs.cons (VG.name (i := 3)) VGs.nil))) (VSs.one (VS.ite (VT.not (VT.of (VO.all (Y.free 3) (VA.cons (VO.vb (VO.frz (VO.lc (me := .z) [("one", 4)] (VI.any (VO.var (i := 3))) (VG.name (i := 4)) VTs.nil (VO.cp Cm.inA (VO.vb (VO.var (i := 4))) (VO.vb (VO.var (i := 1))))))) VA.nil)))) (VSs.one (VS.raise Y 10 11)) VSs.nil)))))))
    (fun _ _ _ _ _ _ us hl => match us, hl with | [_], _ => rfl) sc_look_at_names
noncomputable def F_in_rings : M D := fnRun [false] 5 (gSeq (gSet 1 .z (fA oListA (fCons (eVar 0) fNil))) (gSeq (gSet 2 .z (eC (.bl true))) (gSeq (gWh (fB (eVar 2)) (gSeq (gSet 3 .z (fLc [4] (iAny (eVar 1)) (tName 4) (fNot (fB (fA oAny (fCons (fLc [5] (iAny (fOp2 oIxA (eVar 0) (eVar 4))) (tName 5) ftY (fOp2 oInA (eVar 5) (eVar 1))) fNil)))) (eVar 4))) (gSeq (gSet 1 .z (fLc [4] (iAny (eVar 1)) (tName 4) (fB (fOp2 oNotInA (eVar 4) (eVar 3))) (eVar 4))) (gSet 2 .z (fOp2 oNe (eVar 3) (fLst fNil)))))) (gRet (eVar 1)))))
theorem sc_in_rings : FnScope ["uppers", "left", "again", "free", "name", "one"] ["uppers"] (defScope (top 22)) := ⟨rfl, rfl, rfl, by decide +kernel, rfl, by decide +kernel, by decide +kernel⟩
theorem ok_in_rings {G : GC} (Y : YeL G) : Fx G 1 "in_rings" ["uppers"] .z F_in_rings :=
  Fx.mk' Y 2 15 (d := q_in_rings) (k := 0) (N := ["uppers", "left", "again", "free", "name", "one"]) [false] 5
    (VSs.cons (VS.set (i := 1) (m := .z) (VO.frz (VO.listA (Y.free 13) (VA.cons (VO.vb (VO.var (i := 0))) VA.nil)))) (VSs.cons (VS.set (i := 2) (m := .z) VO.bl) (VSs.cons (VS.wh (VT.of (VO.var (i := 2))) (VSs.cons (VS.setC (i := 3) (m := .z) (VO.frz (VO.lc (me := .z) [("name", 4)] (VI.any (VO.var (i := 1))) (VG.name (i := 4)) (VTs.one (VT.not (VT.of (VO.any (Y.free 14) (VA.cons (VO.vb (VO.frz (VO.lc (me := .z) [("one", 5)] (VI.any (VO.itemA (VO.vb (VO.var (i := 0))) (VO.vb (VO.var (i := 4))))) (VG.name (i := 5)) VTs.nil (VO.cp Cm.inA (VO.vb (VO.var (i := 5))) (VO.vb (VO.var (i := 1))))))) VA.nil))))) (VO.var (i := 4))))) (VSs.cons (VS.setC (i := 1) (m := .z) (VO.frz (VO.lc (me := .z) [("name", 4)] (VI.any (VO.var (i := 1))) (VG.name (i := 4)) (VTs.one (VT.cp Cm.ninA (VO.vb (VO.var (i := 4))) (VO.vb (VO.var (i := 3))))) (VO.var (i := 4))))) (VSs.one (VS.set (i := 2) (m := .z) (VO.cp Cm.ne (VO.vb (VO.var (i := 3))) (VO.vb (VO.frz (VO.lst (VLs.nil (k := .all .z))))))))))) (VSs.one (VS.ret (VO.var (i := 1)))))))
    (fun _ _ _ _ _ _ us hl => match us, hl with | [_], _ => rfl) sc_in_rings
noncomputable def F_look_for_rings : M D := fnRun [false] 4 (gSeq (gSet 1 .z (fCall F_in_rings [none] (fCons (eVar 0) fNil))) (gSeq (fIf (fB (fOp2 oEq (eVar 1) (fLst fNil))) gRetN gNx) (gSeq (gSet 2 m1 (fSl oCutL (eVar 1) fNoP (fPart (eC (.int 1))))) (gWh (fB (eC (.bl true))) (gSeq (gSet 3 .z (fOp2 oIxA (fLc [4] (iAny (fOp2 oIxA (eVar 0) (fOp2 oIxA (eBor 2) (fNeg (eC (.int 1)))))) (tName 4) (fB (fOp2 oInA (eVar 4) (eVar 1))) (eVar 4)) (eC (.int 0)))) (gSeq (fIf (fB (fOp2 oInA (eVar 3) (eBor 2))) (gRaiseF "Ring" 0 ["ring"] fs_Ring [none] (fCons (fSl oCut (eFrz 2) (fPart (fLs2 oIndexL (eFrz 2) (eVar 3))) fNoP) fNil)) gNx) (gMt 2 .z appO (eVar 3))))))))
theorem sc_look_for_rings : FnScope ["uppers", "left", "way", "onward", "one"] ["uppers"] (defScope (top 23)) := ⟨rfl, rfl, rfl, by decide +kernel, rfl, by decide +kernel, by decide +kernel⟩
theorem ok_look_for_rings {G : GC} (Y : YeL G) : Fx G 3 "look_for_rings" ["uppers"] .z F_look_for_rings :=
  Fx.mk' Y 3 18 (d := q_look_for_rings) (k := 2) (N := ["uppers", "left", "way", "onward", "one"]) [false] 4
    (VSs.cons (VS.set (i := 1) (m := .z) (VO.callX (ok_in_rings Y) (VM.frz (VO.var (i := 0)) VM.nil))) (VSs.cons (VS.ite (VT.cp Cm.eq (VO.vb (VO.var (i := 1))) (VO.vb (VO.frz (VO.lst (VLs.nil (k := .all .z)))))) (VSs.one VS.retN) VSs.nil) (VSs.cons (VS.set (i := 2) (m := m1) (VO.cutL (VO.vb (VO.var (i := 1))) VP.none (VP.some VO.int))) (VSs.one (VS.wh (VT.of VO.bl) (VSs.cons (VS.set (i := 3) (m := .z) (VO.itemA (VO.vb (VO.frz (VO.lc (me := .z) [("one", 4)] (VI.any (VO.itemA (VO.vb (VO.var (i := 0))) (VO.vb (VO.itemA (VB.var (i := 2)) (VO.vb (VO.neg VO.int)))))) (VG.name (i := 4)) (VTs.one (VT.cp Cm.inA (VO.vb (VO.var (i := 4))) (VO.vb (VO.var (i := 1))))) (VO.var (i := 4))))) (VO.vb VO.int))) (VSs.cons (VS.ite (VT.cp Cm.inA (VO.vb (VO.var (i := 3))) (VB.var (i := 2))) (VSs.one (VS.raiseF (ok_Ring___init__ Y) (VM.frz (VO.cut (VO.vb (VO.fz (i := 2))) (VP.some (VO.lindex (VO.fz (i := 2)) (VO.var (i := 3)))) VP.none) VM.nil))) VSs.nil) (VSs.one (VS.app (i := 2) (me := .z) (VO.var (i := 3)))))))))))
    (fun _ _ _ _ _ _ us hl => match us, hl with | [_], _ => rfl) sc_look_for_rings
noncomputable def F_Web___init__ : M D := fnRun [true, false] 2 (gSeq (gDo (fCall F_look_at_names [none] (fCons (eVar 1) fNil))) (gSeq (gISet 0 "Web" "uppers" (eC (.dct [] []))) (gSeq (gFor (iAny (eVar 1)) (tTupl 2 (tCon (tName 2) (tCon (tName 3) tNil))) (gIPut 0 "Web" "uppers" (fA oSortSet (fCons (eVar 3) fNil)) (eVar 2))) (gDo (fCall F_look_for_rings [none] (fCons (fFld "Web" "uppers" (eFrz 0)) fNil))))))
theorem sc_Web___init__ : FnScope ["self", "tuples", "name", "over"] ["self", "tuples"] (defScope (mtd 24 0)) := ⟨rfl, rfl, rfl, by decide +kernel, rfl, by decide +kernel, by decide +kernel⟩
theorem ok_Web___init__ {G : GC} (Y : YeL G) : MkX G "Web" 4 ["self", "tuples"] F_Web___init__ :=
  MkX.mk' Y 4 19 23 (d := q_Web___init__) (k := 3) (N := ["self", "tuples", "name", "over"]) [true, false] 2
    (VSs.cons (VS.expr (VO.callX (ok_look_at_names Y) (VM.frz (VO.var (i := 1)) VM.nil))) (VSs.cons (VS.iset (i := 0) (c := "Web") (f := "uppers") (Y.atr 19 20 21) (VO.dct0 (k := .all .z))) (VSs.cons (VS.for_ (VI.any (VO.var (i := 1))) (VG.tup (VGs.cons (VG.name (i := 2)) (VGs.cons (VG.name (i := 3)) VGs.nil))) (VSs.one (VS.iput (i := 0) (c := "Web") (f := "uppers") (Y.atr 19 20 21) (VO.frz (VO.sortSet (Y.free 22) (Y.free 7) (VA.cons (VO.vb (VO.var (i := 3))) VA.nil))) (VO.var (i := 2))))) (VSs.one (VS.expr (VO.callX (ok_look_for_rings Y) (VM.frz (VO.fld (c := "Web") (f := "uppers") (Y.atr 19 20 21) (VO.vb (VO.fz (i := 0)))) VM.nil)))))))
    (fun _ _ _ _ _ _ us hl => match us, hl with | [_, _], _ => rfl) sc_Web___init__
noncomputable def F__law_pick : M D := fnRun [false, false] 0 (gRet (fOp2 oIxA (fOp2 oAdd (fSl oCut (eVar 0) (fPart (eVar 1)) (fPart (fOp2 oAdd (eVar 1) (eC (.int 1))))) (fLst (fCons (eC (.int 0)) fNil))) (eC (.int 0))))
theorem sc__law_pick : FnScope ["_law_script", "_law_k"] ["_law_script", "_law_k"] (defScope (top 26)) := ⟨rfl, rfl, rfl, by decide +kernel, rfl, by decide +kernel, by decide +kernel⟩
theorem ok__law_pick {G : GC} (Y : YeL G) : Fx G 1 "_law_pick" ["_law_script", "_law_k"] .z F__law_pick :=
  Fx.mk' Y 7 26 (d := q__law_pick) (k := 0) (N := ["_law_script", "_law_k"]) [false, false] 0
    (VSs.one (VS.ret (VO.itemA (VO.vb (VO.add (VO.vb (VO.cut (VO.vb (VO.var (i := 0))) (VP.some (VO.var (i := 1))) (VP.some (VO.add (VO.vb (VO.var (i := 1))) (VO.vb VO.int))))) (VO.vb (VO.frz (VO.lst (VLs.cons (k := .all .z) VO.int (VLs.nil (k := .all .z)))))))) (VO.vb VO.int))))
    (fun _ _ _ _ _ _ us hl => match us, hl with | [_, _], _ => rfl) sc__law_pick
noncomputable def B__law_word_1 : M Fl := (gSeq (gSet 3 .z (fOp2 oAdd (eVar 3) (fOp2 oIxA (eVar 1) (fOp2 oMod (eVar 2) (eC (.int 26)))))) (gSet 2 .z (fOp2 oFdiv (eVar 2) (eC (.int 26)))))
theorem B__law_word_1_ap (s0 : Sl) (r : En) : B__law_word_1 (s0 :: r) = (gSeq (gSet 3 .z (fOp2 oAdd (eVar 3) (fOp2 oIxA (eVar 1) (fOp2 oMod (eVar 2) (eC (.int 26)))))) (gSet 2 .z (fOp2 oFdiv (eVar 2) (eC (.int 26))))) (s0 :: r) := rfl
noncomputable def F__law_word : M D := fnRun [false] 4 (gSeq (gSet 1 .z (eC (.str t_abcdefghijklmnopqrstuvwxyz))) (gSeq (gSet 2 .z (fOp2 oFdiv (eVar 0) (eC (.int 8)))) (gSeq (gSet 3 .z (eC (.str []))) (gSeq (gFor (iRng (fOp2 oAdd (eC (.int 1)) (fOp2 oMod (eVar 0) (eC (.int 8))))) (tName 4) B__law_word_1) (gSeq (fIf (fB (fOp2 oInA (eVar 3) (fLst (fCons (eC (.str t_any)) (fCons (eC (.str t_none)) (fCons (eC (.str t_blank)) (fCons (eC (.str t_new)) (fCons (eC (.str [111, 110])) fNil)))))))) (gRet (fOp2 oAdd (eVar 3) (eC (.str [115])))) gNx) (gRet (eVar 3)))))))
theorem sc__law_word : FnScope ["_law_number", "_law_letters", "_law_rest", "_law_found", "_law_k"] ["_law_number"] (defScope (top 27)) := ⟨rfl, rfl, rfl, by decide +kernel, rfl, by decide +kernel, by decide +kernel⟩
theorem ok__law_word {G : GC} (Y : YeL G) : Fx G 1 "_law_word" ["_law_number"] .z F__law_word :=
  Fx.mk' Y 8 28 (d := q__law_word) (k := 0) (N := ["_law_number", "_law_letters", "_law_rest", "_law_found", "_law_k"]) [false] 4
    (VSs.cons (VS.set (i := 1) (m := .z) (VO.str (s := t_abcdefghijklmnopqrstuvwxyz))) (VSs.cons (VS.set (i := 2) (m := .z) (VO.fdiv (VO.vb (VO.var (i := 0))) (VO.vb VO.int))) (VSs.cons (VS.set (i := 3) (m := .z) (VO.str (s := []))) (VSs.cons (VS.for_ (VI.rng (VO.add (VO.vb VO.int) (VO.vb (VO.mod (VO.vb (VO.var (i := 0))) (VO.vb VO.int)))) (Y.free 27)) (VG.name (i := 4)) (VSs.cons (VS.set (i := 3) (m := .z) (VO.add (VO.vb (VO.var (i := 3))) (VO.vb (VO.itemA (VO.vb (VO.var (i := 1))) (VO.vb (VO.mod (VO.vb (VO.var (i := 2))) (VO.vb VO.int))))))) (VSs.one (VS.set (i := 2) (m := .z) (VO.fdiv (VO.vb (VO.var (i := 2))) (VO.vb VO.int)))))) (VSs.cons (VS.ite (VT.cp Cm.inA (VO.vb (VO.var (i := 3))) (VO.vb (VO.frz (VO.lst (VLs.cons (k := .all .z) (VO.str (s := t_any)) (VLs.cons (k := .all .z) (VO.str (s := t_none)) (VLs.cons (k := .all .z) (VO.str (s := t_blank)) (VLs.cons (k := .all .z) (VO.str (s := t_new)) (VLs.cons (k := .all .z) (VO.str (s := [111, 110])) (VLs.nil (k := .all .z))))))))))) (VSs.one (VS.ret (VO.add (VO.vb (VO.var (i := 3))) (VO.vb (VO.str (s := [115])))))) VSs.nil) (VSs.one (VS.ret (VO.var (i := 3)))))))))
    (fun _ _ _ _ _ _ us hl => match us, hl with | [_], _ => rfl) sc__law_word
noncomputable def FH__law_classes : M D := fnRun [false] 2 (gSeq (gSet 1 .z (fLst (fCons (fIsX ([("Alike", false), ("NoKind", false), ("NoLine", false), ("NoName", true), ("NoTerm", false), ("Ring", false), ("Taken", false)] : List (Str × Bool)) (eVar 0)) (fCons (fIsX ([("Alike", false), ("NoKind", false), ("NoLine", false), ("NoName", false), ("NoTerm", false), ("Ring", false), ("Taken", true)] : List (Str × Bool)) (eVar 0)) (fCons (fIsX ([("Alike", false), ("NoKind", true), ("NoLine", false), ("NoName", false), ("NoTerm", false), ("Ring", false), ("Taken", false)] : List (Str × Bool)) (eVar 0)) (fCons (fIsX ([("Alike", false), ("NoKind", false), ("NoLine", false), ("NoName", false), ("NoTerm", false), ("Ring", true), ("Taken", false)] : List (Str × Bool)) (eVar 0)) fNil)))))) (gSeq (gSet 1 .z (fOp2 oAdd (eVar 1) (fLst (fCons (fIsX ([("Alike", false), ("NoKind", false), ("NoLine", false), ("NoName", false), ("NoTerm", false), ("Ring", false), ("Taken", false)] : List (Str × Bool)) (eVar 0)) (fCons (fIsX ([("Alike", false), ("NoKind", false), ("NoLine", false), ("NoName", false), ("NoTerm", false), ("Ring", false), ("Taken", false)] : List (Str × Bool)) (eVar 0)) (fCons (fIsX ([("Alike", true), ("NoKind", false), ("NoLine", false), ("NoName", false), ("NoTerm", false), ("Ring", false), ("Taken", false)] : List (Str × Bool)) (eVar 0)) (fCons (fIsX ([("Alike", false), ("NoKind", false), ("NoLine", false), ("NoName", false), ("NoTerm", false), ("Ring", false), ("Taken", false)] : List (Str × Bool)) (eVar 0)) fNil))))))) (gSeq (gSet 1 .z (fOp2 oAdd (eVar 1) (fLst (fCons (fIsX ([("Alike", false), ("NoKind", false), ("NoLine", false), ("NoName", false), ("NoTerm", false), ("Ring", false), ("Taken", false)] : List (Str × Bool)) (eVar 0)) (fCons (fIsX ([("Alike", false), ("NoKind", false), ("NoLine", false), ("NoName", false), ("NoTerm", true), ("Ring", false), ("Taken", false)] : List (Str × Bool)) (eVar 0)) (fCons (fIsX ([("Alike", false), ("NoKind", false), ("NoLine", false), ("NoName", false), ("NoTerm", false), ("Ring", false), ("Taken", false)] : List (Str × Bool)) (eVar 0)) (fCons (fIsX ([("Alike", false), ("NoKind", false), ("NoLine", true), ("NoName", false), ("NoTerm", false), ("Ring", false), ("Taken", false)] : List (Str × Bool)) (eVar 0)) fNil))))))) (gRet (fOp2 oAdd (fLc [2] (iRng (eC (.int 12))) (tName 2) (fB (fOp2 oIxA (eVar 1) (eVar 2))) (eVar 2)) (fOp2 oMulL (fLst (fCons (eC (.int 12)) fNil)) (fA oInt (fCons (fAnd (fIsX ([("Alike", true), ("NoKind", true), ("NoLine", true), ("NoName", true), ("NoTerm", true), ("Ring", true), ("Taken", true)] : List (Str × Bool)) (eVar 0)) (fIsX ([("Alike", true), ("NoKind", true), ("NoLine", true), ("NoName", true), ("NoTerm", true), ("Ring", true), ("Taken", true)] : List (Str × Bool)) (eVar 0))) fNil))))))))
theorem sch__law_classes : FnScope ["_law_e", "_law_some", "_law_k"] ["_law_e"] (defScope (top 28)) := ⟨rfl, rfl, rfl, by decide +kernel, rfl, by decide +kernel, by decide +kernel⟩
theorem okh__law_classes {G : GC} (Y : YeL G) : FxH G 1 "_law_classes" ["_law_e"] .z FH__law_classes :=
  FxH.mk' Y 9 39 (d := q__law_classes) (k := 0) (N := ["_law_e", "_law_some", "_law_k"]) [false] 2
    (VSs.cons (VS.set (i := 1) (m := .z) (VO.frz (VO.lst (VLs.cons (k := .all .z) (VO.isX (c := .ref (He.ga G.K "NoName")) (cv := .ref (He.ga G.K "NoName")) ([("Alike", false), ("NoKind", false), ("NoLine", false), ("NoName", true), ("NoTerm", false), ("Ring", false), ("Taken", false)] : List (Str × Bool)) (VO.var (i := 0)) (fun R a_ => pe_glob (a_.gl rfl) (Y.glo 5) rfl) (.own _) (tab_cons ⟨(Y.xc 16 31), (Y.isa 17 1 rfl rfl)⟩ (tab_cons ⟨(Y.xc 14 10), (Y.isa 15 1 rfl rfl)⟩ (tab_cons ⟨(Y.xc 12 30), (Y.isa 13 1 rfl rfl)⟩ (tab_cons ⟨(Y.xc 10 5), (Y.isa 11 1 rfl rfl)⟩ (tab_cons ⟨(Y.xc 8 29), (Y.isa 9 1 rfl rfl)⟩ (tab_cons ⟨(Y.xc 6 16), (Y.isa 7 1 rfl rfl)⟩ (tab_cons ⟨(Y.xc 4 8), (Y.isa 5 1 rfl rfl)⟩ tab_nil))))))) (Y.free 0)) (VLs.cons (k := .all .z) (VO.isX (c := .ref (He.ga G.K "Taken")) (cv := .ref (He.ga G.K "Taken")) ([("Alike", false), ("NoKind", false), ("NoLine", false), ("NoName", false), ("NoTerm", false), ("Ring", false), ("Taken", true)] : List (Str × Bool)) (VO.var (i := 0)) (fun R a_ => pe_glob (a_.gl rfl) (Y.glo 8) rfl) (.own _) (tab_cons ⟨(Y.xc 16 31), (Y.isa 17 2 rfl rfl)⟩ (tab_cons ⟨(Y.xc 14 10), (Y.isa 15 2 rfl rfl)⟩ (tab_cons ⟨(Y.xc 12 30), (Y.isa 13 2 rfl rfl)⟩ (tab_cons ⟨(Y.xc 10 5), (Y.isa 11 2 rfl rfl)⟩ (tab_cons ⟨(Y.xc 8 29), (Y.isa 9 2 rfl rfl)⟩ (tab_cons ⟨(Y.xc 6 16), (Y.isa 7 2 rfl rfl)⟩ (tab_cons ⟨(Y.xc 4 8), (Y.isa 5 2 rfl rfl)⟩ tab_nil))))))) (Y.free 0)) (VLs.cons (k := .all .z) (VO.isX (c := .ref (He.ga G.K "NoKind")) (cv := .ref (He.ga G.K "NoKind")) ([("Alike", false), ("NoKind", true), ("NoLine", false), ("NoName", false), ("NoTerm", false), ("Ring", false), ("Taken", false)] : List (Str × Bool)) (VO.var (i := 0)) (fun R a_ => pe_glob (a_.gl rfl) (Y.glo 10) rfl) (.own _) (tab_cons ⟨(Y.xc 16 31), (Y.isa 17 3 rfl rfl)⟩ (tab_cons ⟨(Y.xc 14 10), (Y.isa 15 3 rfl rfl)⟩ (tab_cons ⟨(Y.xc 12 30), (Y.isa 13 3 rfl rfl)⟩ (tab_cons ⟨(Y.xc 10 5), (Y.isa 11 3 rfl rfl)⟩ (tab_cons ⟨(Y.xc 8 29), (Y.isa 9 3 rfl rfl)⟩ (tab_cons ⟨(Y.xc 6 16), (Y.isa 7 3 rfl rfl)⟩ (tab_cons ⟨(Y.xc 4 8), (Y.isa 5 3 rfl rfl)⟩ tab_nil))))))) (Y.free 0)) (VLs.cons (k := .all .z) (VO.isX (c := .ref (He.ga G.K "Ring")) (cv := .ref (He.ga G.K "Ring")) ([("Alike", false), ("NoKind", false), ("NoLine", false), ("NoName", false), ("NoTerm", false), ("Ring", true), ("Taken", false)] : List (Str × Bool)) (VO.var (i := 0)) (fun R a_ => pe_glob (a_.gl rfl) (Y.glo 16) rfl) (.own _) (tab_cons ⟨(Y.xc 16 31), (Y.isa 17 4 rfl rfl)⟩ (tab_cons ⟨(Y.xc 14 10), (Y.isa 15 4 rfl rfl)⟩ (tab_cons ⟨(Y.xc 12 30), (Y.isa 13 4 rfl rfl)⟩ (tab_cons ⟨(Y.xc 10 5), (Y.isa 11 4 rfl rfl)⟩ (tab_cons ⟨(Y.xc 8 29), (Y.isa 9 4 rfl rfl)⟩ (tab_cons ⟨(Y.xc 6 16), (Y.isa 7 4 rfl rfl)⟩ (tab_cons ⟨(Y.xc 4 8), (Y.isa 5 4 rfl rfl)⟩ tab_nil))))))) (Y.free 0)) (VLs.nil (k := .all .z))))))))) (VSs.cons (VS.set (i := 1) (m := .z) (VO.add (VO.vb (VO.var (i := 1))) (VO.vb (VO.frz (VO.lst (VLs.cons (k := .all .z) (VO.isX (c := .ref (He.ga G.K "NoText")) (cv := .ref (He.ga G.K "NoText")) ([("Alike", false), ("NoKind", false), ("NoLine", false), ("NoName", false), ("NoTerm", false), ("Ring", false), ("Taken", false)] : List (Str × Bool)) (VO.var (i := 0)) (fun R a_ => pe_glob (a_.gl rfl) (Y.glo 34) rfl) (.own _) (tab_cons ⟨(Y.xc 16 31), (Y.isa 17 5 rfl rfl)⟩ (tab_cons ⟨(Y.xc 14 10), (Y.isa 15 5 rfl rfl)⟩ (tab_cons ⟨(Y.xc 12 30), (Y.isa 13 5 rfl rfl)⟩ (tab_cons ⟨(Y.xc 10 5), (Y.isa 11 5 rfl rfl)⟩ (tab_cons ⟨(Y.xc 8 29), (Y.isa 9 5 rfl rfl)⟩ (tab_cons ⟨(Y.xc 6 16), (Y.isa 7 5 rfl rfl)⟩ (tab_cons ⟨(Y.xc 4 8), (Y.isa 5 5 rfl rfl)⟩ tab_nil))))))) (Y.free 0)) (VLs.cons (k := .all .z) (VO.isX (c := .ref (He.ga G.K "NoPlaces")) (cv := .ref (He.ga G.K "NoPlaces")) ([("Alike", false), ("NoKind", false), ("NoLine", false), ("NoName", false), ("NoTerm", false), ("Ring", false), ("Taken", false)] : List (Str × Bool)) (VO.var (i := 0)) (fun R a_ => pe_glob (a_.gl rfl) (Y.glo 33) rfl) (.own _) (tab_cons ⟨(Y.xc 16 31), (Y.isa 17 6 rfl rfl)⟩ (tab_cons ⟨(Y.xc 14 10), (Y.isa 15 6 rfl rfl)⟩ (tab_cons ⟨(Y.xc 12 30), (Y.isa 13 6 rfl rfl)⟩ (tab_cons ⟨(Y.xc 10 5), (Y.isa 11 6 rfl rfl)⟩ (tab_cons ⟨(Y.xc 8 29), (Y.isa 9 6 rfl rfl)⟩ (tab_cons ⟨(Y.xc 6 16), (Y.isa 7 6 rfl rfl)⟩ (tab_cons ⟨(Y.xc 4 8), (Y.isa 5 6 rfl rfl)⟩ tab_nil))))))) (Y.free 0)) (VLs.cons (k := .all .z) (VO.isX (c := .ref (He.ga G.K "Alike")) (cv := .ref (He.ga G.K "Alike")) ([("Alike", true), ("NoKind", false), ("NoLine", false), ("NoName", false), ("NoTerm", false), ("Ring", false), ("Taken", false)] : List (Str × Bool)) (VO.var (i := 0)) (fun R a_ => pe_glob (a_.gl rfl) (Y.glo 31) rfl) (.own _) (tab_cons ⟨(Y.xc 16 31), (Y.isa 17 7 rfl rfl)⟩ (tab_cons ⟨(Y.xc 14 10), (Y.isa 15 7 rfl rfl)⟩ (tab_cons ⟨(Y.xc 12 30), (Y.isa 13 7 rfl rfl)⟩ (tab_cons ⟨(Y.xc 10 5), (Y.isa 11 7 rfl rfl)⟩ (tab_cons ⟨(Y.xc 8 29), (Y.isa 9 7 rfl rfl)⟩ (tab_cons ⟨(Y.xc 6 16), (Y.isa 7 7 rfl rfl)⟩ (tab_cons ⟨(Y.xc 4 8), (Y.isa 5 7 rfl rfl)⟩ tab_nil))))))) (Y.free 0)) (VLs.cons (k := .all .z) (VO.isX (c := .ref (He.ga G.K "NoBody")) (cv := .ref (He.ga G.K "NoBody")) ([("Alike", false), ("NoKind", false), ("NoLine", false), ("NoName", false), ("NoTerm", false), ("Ring", false), ("Taken", false)] : List (Str × Bool)) (VO.var (i := 0)) (fun R a_ => pe_glob (a_.gl rfl) (Y.glo 32) rfl) (.own _) (tab_cons ⟨(Y.xc 16 31), (Y.isa 17 8 rfl rfl)⟩ (tab_cons ⟨(Y.xc 14 10), (Y.isa 15 8 rfl rfl)⟩ (tab_cons ⟨(Y.xc 12 30), (Y.isa 13 8 rfl rfl)⟩ (tab_cons ⟨(Y.xc 10 5), (Y.isa 11 8 rfl rfl)⟩ (tab_cons ⟨(Y.xc 8 29), (Y.isa 9 8 rfl rfl)⟩ (tab_cons ⟨(Y.xc 6 16), (Y.isa 7 8 rfl rfl)⟩ (tab_cons ⟨(Y.xc 4 8), (Y.isa 5 8 rfl rfl)⟩ tab_nil))))))) (Y.free 0)) (VLs.nil (k := .all .z))))))))))) (VSs.cons (VS.set (i := 1) (m := .z) (VO.add (VO.vb (VO.var (i := 1))) (VO.vb (VO.frz (VO.lst (VLs.cons (k := .all .z) (VO.isX (c := .ref (He.ga G.K "TooMany")) (cv := .ref (He.ga G.K "TooMany")) ([("Alike", false), ("NoKind", false), ("NoLine", false), ("NoName", false), ("NoTerm", false), ("Ring", false), ("Taken", false)] : List (Str × Bool)) (VO.var (i := 0)) (fun R a_ => pe_glob (a_.gl rfl) (Y.glo 36) rfl) (.own _) (tab_cons ⟨(Y.xc 16 31), (Y.isa 17 9 rfl rfl)⟩ (tab_cons ⟨(Y.xc 14 10), (Y.isa 15 9 rfl rfl)⟩ (tab_cons ⟨(Y.xc 12 30), (Y.isa 13 9 rfl rfl)⟩ (tab_cons ⟨(Y.xc 10 5), (Y.isa 11 9 rfl rfl)⟩ (tab_cons ⟨(Y.xc 8 29), (Y.isa 9 9 rfl rfl)⟩ (tab_cons ⟨(Y.xc 6 16), (Y.isa 7 9 rfl rfl)⟩ (tab_cons ⟨(Y.xc 4 8), (Y.isa 5 9 rfl rfl)⟩ tab_nil))))))) (Y.free 0)) (VLs.cons (k := .all .z) (VO.isX (c := .ref (He.ga G.K "NoTerm")) (cv := .ref (He.ga G.K "NoTerm")) ([("Alike", false), ("NoKind", false), ("NoLine", false), ("NoName", false), ("NoTerm", true), ("Ring", false), ("Taken", false)] : List (Str × Bool)) (VO.var (i := 0)) (fun R a_ => pe_glob (a_.gl rfl) (Y.glo 29) rfl) (.own _) (tab_cons ⟨(Y.xc 16 31), (Y.isa 17 10 rfl rfl)⟩ (tab_cons ⟨(Y.xc 14 10), (Y.isa 15 10 rfl rfl)⟩ (tab_cons ⟨(Y.xc 12 30), (Y.isa 13 10 rfl rfl)⟩ (tab_cons ⟨(Y.xc 10 5), (Y.isa 11 10 rfl rfl)⟩ (tab_cons ⟨(Y.xc 8 29), (Y.isa 9 10 rfl rfl)⟩ (tab_cons ⟨(Y.xc 6 16), (Y.isa 7 10 rfl rfl)⟩ (tab_cons ⟨(Y.xc 4 8), (Y.isa 5 10 rfl rfl)⟩ tab_nil))))))) (Y.free 0)) (VLs.cons (k := .all .z) (VO.isX (c := .ref (He.ga G.K "Held")) (cv := .ref (He.ga G.K "Held")) ([("Alike", false), ("NoKind", false), ("NoLine", false), ("NoName", false), ("NoTerm", false), ("Ring", false), ("Taken", false)] : List (Str × Bool)) (VO.var (i := 0)) (fun R a_ => pe_glob (a_.gl rfl) (Y.glo 35) rfl) (.own _) (tab_cons ⟨(Y.xc 16 31), (Y.isa 17 11 rfl rfl)⟩ (tab_cons ⟨(Y.xc 14 10), (Y.isa 15 11 rfl rfl)⟩ (tab_cons ⟨(Y.xc 12 30), (Y.isa 13 11 rfl rfl)⟩ (tab_cons ⟨(Y.xc 10 5), (Y.isa 11 11 rfl rfl)⟩ (tab_cons ⟨(Y.xc 8 29), (Y.isa 9 11 rfl rfl)⟩ (tab_cons ⟨(Y.xc 6 16), (Y.isa 7 11 rfl rfl)⟩ (tab_cons ⟨(Y.xc 4 8), (Y.isa 5 11 rfl rfl)⟩ tab_nil))))))) (Y.free 0)) (VLs.cons (k := .all .z) (VO.isX (c := .ref (He.ga G.K "NoLine")) (cv := .ref (He.ga G.K "NoLine")) ([("Alike", false), ("NoKind", false), ("NoLine", true), ("NoName", false), ("NoTerm", false), ("Ring", false), ("Taken", false)] : List (Str × Bool)) (VO.var (i := 0)) (fun R a_ => pe_glob (a_.gl rfl) (Y.glo 30) rfl) (.own _) (tab_cons ⟨(Y.xc 16 31), (Y.isa 17 12 rfl rfl)⟩ (tab_cons ⟨(Y.xc 14 10), (Y.isa 15 12 rfl rfl)⟩ (tab_cons ⟨(Y.xc 12 30), (Y.isa 13 12 rfl rfl)⟩ (tab_cons ⟨(Y.xc 10 5), (Y.isa 11 12 rfl rfl)⟩ (tab_cons ⟨(Y.xc 8 29), (Y.isa 9 12 rfl rfl)⟩ (tab_cons ⟨(Y.xc 6 16), (Y.isa 7 12 rfl rfl)⟩ (tab_cons ⟨(Y.xc 4 8), (Y.isa 5 12 rfl rfl)⟩ tab_nil))))))) (Y.free 0)) (VLs.nil (k := .all .z))))))))))) (VSs.one (VS.ret (VO.add (VO.vb (VO.frz (VO.lcH (me := .z) [("_law_k", 2)] (VIX.rng VO.int (Y.free 27)) (VG.name (i := 2)) (VTs.one (VT.of (VO.itemA (VO.vb (VO.var (i := 1))) (VO.vb (VO.var (i := 2)))))) (VO.var (i := 2))))) (VO.vb (VO.frz (VO.mulL (VO.vb (VO.frz (VO.lst (VLs.cons (k := .all .z) VO.int (VLs.nil (k := .all .z)))))) (VO.vb (VO.intB (Y.free 38) (VA.cons (VO.vb (VO.and (VO.isX (c := .ref (He.ga G.K "FitError")) (cv := .ref (He.ga G.K "FitError")) ([("Alike", true), ("NoKind", true), ("NoLine", true), ("NoName", true), ("NoTerm", true), ("Ring", true), ("Taken", true)] : List (Str × Bool)) (VO.var (i := 0)) (fun R a_ => pe_glob (a_.gl rfl) (Y.glo 17) rfl) (.own _) (tab_cons ⟨(Y.xc 16 31), (Y.isa 17 0 rfl rfl)⟩ (tab_cons ⟨(Y.xc 14 10), (Y.isa 15 0 rfl rfl)⟩ (tab_cons ⟨(Y.xc 12 30), (Y.isa 13 0 rfl rfl)⟩ (tab_cons ⟨(Y.xc 10 5), (Y.isa 11 0 rfl rfl)⟩ (tab_cons ⟨(Y.xc 8 29), (Y.isa 9 0 rfl rfl)⟩ (tab_cons ⟨(Y.xc 6 16), (Y.isa 7 0 rfl rfl)⟩ (tab_cons ⟨(Y.xc 4 8), (Y.isa 5 0 rfl rfl)⟩ tab_nil))))))) (Y.free 0)) (VO.one (VO.isX (c := .ty "ValueError") (cv := .type "ValueError") ([("Alike", true), ("NoKind", true), ("NoLine", true), ("NoName", true), ("NoTerm", true), ("Ring", true), ("Taken", true)] : List (Str × Bool)) (VO.var (i := 0)) (fun R a_ => pe_bltn (v := .ty "ValueError") (a_.gl rfl) (Y.free 37) (by decide +kernel) rfl) (.ty _) (tab_cons ⟨(Y.xc 16 31), (Y.ve 24)⟩ (tab_cons ⟨(Y.xc 14 10), (Y.ve 23)⟩ (tab_cons ⟨(Y.xc 12 30), (Y.ve 22)⟩ (tab_cons ⟨(Y.xc 10 5), (Y.ve 21)⟩ (tab_cons ⟨(Y.xc 8 29), (Y.ve 20)⟩ (tab_cons ⟨(Y.xc 6 16), (Y.ve 19)⟩ (tab_cons ⟨(Y.xc 4 8), (Y.ve 18)⟩ tab_nil))))))) (Y.free 0))))) VA.nil))))))))))))
    (fun _ _ _ _ _ _ us hl => match us, hl with | [_], _ => rfl) sch__law_classes
noncomputable def F__law_classes : M D := fnRun [false] 2 (gSeq (gSet 1 .z (fLst (fCons (fIsX ([("Alike", false), ("NoKind", false), ("NoLine", false), ("NoName", true), ("NoTerm", false), ("Ring", false), ("Taken", false)] : List (Str × Bool)) (eVar 0)) (fCons (fIsX ([("Alike", false), ("NoKind", false), ("NoLine", false), ("NoName", false), ("NoTerm", false), ("Ring", false), ("Taken", true)] : List (Str × Bool)) (eVar 0)) (fCons (fIsX ([("Alike", false), ("NoKind", true), ("NoLine", false), ("NoName", false), ("NoTerm", false), ("Ring", false), ("Taken", false)] : List (Str × Bool)) (eVar 0)) (fCons (fIsX ([("Alike", false), ("NoKind", false), ("NoLine", false), ("NoName", false), ("NoTerm", false), ("Ring", true), ("Taken", false)] : List (Str × Bool)) (eVar 0)) fNil)))))) (gSeq (gSet 1 .z (fOp2 oAdd (eVar 1) (fLst (fCons (fIsX ([("Alike", false), ("NoKind", false), ("NoLine", false), ("NoName", false), ("NoTerm", false), ("Ring", false), ("Taken", false)] : List (Str × Bool)) (eVar 0)) (fCons (fIsX ([("Alike", false), ("NoKind", false), ("NoLine", false), ("NoName", false), ("NoTerm", false), ("Ring", false), ("Taken", false)] : List (Str × Bool)) (eVar 0)) (fCons (fIsX ([("Alike", true), ("NoKind", false), ("NoLine", false), ("NoName", false), ("NoTerm", false), ("Ring", false), ("Taken", false)] : List (Str × Bool)) (eVar 0)) (fCons (fIsX ([("Alike", false), ("NoKind", false), ("NoLine", false), ("NoName", false), ("NoTerm", false), ("Ring", false), ("Taken", false)] : List (Str × Bool)) (eVar 0)) fNil))))))) (gSeq (gSet 1 .z (fOp2 oAdd (eVar 1) (fLst (fCons (fIsX ([("Alike", false), ("NoKind", false), ("NoLine", false), ("NoName", false), ("NoTerm", false), ("Ring", false), ("Taken", false)] : List (Str × Bool)) (eVar 0)) (fCons (fIsX ([("Alike", false), ("NoKind", false), ("NoLine", false), ("NoName", false), ("NoTerm", true), ("Ring", false), ("Taken", false)] : List (Str × Bool)) (eVar 0)) (fCons (fIsX ([("Alike", false), ("NoKind", false), ("NoLine", false), ("NoName", false), ("NoTerm", false), ("Ring", false), ("Taken", false)] : List (Str × Bool)) (eVar 0)) (fCons (fIsX ([("Alike", false), ("NoKind", false), ("NoLine", true), ("NoName", false), ("NoTerm", false), ("Ring", false), ("Taken", false)] : List (Str × Bool)) (eVar 0)) fNil))))))) (gRet (fOp2 oAdd (fLc [2] (iRng (eC (.int 12))) (tName 2) (fB (fOp2 oIxA (eVar 1) (eVar 2))) (eVar 2)) (fOp2 oMulL (fLst (fCons (eC (.int 12)) fNil)) (fA oInt (fCons (fAnd (fIsX ([("Alike", true), ("NoKind", true), ("NoLine", true), ("NoName", true), ("NoTerm", true), ("Ring", true), ("Taken", true)] : List (Str × Bool)) (eVar 0)) (fIsX ([("Alike", true), ("NoKind", true), ("NoLine", true), ("NoName", true), ("NoTerm", true), ("Ring", true), ("Taken", true)] : List (Str × Bool)) (eVar 0))) fNil))))))))
theorem sc__law_classes : FnScope ["_law_e", "_law_some", "_law_k"] ["_law_e"] (defScope (top 28)) := ⟨rfl, rfl, rfl, by decide +kernel, rfl, by decide +kernel, by decide +kernel⟩
theorem ok__law_classes {G : GC} (Y : YeL G) : Fx G 1 "_law_classes" ["_law_e"] .z F__law_classes :=
  Fx.mk' Y 9 39 (d := q__law_classes) (k := 0) (N := ["_law_e", "_law_some", "_law_k"]) [false] 2
    (VSs.cons (VS.set (i := 1) (m := .z) (VO.frz (VO.lst (VLs.cons (k := .all .z) (VO.isX (c := .ref (He.ga G.K "NoName")) (cv := .ref (He.ga G.K "NoName")) ([("Alike", false), ("NoKind", false), ("NoLine", false), ("NoName", true), ("NoTerm", false), ("Ring", false), ("Taken", false)] : List (Str × Bool)) (VO.var (i := 0)) (fun R a_ => pe_glob (a_.gl rfl) (Y.glo 5) rfl) (.own _) (tab_cons ⟨(Y.xc 16 31), (Y.isa 17 1 rfl rfl)⟩ (tab_cons ⟨(Y.xc 14 10), (Y.isa 15 1 rfl rfl)⟩ (tab_cons ⟨(Y.xc 12 30), (Y.isa 13 1 rfl rfl)⟩ (tab_cons ⟨(Y.xc 10 5), (Y.isa 11 1 rfl rfl)⟩ (tab_cons ⟨(Y.xc 8 29), (Y.isa 9 1 rfl rfl)⟩ (tab_cons ⟨(Y.xc 6 16), (Y.isa 7 1 rfl rfl)⟩ (tab_cons ⟨(Y.xc 4 8), (Y.isa 5 1 rfl rfl)⟩ tab_nil))))))) (Y.free 0)) (VLs.cons (k := .all .z) (VO.isX (c := .ref (He.ga G.K "Taken")) (cv := .ref (He.ga G.K "Taken")) ([("Alike", false), ("NoKind", false), ("NoLine", false), ("NoName", false), ("NoTerm", false), ("Ring", false), ("Taken", true)] : List (Str × Bool)) (VO.var (i := 0)) (fun R a_ => pe_glob (a_.gl rfl) (Y.glo 8) rfl) (.own _) (tab_cons ⟨(Y.xc 16 31), (Y.isa 17 2 rfl rfl)⟩ (tab_cons ⟨(Y.xc 14 10), (Y.isa 15 2 rfl rfl)⟩ (tab_cons ⟨(Y.xc 12 30), (Y.isa 13 2 rfl rfl)⟩ (tab_cons ⟨(Y.xc 10 5), (Y.isa 11 2 rfl rfl)⟩ (tab_cons ⟨(Y.xc 8 29), (Y.isa 9 2 rfl rfl)⟩ (tab_cons ⟨(Y.xc 6 16), (Y.isa 7 2 rfl rfl)⟩ (tab_cons ⟨(Y.xc 4 8), (Y.isa 5 2 rfl rfl)⟩ tab_nil))))))) (Y.free 0)) (VLs.cons (k := .all .z) (VO.isX (c := .ref (He.ga G.K "NoKind")) (cv := .ref (He.ga G.K "NoKind")) ([("Alike", false), ("NoKind", true), ("NoLine", false), ("NoName", false), ("NoTerm", false), ("Ring", false), ("Taken", false)] : List (Str × Bool)) (VO.var (i := 0)) (fun R a_ => pe_glob (a_.gl rfl) (Y.glo 10) rfl) (.own _) (tab_cons ⟨(Y.xc 16 31), (Y.isa 17 3 rfl rfl)⟩ (tab_cons ⟨(Y.xc 14 10), (Y.isa 15 3 rfl rfl)⟩ (tab_cons ⟨(Y.xc 12 30), (Y.isa 13 3 rfl rfl)⟩ (tab_cons ⟨(Y.xc 10 5), (Y.isa 11 3 rfl rfl)⟩ (tab_cons ⟨(Y.xc 8 29), (Y.isa 9 3 rfl rfl)⟩ (tab_cons ⟨(Y.xc 6 16), (Y.isa 7 3 rfl rfl)⟩ (tab_cons ⟨(Y.xc 4 8), (Y.isa 5 3 rfl rfl)⟩ tab_nil))))))) (Y.free 0)) (VLs.cons (k := .all .z) (VO.isX (c := .ref (He.ga G.K "Ring")) (cv := .ref (He.ga G.K "Ring")) ([("Alike", false), ("NoKind", false), ("NoLine", false), ("NoName", false), ("NoTerm", false), ("Ring", true), ("Taken", false)] : List (Str × Bool)) (VO.var (i := 0)) (fun R a_ => pe_glob (a_.gl rfl) (Y.glo 16) rfl) (.own _) (tab_cons ⟨(Y.xc 16 31), (Y.isa 17 4 rfl rfl)⟩ (tab_cons ⟨(Y.xc 14 10), (Y.isa 15 4 rfl rfl)⟩ (tab_cons ⟨(Y.xc 12 30), (Y.isa 13 4 rfl rfl)⟩ (tab_cons ⟨(Y.xc 10 5), (Y.isa 11 4 rfl rfl)⟩ (tab_cons ⟨(Y.xc 8 29), (Y.isa 9 4 rfl rfl)⟩ (tab_cons ⟨(Y.xc 6 16), (Y.isa 7 4 rfl rfl)⟩ (tab_cons ⟨(Y.xc 4 8), (Y.isa 5 4 rfl rfl)⟩ tab_nil))))))) (Y.free 0)) (VLs.nil (k := .all .z))))))))) (VSs.cons (VS.set (i := 1) (m := .z) (VO.add (VO.vb (VO.var (i := 1))) (VO.vb (VO.frz (VO.lst (VLs.cons (k := .all .z) (VO.isX (c := .ref (He.ga G.K "NoText")) (cv := .ref (He.ga G.K "NoText")) ([("Alike", false), ("NoKind", false), ("NoLine", false), ("NoName", false), ("NoTerm", false), ("Ring", false), ("Taken", false)] : List (Str × Bool)) (VO.var (i := 0)) (fun R a_ => pe_glob (a_.gl rfl) (Y.glo 34) rfl) (.own _) (tab_cons ⟨(Y.xc 16 31), (Y.isa 17 5 rfl rfl)⟩ (tab_cons ⟨(Y.xc 14 10), (Y.isa 15 5 rfl rfl)⟩ (tab_cons ⟨(Y.xc 12 30), (Y.isa 13 5 rfl rfl)⟩ (tab_cons ⟨(Y.xc 10 5), (Y.isa 11 5 rfl rfl)⟩ (tab_cons ⟨(Y.xc 8 29), (Y.isa 9 5 rfl rfl)⟩ (tab_cons ⟨(Y.xc 6 16), (Y.isa 7 5 rfl rfl)⟩ (tab_cons ⟨(Y.xc 4 8), (Y.isa 5 5 rfl rfl)⟩ tab_nil))))))) (Y.free 0)) (VLs.cons (k := .all .z) (VO.isX (c := .ref (He.ga G.K "NoPlaces")) (cv := .ref (He.ga G.K "NoPlaces")) ([("Alike", false), ("NoKind", false), ("NoLine", false), ("NoName", false), ("NoTerm", false), ("Ring", false), ("Taken", false)] : List (Str × Bool)) (VO.var (i := 0)) (fun R a_ => pe_glob (a_.gl rfl) (Y.glo 33) rfl) (.own _) (tab_cons ⟨(Y.xc 16 31), (Y.isa 17 6 rfl rfl)⟩ (tab_cons ⟨(Y.xc 14 10), (Y.isa 15 6 rfl rfl)⟩ (tab_cons ⟨(Y.xc 12 30), (Y.isa 13 6 rfl rfl)⟩ (tab_cons ⟨(Y.xc 10 5), (Y.isa 11 6 rfl rfl)⟩ (tab_cons ⟨(Y.xc 8 29), (Y.isa 9 6 rfl rfl)⟩ (tab_cons ⟨(Y.xc 6 16), (Y.isa 7 6 rfl rfl)⟩ (tab_cons ⟨(Y.xc 4 8), (Y.isa 5 6 rfl rfl)⟩ tab_nil))))))) (Y.free 0)) (VLs.cons (k := .all .z) (VO.isX (c := .ref (He.ga G.K "Alike")) (cv := .ref (He.ga G.K "Alike")) ([("Alike", true), ("NoKind", false), ("NoLine", false), ("NoName", false), ("NoTerm", false), ("Ring", false), ("Taken", false)] : List (Str × Bool)) (VO.var (i := 0)) (fun R a_ => pe_glob (a_.gl rfl) (Y.glo 31) rfl) (.own _) (tab_cons ⟨(Y.xc 16 31), (Y.isa 17 7 rfl rfl)⟩ (tab_cons ⟨(Y.xc 14 10), (Y.isa 15 7 rfl rfl)⟩ (tab_cons ⟨(Y.xc 12 30), (Y.isa 13 7 rfl rfl)⟩ (tab_cons ⟨(Y.xc 10 5), (Y.isa 11 7 rfl rfl)⟩ (tab_cons ⟨(Y.xc 8 29), (Y.isa 9 7 rfl rfl)⟩ (tab_cons ⟨(Y.xc 6 16), (Y.isa 7 7 rfl rfl)⟩ (tab_cons ⟨(Y.xc 4 8), (Y.isa 5 7 rfl rfl)⟩ tab_nil))))))) (Y.free 0)) (VLs.cons (k := .all .z) (VO.isX (c := .ref (He.ga G.K "NoBody")) (cv := .ref (He.ga G.K "NoBody")) ([("Alike", false), ("NoKind", false), ("NoLine", false), ("NoName", false), ("NoTerm", false), ("Ring", false), ("Taken", false)] : List (Str × Bool)) (VO.var (i := 0)) (fun R a_ => pe_glob (a_.gl rfl) (Y.glo 32) rfl) (.own _) (tab_cons ⟨(Y.xc 16 31), (Y.isa 17 8 rfl rfl)⟩ (tab_cons ⟨(Y.xc 14 10), (Y.isa 15 8 rfl rfl)⟩ (tab_cons ⟨(Y.xc 12 30), (Y.isa 13 8 rfl rfl)⟩ (tab_cons ⟨(Y.xc 10 5), (Y.isa 11 8 rfl rfl)⟩ (tab_cons ⟨(Y.xc 8 29), (Y.isa 9 8 rfl rfl)⟩ (tab_cons ⟨(Y.xc 6 16), (Y.isa 7 8 rfl rfl)⟩ (tab_cons ⟨(Y.xc 4 8), (Y.isa 5 8 rfl rfl)⟩ tab_nil))))))) (Y.free 0)) (VLs.nil (k := .all .z))))))))))) (VSs.cons (VS.set (i := 1) (m := .z) (VO.add (VO.vb (VO.var (i := 1))) (VO.vb (VO.frz (VO.lst (VLs.cons (k := .all .z) (VO.isX (c := .ref (He.ga G.K "TooMany")) (cv := .ref (He.ga G.K "TooMany")) ([("Alike", false), ("NoKind", false), ("NoLine", false), ("NoName", false), ("NoTerm", false), ("Ring", false), ("Taken", false)] : List (Str × Bool)) (VO.var (i := 0)) (fun R a_ => pe_glob (a_.gl rfl) (Y.glo 36) rfl) (.own _) (tab_cons ⟨(Y.xc 16 31), (Y.isa 17 9 rfl rfl)⟩ (tab_cons ⟨(Y.xc 14 10), (Y.isa 15 9 rfl rfl)⟩ (tab_cons ⟨(Y.xc 12 30), (Y.isa 13 9 rfl rfl)⟩ (tab_cons ⟨(Y.xc 10 5), (Y.isa 11 9 rfl rfl)⟩ (tab_cons ⟨(Y.xc 8 29), (Y.isa 9 9 rfl rfl)⟩ (tab_cons ⟨(Y.xc 6 16), (Y.isa 7 9 rfl rfl)⟩ (tab_cons ⟨(Y.xc 4 8), (Y.isa 5 9 rfl rfl)⟩ tab_nil))))))) (Y.free 0)) (VLs.cons (k := .all .z) (VO.isX (c := .ref (He.ga G.K "NoTerm")) (cv := .ref (He.ga G.K "NoTerm")) ([("Alike", false), ("NoKind", false), ("NoLine", false), ("NoName", false), ("NoTerm", true), ("Ring", false), ("Taken", false)] : List (Str × Bool)) (VO.var (i := 0)) (fun R a_ => pe_glob (a_.gl rfl) (Y.glo 29) rfl) (.own _) (tab_cons ⟨(Y.xc 16 31), (Y.isa 17 10 rfl rfl)⟩ (tab_cons ⟨(Y.xc 14 10), (Y.isa 15 10 rfl rfl)⟩ (tab_cons ⟨(Y.xc 12 30), (Y.isa 13 10 rfl rfl)⟩ (tab_cons ⟨(Y.xc 10 5), (Y.isa 11 10 rfl rfl)⟩ (tab_cons ⟨(Y.xc 8 29), (Y.isa 9 10 rfl rfl)⟩ (tab_cons ⟨(Y.xc 6 16), (Y.isa 7 10 rfl rfl)⟩ (tab_cons ⟨(Y.xc 4 8), (Y.isa 5 10 rfl rfl)⟩ tab_nil))))))) (Y.free 0)) (VLs.cons (k := .all .z) (VO.isX (c := .ref (He.ga G.K "Held")) (cv := .ref (He.ga G.K "Held")) ([("Alike", false), ("NoKind", false), ("NoLine", false), ("NoName", false), ("NoTerm", false), ("Ring", false), ("Taken", false)] : List (Str × Bool)) (VO.var (i := 0)) (fun R a_ => pe_glob (a_.gl rfl) (Y.glo 35) rfl) (.own _) (tab_cons ⟨(Y.xc 16 31), (Y.isa 17 11 rfl rfl)⟩ (tab_cons ⟨(Y.xc 14 10), (Y.isa 15 11 rfl rfl)⟩ (tab_cons ⟨(Y.xc 12 30), (Y.isa 13 11 rfl rfl)⟩ (tab_cons ⟨(Y.xc 10 5), (Y.isa 11 11 rfl rfl)⟩ (tab_cons ⟨(Y.xc 8 29), (Y.isa 9 11 rfl rfl)⟩ (tab_cons ⟨(Y.xc 6 16), (Y.isa 7 11 rfl rfl)⟩ (tab_cons ⟨(Y.xc 4 8), (Y.isa 5 11 rfl rfl)⟩ tab_nil))))))) (Y.free 0)) (VLs.cons (k := .all .z) (VO.isX (c := .ref (He.ga G.K "NoLine")) (cv := .ref (He.ga G.K "NoLine")) ([("Alike", false), ("NoKind", false), ("NoLine", true), ("NoName", false), ("NoTerm", false), ("Ring", false), ("Taken", false)] : List (Str × Bool)) (VO.var (i := 0)) (fun R a_ => pe_glob (a_.gl rfl) (Y.glo 30) rfl) (.own _) (tab_cons ⟨(Y.xc 16 31), (Y.isa 17 12 rfl rfl)⟩ (tab_cons ⟨(Y.xc 14 10), (Y.isa 15 12 rfl rfl)⟩ (tab_cons ⟨(Y.xc 12 30), (Y.isa 13 12 rfl rfl)⟩ (tab_cons ⟨(Y.xc 10 5), (Y.isa 11 12 rfl rfl)⟩ (tab_cons ⟨(Y.xc 8 29), (Y.isa 9 12 rfl rfl)⟩ (tab_cons ⟨(Y.xc 6 16), (Y.isa 7 12 rfl rfl)⟩ (tab_cons ⟨(Y.xc 4 8), (Y.isa 5 12 rfl rfl)⟩ tab_nil))))))) (Y.free 0)) (VLs.nil (k := .all .z))))))))))) (VSs.one (VS.ret (VO.add (VO.vb (VO.frz (VO.lc (me := .z) [("_law_k", 2)] (VI.rng VO.int (Y.free 27)) (VG.name (i := 2)) (VTs.one (VT.of (VO.itemA (VO.vb (VO.var (i := 1))) (VO.vb (VO.var (i := 2)))))) (VO.var (i := 2))))) (VO.vb (VO.frz (VO.mulL (VO.vb (VO.frz (VO.lst (VLs.cons (k := .all .z) VO.int (VLs.nil (k := .all .z)))))) (VO.vb (VO.intB (Y.free 38) (VA.cons (VO.vb (VO.and (VO.isX (c := .ref (He.ga G.K "FitError")) (cv := .ref (He.ga G.K "FitError")) ([("Alike", true), ("NoKind", true), ("NoLine", true), ("NoName", true), ("NoTerm", true), ("Ring", true), ("Taken", true)] : List (Str × Bool)) (VO.var (i := 0)) (fun R a_ => pe_glob (a_.gl rfl) (Y.glo 17) rfl) (.own _) (tab_cons ⟨(Y.xc 16 31), (Y.isa 17 0 rfl rfl)⟩ (tab_cons ⟨(Y.xc 14 10), (Y.isa 15 0 rfl rfl)⟩ (tab_cons ⟨(Y.xc 12 30), (Y.isa 13 0 rfl rfl)⟩ (tab_cons ⟨(Y.xc 10 5), (Y.isa 11 0 rfl rfl)⟩ (tab_cons ⟨(Y.xc 8 29), (Y.isa 9 0 rfl rfl)⟩ (tab_cons ⟨(Y.xc 6 16), (Y.isa 7 0 rfl rfl)⟩ (tab_cons ⟨(Y.xc 4 8), (Y.isa 5 0 rfl rfl)⟩ tab_nil))))))) (Y.free 0)) (VO.one (VO.isX (c := .ty "ValueError") (cv := .type "ValueError") ([("Alike", true), ("NoKind", true), ("NoLine", true), ("NoName", true), ("NoTerm", true), ("Ring", true), ("Taken", true)] : List (Str × Bool)) (VO.var (i := 0)) (fun R a_ => pe_bltn (v := .ty "ValueError") (a_.gl rfl) (Y.free 37) (by decide +kernel) rfl) (.ty _) (tab_cons ⟨(Y.xc 16 31), (Y.ve 24)⟩ (tab_cons ⟨(Y.xc 14 10), (Y.ve 23)⟩ (tab_cons ⟨(Y.xc 12 30), (Y.ve 22)⟩ (tab_cons ⟨(Y.xc 10 5), (Y.ve 21)⟩ (tab_cons ⟨(Y.xc 8 29), (Y.ve 20)⟩ (tab_cons ⟨(Y.xc 6 16), (Y.ve 19)⟩ (tab_cons ⟨(Y.xc 4 8), (Y.ve 18)⟩ tab_nil))))))) (Y.free 0))))) VA.nil))))))))))))
    (fun _ _ _ _ _ _ us hl => match us, hl with | [_], _ => rfl) sc__law_classes
noncomputable def F__law_refused : M D := fnRun [false] 2 (gSeq (gSet 1 .z (fLst fNil)) (gSeq (gTry (fun n => ([("Alike", true), ("NoKind", true), ("NoLine", true), ("NoName", true), ("NoTerm", true), ("Ring", true), ("Taken", true)] : List (Str × Bool)).lookup n) 2 (gDo (fMake "Web" F_Web___init__ [none] (fCons (eVar 0) fNil))) (gSet 1 .z (fCallH FH__law_classes [none] (fCons (eVar 2) fNil)))) (gRet (eVar 1))))
theorem sc__law_refused : FnScope ["_law_tuples", "_law_found", "_law_e"] ["_law_tuples"] (defScope (top 29)) := ⟨rfl, rfl, rfl, by decide +kernel, rfl, by decide +kernel, by decide +kernel⟩
theorem ok__law_refused {G : GC} (Y : YeL G) : Fx G 6 "_law_refused" ["_law_tuples"] .z F__law_refused :=
  Fx.mk' Y 10 47 (d := q__law_refused) (k := 5) (N := ["_law_tuples", "_law_found", "_law_e"]) [false] 2
    (VSs.cons (VS.set (i := 1) (m := .z) (VO.frz (VO.lst (VLs.nil (k := .all .z))))) (VSs.cons (VS.tryT (i := 2) ([("Alike", true), ("NoKind", true), ("NoLine", true), ("NoName", true), ("NoTerm", true), ("Ring", true), ("Taken", true)] : List (Str × Bool)) (VSs.one (VS.expr (VO.make (ok_Web___init__ Y) (VM.frz (VO.var (i := 0)) VM.nil)))) (fun a => (VSs.one (VS.set (i := 1) (m := .z) (VO.callH (okh__law_classes (Y.hot a)) (VM.frz (VO.var (i := 2)) VM.nil))))) (tab_cons ⟨Y.glo 31, Y.exm 46⟩ (tab_cons ⟨Y.glo 10, Y.exm 45⟩ (tab_cons ⟨Y.glo 30, Y.exm 44⟩ (tab_cons ⟨Y.glo 5, Y.exm 43⟩ (tab_cons ⟨Y.glo 29, Y.exm 42⟩ (tab_cons ⟨Y.glo 16, Y.exm 41⟩ (tab_cons ⟨Y.glo 8, Y.exm 40⟩ tab_nil))))))) (Y.glo 17)) (VSs.one (VS.ret (VO.var (i := 1))))))
    (fun _ _ _ _ _ _ us hl => match us, hl with | [_], _ => rfl) sc__law_refused
noncomputable def F__law_made : M D := fnRun [false, false, false, false] 2 (gSeq (gSet 4 m1 (fA oListA (fCons (eVar 0) fNil))) (gSeq (gSet 5 .z (fMkF "Ring" 0 ["ring"] fs_RingL [some 4] (lentA 4 fNil))) (gSeq (gMt 4 .z appO (eC (.str [122, 122]))) (gSeq (fIf (fOr (fB (fOp2 oNe (fXf ["Ring"] "ring" (eVar 5)) (eVar 0))) (fOr (fNot (fB (fIsi .list (fXf ["Ring"] "ring" (eVar 5))))) (fB (fOp2 oNe (fCall F__law_classes [none] (fCons (eVar 5) fNil)) (fLst (fCons (eC (.int 3)) (fCons (eC (.int 12)) fNil))))))) (gRet (eC (.bl false))) gNx) (gSeq (gSet 5 .z (fMkF "Alike" 0 ["one", "other"] fs_Alike [none, none] (fCons (eVar 1) (fCons (eVar 2) fNil)))) (gSeq (fIf (fOr (fB (fOp2 oNe (fXf ["Alike"] "one" (eVar 5)) (eVar 1))) (fOr (fB (fOp2 oNe (fXf ["Alike"] "other" (eVar 5)) (eVar 2))) (fB (fOp2 oNe (fCall F__law_classes [none] (fCons (eVar 5) fNil)) (fLst (fCons (eC (.int 6)) (fCons (eC (.int 12)) fNil))))))) (gRet (eC (.bl false))) gNx) (gSeq (gSet 5 .z (fMkF "NoTerm" 0 ["function", "body"] fs_NoTerm [none, none] (fCons (eVar 1) (fCons (eVar 2) fNil)))) (gSeq (fIf (fOr (fB (fOp2 oNe (fXf ["NoTerm"] "function" (eVar 5)) (eVar 1))) (fOr (fB (fOp2 oNe (fXf ["NoTerm"] "body" (eVar 5)) (eVar 2))) (fB (fOp2 oNe (fCall F__law_classes [none] (fCons (eVar 5) fNil)) (fLst (fCons (eC (.int 9)) (fCons (eC (.int 12)) fNil))))))) (gRet (eC (.bl false))) gNx) (gSeq (gSet 5 .z (fMkF "NoLine" 0 ["line"] fs_NoLine [none] (fCons (eVar 3) fNil))) (gRet (fAnd (fOp2 oEq (fXf ["NoLine"] "line" (eVar 5)) (eVar 3)) (fAnd (fNot (fIsi .bool (fXf ["NoLine"] "line" (eVar 5)))) (fOp2 oEq (fCall F__law_classes [none] (fCons (eVar 5) fNil)) (fLst (fCons (eC (.int 11)) (fCons (eC (.int 12)) fNil))))))))))))))))
theorem sc__law_made : FnScope ["_law_ring", "_law_one", "_law_other", "_law_number", "_law_handed", "_law_refusal"] ["_law_ring", "_law_one", "_law_other", "_law_number"] (defScope (top 30)) := ⟨rfl, rfl, rfl, by decide +kernel, rfl, by decide +kernel, by decide +kernel⟩
theorem ok__law_made {G : GC} (Y : YeL G) : Fx G 3 "_law_made" ["_law_ring", "_law_one", "_law_other", "_law_number"] .z F__law_made :=
  Fx.mk' Y 11 49 (d := q__law_made) (k := 2) (N := ["_law_ring", "_law_one", "_law_other", "_law_number", "_law_handed", "_law_refusal"]) [false, false, false, false] 2
    (VSs.cons (VS.set (i := 4) (m := m1) (VO.listA (Y.free 13) (VA.cons (VO.vb (VO.var (i := 0))) VA.nil))) (VSs.cons (VS.set (i := 5) (m := .z) (VO.mkFL (ok_RingL___init__ Y) (VM.lent (i := 4) VM.nil))) (VSs.cons (VS.app (i := 4) (me := .z) (VO.str (s := [122, 122]))) (VSs.cons (VS.ite (VW.pt (VW.or (VT.cp Cm.ne (VO.vb (VO.xfld ["Ring"] (VO.var (i := 5)) (ht_cons ⟨(Y.xc 6 16), (Y.oex 3).no _ (by decide)⟩ ht_nil))) (VO.vb (VO.var (i := 0)))) (VW.or (VT.not (VT.of (VO.isi .list (Y.free 0) (Y.free 13) (VO.vb (VO.xfld ["Ring"] (VO.var (i := 5)) (ht_cons ⟨(Y.xc 6 16), (Y.oex 3).no _ (by decide)⟩ ht_nil)))))) (VW.or1 (VT.cp Cm.ne (VO.vb (VO.callX (ok__law_classes Y) (VM.frz (VO.var (i := 5)) VM.nil))) (VO.vb (VO.frz (VO.lst (VLs.cons (k := .all .z) VO.int (VLs.cons (k := .all .z) VO.int (VLs.nil (k := .all .z)))))))))))) (VSs.one (VS.ret VO.bl)) VSs.nil) (VSs.cons (VS.set (i := 5) (m := .z) (VO.mkFL (ok_Alike___init__ Y) (VM.frz (VO.var (i := 1)) (VM.frz (VO.var (i := 2)) VM.nil)))) (VSs.cons (VS.ite (VW.pt (VW.or (VT.cp Cm.ne (VO.vb (VO.xfld ["Alike"] (VO.var (i := 5)) (ht_cons ⟨(Y.xc 16 31), (Y.oex 25).no _ (by decide)⟩ ht_nil))) (VO.vb (VO.var (i := 1)))) (VW.or (VT.cp Cm.ne (VO.vb (VO.xfld ["Alike"] (VO.var (i := 5)) (ht_cons ⟨(Y.xc 16 31), (Y.oex 25).no _ (by decide)⟩ ht_nil))) (VO.vb (VO.var (i := 2)))) (VW.or1 (VT.cp Cm.ne (VO.vb (VO.callX (ok__law_classes Y) (VM.frz (VO.var (i := 5)) VM.nil))) (VO.vb (VO.frz (VO.lst (VLs.cons (k := .all .z) VO.int (VLs.cons (k := .all .z) VO.int (VLs.nil (k := .all .z)))))))))))) (VSs.one (VS.ret VO.bl)) VSs.nil) (VSs.cons (VS.set (i := 5) (m := .z) (VO.mkFL (ok_NoTerm___init__ Y) (VM.frz (VO.var (i := 1)) (VM.frz (VO.var (i := 2)) VM.nil)))) (VSs.cons (VS.ite (VW.pt (VW.or (VT.cp Cm.ne (VO.vb (VO.xfld ["NoTerm"] (VO.var (i := 5)) (ht_cons ⟨(Y.xc 8 29), (Y.oex 27).no _ (by decide)⟩ ht_nil))) (VO.vb (VO.var (i := 1)))) (VW.or (VT.cp Cm.ne (VO.vb (VO.xfld ["NoTerm"] (VO.var (i := 5)) (ht_cons ⟨(Y.xc 8 29), (Y.oex 27).no _ (by decide)⟩ ht_nil))) (VO.vb (VO.var (i := 2)))) (VW.or1 (VT.cp Cm.ne (VO.vb (VO.callX (ok__law_classes Y) (VM.frz (VO.var (i := 5)) VM.nil))) (VO.vb (VO.frz (VO.lst (VLs.cons (k := .all .z) VO.int (VLs.cons (k := .all .z) VO.int (VLs.nil (k := .all .z)))))))))))) (VSs.one (VS.ret VO.bl)) VSs.nil) (VSs.cons (VS.set (i := 5) (m := .z) (VO.mkFL (ok_NoLine___init__ Y) (VM.frz (VO.var (i := 3)) VM.nil))) (VSs.one (VS.ret (VO.and (VO.cp Cm.eq (VO.vb (VO.xfld ["NoLine"] (VO.var (i := 5)) (ht_cons ⟨(Y.xc 12 30), (Y.oex 26).no _ (by decide)⟩ ht_nil))) (VO.vb (VO.var (i := 3)))) (VO.and (VO.not (VO.isi .bool (Y.free 0) (Y.free 48) (VO.vb (VO.xfld ["NoLine"] (VO.var (i := 5)) (ht_cons ⟨(Y.xc 12 30), (Y.oex 26).no _ (by decide)⟩ ht_nil))))) (VO.one (VO.cp Cm.eq (VO.vb (VO.callX (ok__law_classes Y) (VM.frz (VO.var (i := 5)) VM.nil))) (VO.vb (VO.frz (VO.lst (VLs.cons (k := .all .z) VO.int (VLs.cons (k := .all .z) VO.int (VLs.nil (k := .all .z))))))))))))))))))))))
    (fun _ _ _ _ _ _ us hl => match us, hl with | [_, _, _, _], _ => rfl) sc__law_made
noncomputable def E_law_1 : M D := (fCall F__law_word [none] (fCons (fCall F__law_pick [none, none] (fCons (eVar 0) (fCons (fOp2 oAdd (eC (.int 3)) (eVar 7)) fNil))) fNil))
theorem E_law_1_ap (s0 : Sl) (r : En) : E_law_1 (s0 :: r) = (fCall F__law_word [none] (fCons (fCall F__law_pick [none, none] (fCons (eVar 0) (fCons (fOp2 oAdd (eC (.int 3)) (eVar 7)) fNil))) fNil)) (s0 :: r) := rfl
noncomputable def F_law : M D := fnRun [false] 8 (gSeq (gSet 1 .z (fCall F__law_word [none] (fCons (fCall F__law_pick [none, none] (fCons (eVar 0) (fCons (eC (.int 1)) fNil))) fNil))) (gSeq (gSet 2 .z (fCall F__law_word [none] (fCons (fCall F__law_pick [none, none] (fCons (eVar 0) (fCons (eC (.int 2)) fNil))) fNil))) (gSeq (gSet 3 .z (fOp2 oMod (fOp2 oFdiv (fCall F__law_pick [none, none] (fCons (eVar 0) (fCons (eC (.int 0)) fNil))) (eC (.int 8))) (eC (.int 2001)))) (gSeq (gSet 4 .z (fLc [7] (iRng (fOp2 oAdd (eC (.int 1)) (fOp2 oMod (fCall F__law_pick [none, none] (fCons (eVar 0) (fCons (eC (.int 0)) fNil))) (eC (.int 8))))) (tName 7) ftY E_law_1)) (gSeq (fIf (fNot (fB (fCall F__law_made [none, none, none, none] (fCons (eVar 4) (fCons (eVar 1) (fCons (eVar 2) (fCons (eVar 3) fNil))))))) (gRet (eC (.bl false))) gNx) (gSeq (gSet 5 .z (fOp2 oIxA (fLst (fCons (eC (.str t_zebra)) (fCons (eC (.str t_yak)) fNil))) (fA oInt (fCons (fOp2 oEq (eVar 1) (eC (.str t_zebra))) fNil)))) (gSeq (gSet 6 .z (fLst (fCons (fLst (fCons (fTup (fCons (eC (.str t_new)) (fCons (fLst fNil) fNil))) fNil)) (fCons (fLst (fCons (fTup (fCons (eVar 1) (fCons (fLst fNil) fNil))) (fCons (fTup (fCons (eVar 1) (fCons (fLst fNil) fNil))) fNil))) (fCons (fLst (fCons (fTup (fCons (eVar 1) (fCons (fLst (fCons (eVar 5) fNil)) fNil))) fNil)) (fCons (fLst (fCons (fTup (fCons (eVar 1) (fCons (fLst (fCons (eVar 1) fNil)) fNil))) fNil)) fNil)))))) (gRet (fOp2 oEq (fLc [8] (iAny (eVar 6)) (tName 8) ftY (fCall F__law_refused [none] (fCons (eVar 8) fNil))) (fLst (fCons (fLst (fCons (eC (.int 0)) (fCons (eC (.int 12)) fNil))) (fCons (fLst (fCons (eC (.int 1)) (fCons (eC (.int 12)) fNil))) (fCons (fLst (fCons (eC (.int 2)) (fCons (eC (.int 12)) fNil))) (fCons (fLst (fCons (eC (.int 3)) (fCons (eC (.int 12)) fNil))) fNil))))))))))))))
theorem sc_law : FnScope ["_law_script", "_law_one", "_law_other", "_law_number", "_law_ring", "_law_missing", "_law_bad", "_law_k", "_law_tuples"] ["_law_script"] (defScope (top 31)) := ⟨rfl, rfl, rfl, by decide +kernel, rfl, by decide +kernel, by decide +kernel⟩
theorem ok_law {G : GC} (Y : YeL G) : Fx G 7 "law" ["_law_script"] .z F_law :=
  Fx.mk' Y 12 50 (d := q_law) (k := 6) (N := ["_law_script", "_law_one", "_law_other", "_law_number", "_law_ring", "_law_missing", "_law_bad", "_law_k", "_law_tuples"]) [false] 8
    (VSs.cons (VS.set (i := 1) (m := .z) (VO.callX (ok__law_word Y) (VM.frz (VO.callX (ok__law_pick Y) (VM.frz (VO.var (i := 0)) (VM.frz VO.int VM.nil))) VM.nil))) (VSs.cons (VS.set (i := 2) (m := .z) (VO.callX (ok__law_word Y) (VM.frz (VO.callX (ok__law_pick Y) (VM.frz (VO.var (i := 0)) (VM.frz VO.int VM.nil))) VM.nil))) (VSs.cons (VS.set (i := 3) (m := .z) (VO.mod (VO.vb (VO.fdiv (VO.vb (VO.callX (ok__law_pick Y) (VM.frz (VO.var (i := 0)) (VM.frz VO.int VM.nil)))) (VO.vb VO.int))) (VO.vb VO.int))) (VSs.cons (VS.setLcZ (i := 4) (me := .z) [("_law_k", 7)] (VI.rng (VO.add (VO.vb VO.int) (VO.vb (VO.mod (VO.vb (VO.callX (ok__law_pick Y) (VM.frz (VO.var (i := 0)) (VM.frz VO.int VM.nil)))) (VO.vb VO.int)))) (Y.free 27)) (VG.name (i := 7)) VTs.nil (VO.callX (ok__law_word Y) (VM.frz (VO.callX (ok__law_pick Y) (VM.frz (VO.var (i := 0)) (VM.frz (VO.add (VO.vb VO.int) (VO.vb (VO.var (i := 7)))) VM.nil))) VM.nil))) (VSs.cons (VS.ite (VT.not (VT.of (VO.callX (ok__law_made Y) (VM.frz (VO.var (i := 4)) (VM.frz (VO.var (i := 1)) (VM.frz (VO.var (i := 2)) (VM.frz (VO.var (i := 3)) VM.nil))))))) (VSs.one (VS.ret VO.bl)) VSs.nil) (VSs.cons (VS.set (i := 5) (m := .z) (VO.itemA (VO.vb (VO.frz (VO.lst (VLs.cons (k := .all .z) (VO.str (s := t_zebra)) (VLs.cons (k := .all .z) (VO.str (s := t_yak)) (VLs.nil (k := .all .z))))))) (VO.vb (VO.intB (Y.free 38) (VA.cons (VO.vb (VO.cp Cm.eq (VO.vb (VO.var (i := 1))) (VO.vb (VO.str (s := t_zebra))))) VA.nil))))) (VSs.cons (VS.set (i := 6) (m := .z) (VO.frz (VO.lst (VLs.cons (k := .all .z) (VO.frz (VO.lst (VLs.cons (k := .all .z) (VO.frz (VO.tup (VLs.cons (k := .all .z) (VO.str (s := t_new)) (VLs.cons (k := .all .z) (VO.frz (VO.lst (VLs.nil (k := .all .z)))) (VLs.nil (k := .all .z)))))) (VLs.nil (k := .all .z))))) (VLs.cons (k := .all .z) (VO.frz (VO.lst (VLs.cons (k := .all .z) (VO.frz (VO.tup (VLs.cons (k := .all .z) (VO.var (i := 1)) (VLs.cons (k := .all .z) (VO.frz (VO.lst (VLs.nil (k := .all .z)))) (VLs.nil (k := .all .z)))))) (VLs.cons (k := .all .z) (VO.frz (VO.tup (VLs.cons (k := .all .z) (VO.var (i := 1)) (VLs.cons (k := .all .z) (VO.frz (VO.lst (VLs.nil (k := .all .z)))) (VLs.nil (k := .all .z)))))) (VLs.nil (k := .all .z)))))) (VLs.cons (k := .all .z) (VO.frz (VO.lst (VLs.cons (k := .all .z) (VO.frz (VO.tup (VLs.cons (k := .all .z) (VO.var (i := 1)) (VLs.cons (k := .all .z) (VO.frz (VO.lst (VLs.cons (k := .all .z) (VO.var (i := 5)) (VLs.nil (k := .all .z))))) (VLs.nil (k := .all .z)))))) (VLs.nil (k := .all .z))))) (VLs.cons (k := .all .z) (VO.frz (VO.lst (VLs.cons (k := .all .z) (VO.frz (VO.tup (VLs.cons (k := .all .z) (VO.var (i := 1)) (VLs.cons (k := .all .z) (VO.frz (VO.lst (VLs.cons (k := .all .z) (VO.var (i := 1)) (VLs.nil (k := .all .z))))) (VLs.nil (k := .all .z)))))) (VLs.nil (k := .all .z))))) (VLs.nil (k := .all .z))))))))) (VSs.one (VS.ret (VO.cp Cm.eq (VO.vb (VO.frz (VO.lc (me := .z) [("_law_tuples", 8)] (VI.any (VO.var (i := 6))) (VG.name (i := 8)) VTs.nil (VO.callX (ok__law_refused Y) (VM.frz (VO.var (i := 8)) VM.nil))))) (VO.vb (VO.frz (VO.lst (VLs.cons (k := .all .z) (VO.frz (VO.lst (VLs.cons (k := .all .z) VO.int (VLs.cons (k := .all .z) VO.int (VLs.nil (k := .all .z)))))) (VLs.cons (k := .all .z) (VO.frz (VO.lst (VLs.cons (k := .all .z) VO.int (VLs.cons (k := .all .z) VO.int (VLs.nil (k := .all .z)))))) (VLs.cons (k := .all .z) (VO.frz (VO.lst (VLs.cons (k := .all .z) VO.int (VLs.cons (k := .all .z) VO.int (VLs.nil (k := .all .z)))))) (VLs.cons (k := .all .z) (VO.frz (VO.lst (VLs.cons (k := .all .z) VO.int (VLs.cons (k := .all .z) VO.int (VLs.nil (k := .all .z)))))) (VLs.nil (k := .all .z)))))))))))))))))))
    (fun _ _ _ _ _ _ us hl => match us, hl with | [_], _ => rfl) sc_law
end Vm
set_option Elab.async false
set_option linter.all false
set_option maxRecDepth 100000
set_option maxHeartbeats 4000000
namespace Vm
open PySem PySem.Spec PyProof.Rows L2
/-! ### numbers of the script -/
theorem cut_sub {α : Type} (xs : List α) (lo hi : Option Int) : ∀ x ∈ cutL xs lo hi, x ∈ xs := fun x h => List.mem_of_mem_drop (List.mem_of_mem_take h)
theorem pick_ok (ns : List Int) (hl : ns.length ≤ 63) (k : Int) : ∃ v r, F__law_pick [some (.z, .scr ns), some (.z, .int k)] = .ok (.int v) r := by
  unfold F__law_pick
  rw [fnRun_ap]
  have hs := cut_sub (ns.map D.int) (some k) (some (k + 1))
  have hc := cutL_len (ns.map D.int) (some k) (some (k + 1))
  rw [List.length_map] at hc
  simp
  generalize cutL (ns.map D.int) (some k) (some (k + 1)) = ys at hs hc
  have h1 : ys.length ≤ 16777215 := by omega
  cases ys with
  | nil => simp
  | cons y ys =>
    obtain ⟨v, _, e⟩ := List.mem_map.mp (hs y List.mem_cons_self)
    subst e
    simp at h1
    simp [h1]
/-! ### words -/
def Wd (s : List Nat) : Prop := s ≠ [] ∧ s.length ≤ 8 ∧ (∀ c ∈ s, c ∈ t_abcdefghijklmnopqrstuvwxyz) ∧ ¬t_any = s ∧ ¬t_none = s ∧ ¬t_blank = s ∧ ¬t_new = s ∧ ¬[111, 110] = s
theorem Wd.ok {s : List Nat} (h : Wd s) : sOk s = true := by
  have h8 := h.2.1
  unfold sOk
  have ha : s.all (fun c => decide (c < 1114112)) = true := by
    rw [List.all_eq_true]
    intro c hc
    have h2 := h.2.2.1 c hc
    have : ∀ c ∈ t_abcdefghijklmnopqrstuvwxyz, c < 1114112 := by decide
    simpa using this c h2
  rw [ha, decide_eq_true (by omega)]
  rfl
/-- the letters of a number -/
theorem word_ok (n : Int) : ∃ s r, F__law_word [some (.z, .int n)] = .ok (.str s) r ∧ Wd s ∧ s.head? = t_abcdefghijklmnopqrstuvwxyz[(n / 8 % 26).toNat]? := by
  unfold F__law_word
  rw [fnRun_ap]
  have hr : 1 + n % 8 ≤ 16777216 ∧ -4611686018427387904 ≤ 1 + n % 8 := by omega
  simp [hr]
  generalize hL : gLoop _ _ _ _ = L
  obtain ⟨r', e, rest, found, sl, er, hl, hm, hh⟩ : ∃ r', L = .ok .nx r' ∧ ∃ rest found sl, r' = [some (Md.z, D.int n), some (Md.z, D.str t_abcdefghijklmnopqrstuvwxyz), some (Md.z, D.int rest), some (Md.z, D.str found), sl] ∧ found.length = (1 + n % 8).toNat ∧ (∀ c ∈ found, c ∈ t_abcdefghijklmnopqrstuvwxyz) ∧ found.head? = t_abcdefghijklmnopqrstuvwxyz[(n / 8 % 26).toNat]? := by
    rw [← hL]
    have h := gLoop_ex (gt := tName 4) (gb := B__law_word_1) (ds := rngD 0 (1 + n % 8).toNat) (r := [some (Md.z, D.int n), some (Md.z, D.str t_abcdefghijklmnopqrstuvwxyz), some (Md.z, D.int (n / 8)), some (Md.z, D.str []), none])
      (fun k r => ∃ rest found sl, r = [some (Md.z, D.int n), some (Md.z, D.str t_abcdefghijklmnopqrstuvwxyz), some (Md.z, D.int rest), some (Md.z, D.str found), sl] ∧ found.length = k ∧ (∀ c ∈ found, c ∈ t_abcdefghijklmnopqrstuvwxyz) ∧ (k = 0 → rest = n / 8) ∧ (k ≠ 0 → found.head? = t_abcdefghijklmnopqrstuvwxyz[(n / 8 % 26).toNat]?))
      (fun i d r hd ⟨rest, found, sl, er, hl, hm, h0, h1⟩ => by
        obtain ⟨hi, ed⟩ := rngD_get _ _ _ _ hd
        subst er ed
        obtain ⟨j, hj⟩ := Int.eq_ofNat_of_zero_le (show 0 ≤ rest % 26 by omega)
        have hj26 : j < 26 := by omega
        have hjl : j < t_abcdefghijklmnopqrstuvwxyz.length := hj26
        have hc : atI t_abcdefghijklmnopqrstuvwxyz (rest % 26) = some (t_abcdefghijklmnopqrstuvwxyz[j]) := by rw [hj]; exact atI_nat (List.getElem?_eq_getElem hjl)
        have h2 : found.length ≤ 16777215 := by omega
        refine ⟨[some (Md.z, D.int n), some (Md.z, D.str t_abcdefghijklmnopqrstuvwxyz), some (Md.z, D.int (rest / 26)), some (Md.z, D.str (found ++ [t_abcdefghijklmnopqrstuvwxyz[j]])), some (Md.z, D.int (0 + i))], by simp [B__law_word_1_ap, hc, h2], _, _, _, rfl, by rw [List.length_append, List.length_singleton, hl], fun c hcm => ?_, fun z => by omega, fun _ => ?_⟩
        · rcases List.mem_append.mp hcm with z | z
          · exact hm c z
          · rw [List.mem_singleton.mp z]; exact List.getElem_mem hjl
        · cases found with
          | nil =>
            have := h0 hl.symm
            subst this
            simp only [List.nil_append, List.head?_cons]
            rw [hj, Int.toNat_natCast, List.getElem?_eq_getElem hjl]
          | cons c found =>
            rw [List.cons_append, List.head?_cons]
            exact h1 (by rw [← hl]; simp))
      ⟨_, _, _, rfl, rfl, by simp, fun _ => rfl, fun z => absurd rfl z⟩
    obtain ⟨r', e, rest, found, sl, er, hl, hm, _, h1⟩ := h
    rw [rngD_len] at hl h1
    exact ⟨r', e, rest, found, sl, er, hl, hm, h1 (by omega)⟩
  subst er
  have h3 : found.length + 1 ≤ 16777216 := by omega
  have hne : found ≠ [] := fun z => by rw [z] at hl; simp at hl; omega
  rw [e]
  simp [inOk, h3]
  by_cases h : t_any = found ∨ t_none = found ∨ t_blank = found ∨ t_new = found ∨ [111, 110] = found
  · refine ⟨found ++ [115], by simp [h], ⟨by simp, ?_, fun c hc => ?_, ?_⟩, ?_⟩
    · have : found.length ≤ 5 := by rcases h with h | h | h | h | h <;> (rw [← h]; decide)
      rw [List.length_append, List.length_singleton]; omega
    · rcases List.mem_append.mp hc with z | z
      · exact hm c z
      · rw [List.mem_singleton.mp z]; decide
    · rcases h with h | h | h | h | h <;> (rw [← h]; decide)
    · rw [← hh]
      cases found with
      | nil => exact absurd rfl hne
      | cons c f => rfl
  · simp only [not_or] at h
    refine ⟨found, by simp [h], ⟨hne, by omega, hm, h.1, h.2.1, h.2.2.1, h.2.2.2.1, h.2.2.2.2⟩, hh⟩
theorem nodup_le {α : Type} [DecidableEq α] : ∀ (xs ys : List α), xs.Nodup → (∀ x ∈ xs, x ∈ ys) → xs.length ≤ ys.length
  | [], _, _, _ => Nat.zero_le _
  | x :: xs, ys, nd, h => by
    obtain ⟨h1, h2⟩ := List.nodup_cons.mp nd
    have hx := h x List.mem_cons_self
    have := nodup_le xs (ys.erase x) h2 fun y hy => (List.mem_erase_of_ne fun e => h1 (by rw [← e]; exact hy)).mpr (h y (List.mem_cons_of_mem _ hy))
    rw [List.length_erase_of_mem hx] at this
    have : 0 < ys.length := List.length_pos_of_mem hx
    rw [List.length_cons]
    omega
end Vm
set_option Elab.async false
set_option linter.all false
set_option maxRecDepth 100000
set_option maxHeartbeats 4000000
namespace Vm
open PySem PySem.Spec PyProof.Rows L2
abbrev lsD (ls : List (List Nat)) : D := .lst (ls.map .str)
end Vm
set_option Elab.async false
set_option linter.all false
set_option maxRecDepth 100000
set_option maxHeartbeats 4000000
namespace Vm
open PySem PySem.Spec PyProof.Rows L2
def tD (p : List Nat × List (List Nat)) : D := .tup [.str p.1, lsD p.2]
def tsD (T : Tt) : D := .lst (T.map tD)
/-- a web's tuples: names told once, over each some of them -/
structure Gd (T : Tt) : Prop where
  len : T.length ≤ 24
  nd : (ky T).Nodup
  wd : ∀ n ∈ ky T, Wd n
  ov : ∀ p ∈ T, p.2.length ≤ 60 ∧ ∀ u ∈ p.2, u ∈ ky T
theorem all_true (ds : List D) : oAll [.lst (ds.map fun _ => .bl true)] = some (.bl true) := by
  show (bls (ds.map fun _ => .bl true)).map _ = _
  rw [bls_map]
  show some (D.bl ((ds.map fun _ => true).all id)) = _
  rw [List.all_map]
  congr 2
  exact List.all_eq_true.mpr fun _ _ => rfl
theorem filter_tt {α : Type} (ds : List α) : ds.filter (fun _ => true) = ds := List.filter_eq_self.mpr fun _ _ => rfl
theorem isn_ok {s : List Nat} (hw : Wd s) : ∃ r, F_is_name [some (.z, .str s)] = .ok (.bl true) r := by
  obtain ⟨w1, w2, w3, w4⟩ := hw
  unfold F_is_name
  rw [fnRun_ap]
  have h8 : ¬ (8 : Int) < s.length := by omega
  simp [isT, inOk, w1, h8, w4]
  generalize hL : gLc _ _ _ _ _ _ = L
  obtain ⟨r', e, er⟩ : ∃ r', L = .ok ((s.map fun c => D.str [c]).map fun _ => .bl true) r' ∧ r' = [some (.z, .str s), none] := by
    rw [← hL]
    have := gLc_ex (own := [1]) (gt := tName 1) (ft := ftY) (fe := fOp2 oInA (eVar 1) (eC (D.str t_abcdefghijklmnopqrstuvwxyz))) (ds := s.map fun c => D.str [c]) (r := [some (.z, .str s), none]) (fun _ => true) (fun _ => .bl true) (fun r => r = [some (.z, .str s), none]) rfl
      (fun d hd r er => by
        subst er
        obtain ⟨c, hc, e⟩ := List.mem_map.mp hd
        subst e
        have := w3 c hc
        exact ⟨[some (.z, .str s), some (.z, .str [c])], [some (.z, .str s), some (.z, .str [c])], by simp, by simp, (fun z => by cases z), fun _ => ⟨[some (.z, .str s), some (.z, .str [c])], by simp [this], by simp⟩⟩)
    rw [filter_tt] at this
    exact this
  subst er
  rw [e]
  have e3 := all_true (s.map fun c => D.str [c])
  simp only [List.map_map] at e3 ⊢
  simp [e3]
/-- what a walk of tuples gives -/
def anyT (d : D) (T : Tt) : Prop := anyL d = some (T.map tD)
theorem tD_t (p : List Nat × List (List Nat)) (gs : List D → M Fl) (x : Sl) (r : En) : tTupl 2 gs (tD p) (x :: r) = gs [.str p.1, lsD p.2] (x :: r) := by simp [tD]
theorem loop1_ok (s0 : Sl) : ∀ (T : Tt) (s1 s2 s3 : Sl), (∀ p ∈ T, Wd p.1 ∧ ∀ u ∈ p.2, Wd u) → bkS s2 = s2 → bkS s3 = s3 → ∃ s2' s3', (bkS s2' = s2' ∧ bkS s3' = s3') ∧ gLoop (tTupl 2 (tCon (tName 2) (tCon (tName 3) tNil))) (fIf (fOr (fNot (fB (fCall F_is_name [none] (fCons (eVar 2) fNil)))) (fNot (fB (fA oAll (fCons (fLc [4] (iAny (eVar 3)) (tName 4) ftY (fCall F_is_name [none] (fCons (eVar 4) fNil))) fNil))))) (gRaise "NoName") gNx) (T.map tD) [s0, s1, s2, s3, none] = .ok .nx [s0, s1, s2', s3', none]
  | [], s1, s2, s3, _, k1, k2 => ⟨s2, s3, ⟨k1, k2⟩, rfl⟩
  | p :: T, s1, s2, s3, h, _, _ => by
    obtain ⟨h1, h2⟩ := h p List.mem_cons_self
    obtain ⟨a, b, kab, ih⟩ := loop1_ok s0 T s1 (some (.z, .str p.1)) (some (.z, lsD p.2)) (fun q hq => h q (List.mem_cons_of_mem _ hq)) rfl rfl
    refine ⟨a, b, kab, ?_⟩
    rw [List.map_cons, gLoop_cons, tD_t]
    obtain ⟨r1, e1⟩ := isn_ok h1
    have e2 : gLc [4] (tName 4) ftY (fCall F_is_name [none] (fCons (eVar 4) fNil)) (p.2.map D.str) [s0, s1, some (.z, .str p.1), some (.z, lsD p.2), none] = .ok ((p.2.map D.str).map fun _ => .bl true) [s0, s1, some (.z, .str p.1), some (.z, lsD p.2), none] := by
      obtain ⟨r', e, er⟩ := gLc_ex (own := [4]) (gt := tName 4) (ft := ftY) (fe := fCall F_is_name [none] (fCons (eVar 4) fNil)) (ds := p.2.map D.str) (r := [s0, s1, some (.z, .str p.1), some (.z, lsD p.2), none]) (fun _ => true) (fun _ => .bl true) (fun r => r = [s0, s1, some (.z, .str p.1), some (.z, lsD p.2), none]) rfl
        (fun d hd r er => by
          subst er
          obtain ⟨u, hu, e⟩ := List.mem_map.mp hd
          subst e
          obtain ⟨r2, e2⟩ := isn_ok (h2 u hu)
          exact ⟨[s0, s1, some (.z, .str p.1), some (.z, lsD p.2), some (.z, .str u)], [s0, s1, some (.z, .str p.1), some (.z, lsD p.2), some (.z, .str u)], by simp, by simp, (fun z => by cases z), fun _ => ⟨[s0, s1, some (.z, .str p.1), some (.z, lsD p.2), some (.z, .str u)], by simp [e2], by simp⟩⟩)
      subst er
      rw [filter_tt] at e
      exact e
    have e3 := all_true (p.2.map D.str)
    simp only [List.map_map] at e2 e3
    simp [e1, e2, e3, ih]
theorem loop2_ok (s0 : Sl) (ls : List (List Nat)) : ∀ (T : Tt) (s2 s3 : Sl), (∀ p ∈ T, ∀ u ∈ p.2, u ∈ ls) → ∃ s2' s3', gLoop (tTupl 2 (tCon (tName 2) (tCon (tName 3) tNil))) (fIf (fNot (fB (fA oAll (fCons (fLc [4] (iAny (eVar 3)) (tName 4) ftY (fOp2 oInA (eVar 4) (eVar 1))) fNil)))) (gRaise "NoKind") gNx) (T.map tD) [s0, some (.z, lsD ls), s2, s3, none] = .ok .nx [s0, some (.z, lsD ls), s2', s3', none]
  | [], s2, s3, _ => ⟨s2, s3, rfl⟩
  | p :: T, s2, s3, h => by
    have h2 := h p List.mem_cons_self
    obtain ⟨a, b, ih⟩ := loop2_ok s0 ls T (some (.z, .str p.1)) (some (.z, lsD p.2)) fun q hq => h q (List.mem_cons_of_mem _ hq)
    refine ⟨a, b, ?_⟩
    rw [List.map_cons, gLoop_cons, tD_t]
    have e2 : gLc [4] (tName 4) ftY (fOp2 oInA (eVar 4) (eVar 1)) (p.2.map D.str) [s0, some (.z, lsD ls), some (.z, .str p.1), some (.z, lsD p.2), none] = .ok ((p.2.map D.str).map fun _ => .bl true) [s0, some (.z, lsD ls), some (.z, .str p.1), some (.z, lsD p.2), none] := by
      obtain ⟨r', e, er⟩ := gLc_ex (own := [4]) (gt := tName 4) (ft := ftY) (fe := fOp2 oInA (eVar 4) (eVar 1)) (ds := p.2.map D.str) (r := [s0, some (.z, lsD ls), some (.z, .str p.1), some (.z, lsD p.2), none]) (fun _ => true) (fun _ => .bl true) (fun r => r = [s0, some (.z, lsD ls), some (.z, .str p.1), some (.z, lsD p.2), none]) rfl
        (fun d hd r er => by
          subst er
          obtain ⟨u, hu, e⟩ := List.mem_map.mp hd
          subst e
          have := h2 u hu
          exact ⟨[s0, some (.z, lsD ls), some (.z, .str p.1), some (.z, lsD p.2), some (.z, .str u)], [s0, some (.z, lsD ls), some (.z, .str p.1), some (.z, lsD p.2), some (.z, .str u)], by simp, by simp, (fun z => by cases z), fun _ => ⟨[s0, some (.z, lsD ls), some (.z, .str p.1), some (.z, lsD p.2), some (.z, .str u)], by simp [this], by simp⟩⟩)
      subst er
      rw [filter_tt] at e
      exact e
    have e3 := all_true (p.2.map D.str)
    simp only [List.map_map] at e2 e3
    simp [e2, e3, ih]
theorem look_ok {d : D} {T : Tt} (hd : anyT d T) (g : Gd T) : ∃ r, F_look_at_names [some (.z, d)] = .ok .non r := by
  unfold F_look_at_names
  rw [fnRun_ap]
  have hd' : anyL d = some (T.map tD) := hd
  have hw : ∀ p ∈ T, Wd p.1 ∧ ∀ u ∈ p.2, Wd u := fun p hp => ⟨g.wd _ (List.mem_map.mpr ⟨p, hp, rfl⟩), fun u hu => g.wd _ ((g.ov p hp).2 u hu)⟩
  obtain ⟨a, b, ⟨ka, kb⟩, e1⟩ := loop1_ok (some (.z, d)) T none none none hw rfl rfl
  have e2 : gLc [2, 3] (tTupl 2 (tCon (tName 2) (tCon (tName 3) tNil))) ftY (eVar 2) (T.map tD) [some (.z, d), none, none, none, none] = .ok ((ky T).map .str) [some (.z, d), none, none, none, none] := by
    obtain ⟨r', e, er⟩ := gLc_ex (own := [2, 3]) (gt := tTupl 2 (tCon (tName 2) (tCon (tName 3) tNil))) (ft := ftY) (fe := eVar 2) (ds := T.map tD) (r := [some (.z, d), none, none, none, none]) (fun _ => true) (fun x => match x with | .tup (s :: _) => s | _ => .non) (fun r => r = [some (.z, d), none, none, none, none]) rfl
      (fun x hx r er => by
        subst er
        obtain ⟨p, hp, e⟩ := List.mem_map.mp hx
        subst e
        exact ⟨[some (.z, d), none, some (.z, .str p.1), some (.z, lsD p.2), none], [some (.z, d), none, some (.z, .str p.1), some (.z, lsD p.2), none], by rw [tD_t]; simp, by simp, (fun z => by cases z), fun _ => ⟨[some (.z, d), none, some (.z, .str p.1), some (.z, lsD p.2), none], by simp [tD], by simp⟩⟩)
    subst er
    rw [filter_tt, List.map_map] at e
    rw [e, List.map_map]
    rfl
  obtain ⟨a', b', e3⟩ := loop2_ok (some (.z, d)) (ky T) T a b fun p hp u hu => (g.ov p hp).2 u hu
  have hl60 : (ky T).length ≤ 60 := by rw [List.length_map]; exact Nat.le_trans g.len (by decide)
  have hde : dedL (ky T) = ky T := dedL_of_nodup g.nd
  generalize ky T = ks at e2 e3 hde hl60
  simp [hd', e1, e2, ka, kb, hl60, hde, e3]
def sN : D → List Nat
  | .str s => s
  | _ => []
theorem flt_strs (q : List Nat → Bool) (ls : List (List Nat)) : (ls.map D.str).filter (fun d => q (sN d)) = (ls.filter q).map .str := by
  rw [List.filter_map]
  rfl
theorem any_bl (f : List Nat → Bool) (ls : List (List Nat)) : oAny [.lst (ls.map fun u => .bl (f u))] = some (.bl (ls.any f)) := by
  have h : ∀ ls : List (List Nat), bls (ls.map fun u => .bl (f u)) = some (ls.map f) := by
    intro ls
    induction ls with
    | nil => rfl
    | cons x ls ih => rw [List.map_cons, List.map_cons, bls, ih]; rfl
  show (bls (ls.map fun u => .bl (f u))).map _ = _
  rw [h]
  show some (D.bl ((ls.map f).any id)) = _
  rw [List.any_map]
  rfl
/-- those of which none straight over them is left -/
def freeL (T : Tt) (left : List (List Nat)) : List (List Nat) := left.filter fun n => !(srt (ov T n)).any fun u => decide (u ∈ left)
section
variable (T : Tt)
abbrev upD : D := dcT srt T
theorem free_lc (left : List (List Nat)) (hl : ∀ n ∈ left, n ∈ ky T) (s2 s3 : Sl) : gLc [4] (tName 4) (fNot (fB (fA oAny (fCons (fLc [5] (iAny (fOp2 oIxA (eVar 0) (eVar 4))) (tName 5) ftY (fOp2 oInA (eVar 5) (eVar 1))) fNil)))) (eVar 4) (left.map D.str) [some (.z, upD T), some (.z, lsD left), s2, s3, none, none] =
    .ok ((freeL T left).map .str) [some (.z, upD T), some (.z, lsD left), s2, s3, none, none] := by
  obtain ⟨r', e, er⟩ := gLc_ex (own := [4]) (gt := tName 4) (ft := fNot (fB (fA oAny (fCons (fLc [5] (iAny (fOp2 oIxA (eVar 0) (eVar 4))) (tName 5) ftY (fOp2 oInA (eVar 5) (eVar 1))) fNil)))) (fe := eVar 4) (ds := left.map D.str) (r := [some (.z, upD T), some (.z, lsD left), s2, s3, none, none])
    (fun d => !(srt (ov T (sN d))).any fun u => decide (u ∈ left)) (fun d => d) (fun r => r = [some (.z, upD T), some (.z, lsD left), s2, s3, none, none]) rfl
    (fun d hd r er => by
      subst er
      obtain ⟨n, hn, e⟩ := List.mem_map.mp hd
      subst e
      have e1 : oDGet (upD T) (.str n) = some (lsD (srt (ov T n))) := dget_dcT (hl n hn)
      have e2 : gLc [5] (tName 5) ftY (fOp2 oInA (eVar 5) (eVar 1)) ((srt (ov T n)).map D.str) [some (.z, upD T), some (.z, lsD left), s2, s3, some (.z, .str n), none] = .ok ((srt (ov T n)).map fun u => .bl (decide (u ∈ left))) [some (.z, upD T), some (.z, lsD left), s2, s3, some (.z, .str n), none] := by
        obtain ⟨r', e, er⟩ := gLc_ex (own := [5]) (gt := tName 5) (ft := ftY) (fe := fOp2 oInA (eVar 5) (eVar 1)) (ds := (srt (ov T n)).map D.str) (r := [some (.z, upD T), some (.z, lsD left), s2, s3, some (.z, .str n), none])
          (fun _ => true) (fun d => .bl (decide (sN d ∈ left))) (fun r => r = [some (.z, upD T), some (.z, lsD left), s2, s3, some (.z, .str n), none]) rfl
          (fun d hd r er => by
            subst er
            obtain ⟨u, hu, e⟩ := List.mem_map.mp hd
            subst e
            exact ⟨[some (.z, upD T), some (.z, lsD left), s2, s3, some (.z, .str n), some (.z, .str u)], [some (.z, upD T), some (.z, lsD left), s2, s3, some (.z, .str n), some (.z, .str u)], by simp, by simp, (fun z => by cases z), fun _ => ⟨[some (.z, upD T), some (.z, lsD left), s2, s3, some (.z, .str n), some (.z, .str u)], by simp [sN] <;> rfl, by simp⟩⟩)
        subst er
        rw [filter_tt, List.map_map] at e
        exact e
      have e3 := any_bl (fun u => decide (u ∈ left)) (srt (ov T n))
      refine ⟨[some (.z, upD T), some (.z, lsD left), s2, s3, some (.z, .str n), none], [some (.z, upD T), some (.z, lsD left), s2, s3, some (.z, .str n), none], by simp, ?_, fun _ => by simp, fun _ => ⟨[some (.z, upD T), some (.z, lsD left), s2, s3, some (.z, .str n), none], by simp, by simp⟩⟩
      have eI : oIxA (upD T) (.str n) = oDGet (upD T) (.str n) := rfl
      simp [eI, e1, e2, e3, sN])
  subst er
  rw [flt_strs (fun n => !(srt (ov T n)).any fun u => decide (u ∈ left)) left, List.map_id'] at e
  exact e
theorem left_lc (left fr : List (List Nat)) (s0 s2 : Sl) : gLc [4] (tName 4) (fB (fOp2 oNotInA (eVar 4) (eVar 3))) (eVar 4) (left.map D.str) [s0, some (.z, lsD left), s2, some (.z, lsD fr), none, none] =
    .ok ((left.filter fun n => !decide (n ∈ fr)).map .str) [s0, some (.z, lsD left), s2, some (.z, lsD fr), none, none] := by
  obtain ⟨r', e, er⟩ := gLc_ex (own := [4]) (gt := tName 4) (ft := fB (fOp2 oNotInA (eVar 4) (eVar 3))) (fe := eVar 4) (ds := left.map D.str) (r := [s0, some (.z, lsD left), s2, some (.z, lsD fr), none, none])
    (fun d => !decide (sN d ∈ fr)) (fun d => d) (fun r => r = [s0, some (.z, lsD left), s2, some (.z, lsD fr), none, none]) rfl
    (fun d hd r er => by
      subst er
      obtain ⟨n, hn, e⟩ := List.mem_map.mp hd
      subst e
      exact ⟨[s0, some (.z, lsD left), s2, some (.z, lsD fr), some (.z, .str n), none], [s0, some (.z, lsD left), s2, some (.z, lsD fr), some (.z, .str n), none], by simp, by simp [sN] <;> rfl, fun _ => by simp, fun _ => ⟨[s0, some (.z, lsD left), s2, some (.z, lsD fr), some (.z, .str n), none], by simp, by simp⟩⟩)
  subst er
  rw [flt_strs (fun n => !decide (n ∈ fr)) left, List.map_id'] at e
  exact e

/-- those of a set that have one of the set over them, all of them -/
def FixU (T : Tt) (L : List (List Nat)) : Prop := ∀ x ∈ L, ∃ u ∈ Vm.ov T x, u ∈ L
/-- the greatest such set -/
structure MaxU (T : Tt) (L : List (List Nat)) : Prop where
  fix : FixU T L
  sub : ∀ x ∈ L, x ∈ ky T
  max : ∀ L', FixU T L' → (∀ x ∈ L', x ∈ ky T) → ∀ x ∈ L', x ∈ L
theorem rings_ok (g : Gd T) : ∃ r L, F_in_rings [some (.z, upD T)] = .ok (lsD L) r ∧ MaxU T L ∧ L.Nodup := by
  unfold F_in_rings
  rw [fnRun_ap]
  have eL : oListA [upD T] = some (lsD (ky T)) := by
    show some (D.lst (T.map fun p => .str p.1)) = _
    unfold lsD ky
    rw [List.map_map]; rfl
  simp only [List.length_cons, List.length_nil, List.replicate, List.cons_append, List.nil_append]
  simp [eL]
  generalize hL : gWh _ _ _ = L
  obtain ⟨r', e, left, a, b, er, hm, nd⟩ : ∃ r', L = .ok .nx r' ∧ ∃ left a b, r' = [some (.z, upD T), some (.z, lsD left), a, b, none, none] ∧ MaxU T left ∧ left.Nodup := by
    rw [← hL]
    refine gWh_use (fun r => ∃ left ag s3, r = [some (.z, upD T), some (.z, lsD left), some (.z, .bl ag), s3, none, none] ∧ (∀ n ∈ left, n ∈ ky T) ∧ left.Nodup ∧ (∀ L', FixU T L' → (∀ x ∈ L', x ∈ ky T) → ∀ x ∈ L', x ∈ left) ∧ (ag = false → freeL T left = [])) (fun r => match r with
      | [_, some (_, .lst ls), some (_, .bl b), _, _, _] => 2 * ls.length + (if b = true then 1 else 0)
      | _ => 0) _ ⟨ky T, true, none, by show _ = [some (Md.z, upD T), some (Md.z, lsD (ky T)), some (Md.z, D.bl true), none, none, none]; simp [lsD], fun n hn => hn, g.nd, fun L' _ h => h, fun z => by cases z⟩ fun r ⟨left, ag, s3, er, hl, nd, hmx, hag⟩ => ?_
    subst er
    cases ag with
    | false =>
      refine .inl ⟨[some (.z, upD T), some (.z, lsD left), some (.z, .bl false), s3, none, none], by simp, left, _, _, rfl, ⟨fun x hx => ?_, hl, hmx⟩, nd⟩
      refine Classical.byContradiction fun hno => ?_
      have : x ∈ freeL T left := by
        refine List.mem_filter.mpr ⟨hx, ?_⟩
        simp only [Bool.not_eq_true', List.any_eq_false, decide_eq_true_eq]
        exact fun u hu hul => hno ⟨u, mem_srt.mp hu, hul⟩
      rw [hag rfl] at this; cases this
    | true =>
      have f1 := free_lc T left hl (some (.z, .bl true)) s3
      have f2 := left_lc left (freeL T left) (some (.z, upD T)) (some (.z, .bl true))
      refine .inr ⟨[some (.z, upD T), some (.z, lsD left), some (.z, .bl true), s3, none, none], [some (.z, upD T), some (.z, lsD (left.filter fun n => !decide (n ∈ freeL T left))), some (.z, .bl !decide (freeL T left = [])), some (.z, lsD (freeL T left)), none, none], by simp, by simp [f1, f2], ⟨_, _, _, rfl, fun n hn => hl n (List.mem_filter.mp hn).1, nd.sublist List.filter_sublist, fun L' hf hs x hx => ?_, fun z => ?_⟩, ?_⟩
      · refine List.mem_filter.mpr ⟨hmx L' hf hs x hx, ?_⟩
        simp only [Bool.not_eq_true', decide_eq_false_iff_not]
        intro hfr
        have hfr' := (List.mem_filter.mp hfr).2
        simp only [Bool.not_eq_true', List.any_eq_false, decide_eq_true_eq] at hfr'
        obtain ⟨u, hu, hul⟩ := hf x hx
        exact hfr' u (mem_srt.mpr hu) (hmx L' hf hs u hul)
      · have z1 : freeL T left = [] := by simpa using z
        have z2 : (left.filter fun n => !decide (n ∈ freeL T left)) = left := by
          rw [z1]; simp
        rw [z2]; exact z1
      · have hle : (left.filter fun n => !decide (n ∈ freeL T left)).length ≤ left.length := List.length_filter_le _ _
        by_cases c : freeL T left = []
        · have e1 : (!decide (freeL T left = [])) = false := by rw [decide_eq_true c]; rfl
          show 2 * ((left.filter fun n => !decide (n ∈ freeL T left)).map D.str).length + (if (!decide (freeL T left = [])) = true then 1 else 0) < 2 * (left.map D.str).length + 1
          rw [e1, List.length_map, List.length_map, if_neg Bool.false_ne_true]
          omega
        · obtain ⟨n, hn⟩ := List.exists_mem_of_ne_nil _ c
          have hnl : n ∈ left := (List.mem_filter.mp hn).1
          have lt : (left.filter fun n => !decide (n ∈ freeL T left)).length < left.length := by
            refine Nat.lt_of_le_of_ne hle fun e => ?_
            have := (List.length_filter_eq_length_iff.mp e) n hnl
            simp [hn] at this
          have e1 : (!decide (freeL T left = [])) = true := by rw [decide_eq_false c]; rfl
          show 2 * ((left.filter fun n => !decide (n ∈ freeL T left)).map D.str).length + (if (!decide (freeL T left = [])) = true then 1 else 0) < 2 * (left.map D.str).length + 1
          rw [e1, List.length_map, List.length_map, if_pos rfl]
          omega
  subst er
  rw [e]
  exact ⟨ioEnd [false] 0 [some (Md.z, upD T), some (Md.z, lsD left), a, b, none, none], left, by simp, hm, nd⟩
end
/-! ### the way up to a ring -/
theorem gWh_exc {ft : M D} {gb : M Fl} (I : En → Prop) (μ : En → Nat) (P : Str → List Str → List D → Prop) (st : ∀ r, I r → ∃ r1, ft r = .ok (.bl true) r1 ∧ ((∃ n ns vs r2, gb r1 = .exc n ns vs r2 ∧ P n ns vs) ∨ ∃ r2, gb r1 = .ok .nx r2 ∧ I r2 ∧ μ r2 < μ r)) :
    ∀ (k : Nat) (r : En), μ r ≤ k → I r → ∃ n ns vs r', gWh ft gb r = .exc n ns vs r' ∧ P n ns vs := by
  intro k
  induction k with
  | zero =>
    intro r hk hI
    obtain ⟨r1, e1, h | ⟨r2, e2, hI2, hm⟩⟩ := st r hI
    · obtain ⟨n, ns, vs, r2, e2, hP⟩ := h
      exact ⟨n, ns, vs, r2, gWh_eq _ _ _ (by unfold gWhS; rw [e1, bind_ok]; show (gb r1).bind _ = _; rw [e2]; rfl) (fun z => by cases z), hP⟩
    · omega
  | succ k ih =>
    intro r hk hI
    obtain ⟨r1, e1, h | ⟨r2, e2, hI2, hm⟩⟩ := st r hI
    · obtain ⟨n, ns, vs, r2, e2, hP⟩ := h
      exact ⟨n, ns, vs, r2, gWh_eq _ _ _ (by unfold gWhS; rw [e1, bind_ok]; show (gb r1).bind _ = _; rw [e2]; rfl) (fun z => by cases z), hP⟩
    · obtain ⟨n, ns, vs, r', e, hP⟩ := ih r2 (by omega) hI2
      exact ⟨n, ns, vs, r', gWh_eq _ _ _ (by unfold gWhS; rw [e1, bind_ok]; show (gb r1).bind _ = _; rw [e2, bind_ok]; exact e) (fun z => by cases z), hP⟩
/-- each next one straight over the one before -/
def Up1 (T : Tt) (w : List (List Nat)) (o : List (List Nat)) : Prop := ∀ p ∈ w.zip o, p.2 ∈ Vm.ov T p.1
structure RingT (T : Tt) (w : List (List Nat)) : Prop where
  ne : w ≠ []
  nd : w.Nodup
  ky : ∀ x ∈ w, x ∈ Vm.ky T
  up : Up1 T w (w.drop 1 ++ w.take 1)
theorem up1_snoc {T : Tt} {o : List Nat} : ∀ {w : List (List Nat)} {l : List Nat}, w.getLast? = some l → o ∈ Vm.ov T l → Up1 T w (w.drop 1) → Up1 T w (w.drop 1 ++ [o])
  | [], l, h, _, _ => by cases h
  | [x], l, h, ho, _ => by
    have : x = l := by simpa using h
    subst this
    intro p hp
    simp at hp
    subst hp
    exact ho
  | x :: y :: w, l, h, ho, hu => by
    have h' : (y :: w).getLast? = some l := by rw [List.getLast?_cons_cons] at h; exact h
    have ih := up1_snoc (T := T) (o := o) h' ho (fun p hp => hu p (by
      show p ∈ (x :: y :: w).zip (y :: w)
      rw [List.zip_cons_cons]; exact List.mem_cons_of_mem _ hp))
    intro p hp
    have hp : p ∈ (x :: y :: w).zip (y :: (w ++ [o])) := hp
    rw [List.zip_cons_cons] at hp
    rcases List.mem_cons.mp hp with z | z
    · subst z
      exact hu (x, y) (by show (x, y) ∈ (x :: y :: w).zip (y :: w); rw [List.zip_cons_cons]; exact List.mem_cons_self)
    · exact ih p z
theorem zip_drop {α β : Type} : ∀ (n : Nat) (xs : List α) (ys : List β), ∀ p ∈ (xs.drop n).zip (ys.drop n), p ∈ xs.zip ys
  | 0, xs, ys, p, h => h
  | n + 1, [], ys, p, h => by simp at h
  | n + 1, x :: xs, [], p, h => by simp at h
  | n + 1, x :: xs, y :: ys, p, h => by
    rw [List.zip_cons_cons]
    exact List.mem_cons_of_mem _ (zip_drop n xs ys p h)
theorem cut_from {α : Type} (l : List α) (i : Nat) : cutL l (some (i : Int)) none = l.drop i := by
  unfold cutL
  simp only [HT.sIx_nat, HT.sIx_none]
  rw [List.take_of_length_le (by rw [List.length_drop]; omega)]
  rcases Nat.le_total i l.length with h | h
  · congr 1; omega
  · rw [List.drop_eq_nil_of_le h, List.drop_eq_nil_of_le (by omega)]
end Vm
set_option Elab.async false
set_option linter.all false
set_option maxRecDepth 100000
set_option maxHeartbeats 4000000
namespace Vm
open PySem PySem.Spec PyProof.Rows L2
section
variable {T : Tt} {L : List (List Nat)}
theorem on_lc (left us : List (List Nat)) (s0 s2 s3 : Sl) : gLc [4] (tName 4) (fB (fOp2 oInA (eVar 4) (eVar 1))) (eVar 4) (us.map D.str) [s0, some (.z, lsD left), s2, s3, none] =
    .ok ((us.filter fun n => decide (n ∈ left)).map .str) [s0, some (.z, lsD left), s2, s3, none] := by
  obtain ⟨r', e, er⟩ := gLc_ex (own := [4]) (gt := tName 4) (ft := fB (fOp2 oInA (eVar 4) (eVar 1))) (fe := eVar 4) (ds := us.map D.str) (r := [s0, some (.z, lsD left), s2, s3, none])
    (fun d => decide (sN d ∈ left)) (fun d => d) (fun r => r = [s0, some (.z, lsD left), s2, s3, none]) rfl
    (fun d hd r er => by
      subst er
      obtain ⟨n, hn, e⟩ := List.mem_map.mp hd
      subst e
      exact ⟨[s0, some (.z, lsD left), s2, s3, some (.z, .str n)], [s0, some (.z, lsD left), s2, s3, some (.z, .str n)], by simp, by simp [sN] <;> rfl, fun _ => by simp, fun _ => ⟨[s0, some (.z, lsD left), s2, s3, some (.z, .str n)], by simp, by simp⟩⟩)
  subst er
  rw [flt_strs (fun n => decide (n ∈ left)) us, List.map_id'] at e
  exact e
theorem last_at {w : List (List Nat)} {l : List Nat} (h : w.getLast? = some l) : atI (w.map D.str) (-1) = some (.str l) := by
  obtain ⟨ys, e⟩ := List.getLast?_eq_some_iff.mp h
  rw [e, List.map_append]
  exact atI_snoc _ _
theorem find_pos {o : List Nat} {w : List (List Nat)} (h : o ∈ w) : ∃ i, (w.findIdx? fun t => t == o) = some i ∧ i < w.length ∧ w[i]? = some o := by
  cases e : w.findIdx? fun t => t == o with
  | none =>
    have := List.findIdx?_eq_none_iff.mp e o h
    simp at this
  | some i =>
    obtain ⟨h1, h2, _⟩ := List.findIdx?_eq_some_iff_getElem.mp e
    have h2 : w[i] = o := by simpa using h2
    exact ⟨i, rfl, h1, by rw [List.getElem?_eq_getElem h1, h2]⟩
theorem way_ok (hm : MaxU T L) (hL : L.length ≤ 24) (x : List Nat) (hx : x ∈ L) : ∃ n ns vs r', gWh (fB (eC (.bl true))) (gSeq (gSet 3 .z (fOp2 oIxA (fLc [4] (iAny (fOp2 oIxA (eVar 0) (fOp2 oIxA (eBor 2) (fNeg (eC (.int 1)))))) (tName 4) (fB (fOp2 oInA (eVar 4) (eVar 1))) (eVar 4)) (eC (.int 0)))) (gSeq (fIf (fB (fOp2 oInA (eVar 3) (eBor 2))) (gRaiseF "Ring" 0 ["ring"] fs_Ring [none] (fCons (fSl oCut (eFrz 2) (fPart (fLs2 oIndexL (eFrz 2) (eVar 3))) fNoP) fNil)) gNx) (gMt 2 .z appO (eVar 3))))
    [some (.z, upD T), some (.z, lsD L), some (m1, lsD [x]), none, none] = .exc n ns vs r' ∧ n = ("Ring" : Str) ∧ ns = ([("ring" : Str)] : List Str) ∧ ∃ w, vs = [lsD w] ∧ RingT T w := by
  refine gWh_exc (fun r => ∃ w a, r = [some (.z, upD T), some (.z, lsD L), some (m1, lsD w), a, none] ∧ w ≠ [] ∧ w.Nodup ∧ (∀ y ∈ w, y ∈ L) ∧ Up1 T w (w.drop 1)) (fun r => match r with
    | [_, _, some (_, .lst ls), _, _] => 24 - ls.length
    | _ => 0) (fun n ns vs => n = ("Ring" : Str) ∧ ns = ([("ring" : Str)] : List Str) ∧ ∃ w, vs = [lsD w] ∧ RingT T w) ?_ 24 _ (by dsimp only; omega) ⟨[x], none, rfl, by simp, by simp, by simpa using hx, by intro p hp; simp at hp⟩
  rintro r ⟨w, a, er, hne, nd, hw, hu⟩
  subst er
  refine ⟨_, by simp; exact rfl, ?_⟩
  obtain ⟨l, hl⟩ : ∃ l, w.getLast? = some l := by
    cases e : w.getLast? with
    | none => exact absurd (List.getLast?_eq_none_iff.mp e) hne
    | some l => exact ⟨l, rfl⟩
  have hlw : l ∈ w := List.mem_of_getLast? hl
  have hlk : l ∈ ky T := hm.sub l (hw l hlw)
  obtain ⟨u0, hu0, hu0L⟩ := hm.fix l (hw l hlw)
  have e0 : atI (w.map D.str) (-1) = some (.str l) := last_at hl
  have e1 : oDGet (upD T) (.str l) = some (lsD (srt (ov T l))) := dget_dcT hlk
  have eI : oIxA (upD T) (.str l) = oDGet (upD T) (.str l) := rfl
  have e2 := on_lc L (srt (ov T l)) (some (.z, upD T)) (some (m1, lsD w)) a
  obtain ⟨o, os, ho⟩ : ∃ o os, (srt (ov T l)).filter (fun n => decide (n ∈ L)) = o :: os := by
    cases e : (srt (ov T l)).filter fun n => decide (n ∈ L) with
    | nil =>
      have : u0 ∈ (srt (ov T l)).filter fun n => decide (n ∈ L) := List.mem_filter.mpr ⟨mem_srt.mpr hu0, by simpa using hu0L⟩
      rw [e] at this; cases this
    | cons o os => exact ⟨o, os, rfl⟩
  have hof : o ∈ (srt (ov T l)).filter fun n => decide (n ∈ L) := by rw [ho]; exact List.mem_cons_self
  have hov : o ∈ ov T l := mem_srt.mp (List.mem_filter.mp hof).1
  have hoL : o ∈ L := by simpa using (List.mem_filter.mp hof).2
  have hwl : w.length ≤ 24 := Nat.le_trans (nodup_le w L nd hw) hL
  rw [ho] at e2
  have e3 : atI (D.str o :: os.map D.str) 0 = some (.str o) := atI_nat (j := 0) rfl
  by_cases c : o ∈ w
  · refine .inl ⟨("Ring" : Str), [("ring" : Str)], [lsD (w.drop (w.findIdx fun t => t == o))], ?_⟩
    obtain ⟨i, hi, hil, hio⟩ := find_pos c
    have hfi : w.findIdx (fun t => t == o) = i := by
      obtain ⟨h1, h2, h3⟩ := List.findIdx?_eq_some_iff_getElem.mp hi
      exact (List.findIdx_eq h1).mpr ⟨h2, fun j hj => by simpa using h3 j hj⟩
    rw [hfi]
    have e4 : cutL (w.map D.str) (some (i : Int)) none = (w.drop i).map D.str := by rw [cut_from, List.map_drop]
    have hd : w.drop i = o :: w.drop (i + 1) := by
      rw [List.drop_eq_getElem_cons hil]
      congr 1
      rw [List.getElem?_eq_getElem hil] at hio
      exact Option.some.inj hio
    refine ⟨[some (.z, upD T), some (.z, lsD L), some (.z, lsD w), some (.z, .str o), none], ?_, rfl, rfl, w.drop i, rfl, ⟨by rw [hd]; simp, nd.sublist (List.drop_sublist _ _), fun y hy => hm.sub y (hw y (List.mem_of_mem_drop hy)), ?_⟩⟩
    · simp [e0, eI, e1, e2, e3, c, hi, e4, fs_Ring, gFs]
      first | rfl | skip
    · have hl' : (w.drop i).getLast? = some l := by
        rw [List.getLast?_drop, if_neg (by omega)]; exact hl
      have h1 : (w.drop i).take 1 = [o] := by rw [hd]; rfl
      rw [h1]
      refine up1_snoc hl' hov fun p hp => ?_
      rw [List.drop_drop] at hp
      refine hu p ?_
      have : p ∈ (w.drop i).zip ((w.drop 1).drop i) := by rw [List.drop_drop, Nat.add_comm 1 i]; exact hp
      exact zip_drop i w (w.drop 1) p this
  · have hol : w.length < 16777216 := by omega
    have hlen : (w ++ [o]).length ≤ 24 := Nat.le_trans (nodup_le (w ++ [o]) L (List.nodup_append.mpr ⟨nd, by simp, fun a ha b hb z => by rw [List.mem_singleton.mp hb] at z; exact c (z ▸ ha)⟩) fun y hy => by
      rcases List.mem_append.mp hy with z | z
      · exact hw y z
      · rw [List.mem_singleton.mp z]; exact hoL) hL
    refine .inr ⟨[some (.z, upD T), some (.z, lsD L), some (m1, lsD (w ++ [o])), some (.z, .str o), none], ?_, ⟨w ++ [o], some (.z, .str o), rfl, by simp, List.nodup_append.mpr ⟨nd, by simp, fun a ha b hb z => by rw [List.mem_singleton.mp hb] at z; exact c (z ▸ ha)⟩, fun y hy => ?_, ?_⟩, ?_⟩
    · simp [e0, eI, e1, e2, e3, c, appO, hol, rcv]
    · rcases List.mem_append.mp hy with z | z
      · exact hw y z
      · rw [List.mem_singleton.mp z]; exact hoL
    · have h2 : (w ++ [o]).drop 1 = w.drop 1 ++ [o] := by
        cases w with
        | nil => exact absurd rfl hne
        | cons y w => rfl
      rw [h2]
      intro p hp
      have hp' : p ∈ w.zip (w.drop 1 ++ [o]) := by
        have : (w ++ [o]).zip (w.drop 1 ++ [o]) = w.zip (w.drop 1 ++ [o]) := by
          have hle : (w.drop 1 ++ [o]).length ≤ w.length := by
            rw [List.length_append, List.length_drop, List.length_singleton]
            have := List.length_pos_iff.mpr hne
            omega
          have hlen2 : (w.drop 1 ++ [o]).length = w.length := by
            rw [List.length_append, List.length_drop, List.length_singleton]
            have := List.length_pos_iff.mpr hne
            omega
          have h3 : (w ++ [o]).zip ((w.drop 1 ++ [o]) ++ []) = w.zip (w.drop 1 ++ [o]) ++ [o].zip [] := List.zip_append hlen2.symm
          rw [List.append_nil] at h3
          rw [h3]; simp
        rw [← this]; exact hp
      exact up1_snoc hl hov hu p hp'
    · show 24 - ((w ++ [o]).map D.str).length < 24 - (w.map D.str).length
      rw [List.length_map, List.length_map]
      rw [List.length_append, List.length_singleton] at hlen ⊢
      omega
/-- a web's rings looked for -/
theorem lfr_ok (g : Gd T) : ∃ L, MaxU T L ∧ ((L = [] ∧ ∃ r, F_look_for_rings [some (.z, upD T)] = .ok .non r) ∨ (L ≠ [] ∧ ∃ w r, F_look_for_rings [some (.z, upD T)] = .exc "Ring" ["ring"] [lsD w] r ∧ RingT T w)) := by
  obtain ⟨r, L, e, hm, nd⟩ := rings_ok T g
  refine ⟨L, hm, ?_⟩
  have hL : L.length ≤ 24 := Nat.le_trans (nodup_le L (ky T) nd hm.sub) (by rw [List.length_map]; exact g.len)
  cases L with
  | nil =>
    refine .inl ⟨rfl, ?_⟩
    unfold F_look_for_rings
    rw [fnRun_ap]
    have h : oEq (.lst []) (.lst []) = some (.bl true) := rfl
    simp [e, h]
  | cons x L =>
    refine .inr ⟨by simp, ?_⟩
    obtain ⟨n, ns, vs, r', ew, en, ens, w, ev, hr⟩ := way_ok hm hL x List.mem_cons_self
    subst en ens ev
    refine ⟨w, ioEnd [false] 0 r', ?_, hr⟩
    unfold F_look_for_rings
    rw [fnRun_ap]

    have h4 : oCutL (lsD (x :: L)) none (some 1) = some (lsD [x]) := rfl
    have h3 : oEq (lsD (x :: L)) (.lst []) = some (.bl false) := oEq_strs0 (ls := x :: L)
    simp only [List.length_cons, List.length_nil, List.replicate, List.cons_append, List.nil_append]
    simp [-oEq_strs0, -oEq_strs, e, h3, h4, ew]
end
end Vm
set_option Elab.async false
set_option linter.all false
set_option maxRecDepth 100000
set_option maxHeartbeats 4000000
namespace Vm
open PySem PySem.Spec PyProof.Rows L2
/-- one look at a name -/
def popL (T : Tt) (n : List Nat) (L : List (List Nat)) : List (List Nat) := if (ov T n).any (fun u => decide (u ∈ L)) = true then L else L.filter fun x => !decide (x = n)
section
variable {T : Tt}
theorem popL_sub {n x : List Nat} {L : List (List Nat)} (h : x ∈ popL T n L) : x ∈ L := by
  unfold popL at h
  split at h
  · exact h
  · exact (List.mem_filter.mp h).1
theorem popL_nd {n : List Nat} {L : List (List Nat)} (h : L.Nodup) : (popL T n L).Nodup := by
  unfold popL
  split
  · exact h
  · exact h.sublist List.filter_sublist
theorem popL_max {n : List Nat} {L L' : List (List Nat)} (hf : FixU T L') (h : ∀ x ∈ L', x ∈ L) : ∀ x ∈ L', x ∈ popL T n L := by
  intro x hx
  unfold popL
  split
  · exact h x hx
  · rename_i c
    refine List.mem_filter.mpr ⟨h x hx, ?_⟩
    have : x ≠ n := fun z => by
      subst z
      obtain ⟨u, hu, hul⟩ := hf x hx
      exact c (List.any_eq_true.mpr ⟨u, hu, by simpa using h u hul⟩)
    simp [this]
theorem popL_len {n : List Nat} {L : List (List Nat)} : (popL T n L).length ≤ L.length := by
  unfold popL
  split
  · exact Nat.le_refl _
  · exact List.length_filter_le _ _
def passL (T : Tt) (ds L : List (List Nat)) : List (List Nat) := ds.foldl (fun L n => popL T n L) L
theorem passL_sub {x : List Nat} : ∀ {ds L : List (List Nat)}, x ∈ passL T ds L → x ∈ L
  | [], L, h => h
  | n :: ds, L, h => popL_sub (passL_sub (ds := ds) h)
theorem passL_nd : ∀ {ds L : List (List Nat)}, L.Nodup → (passL T ds L).Nodup
  | [], L, h => h
  | n :: ds, L, h => passL_nd (ds := ds) (popL_nd h)
theorem passL_max {L' : List (List Nat)} (hf : FixU T L') : ∀ {ds L : List (List Nat)}, (∀ x ∈ L', x ∈ L) → ∀ x ∈ L', x ∈ passL T ds L
  | [], L, h => h
  | n :: ds, L, h => passL_max hf (ds := ds) (popL_max hf h)
theorem passL_len : ∀ {ds L : List (List Nat)}, (passL T ds L).length ≤ L.length
  | [], L => Nat.le_refl _
  | n :: ds, L => Nat.le_trans (passL_len (ds := ds)) popL_len
/-- a pass that takes nothing out: each has one over it -/
theorem passL_same : ∀ {ds L : List (List Nat)}, (∀ n ∈ ds, n ∈ L) → (passL T ds L).length = L.length → ∀ n ∈ ds, ∃ u ∈ ov T n, u ∈ L
  | [], L, _, _, n, h => by cases h
  | m :: ds, L, hm, he, n, h => by
    have l1 : (passL T ds (popL T m L)).length ≤ (popL T m L).length := passL_len
    have l2 : (popL T m L).length ≤ L.length := popL_len
    have he' : (passL T ds (popL T m L)).length = L.length := he
    have c : (ov T m).any (fun u => decide (u ∈ L)) = true := Classical.byContradiction fun c => by
      have ep : popL T m L = L.filter fun x => !decide (x = m) := if_neg c
      have : (L.filter fun x => !decide (x = m)).length < L.length := by
        refine Nat.lt_of_le_of_ne (List.length_filter_le _ _) fun e => ?_
        have := (List.length_filter_eq_length_iff.mp e) m (hm m List.mem_cons_self)
        simp at this
      have l3 : (popL T m L).length < L.length := by rw [ep]; exact this
      omega
    have ep : popL T m L = L := if_pos c
    rcases List.mem_cons.mp h with z | z
    · subst z
      obtain ⟨u, hu, h2⟩ := List.any_eq_true.mp c
      exact ⟨u, hu, by simpa using h2⟩
    · rw [ep] at he'
      exact passL_same (ds := ds) (fun n hn => hm n (List.mem_cons_of_mem _ hn)) he' n z
theorem passL_fix {L : List (List Nat)} (hf : FixU T L) : ∀ {ds : List (List Nat)}, (∀ n ∈ ds, n ∈ L) → passL T ds L = L
  | [], _ => rfl
  | n :: ds, h => by
    obtain ⟨u, hu, hul⟩ := hf n (h n List.mem_cons_self)
    have ep : popL T n L = L := if_pos (List.any_eq_true.mpr ⟨u, hu, by simpa using hul⟩)
    show passL T ds (popL T n L) = L
    rw [ep]
    exact passL_fix hf fun m hm => h m (List.mem_cons_of_mem _ hm)
/-- the state between two rounds -/
structure RoundS (T : Tt) (k : Nat) (L : List (List Nat)) : Prop where
  nd : L.Nodup
  sub : ∀ x ∈ L, x ∈ ky T
  max : ∀ L', FixU T L' → (∀ x ∈ L', x ∈ ky T) → ∀ x ∈ L', x ∈ L
  go : FixU T L ∨ L.length + k ≤ T.length
theorem RoundS.next {k : Nat} {L : List (List Nat)} (h : RoundS T k L) : RoundS T (k + 1) (passL T L L) := by
  refine ⟨passL_nd h.nd, fun x hx => h.sub x (passL_sub hx), fun L' hf hs => passL_max hf (h.max L' hf hs), ?_⟩
  by_cases c : (passL T L L).length = L.length
  · have hf : FixU T L := fun n hn => passL_same (ds := L) (fun n hn => hn) c n hn
    left
    rw [passL_fix hf fun n hn => hn]
    exact hf
  · have := passL_len (T := T) (ds := L) (L := L)
    rcases h.go with g | g
    · exact absurd (by rw [passL_fix g fun n hn => hn]) c
    · right; omega
theorem RoundS.done {L : List (List Nat)} (h : RoundS T T.length L) : MaxU T L := by
  refine ⟨?_, h.sub, h.max⟩
  rcases h.go with g | g
  · exact g
  · have : L.length = 0 := by omega
    rw [List.length_eq_zero_iff.mp this]
    intro x hx; cases hx
end
end Vm
set_option Elab.async false
set_option linter.all false
set_option maxRecDepth 100000
set_option maxHeartbeats 4000000
namespace Vm
open PySem PySem.Spec PyProof.Rows L2
/-- a web -/
def webD (T : Tt) : D := .ins "Web" ["uppers"] [upD T]
theorem upD_snoc (T : Tt) (p : List Nat × List (List Nat)) (hn : p.1 ∉ ky T) (ok : sOk p.1 = true) (hl : T.length ≤ 1000) :
    dPutO (.str p.1) (lsD (srt p.2)) (T.map (fun p => D.str p.1), T.map fun p => lsD (srt p.2)) = some ((T ++ [p]).map (fun p => D.str p.1), (T ++ [p]).map fun p => lsD (srt p.2)) := by
  have e := dput_new (n := p.1) (ls := ky T) (vs := T.map fun p => lsD (srt p.2)) (d := lsD (srt p.2)) hn ok (by rw [List.length_map]; omega)
  rw [List.map_map] at e
  refine e.trans ?_
  simp
theorem init_loop (s1 : Sl) : ∀ (T2 T1 : Tt) (s2 s3 : Sl), (ky (T1 ++ T2)).Nodup → (∀ p ∈ T2, sOk p.1 = true ∧ p.2.length ≤ 60) → T1.length + T2.length ≤ 1000 → ∃ s2' s3', gLoop (tTupl 2 (tCon (tName 2) (tCon (tName 3) tNil))) (gIPut 0 "Web" "uppers" (fA oSortSet (fCons (eVar 3) fNil)) (eVar 2)) (T2.map tD)
    [some (.o (.all m1), .ins "Web" ["uppers"] [upD T1]), s1, s2, s3] = .ok .nx [some (.o (.all m1), .ins "Web" ["uppers"] [upD (T1 ++ T2)]), s1, s2', s3']
  | [], T1, s2, s3, _, _, _ => ⟨s2, s3, by rw [List.append_nil]; rfl⟩
  | p :: T2, T1, s2, s3, nd, h, hl => by
    have eA : T1 ++ p :: T2 = (T1 ++ [p]) ++ T2 := by simp
    obtain ⟨h1, h2⟩ := h p List.mem_cons_self
    rw [List.length_cons] at hl
    obtain ⟨a, b, ih⟩ := init_loop s1 T2 (T1 ++ [p]) (some (.z, .str p.1)) (some (.z, lsD p.2)) (by rw [← eA]; exact nd) (fun q hq => h q (List.mem_cons_of_mem _ hq)) (by rw [List.length_append, List.length_singleton]; omega)
    refine ⟨a, b, ?_⟩
    rw [List.map_cons, gLoop_cons, tD_t]
    have hn : p.1 ∉ ky T1 := fun z => by
      have nd' : (ky T1 ++ ky (p :: T2)).Nodup := by rw [← List.map_append]; exact nd
      exact (List.nodup_append.mp nd').2.2 p.1 z p.1 (by simp) rfl
    have e1 := upD_snoc T1 p hn h1 (by omega)
    have e2 : upD (T1 ++ [p]) = .dct ((T1 ++ [p]).map fun p => D.str p.1) ((T1 ++ [p]).map fun p => lsD (srt p.2)) := rfl
    have e3 : upD T1 = .dct (T1.map fun p => D.str p.1) (T1.map fun p => lsD (srt p.2)) := rfl
    rw [eA]
    rw [e2] at ih
    generalize hK : ((T1 ++ [p]).map fun p => D.str p.1) = K at e1 ih
    generalize hV : ((T1 ++ [p]).map fun p => lsD (srt p.2)) = V at e1 ih
    rw [e3]
    simp [h2, e1, ih]
theorem mkR_exc (r : En) (n : Str) (ns : List Str) (vs : List D) (rp : En) : mkR r (.exc n ns vs rp) = .exc n ns vs r := rfl
/-- a web made: it is one, or a ring is told -/
theorem init_ok {d : D} {T : Tt} (hd : anyT d T) (g : Gd T) : ∃ L, MaxU T L ∧ ((L = [] ∧ F_Web___init__ [some (.o (.all m1), .ins "Web" [] []), some (.z, d)] = .ok .non [some (.z, webD T), none]) ∨
    (L ≠ [] ∧ ∃ w r, F_Web___init__ [some (.o (.all m1), .ins "Web" [] []), some (.z, d)] = .exc "Ring" ["ring"] [lsD w] r ∧ RingT T w)) := by
  have hd' : anyL d = some (T.map tD) := hd
  have gl := g.len
  obtain ⟨r1, e1⟩ := look_ok hd g
  obtain ⟨a, b, e2⟩ := init_loop (some (.z, d)) T [] none none g.nd (fun p hp => ⟨(g.wd _ (List.mem_map.mpr ⟨p, hp, rfl⟩)).ok, (g.ov p hp).1⟩) (by rw [List.length_nil]; omega)
  rw [List.nil_append] at e2
  have e4 : upD [] = .dct [] [] := rfl
  rw [e4] at e2
  have e5 : setI "uppers" (.dct [] []) ([], []) = some ([("uppers" : Str)], [D.dct [] []]) := rfl
  have e6 : atrD "Web" "uppers" (.ins "Web" ["uppers"] [upD T]) = some (upD T) := by
    show (if ("Web" : Str) = "Web" then lkD "uppers" ["uppers"] [upD T] else none) = _
    rw [if_pos rfl]
    show (if ("uppers" : Str) = "uppers" then some (upD T) else _) = _
    rw [if_pos rfl]
  obtain ⟨L, hm, h⟩ := lfr_ok g
  refine ⟨L, hm, ?_⟩
  rcases h with ⟨hL, r3, e3⟩ | ⟨hL, w, r3, e3, hw⟩
  · refine .inl ⟨hL, ?_⟩
    unfold F_Web___init__
    rw [fnRun_ap]
    simp [e1, e5, hd', e2, fzS, e6, e3, ioEnd]
    rfl
  · have key : ∃ r, F_Web___init__ [some (.o (.all m1), .ins "Web" [] []), some (.z, d)] = .exc "Ring" ["ring"] [lsD w] r := by
      unfold F_Web___init__
      rw [fnRun_ap]
      have te : ∀ r, toR r (F_look_for_rings [some (.z, upD T)]) = .exc "Ring" ["ring"] [lsD w] r := fun r => by rw [e3]; rfl
      simp [e1, e5, hd', e2, fzS, e6, te]
    obtain ⟨r, e⟩ := key
    exact .inr ⟨hL, w, r, e, hw⟩
/-! ### places -/
section
variable {T : Tt}
end
end Vm
set_option Elab.async false
set_option linter.all false
set_option maxRecDepth 100000
set_option maxHeartbeats 4000000
namespace Vm
open PySem PySem.Spec PyProof.Rows L2
/-! refusals by hand -/
theorem lc_all {α : Type} {own : List Nat} {gt : D → M Fl} {ft fe : M D} {f h : α → D} {q : α → Bool} {r : En} : ∀ {l : List α},
    (∀ a ∈ l, ∃ r1, gt (f a) r = .ok .nx r1 ∧ ft r1 = .ok (.bl (q a)) r1 ∧ (q a = true → fe r1 = .ok (h a) r1) ∧ wipeE own r1 = r) → gLc own gt ft fe (l.map f) r = .ok ((l.filter q).map h) r
  | [], _ => rfl
  | a :: l, st => by
    obtain ⟨r1, e1, e2, e3, e4⟩ := st a List.mem_cons_self
    have ih := lc_all fun b hb => st b (List.mem_cons_of_mem _ hb)
    rw [List.map_cons, gLc_cons, e1]
    show (noX (ft r1)).bind (lcT own fe (gLc own gt ft fe (l.map f))) = _
    rw [e2]
    show lcT own fe (gLc own gt ft fe (l.map f)) (.bl (q a)) r1 = _
    rw [lcT_ap]
    cases hq : q a with
    | false => rw [if_neg Bool.false_ne_true, e4, ih, List.filter_cons_of_neg (by rw [hq]; decide)]
    | true =>
      rw [if_pos rfl, e3 hq]
      show (gLc own gt ft fe (l.map f) (wipeE own r1)).bind _ = _
      rw [e4, ih, List.filter_cons_of_pos hq]
      rfl

def clD (k : Int) : D := .lst [.int k, .int 12]
theorem rng12 : rngD 0 12 = (List.range 12).map fun k : Nat => D.int (k : Int) := rfl
theorem idx_lc (s0 : Sl) (bs : List Bool) (hb : bs.length = 12) : gLc [2] (tName 2) (fB (fOp2 oIxA (eVar 1) (eVar 2))) (eVar 2) (rngD 0 12) [s0, some (.z, .lst (bs.map .bl)), none] = .ok (((List.range 12).filter fun k => bs.getD k false).map fun k : Nat => D.int (k : Int)) [s0, some (.z, .lst (bs.map .bl)), none] := by
  rw [rng12]
  refine lc_all fun k hk => ⟨[s0, some (.z, .lst (bs.map .bl)), some (.z, .int (k : Int))], by simp, ?_, fun _ => by simp, by simp⟩
  have hk : k < 12 := List.mem_range.mp hk
  have e : oIxA (.lst (bs.map .bl)) (.int (k : Int)) = some (.bl (bs.getD k false)) := by
    rw [oIxA_lst]
    refine atI_nat ?_
    rw [List.getElem?_map, List.getD_eq_getElem?_getD, List.getElem?_eq_getElem (by omega)]
    rfl
  generalize D.lst (bs.map .bl) = BS at *
  simp [e]
theorem cls_Ring (ns : List Str) (vs : List D) (r : En) : toR r (F__law_classes [some (.z, .exn "Ring" ns vs)]) = .ok (clD 3) r := by
  have lc := idx_lc (some (.z, .exn "Ring" ns vs)) [false, false, false, true, false, false, false, false, false, false, false, false] rfl
  have hf : ((List.range 12).filter fun k => ([false, false, false, true, false, false, false, false, false, false, false, false] : List Bool).getD k false) = [3] := by decide
  rw [hf] at lc
  simp only [List.map_cons, List.map_nil] at lc
  have f0 : isXt ([("Alike", true), ("NoKind", false), ("NoLine", false), ("NoName", false), ("NoTerm", false), ("Ring", false), ("Taken", false)] : List (Str × Bool)) (.exn "Ring" ns vs) = some (.bl false) := rfl
  have f1 : isXt ([("Alike", false), ("NoKind", true), ("NoLine", false), ("NoName", false), ("NoTerm", false), ("Ring", false), ("Taken", false)] : List (Str × Bool)) (.exn "Ring" ns vs) = some (.bl false) := rfl
  have f2 : isXt ([("Alike", false), ("NoKind", false), ("NoLine", true), ("NoName", false), ("NoTerm", false), ("Ring", false), ("Taken", false)] : List (Str × Bool)) (.exn "Ring" ns vs) = some (.bl false) := rfl
  have f3 : isXt ([("Alike", false), ("NoKind", false), ("NoLine", false), ("NoName", true), ("NoTerm", false), ("Ring", false), ("Taken", false)] : List (Str × Bool)) (.exn "Ring" ns vs) = some (.bl false) := rfl
  have f4 : isXt ([("Alike", false), ("NoKind", false), ("NoLine", false), ("NoName", false), ("NoTerm", true), ("Ring", false), ("Taken", false)] : List (Str × Bool)) (.exn "Ring" ns vs) = some (.bl false) := rfl
  have f5 : isXt ([("Alike", false), ("NoKind", false), ("NoLine", false), ("NoName", false), ("NoTerm", false), ("Ring", true), ("Taken", false)] : List (Str × Bool)) (.exn "Ring" ns vs) = some (.bl true) := rfl
  have f6 : isXt ([("Alike", false), ("NoKind", false), ("NoLine", false), ("NoName", false), ("NoTerm", false), ("Ring", false), ("Taken", true)] : List (Str × Bool)) (.exn "Ring" ns vs) = some (.bl false) := rfl
  have g1 : isXt ([("Alike", false), ("NoKind", false), ("NoLine", false), ("NoName", false), ("NoTerm", false), ("Ring", false), ("Taken", false)] : List (Str × Bool)) (.exn "Ring" ns vs) = some (.bl false) := rfl
  have g2 : isXt ([("Alike", true), ("NoKind", true), ("NoLine", true), ("NoName", true), ("NoTerm", true), ("Ring", true), ("Taken", true)] : List (Str × Bool)) (.exn "Ring" ns vs) = some (.bl true) := rfl
  unfold F__law_classes
  rw [fnRun_ap]
  generalize D.exn "Ring" ns vs = EX at *
  simp [lc, clD, f0, f1, f2, f3, f4, f5, f6, g1, g2, -isXt_exn]
theorem cls_Alike (ns : List Str) (vs : List D) (r : En) : toR r (F__law_classes [some (.z, .exn "Alike" ns vs)]) = .ok (clD 6) r := by
  have lc := idx_lc (some (.z, .exn "Alike" ns vs)) [false, false, false, false, false, false, true, false, false, false, false, false] rfl
  have hf : ((List.range 12).filter fun k => ([false, false, false, false, false, false, true, false, false, false, false, false] : List Bool).getD k false) = [6] := by decide
  rw [hf] at lc
  simp only [List.map_cons, List.map_nil] at lc
  have f0 : isXt ([("Alike", true), ("NoKind", false), ("NoLine", false), ("NoName", false), ("NoTerm", false), ("Ring", false), ("Taken", false)] : List (Str × Bool)) (.exn "Alike" ns vs) = some (.bl true) := rfl
  have f1 : isXt ([("Alike", false), ("NoKind", true), ("NoLine", false), ("NoName", false), ("NoTerm", false), ("Ring", false), ("Taken", false)] : List (Str × Bool)) (.exn "Alike" ns vs) = some (.bl false) := rfl
  have f2 : isXt ([("Alike", false), ("NoKind", false), ("NoLine", true), ("NoName", false), ("NoTerm", false), ("Ring", false), ("Taken", false)] : List (Str × Bool)) (.exn "Alike" ns vs) = some (.bl false) := rfl
  have f3 : isXt ([("Alike", false), ("NoKind", false), ("NoLine", false), ("NoName", true), ("NoTerm", false), ("Ring", false), ("Taken", false)] : List (Str × Bool)) (.exn "Alike" ns vs) = some (.bl false) := rfl
  have f4 : isXt ([("Alike", false), ("NoKind", false), ("NoLine", false), ("NoName", false), ("NoTerm", true), ("Ring", false), ("Taken", false)] : List (Str × Bool)) (.exn "Alike" ns vs) = some (.bl false) := rfl
  have f5 : isXt ([("Alike", false), ("NoKind", false), ("NoLine", false), ("NoName", false), ("NoTerm", false), ("Ring", true), ("Taken", false)] : List (Str × Bool)) (.exn "Alike" ns vs) = some (.bl false) := rfl
  have f6 : isXt ([("Alike", false), ("NoKind", false), ("NoLine", false), ("NoName", false), ("NoTerm", false), ("Ring", false), ("Taken", true)] : List (Str × Bool)) (.exn "Alike" ns vs) = some (.bl false) := rfl
  have g1 : isXt ([("Alike", false), ("NoKind", false), ("NoLine", false), ("NoName", false), ("NoTerm", false), ("Ring", false), ("Taken", false)] : List (Str × Bool)) (.exn "Alike" ns vs) = some (.bl false) := rfl
  have g2 : isXt ([("Alike", true), ("NoKind", true), ("NoLine", true), ("NoName", true), ("NoTerm", true), ("Ring", true), ("Taken", true)] : List (Str × Bool)) (.exn "Alike" ns vs) = some (.bl true) := rfl
  unfold F__law_classes
  rw [fnRun_ap]
  generalize D.exn "Alike" ns vs = EX at *
  simp [lc, clD, f0, f1, f2, f3, f4, f5, f6, g1, g2, -isXt_exn]
theorem cls_NoTerm (ns : List Str) (vs : List D) (r : En) : toR r (F__law_classes [some (.z, .exn "NoTerm" ns vs)]) = .ok (clD 9) r := by
  have lc := idx_lc (some (.z, .exn "NoTerm" ns vs)) [false, false, false, false, false, false, false, false, false, true, false, false] rfl
  have hf : ((List.range 12).filter fun k => ([false, false, false, false, false, false, false, false, false, true, false, false] : List Bool).getD k false) = [9] := by decide
  rw [hf] at lc
  simp only [List.map_cons, List.map_nil] at lc
  have f0 : isXt ([("Alike", true), ("NoKind", false), ("NoLine", false), ("NoName", false), ("NoTerm", false), ("Ring", false), ("Taken", false)] : List (Str × Bool)) (.exn "NoTerm" ns vs) = some (.bl false) := rfl
  have f1 : isXt ([("Alike", false), ("NoKind", true), ("NoLine", false), ("NoName", false), ("NoTerm", false), ("Ring", false), ("Taken", false)] : List (Str × Bool)) (.exn "NoTerm" ns vs) = some (.bl false) := rfl
  have f2 : isXt ([("Alike", false), ("NoKind", false), ("NoLine", true), ("NoName", false), ("NoTerm", false), ("Ring", false), ("Taken", false)] : List (Str × Bool)) (.exn "NoTerm" ns vs) = some (.bl false) := rfl
  have f3 : isXt ([("Alike", false), ("NoKind", false), ("NoLine", false), ("NoName", true), ("NoTerm", false), ("Ring", false), ("Taken", false)] : List (Str × Bool)) (.exn "NoTerm" ns vs) = some (.bl false) := rfl
  have f4 : isXt ([("Alike", false), ("NoKind", false), ("NoLine", false), ("NoName", false), ("NoTerm", true), ("Ring", false), ("Taken", false)] : List (Str × Bool)) (.exn "NoTerm" ns vs) = some (.bl true) := rfl
  have f5 : isXt ([("Alike", false), ("NoKind", false), ("NoLine", false), ("NoName", false), ("NoTerm", false), ("Ring", true), ("Taken", false)] : List (Str × Bool)) (.exn "NoTerm" ns vs) = some (.bl false) := rfl
  have f6 : isXt ([("Alike", false), ("NoKind", false), ("NoLine", false), ("NoName", false), ("NoTerm", false), ("Ring", false), ("Taken", true)] : List (Str × Bool)) (.exn "NoTerm" ns vs) = some (.bl false) := rfl
  have g1 : isXt ([("Alike", false), ("NoKind", false), ("NoLine", false), ("NoName", false), ("NoTerm", false), ("Ring", false), ("Taken", false)] : List (Str × Bool)) (.exn "NoTerm" ns vs) = some (.bl false) := rfl
  have g2 : isXt ([("Alike", true), ("NoKind", true), ("NoLine", true), ("NoName", true), ("NoTerm", true), ("Ring", true), ("Taken", true)] : List (Str × Bool)) (.exn "NoTerm" ns vs) = some (.bl true) := rfl
  unfold F__law_classes
  rw [fnRun_ap]
  generalize D.exn "NoTerm" ns vs = EX at *
  simp [lc, clD, f0, f1, f2, f3, f4, f5, f6, g1, g2, -isXt_exn]
theorem cls_NoLine (ns : List Str) (vs : List D) (r : En) : toR r (F__law_classes [some (.z, .exn "NoLine" ns vs)]) = .ok (clD 11) r := by
  have lc := idx_lc (some (.z, .exn "NoLine" ns vs)) [false, false, false, false, false, false, false, false, false, false, false, true] rfl
  have hf : ((List.range 12).filter fun k => ([false, false, false, false, false, false, false, false, false, false, false, true] : List Bool).getD k false) = [11] := by decide
  rw [hf] at lc
  simp only [List.map_cons, List.map_nil] at lc
  have f0 : isXt ([("Alike", true), ("NoKind", false), ("NoLine", false), ("NoName", false), ("NoTerm", false), ("Ring", false), ("Taken", false)] : List (Str × Bool)) (.exn "NoLine" ns vs) = some (.bl false) := rfl
  have f1 : isXt ([("Alike", false), ("NoKind", true), ("NoLine", false), ("NoName", false), ("NoTerm", false), ("Ring", false), ("Taken", false)] : List (Str × Bool)) (.exn "NoLine" ns vs) = some (.bl false) := rfl
  have f2 : isXt ([("Alike", false), ("NoKind", false), ("NoLine", true), ("NoName", false), ("NoTerm", false), ("Ring", false), ("Taken", false)] : List (Str × Bool)) (.exn "NoLine" ns vs) = some (.bl true) := rfl
  have f3 : isXt ([("Alike", false), ("NoKind", false), ("NoLine", false), ("NoName", true), ("NoTerm", false), ("Ring", false), ("Taken", false)] : List (Str × Bool)) (.exn "NoLine" ns vs) = some (.bl false) := rfl
  have f4 : isXt ([("Alike", false), ("NoKind", false), ("NoLine", false), ("NoName", false), ("NoTerm", true), ("Ring", false), ("Taken", false)] : List (Str × Bool)) (.exn "NoLine" ns vs) = some (.bl false) := rfl
  have f5 : isXt ([("Alike", false), ("NoKind", false), ("NoLine", false), ("NoName", false), ("NoTerm", false), ("Ring", true), ("Taken", false)] : List (Str × Bool)) (.exn "NoLine" ns vs) = some (.bl false) := rfl
  have f6 : isXt ([("Alike", false), ("NoKind", false), ("NoLine", false), ("NoName", false), ("NoTerm", false), ("Ring", false), ("Taken", true)] : List (Str × Bool)) (.exn "NoLine" ns vs) = some (.bl false) := rfl
  have g1 : isXt ([("Alike", false), ("NoKind", false), ("NoLine", false), ("NoName", false), ("NoTerm", false), ("Ring", false), ("Taken", false)] : List (Str × Bool)) (.exn "NoLine" ns vs) = some (.bl false) := rfl
  have g2 : isXt ([("Alike", true), ("NoKind", true), ("NoLine", true), ("NoName", true), ("NoTerm", true), ("Ring", true), ("Taken", true)] : List (Str × Bool)) (.exn "NoLine" ns vs) = some (.bl true) := rfl
  unfold F__law_classes
  rw [fnRun_ap]
  generalize D.exn "NoLine" ns vs = EX at *
  simp [lc, clD, f0, f1, f2, f3, f4, f5, f6, g1, g2, -isXt_exn]
theorem clh_NoName (ns : List Str) (vs : List D) (r : En) : toR r (FH__law_classes [some (.z, .exn "NoName" ns vs)]) = .ok (clD 0) r := by
  have lc := idx_lc (some (.z, .exn "NoName" ns vs)) [true, false, false, false, false, false, false, false, false, false, false, false] rfl
  have hf : ((List.range 12).filter fun k => ([true, false, false, false, false, false, false, false, false, false, false, false] : List Bool).getD k false) = [0] := by decide
  rw [hf] at lc
  simp only [List.map_cons, List.map_nil] at lc
  have f0 : isXt ([("Alike", true), ("NoKind", false), ("NoLine", false), ("NoName", false), ("NoTerm", false), ("Ring", false), ("Taken", false)] : List (Str × Bool)) (.exn "NoName" ns vs) = some (.bl false) := rfl
  have f1 : isXt ([("Alike", false), ("NoKind", true), ("NoLine", false), ("NoName", false), ("NoTerm", false), ("Ring", false), ("Taken", false)] : List (Str × Bool)) (.exn "NoName" ns vs) = some (.bl false) := rfl
  have f2 : isXt ([("Alike", false), ("NoKind", false), ("NoLine", true), ("NoName", false), ("NoTerm", false), ("Ring", false), ("Taken", false)] : List (Str × Bool)) (.exn "NoName" ns vs) = some (.bl false) := rfl
  have f3 : isXt ([("Alike", false), ("NoKind", false), ("NoLine", false), ("NoName", true), ("NoTerm", false), ("Ring", false), ("Taken", false)] : List (Str × Bool)) (.exn "NoName" ns vs) = some (.bl true) := rfl
  have f4 : isXt ([("Alike", false), ("NoKind", false), ("NoLine", false), ("NoName", false), ("NoTerm", true), ("Ring", false), ("Taken", false)] : List (Str × Bool)) (.exn "NoName" ns vs) = some (.bl false) := rfl
  have f5 : isXt ([("Alike", false), ("NoKind", false), ("NoLine", false), ("NoName", false), ("NoTerm", false), ("Ring", true), ("Taken", false)] : List (Str × Bool)) (.exn "NoName" ns vs) = some (.bl false) := rfl
  have f6 : isXt ([("Alike", false), ("NoKind", false), ("NoLine", false), ("NoName", false), ("NoTerm", false), ("Ring", false), ("Taken", true)] : List (Str × Bool)) (.exn "NoName" ns vs) = some (.bl false) := rfl
  have g1 : isXt ([("Alike", false), ("NoKind", false), ("NoLine", false), ("NoName", false), ("NoTerm", false), ("Ring", false), ("Taken", false)] : List (Str × Bool)) (.exn "NoName" ns vs) = some (.bl false) := rfl
  have g2 : isXt ([("Alike", true), ("NoKind", true), ("NoLine", true), ("NoName", true), ("NoTerm", true), ("Ring", true), ("Taken", true)] : List (Str × Bool)) (.exn "NoName" ns vs) = some (.bl true) := rfl
  unfold FH__law_classes
  rw [fnRun_ap]
  generalize D.exn "NoName" ns vs = EX at *
  simp [lc, clD, f0, f1, f2, f3, f4, f5, f6, g1, g2, -isXt_exn]
theorem clh_Taken (ns : List Str) (vs : List D) (r : En) : toR r (FH__law_classes [some (.z, .exn "Taken" ns vs)]) = .ok (clD 1) r := by
  have lc := idx_lc (some (.z, .exn "Taken" ns vs)) [false, true, false, false, false, false, false, false, false, false, false, false] rfl
  have hf : ((List.range 12).filter fun k => ([false, true, false, false, false, false, false, false, false, false, false, false] : List Bool).getD k false) = [1] := by decide
  rw [hf] at lc
  simp only [List.map_cons, List.map_nil] at lc
  have f0 : isXt ([("Alike", true), ("NoKind", false), ("NoLine", false), ("NoName", false), ("NoTerm", false), ("Ring", false), ("Taken", false)] : List (Str × Bool)) (.exn "Taken" ns vs) = some (.bl false) := rfl
  have f1 : isXt ([("Alike", false), ("NoKind", true), ("NoLine", false), ("NoName", false), ("NoTerm", false), ("Ring", false), ("Taken", false)] : List (Str × Bool)) (.exn "Taken" ns vs) = some (.bl false) := rfl
  have f2 : isXt ([("Alike", false), ("NoKind", false), ("NoLine", true), ("NoName", false), ("NoTerm", false), ("Ring", false), ("Taken", false)] : List (Str × Bool)) (.exn "Taken" ns vs) = some (.bl false) := rfl
  have f3 : isXt ([("Alike", false), ("NoKind", false), ("NoLine", false), ("NoName", true), ("NoTerm", false), ("Ring", false), ("Taken", false)] : List (Str × Bool)) (.exn "Taken" ns vs) = some (.bl false) := rfl
  have f4 : isXt ([("Alike", false), ("NoKind", false), ("NoLine", false), ("NoName", false), ("NoTerm", true), ("Ring", false), ("Taken", false)] : List (Str × Bool)) (.exn "Taken" ns vs) = some (.bl false) := rfl
  have f5 : isXt ([("Alike", false), ("NoKind", false), ("NoLine", false), ("NoName", false), ("NoTerm", false), ("Ring", true), ("Taken", false)] : List (Str × Bool)) (.exn "Taken" ns vs) = some (.bl false) := rfl
  have f6 : isXt ([("Alike", false), ("NoKind", false), ("NoLine", false), ("NoName", false), ("NoTerm", false), ("Ring", false), ("Taken", true)] : List (Str × Bool)) (.exn "Taken" ns vs) = some (.bl true) := rfl
  have g1 : isXt ([("Alike", false), ("NoKind", false), ("NoLine", false), ("NoName", false), ("NoTerm", false), ("Ring", false), ("Taken", false)] : List (Str × Bool)) (.exn "Taken" ns vs) = some (.bl false) := rfl
  have g2 : isXt ([("Alike", true), ("NoKind", true), ("NoLine", true), ("NoName", true), ("NoTerm", true), ("Ring", true), ("Taken", true)] : List (Str × Bool)) (.exn "Taken" ns vs) = some (.bl true) := rfl
  unfold FH__law_classes
  rw [fnRun_ap]
  generalize D.exn "Taken" ns vs = EX at *
  simp [lc, clD, f0, f1, f2, f3, f4, f5, f6, g1, g2, -isXt_exn]
theorem clh_NoKind (ns : List Str) (vs : List D) (r : En) : toR r (FH__law_classes [some (.z, .exn "NoKind" ns vs)]) = .ok (clD 2) r := by
  have lc := idx_lc (some (.z, .exn "NoKind" ns vs)) [false, false, true, false, false, false, false, false, false, false, false, false] rfl
  have hf : ((List.range 12).filter fun k => ([false, false, true, false, false, false, false, false, false, false, false, false] : List Bool).getD k false) = [2] := by decide
  rw [hf] at lc
  simp only [List.map_cons, List.map_nil] at lc
  have f0 : isXt ([("Alike", true), ("NoKind", false), ("NoLine", false), ("NoName", false), ("NoTerm", false), ("Ring", false), ("Taken", false)] : List (Str × Bool)) (.exn "NoKind" ns vs) = some (.bl false) := rfl
  have f1 : isXt ([("Alike", false), ("NoKind", true), ("NoLine", false), ("NoName", false), ("NoTerm", false), ("Ring", false), ("Taken", false)] : List (Str × Bool)) (.exn "NoKind" ns vs) = some (.bl true) := rfl
  have f2 : isXt ([("Alike", false), ("NoKind", false), ("NoLine", true), ("NoName", false), ("NoTerm", false), ("Ring", false), ("Taken", false)] : List (Str × Bool)) (.exn "NoKind" ns vs) = some (.bl false) := rfl
  have f3 : isXt ([("Alike", false), ("NoKind", false), ("NoLine", false), ("NoName", true), ("NoTerm", false), ("Ring", false), ("Taken", false)] : List (Str × Bool)) (.exn "NoKind" ns vs) = some (.bl false) := rfl
  have f4 : isXt ([("Alike", false), ("NoKind", false), ("NoLine", false), ("NoName", false), ("NoTerm", true), ("Ring", false), ("Taken", false)] : List (Str × Bool)) (.exn "NoKind" ns vs) = some (.bl false) := rfl
  have f5 : isXt ([("Alike", false), ("NoKind", false), ("NoLine", false), ("NoName", false), ("NoTerm", false), ("Ring", true), ("Taken", false)] : List (Str × Bool)) (.exn "NoKind" ns vs) = some (.bl false) := rfl
  have f6 : isXt ([("Alike", false), ("NoKind", false), ("NoLine", false), ("NoName", false), ("NoTerm", false), ("Ring", false), ("Taken", true)] : List (Str × Bool)) (.exn "NoKind" ns vs) = some (.bl false) := rfl
  have g1 : isXt ([("Alike", false), ("NoKind", false), ("NoLine", false), ("NoName", false), ("NoTerm", false), ("Ring", false), ("Taken", false)] : List (Str × Bool)) (.exn "NoKind" ns vs) = some (.bl false) := rfl
  have g2 : isXt ([("Alike", true), ("NoKind", true), ("NoLine", true), ("NoName", true), ("NoTerm", true), ("Ring", true), ("Taken", true)] : List (Str × Bool)) (.exn "NoKind" ns vs) = some (.bl true) := rfl
  unfold FH__law_classes
  rw [fnRun_ap]
  generalize D.exn "NoKind" ns vs = EX at *
  simp [lc, clD, f0, f1, f2, f3, f4, f5, f6, g1, g2, -isXt_exn]
theorem clh_Ring (ns : List Str) (vs : List D) (r : En) : toR r (FH__law_classes [some (.z, .exn "Ring" ns vs)]) = .ok (clD 3) r := by
  have lc := idx_lc (some (.z, .exn "Ring" ns vs)) [false, false, false, true, false, false, false, false, false, false, false, false] rfl
  have hf : ((List.range 12).filter fun k => ([false, false, false, true, false, false, false, false, false, false, false, false] : List Bool).getD k false) = [3] := by decide
  rw [hf] at lc
  simp only [List.map_cons, List.map_nil] at lc
  have f0 : isXt ([("Alike", true), ("NoKind", false), ("NoLine", false), ("NoName", false), ("NoTerm", false), ("Ring", false), ("Taken", false)] : List (Str × Bool)) (.exn "Ring" ns vs) = some (.bl false) := rfl
  have f1 : isXt ([("Alike", false), ("NoKind", true), ("NoLine", false), ("NoName", false), ("NoTerm", false), ("Ring", false), ("Taken", false)] : List (Str × Bool)) (.exn "Ring" ns vs) = some (.bl false) := rfl
  have f2 : isXt ([("Alike", false), ("NoKind", false), ("NoLine", true), ("NoName", false), ("NoTerm", false), ("Ring", false), ("Taken", false)] : List (Str × Bool)) (.exn "Ring" ns vs) = some (.bl false) := rfl
  have f3 : isXt ([("Alike", false), ("NoKind", false), ("NoLine", false), ("NoName", true), ("NoTerm", false), ("Ring", false), ("Taken", false)] : List (Str × Bool)) (.exn "Ring" ns vs) = some (.bl false) := rfl
  have f4 : isXt ([("Alike", false), ("NoKind", false), ("NoLine", false), ("NoName", false), ("NoTerm", true), ("Ring", false), ("Taken", false)] : List (Str × Bool)) (.exn "Ring" ns vs) = some (.bl false) := rfl
  have f5 : isXt ([("Alike", false), ("NoKind", false), ("NoLine", false), ("NoName", false), ("NoTerm", false), ("Ring", true), ("Taken", false)] : List (Str × Bool)) (.exn "Ring" ns vs) = some (.bl true) := rfl
  have f6 : isXt ([("Alike", false), ("NoKind", false), ("NoLine", false), ("NoName", false), ("NoTerm", false), ("Ring", false), ("Taken", true)] : List (Str × Bool)) (.exn "Ring" ns vs) = some (.bl false) := rfl
  have g1 : isXt ([("Alike", false), ("NoKind", false), ("NoLine", false), ("NoName", false), ("NoTerm", false), ("Ring", false), ("Taken", false)] : List (Str × Bool)) (.exn "Ring" ns vs) = some (.bl false) := rfl
  have g2 : isXt ([("Alike", true), ("NoKind", true), ("NoLine", true), ("NoName", true), ("NoTerm", true), ("Ring", true), ("Taken", true)] : List (Str × Bool)) (.exn "Ring" ns vs) = some (.bl true) := rfl
  unfold FH__law_classes
  rw [fnRun_ap]
  generalize D.exn "Ring" ns vs = EX at *
  simp [lc, clD, f0, f1, f2, f3, f4, f5, f6, g1, g2, -isXt_exn]
end Vm
set_option Elab.async false
set_option linter.all false
set_option maxRecDepth 100000
set_option maxHeartbeats 4000000
namespace Vm
open PySem PySem.Spec PyProof.Rows L2
theorem seq_step {io : List Bool} {A B : M Fl} {s0 : Sl} {r r' : En} {d : D} (h : A (s0 :: r) = .ok .nx r') (k : ∃ q, onR io (B r') = .ok d q) : ∃ q, onR io (gSeq A B (s0 :: r)) = .ok d q := by
  have e : gSeq A B (s0 :: r) = B r' := by
    unfold gSeq
    rw [h]
    rfl
  rw [e]; exact k
theorem try_exc {sub : Str → Option Bool} {i : Nat} {gb gs : M Fl} {s0 : Sl} {r r1 r2 : En} {fl : Fl} {n : Str} {ns : List Str} {vs : List D} (h : gb (s0 :: r) = .exc n ns vs r1) (hs : sub n = some true) (hg : gs (r1.set i (some (.z, .exn n ns vs))) = .ok fl r2) : gTry sub i gb gs (s0 :: r) = .ok fl (r2.set i none) := by
  rw [gTry_ap, h]
  unfold tryX
  dsimp only
  rw [hs]
  show tryE i (gs _) = _
  rw [hg]; rfl
theorem toR_x {x : Res D} {r : En} {d : D} (h : toR r x = .ok d r) : ∃ q, x = .ok d q := by
  cases x with
  | ok a q => cases h; exact ⟨q, rfl⟩
  | exc n ns vs q => cases h
  | bad => cases h
/-! ### made by hand -/
theorem made_r {ws : List (List Nat)} (hl : ws.length ≤ 8) (a b : List Nat) (n : Int) : ∃ q, F__law_made [some (.z, lsD ws), some (.z, .str a), some (.z, .str b), some (.z, .int n)] = .ok (.bl true) q := by
  unfold F__law_made
  rw [fnRun_ap]
  have c1 := cls_Ring ["ring"] [lsD ws]
  have c2 := cls_Alike ["other", "one"] [.str b, .str a]
  have c3 := cls_NoTerm ["body", "function"] [.str b, .str a]
  have c4 := cls_NoLine ["line"] [.int n]
  have d1 : oNe (clD 3) (.lst [.int 3, .int 12]) = some (.bl false) := rfl
  have d2 : oNe (clD 6) (.lst [.int 6, .int 12]) = some (.bl false) := rfl
  have d3 : oNe (clD 9) (.lst [.int 9, .int 12]) = some (.bl false) := rfl
  have d4 : oEq (clD 11) (.lst [.int 11, .int 12]) = some (.bl true) := rfl
  have x1 : xfT [("Ring" : Str)] "ring" (.exn "Ring" ["ring"] [lsD ws]) = some (lsD ws) := rfl
  have x2 : xfT [("Alike" : Str)] "one" (.exn "Alike" ["other", "one"] [.str b, .str a]) = some (.str a) := rfl
  have x3 : xfT [("Alike" : Str)] "other" (.exn "Alike" ["other", "one"] [.str b, .str a]) = some (.str b) := rfl
  have x4 : xfT [("NoTerm" : Str)] "function" (.exn "NoTerm" ["body", "function"] [.str b, .str a]) = some (.str a) := rfl
  have x5 : xfT [("NoTerm" : Str)] "body" (.exn "NoTerm" ["body", "function"] [.str b, .str a]) = some (.str b) := rfl
  have x6 : xfT [("NoLine" : Str)] "line" (.exn "NoLine" ["line"] [.int n]) = some (.int n) := rfl
  have hl2 : (ws.map D.str).length < 16777216 := by rw [List.length_map]; omega
  have m1' : fMkF "Ring" 0 ["ring"] fs_RingL [some 4] (lentA 4 fNil) [some (.z, lsD ws), some (.z, .str a), some (.z, .str b), some (.z, .int n), some (m1, lsD ws), none] = .ok (.exn "Ring" ["ring"] [lsD ws]) [some (.z, lsD ws), some (.z, .str a), some (.z, .str b), some (.z, .int n), some (m1, lsD ws), none] := rfl
  have m2' : ∀ s4 s5 : Sl, fMkF "Alike" 0 ["one", "other"] fs_Alike [none, none] (fCons (eVar 1) (fCons (eVar 2) fNil)) [some (.z, lsD ws), some (.z, .str a), some (.z, .str b), some (.z, .int n), s4, s5] = .ok (.exn "Alike" ["other", "one"] [.str b, .str a]) [some (.z, lsD ws), some (.z, .str a), some (.z, .str b), some (.z, .int n), s4, s5] := fun _ _ => rfl
  have m3' : ∀ s4 s5 : Sl, fMkF "NoTerm" 0 ["function", "body"] fs_NoTerm [none, none] (fCons (eVar 1) (fCons (eVar 2) fNil)) [some (.z, lsD ws), some (.z, .str a), some (.z, .str b), some (.z, .int n), s4, s5] = .ok (.exn "NoTerm" ["body", "function"] [.str b, .str a]) [some (.z, lsD ws), some (.z, .str a), some (.z, .str b), some (.z, .int n), s4, s5] := fun _ _ => rfl
  have m4' : ∀ s4 s5 : Sl, fMkF "NoLine" 0 ["line"] fs_NoLine [none] (fCons (eVar 3) fNil) [some (.z, lsD ws), some (.z, .str a), some (.z, .str b), some (.z, .int n), s4, s5] = .ok (.exn "NoLine" ["line"] [.int n]) [some (.z, lsD ws), some (.z, .str a), some (.z, .str b), some (.z, .int n), s4, s5] := fun _ _ => rfl
  have la : oListA [lsD ws] = some (lsD ws) := rfl
  have nw : oNe (lsD ws) (lsD ws) = some (.bl false) := by rw [oNe_strs]; simp
  have xap : ∀ (tab : List Str) (f : Str) (fe : M D) (s0 : Sl) (r : En), fXf tab f fe (s0 :: r) = (fe (s0 :: r)).bind fun d r => rM (xfT tab f d) r := fun _ _ _ _ _ => rfl
  have il : isT .list (lsD ws) = some true := rfl
  refine seq_step (r' := [some (.z, lsD ws), some (.z, .str a), some (.z, .str b), some (.z, .int n), some (m1, lsD ws), none]) (by
    generalize lsD ws = W at *
    simp [la]) ?_
  refine seq_step (r' := [some (.z, lsD ws), some (.z, .str a), some (.z, .str b), some (.z, .int n), some (m1, lsD ws), some (.z, .exn "Ring" ["ring"] [lsD ws])]) (by
    unfold gSet
    rw [m1']; rfl) ?_
  refine seq_step (r' := [some (.z, lsD ws), some (.z, .str a), some (.z, .str b), some (.z, .int n), some (m1, .lst (ws.map D.str ++ [.str [122, 122]])), some (.z, .exn "Ring" ["ring"] [lsD ws])]) (by
    have hl3 : ws.length < 16777216 := by omega
    simp [hl3]) ?_
  refine seq_step (r' := [some (.z, lsD ws), some (.z, .str a), some (.z, .str b), some (.z, .int n), some (m1, .lst (ws.map D.str ++ [.str [122, 122]])), some (.z, .exn "Ring" ["ring"] [lsD ws])]) (by
    generalize D.exn "Ring" ["ring"] [lsD ws] = EX at *
    generalize lsD ws = W at *
    simp [xap, x1, nw, il, c1, d1]) ?_
  refine seq_step (r' := [some (.z, lsD ws), some (.z, .str a), some (.z, .str b), some (.z, .int n), some (m1, .lst (ws.map D.str ++ [.str [122, 122]])), some (.z, .exn "Alike" ["other", "one"] [.str b, .str a])]) (by
    unfold gSet
    rw [m2']; rfl) ?_
  refine seq_step (r' := [some (.z, lsD ws), some (.z, .str a), some (.z, .str b), some (.z, .int n), some (m1, .lst (ws.map D.str ++ [.str [122, 122]])), some (.z, .exn "Alike" ["other", "one"] [.str b, .str a])]) (by
    generalize D.exn "Alike" ["other", "one"] [.str b, .str a] = EX at *
    generalize lsD ws = W at *
    simp [xap, x2, x3, c2, d2]) ?_
  refine seq_step (r' := [some (.z, lsD ws), some (.z, .str a), some (.z, .str b), some (.z, .int n), some (m1, .lst (ws.map D.str ++ [.str [122, 122]])), some (.z, .exn "NoTerm" ["body", "function"] [.str b, .str a])]) (by
    unfold gSet
    rw [m3']; rfl) ?_
  refine seq_step (r' := [some (.z, lsD ws), some (.z, .str a), some (.z, .str b), some (.z, .int n), some (m1, .lst (ws.map D.str ++ [.str [122, 122]])), some (.z, .exn "NoTerm" ["body", "function"] [.str b, .str a])]) (by
    generalize D.exn "NoTerm" ["body", "function"] [.str b, .str a] = EX at *
    generalize lsD ws = W at *
    simp [xap, x4, x5, c3, d3]) ?_
  refine seq_step (r' := [some (.z, lsD ws), some (.z, .str a), some (.z, .str b), some (.z, .int n), some (m1, .lst (ws.map D.str ++ [.str [122, 122]])), some (.z, .exn "NoLine" ["line"] [.int n])]) (by
    unfold gSet
    rw [m4']; rfl) ?_
  generalize D.exn "NoLine" ["line"] [.int n] = EX at *
  generalize lsD ws = W at *
  simp [xap, x6, c4, d4]
/-! ### refused -/
theorem isn_new (r : En) : toR r (F_is_name [some (.z, .str t_new)]) = .ok (.bl false) r := by
  unfold F_is_name
  rw [fnRun_ap]
  have h1 : oNotInA (.str t_new) (.tup [(.str t_any), (.str t_none), (.str t_blank), (.str t_new), (.str [111, 110])]) = some (.bl false) := rfl
  have h2 : oEq (.str t_new) (.str []) = some (.bl false) := rfl
  have h3 : oLenA [.str t_new] = some (.int 3) := rfl
  have h4 : isT .str (.str t_new) = some true := rfl
  generalize D.str t_new = N at *
  simp [h1, h2, h3, h4]
theorem ref_of {d : D} {c : Str} {ns : List Str} {vs : List D} {k : Int} {r : En} (hc : (([("Alike", true), ("NoKind", true), ("NoLine", true), ("NoName", true), ("NoTerm", true), ("Ring", true), ("Taken", true)] : List (Str × Bool)).lookup c) = some true) (e : F_Web___init__ [some (.o (.all m1), .ins "Web" [] []), some (.z, d)] = .exc c ns vs r)
    (h : ∀ r, toR r (FH__law_classes [some (.z, .exn c ns vs)]) = .ok (clD k) r) : ∃ q, F__law_refused [some (.z, d)] = .ok (clD k) q := by
  unfold F__law_refused
  rw [fnRun_ap]
  refine seq_step (r' := [some (.z, d), some (.z, .lst []), none]) (by simp) ?_
  refine seq_step (r' := [some (.z, d), some (.z, clD k), none]) ?_ (by simp)
  refine try_exc (n := c) (ns := ns) (vs := vs) (r1 := [some (.z, d), some (.z, .lst []), none]) (r2 := [some (.z, d), some (.z, clD k), some (.z, .exn c ns vs)]) ?_ hc ?_
  · have hm : fMake "Web" F_Web___init__ [none] (fCons (eVar 0) fNil) [some (.z, d), some (.z, .lst []), none] = .exc c ns vs [some (.z, d), some (.z, .lst []), none] := by
      simp [e, mkR_exc]
    unfold gDo
    rw [hm]; rfl
  · generalize D.exn c ns vs = EX at *
    obtain ⟨q, hq⟩ := toR_x (h [])
    simp [hq]
theorem init_of {d : D} {c : Str} {ns : List Str} {vs : List D} (h : ∀ r, toR r (F_look_at_names [some (.z, d)]) = .exc c ns vs r) : ∃ r, F_Web___init__ [some (.o (.all m1), .ins "Web" [] []), some (.z, d)] = .exc c ns vs r := by
  unfold F_Web___init__
  rw [fnRun_ap]
  simp [h]
theorem names_lc (d : D) (T : Tt) (s2 s3 : Sl) : gLc [2, 3] (tTupl 2 (tCon (tName 2) (tCon (tName 3) tNil))) ftY (eVar 2) (T.map tD) [some (.z, d), none, none, none, none] = .ok ((ky T).map .str) [some (.z, d), none, none, none, none] := by
  have e : gLc [2, 3] (tTupl 2 (tCon (tName 2) (tCon (tName 3) tNil))) ftY (eVar 2) (T.map tD) [some (.z, d), none, none, none, none] = .ok ((T.filter fun _ => true).map fun p => .str p.1) [some (.z, d), none, none, none, none] :=
    lc_all fun p hp => ⟨[some (.z, d), none, some (.z, .str p.1), some (.z, lsD p.2), none], by simp [tD], by simp, fun _ => by simp, by simp⟩
  rw [filter_tt] at e
  rw [e, List.map_map]; rfl
theorem look1 (r : En) : toR r (F_look_at_names [some (.z, .lst [.tup [.str t_new, .lst []]])]) = .exc "NoName" [] [] r := by
  unfold F_look_at_names
  rw [fnRun_ap]
  simp [anyL, isn_new, gRaise]
theorem look2 {a : List Nat} (ha : Wd a) (r : En) : toR r (F_look_at_names [some (.z, tsD [(a, []), (a, [])])]) = .exc "Taken" [] [] r := by
  unfold F_look_at_names
  rw [fnRun_ap]
  obtain ⟨x, y, ⟨kx, ky'⟩, e1⟩ := loop1_ok (some (.z, tsD [(a, []), (a, [])])) [(a, []), (a, [])] none none none (fun p hp => by
    have : p = (a, []) := by simpa using hp
    rw [this]; exact ⟨ha, fun u hu => by cases hu⟩) rfl rfl
  have e2 := names_lc (tsD [(a, []), (a, [])]) [(a, []), (a, [])] none none
  have hd : anyL (tsD [(a, []), (a, [])]) = some (([(a, []), (a, [])] : Tt).map tD) := rfl
  have hde : dedL [a, a] = [a] := by simp [dedL, addL]
  have hk : ky [(a, ([] : List (List Nat))), (a, [])] = [a, a] := rfl
  rw [hk] at e2
  have ls : oLenSet [.lst ([a, a].map D.str)] = some (.int 1) := by
    rw [oLenSet_lst, if_pos (by simp), hde]; rfl
  have ln : oLenA [.lst ([a, a].map D.str)] = some (.int 2) := rfl
  generalize [a, a].map D.str = AA at *
  generalize ([(a, []), (a, [])] : Tt).map tD = TT at *
  generalize tsD [(a, []), (a, [])] = TD at *
  simp [hd, e1, e2, kx, ky', ls, ln, gRaise]
theorem look3 {a m : List Nat} (ha : Wd a) (hm : Wd m) (hne : a ≠ m) (r : En) : toR r (F_look_at_names [some (.z, tsD [(a, [m])])]) = .exc "NoKind" [] [] r := by
  unfold F_look_at_names
  rw [fnRun_ap]
  obtain ⟨x, y, ⟨kx, ky'⟩, e1⟩ := loop1_ok (some (.z, tsD [(a, [m])])) [(a, [m])] none none none (fun p hp => by
    have : p = (a, [m]) := by simpa using hp
    rw [this]; exact ⟨ha, fun u hu => by have : u = m := by simpa using hu
                                         rw [this]; exact hm⟩) rfl rfl
  have e2 := names_lc (tsD [(a, [m])]) [(a, [m])] none none
  have hd : anyL (tsD [(a, [m])]) = some (([(a, [m])] : Tt).map tD) := rfl
  have hk : ky [(a, [m])] = [a] := rfl
  rw [hk] at e2
  have hde : dedL [a] = [a] := by simp [dedL, addL]
  have ls : oLenSet [.lst ([a].map D.str)] = some (.int 1) := by
    rw [oLenSet_lst, if_pos (by simp), hde]; rfl
  have ln : oLenA [.lst ([a].map D.str)] = some (.int 1) := rfl
  have hg : ∀ ls : List (List Nat), m ∉ ls → oInA (.str m) (lsD ls) = some (.bl false) := fun ls h => by simp [h]
  have hin : oInA (.str m) (.lst ([a].map D.str)) = some (.bl false) := hg [a] (by simpa using fun z => hne z.symm)
  have hal : anyL (.lst [.str m]) = some [.str m] := rfl
  have oa : oAll [.lst [.bl false]] = some (.bl false) := rfl
  have tm : ([(a, [m])] : Tt).map tD = [.tup [.str a, .lst [.str m]]] := rfl
  rw [tm] at e1 e2 hd
  generalize [a].map D.str = AA at *
  generalize tsD [(a, [m])] = TD at *
  simp [hd, hal, e1, e2, kx, ky', ls, ln, hin, oa, gRaise]
theorem ref1 : ∃ q, F__law_refused [some (.z, .lst [.tup [.str t_new, .lst []]])] = .ok (clD 0) q := by
  obtain ⟨r, e⟩ := init_of (d := .lst [.tup [.str t_new, .lst []]]) look1
  exact ref_of rfl e (clh_NoName [] [])
theorem ref2 {a : List Nat} (ha : Wd a) : ∃ q, F__law_refused [some (.z, tsD [(a, []), (a, [])])] = .ok (clD 1) q := by
  obtain ⟨r, e⟩ := init_of (look2 ha)
  exact ref_of rfl e (clh_Taken [] [])
theorem ref3 {a m : List Nat} (ha : Wd a) (hm : Wd m) (hne : a ≠ m) : ∃ q, F__law_refused [some (.z, tsD [(a, [m])])] = .ok (clD 2) q := by
  obtain ⟨r, e⟩ := init_of (look3 ha hm hne)
  exact ref_of rfl e (clh_NoKind [] [])
theorem ref4 {a : List Nat} (ha : Wd a) : ∃ q, F__law_refused [some (.z, tsD [(a, [a])])] = .ok (clD 3) q := by
  have g : Gd [(a, [a])] := ⟨by simp, by simp, fun n hn => by
    have : n = a := by simpa using hn
    rw [this]; exact ha, fun p hp => by
    have : p = (a, [a]) := by simpa using hp
    rw [this]
    exact ⟨by simp, fun u hu => hu⟩⟩
  obtain ⟨L, hm, h⟩ := init_ok (d := tsD [(a, [a])]) (T := [(a, [a])]) rfl g
  have hov : Vm.ov [(a, [a])] a = [a] := by
    unfold Vm.ov
    simp
  have hL : a ∈ L := hm.max [a] (fun x hx => by
    have : x = a := by simpa using hx
    rw [this]
    exact ⟨a, by rw [hov]; exact List.mem_singleton.mpr rfl, List.mem_singleton.mpr rfl⟩) (fun x hx => by
    have : x = a := by simpa using hx
    rw [this]
    show a ∈ [a]
    exact List.mem_singleton.mpr rfl) a (by simp)
  rcases h with ⟨hn, _⟩ | ⟨_, w, r, e, _⟩
  · rw [hn] at hL; cases hL
  · exact ref_of rfl e (clh_Ring ["ring"] [lsD w])
theorem wd_zebra : Wd t_zebra := by unfold Wd; decide
theorem wd_yak : Wd t_yak := by unfold Wd; decide
theorem pure_law (ns : List Int) (h1 : ns.length ≤ 63) (h2 : ∀ z ∈ ns, Builtin.Int.intBits z ≤ 1048576) : ∃ r, F_law [some (.z, .scr ns)] = .ok (.bl true) r := by
  unfold F_law
  rw [fnRun_ap]
  obtain ⟨p1, r1, e1⟩ := pick_ok ns h1 1
  obtain ⟨p2, r2, e2⟩ := pick_ok ns h1 2
  obtain ⟨p0, r0, e0⟩ := pick_ok ns h1 0
  obtain ⟨a, q1, w1, wa, _⟩ := word_ok p1
  obtain ⟨b, q2, w2, wb, _⟩ := word_ok p2
  have hd8 : divOk p0 8 = true := divOk_s _ _ (by omega) (by omega)
  have hdn : divOk (p0 / 8) 2001 = true := divOk_s _ _ (by omega) (by omega)
  refine seq_step (r' := [some (.z, .scr ns), some (.z, .str a), none, none, none, none, none, none, none]) (by simp [e1, w1]) ?_
  refine seq_step (r' := [some (.z, .scr ns), some (.z, .str a), some (.z, .str b), none, none, none, none, none, none]) (by simp [e2, w2]) ?_
  refine seq_step (r' := [some (.z, .scr ns), some (.z, .str a), some (.z, .str b), some (.z, .int (p0 / 8 % 2001)), none, none, none, none, none]) (by simp [e0, hd8, hdn]) ?_
  -- the ring's names
  obtain ⟨k, hk⟩ := Int.eq_ofNat_of_zero_le (show 0 ≤ p0 % 8 by omega)
  have lc : ∀ (l : List Nat), (∀ j ∈ l, j < 8) → ∃ ws : List (List Nat), ws.length = l.length ∧ gLc [7] (tName 7) ftY E_law_1 (l.map fun j : Nat => D.int (j : Int)) [some (.z, .scr ns), some (.z, .str a), some (.z, .str b), some (.z, .int (p0 / 8 % 2001)), none, none, none, none, none] = .ok (ws.map D.str) [some (.z, .scr ns), some (.z, .str a), some (.z, .str b), some (.z, .int (p0 / 8 % 2001)), none, none, none, none, none] := by
    intro l
    induction l with
    | nil => exact fun _ => ⟨[], rfl, rfl⟩
    | cons j l ih =>
      intro hl
      obtain ⟨ws, hw, ew⟩ := ih fun x hx => hl x (List.mem_cons_of_mem _ hx)
      obtain ⟨pj, rj, ej⟩ := pick_ok ns h1 (3 + j)
      obtain ⟨c, qc, wc, _, _⟩ := word_ok pj
      refine ⟨c :: ws, by rw [List.length_cons, List.length_cons, hw], ?_⟩
      rw [List.map_cons, gLc_cons]
      simp [E_law_1_ap, ej, wc, ew]
  obtain ⟨ws, hws, elc⟩ := lc (List.range (k + 1)) fun j hj => by
    have := List.mem_range.mp hj
    omega
  rw [List.length_range] at hws
  have erg : rngD 0 (k + 1) = (List.range (k + 1)).map fun j : Nat => D.int (j : Int) := by
    have : ∀ (n : Nat) (lo : Int), rngD lo n = (List.range n).map fun i : Nat => D.int (lo + i) := fun n => by
      induction n with
      | zero => intro lo; rfl
      | succ n ih =>
        intro lo
        rw [List.range_succ_eq_map, List.map_cons, List.map_map, show rngD lo (n + 1) = .int lo :: rngD (lo + 1) n from rfl, ih (lo + 1)]
        congr 1
        · congr 1; omega
        · refine List.map_congr_left fun i _ => ?_
          show D.int (lo + 1 + (i : Int)) = D.int (lo + ((i + 1 : Nat) : Int))
          congr 1
          omega
    rw [this]
    refine List.map_congr_left fun i _ => ?_
    rw [Int.zero_add]
  rw [← erg] at elc
  have hb : 1 + (k : Int) ≤ 16777216 ∧ -4611686018427387904 ≤ 1 + (k : Int) := by omega
  have hN : (1 + (k : Int)).toNat = k + 1 := by omega
  refine seq_step (r' := [some (.z, .scr ns), some (.z, .str a), some (.z, .str b), some (.z, .int (p0 / 8 % 2001)), some (.z, lsD ws), none, none, none, none]) (by
    simp [e0, hd8, hk, hb, hN, elc]) ?_
  obtain ⟨qm, em⟩ := made_r (ws := ws) (by omega) a b (p0 / 8 % 2001)
  refine seq_step (r' := [some (.z, .scr ns), some (.z, .str a), some (.z, .str b), some (.z, .int (p0 / 8 % 2001)), some (.z, lsD ws), none, none, none, none]) (by
    simp [em]) ?_
  obtain ⟨m, hm, hwm, hne⟩ : ∃ m, oIxA (.lst [.str t_zebra, .str t_yak]) (.int (if a = t_zebra then 1 else 0)) = some (.str m) ∧ Wd m ∧ a ≠ m := by
    by_cases z : a = t_zebra
    · rw [if_pos z]
      exact ⟨t_yak, rfl, wd_yak, by rw [z]; decide⟩
    · rw [if_neg z]
      exact ⟨t_zebra, rfl, wd_zebra, z⟩
  have hi : oInt [.bl (a == t_zebra)] = some (.int (if a = t_zebra then 1 else 0)) := by
    by_cases z : a = t_zebra
    · rw [if_pos z, show (a == t_zebra) = true by simpa using z]; rfl
    · rw [if_neg z, show (a == t_zebra) = false by simpa using z]; rfl
  generalize (if a = t_zebra then (1 : Int) else 0) = Z at hm hi
  rw [oIxA_lst] at hm
  refine seq_step (r' := [some (.z, .scr ns), some (.z, .str a), some (.z, .str b), some (.z, .int (p0 / 8 % 2001)), some (.z, lsD ws), some (.z, .str m), none, none, none]) (by
    simp [hi, hm]) ?_
  have eW2 : tsD [(a, []), (a, [])] = .lst [.tup [.str a, .lst []], .tup [.str a, .lst []]] := rfl
  have eW3 : tsD [(a, [m])] = .lst [.tup [.str a, .lst [.str m]]] := rfl
  have eW4 : tsD [(a, [a])] = .lst [.tup [.str a, .lst [.str a]]] := rfl
  obtain ⟨x1, f1⟩ := ref1
  obtain ⟨x2, f2⟩ := ref2 wa
  obtain ⟨x3, f3⟩ := ref3 wa hwm hne
  obtain ⟨x4, f4⟩ := ref4 wa
  rw [eW2] at f2
  rw [eW3] at f3
  rw [eW4] at f4
  generalize hV1 : D.lst [.tup [.str t_new, .lst []]] = V1 at *
  generalize hV2 : D.lst [.tup [.str a, .lst []], .tup [.str a, .lst []]] = V2 at *
  generalize hV3 : D.lst [.tup [.str a, .lst [.str m]]] = V3 at *
  generalize hV4 : D.lst [.tup [.str a, .lst [.str a]]] = V4 at *
  refine seq_step (r' := [some (.z, .scr ns), some (.z, .str a), some (.z, .str b), some (.z, .int (p0 / 8 % 2001)), some (.z, lsD ws), some (.z, .str m), some (.z, .lst [V1, V2, V3, V4]), none, none]) (by
    simp [hV1, hV2, hV3, hV4]) ?_
  have al : anyL (.lst [V1, V2, V3, V4]) = some [V1, V2, V3, V4] := rfl
  have fin : oEq (.lst [clD 0, clD 1, clD 2, clD 3]) (.lst [.lst [.int 0, .int 12], .lst [.int 1, .int 12], .lst [.int 2, .int 12], .lst [.int 3, .int 12]]) = some (.bl true) := rfl
  generalize clD 0 = C0 at *
  generalize clD 1 = C1 at *
  generalize clD 2 = C2 at *
  generalize clD 3 = C3 at *
  simp [al, f1, f2, f3, f4, fin]
end Vm
set_option maxHeartbeats 0
open PySem PySem.W PySem.Calls PyProof.Rows
theorem PySem.Challenge.cw_fitmost_k17_refusals_by_hand_holds : PySem.Challenge.rw_fitmost_k17_refusals_by_hand.Holds := by
  w_on; o_law
  refine HandSHeadRun.head_any (r := OpenLaw.row PySem.Challenge.rw_fitmost_k17_refusals_by_hand) (q := view (OpenLaw.row PySem.Challenge.rw_fitmost_k17_refusals_by_hand).prog [31]) (H := Vm.hookV 5 Vm.faL Vm.fnL Vm.csL) (ob := Vm.obL) (M := 8000) (loose := Vm.nmL) (d := HandSHeadRun.topDef (OpenLaw.row PySem.Challenge.rw_fitmost_k17_refusals_by_hand).prog 31) (kwd := []) Vm.obL_eq
    (by kernel_rfl) (fun s => by kernel_rfl) Vm.runL (by kernel_rfl) (by kernel_rfl) (by kernel_rfl) (by rfl) (by first | assumption | decide +kernel) (by decide +kernel) ⟨rfl, rfl, rfl, rfl, rfl, by decide +kernel⟩ ?hw ?hc
  case hw => w_witness2
  case hc => exact Vm.lawEnd (l := PySem.Challenge.rw_fitmost_k17_refusals_by_hand) (n := 63) (k := 7) (x := "_law_script") rfl (by decide) (by kernel_rfl) ⟨rfl, by decide, by decide⟩ Vm.F_law (by kernel_rfl) (fun G _ Y => Vm.ok_law Y) Vm.pure_law
