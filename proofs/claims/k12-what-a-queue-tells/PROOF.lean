import PyProof.Rows.All
import Wide.All
import OpenK.AllK
import Wide.FinOn
import HandS.ForMost
import HandS.Exc
import HandS.ExcOwn
import HandS.ExcInit
import HandS.IsInst
import HandS.Defaults
import HandS.CallSlots
import HandS.Dict
import HandS.More
import HandS.Conv
import HandS.SetFor
import HandS.Style
import HandS.ListItems
import KE.DataFind
import KE.KDictList
import HandS.Rev
import HandS.RevTup
import HandS.Iter
import HandS.Comp
import HandS.TryOnly
import HandS.Small
import HandS.ExcField
import HandS.ExcIs
import HandS.TryMany
import HandS.Head0
import HandS.Head1
import HandS.Head2
import HandS.HeadEnd
import HandS.HeadHook1
import HandS.HeadHook2
import HandS.HeadHook4
import PySem.Challenge.RW_latestturn_k12_what_a_queue_tells
set_option Elab.async false
set_option linter.all false
set_option maxRecDepth 100000
set_option maxHeartbeats 8000000
/-! Vm: plain data, how it lies in the hand layer's heap, the states of a def's body. -/
namespace Vm
open PySem L2
/-- plain data. f: the node is floating (nobody else has it) -/
inductive D where
  | non | bl (b : Bool) | int (i : Int) | str (s : Str)
  | lst (f : Bool) (xs : List D)
  | tup (xs : List D)
  | dic (f : Bool) (kvs : List (Key × D))
  | ins (f : Bool) (c : Nat) (fs : List (Nat × D))
  | gl (x : Nat)
  deriving Inhabited
mutual
/-- all nodes settled -/
def clr : D → D
  | .non => .non
  | .bl b => .bl b
  | .int i => .int i
  | .str s => .str s
  | .lst _ xs => .lst false (clrs xs)
  | .tup xs => .tup (clrs xs)
  | .dic _ kvs => .dic false (clrk kvs)
  | .ins _ c fs => .ins false c (clrf fs)
  | .gl x => .gl x
def clrs : List D → List D
  | [] => []
  | d :: ds => clr d :: clrs ds
def clrk : List (Key × D) → List (Key × D)
  | [] => []
  | (k, d) :: ds => (k, clr d) :: clrk ds
def clrf : List (Nat × D) → List (Nat × D)
  | [] => []
  | (k, d) :: ds => (k, clr d) :: clrf ds
end
mutual
/-- no floating node -/
def nf : D → Bool
  | .non => true
  | .bl _ => true
  | .int _ => true
  | .str _ => true
  | .lst f xs => !f && nfs xs
  | .tup xs => nfs xs
  | .dic f kvs => !f && nfk kvs
  | .ins f _ fs => !f && nff fs
  | .gl _ => true
def nfs : List D → Bool
  | [] => true
  | d :: ds => nf d && nfs ds
def nfk : List (Key × D) → Bool
  | [] => true
  | (_, d) :: ds => nf d && nfk ds
def nff : List (Nat × D) → Bool
  | [] => true
  | (_, d) :: ds => nf d && nff ds
end
/-- the children have no floating node -/
def nfc : D → Bool
  | .lst _ xs => nfs xs
  | .dic _ kvs => nfk kvs
  | .ins _ _ fs => nff fs
  | d => nf d
theorem clrs_map : ∀ xs : List D, clrs xs = xs.map clr
  | [] => rfl
  | d :: ds => by rw [clrs, clrs_map ds]; rfl
theorem clrk_map : ∀ xs : List (Key × D), clrk xs = xs.map fun p => (p.1, clr p.2)
  | [] => rfl
  | (k, d) :: ds => by rw [clrk, clrk_map ds]; rfl
theorem clrf_map : ∀ xs : List (Nat × D), clrf xs = xs.map fun p => (p.1, clr p.2)
  | [] => rfl
  | (k, d) :: ds => by rw [clrf, clrf_map ds]; rfl
theorem nfs_all : ∀ xs : List D, nfs xs = xs.all nf
  | [] => rfl
  | d :: ds => by rw [nfs, nfs_all ds]; rfl
theorem nfk_all : ∀ xs : List (Key × D), nfk xs = xs.all fun p => nf p.2
  | [] => rfl
  | (k, d) :: ds => by rw [nfk, nfk_all ds]; rfl
theorem nff_all : ∀ xs : List (Nat × D), nff xs = xs.all fun p => nf p.2
  | [] => rfl
  | (k, d) :: ds => by rw [nff, nff_all ds]; rfl
mutual
theorem nf_clr : ∀ d : D, nf (clr d) = true
  | .non => rfl
  | .bl _ => rfl
  | .int _ => rfl
  | .str _ => rfl
  | .lst _ xs => by rw [clr, nf, nfs_clrs xs]; rfl
  | .tup xs => by rw [clr, nf, nfs_clrs xs]
  | .dic _ kvs => by rw [clr, nf, nfk_clrk kvs]; rfl
  | .ins _ _ fs => by rw [clr, nf, nff_clrf fs]; rfl
  | .gl _ => rfl
theorem nfs_clrs : ∀ ds : List D, nfs (clrs ds) = true
  | [] => rfl
  | d :: ds => by rw [clrs, nfs, nf_clr d, nfs_clrs ds]; rfl
theorem nfk_clrk : ∀ ds : List (Key × D), nfk (clrk ds) = true
  | [] => rfl
  | (_, d) :: ds => by rw [clrk, nfk, nf_clr d, nfk_clrk ds]; rfl
theorem nff_clrf : ∀ ds : List (Nat × D), nff (clrf ds) = true
  | [] => rfl
  | (_, d) :: ds => by rw [clrf, nff, nf_clr d, nff_clrf ds]; rfl
end
mutual
theorem clr_nf : ∀ d : D, nf d = true → clr d = d
  | .non, _ => rfl
  | .bl _, _ => rfl
  | .int _, _ => rfl
  | .str _, _ => rfl
  | .lst f xs, h => by
    rw [nf, Bool.and_eq_true, Bool.not_eq_true'] at h
    rw [clr, clrs_nf xs h.2, h.1]
  | .tup xs, h => by rw [nf] at h; rw [clr, clrs_nf xs h]
  | .dic f kvs, h => by
    rw [nf, Bool.and_eq_true, Bool.not_eq_true'] at h
    rw [clr, clrk_nf kvs h.2, h.1]
  | .ins f c fs, h => by
    rw [nf, Bool.and_eq_true, Bool.not_eq_true'] at h
    rw [clr, clrf_nf fs h.2, h.1]
  | .gl _, _ => rfl
theorem clrs_nf : ∀ ds : List D, nfs ds = true → clrs ds = ds
  | [], _ => rfl
  | d :: ds, h => by
    rw [nfs, Bool.and_eq_true] at h
    rw [clrs, clr_nf d h.1, clrs_nf ds h.2]
theorem clrk_nf : ∀ ds : List (Key × D), nfk ds = true → clrk ds = ds
  | [], _ => rfl
  | (_, d) :: ds, h => by
    rw [nfk, Bool.and_eq_true] at h
    rw [clrk, clr_nf d h.1, clrk_nf ds h.2]
theorem clrf_nf : ∀ ds : List (Nat × D), nff ds = true → clrf ds = ds
  | [], _ => rfl
  | (_, d) :: ds, h => by
    rw [nff, Bool.and_eq_true] at h
    rw [clrf, clr_nf d h.1, clrf_nf ds h.2]
end
/-- an exception that is handled: its slot, itself, its class, its dict, its fields -/
structure Xs where
  i : Nat
  a : Addr
  cls : Value
  d : Option Addr
  vfs : List (Str × V)
  g : Hp
/-- what the module has: its written part, its names; by numbers: classes, defs, fields -/
structure Z where
  K : PySem.W.Frag
  mg : Str → Option Value
  gn : Nat → Str
  fn : Nat → Str
  xs : Option Xs
/-- a dict that may be read -/
def RdD (H : Hp) (a : Addr) (kvs : List (Key × V)) : Prop := Rd H a (.dK kvs)
mutual
/-- the value v is the data d: what is settled lies in G, what floats in H, at A -/
inductive T (z : Z) (G H : Hp) : V → D → List Addr → Prop
  | non : T z G H .non .non []
  | bl (b : Bool) : T z G H (.bl b) (.bl b) []
  | int (i : Int) : T z G H (.int i) (.int i) []
  | str (s : Str) : T z G H (.str s) (.str s) []
  | lst {a : Addr} {vs : List V} {ds : List D} {A : List Addr} : SqL z.K G a vs → Ts z G H vs ds A → T z G H (.ref a) (.lst false ds) A
  | lstF {a : Addr} {vs : List V} {ds : List D} {A : List Addr} : H a = some (.lst vs) → Ts z G H vs ds A → T z G H (.ref a) (.lst true ds) (a :: A)
  | tup {a : Addr} {vs : List V} {ds : List D} {A : List Addr} : SqT z.K G a vs → Ts z G H vs ds A → T z G H (.ref a) (.tup ds) A
  | dic {a : Addr} {vs : List (Key × V)} {ds : List (Key × D)} {A : List Addr} : RdD G a vs → vs.map (·.1) = ds.map (·.1) → Ts z G H (vs.map (·.2)) (ds.map (·.2)) A → T z G H (.ref a) (.dic false ds) A
  | dicF {a : Addr} {vs : List (Key × V)} {ds : List (Key × D)} {A : List Addr} : H a = some (.dK vs) → vs.map (·.1) = ds.map (·.1) → Ts z G H (vs.map (·.2)) (ds.map (·.2)) A → T z G H (.ref a) (.dic true ds) (a :: A)
  | ins {a C dx : Addr} {c : Nat} {vs : List (Str × V)} {ds : List (Nat × D)} {A : List Addr} : G a = some (.ins C dx vs) → z.mg (z.gn c) = some (.ref C) → vs.map (·.1) = ds.map (fun p => z.fn p.1) → Ts z G H (vs.map (·.2)) (ds.map (·.2)) A → T z G H (.ref a) (.ins false c ds) A
  | insF {a C dx : Addr} {c : Nat} {vs : List (Str × V)} {ds : List (Nat × D)} {A : List Addr} : H a = some (.ins C dx vs) → z.mg (z.gn c) = some (.ref C) → vs.map (·.1) = ds.map (fun p => z.fn p.1) → Ts z G H (vs.map (·.2)) (ds.map (·.2)) A → T z G H (.ref a) (.ins true c ds) (a :: A)
  | gl {a : Addr} {x : Nat} : z.mg (z.gn x) = some (.ref a) → T z G H (.ref a) (.gl x) []
inductive Ts (z : Z) (G H : Hp) : List V → List D → List Addr → Prop
  | nil : Ts z G H [] [] []
  | cons {v : V} {vs : List V} {d : D} {ds : List D} {A B : List Addr} : T z G H v d A → Ts z G H vs ds B → Ts z G H (v :: vs) (d :: ds) (A ++ B)
end
section
variable {z : Z} {G G' H H' : Hp}
theorem Same.rd {a : Addr} {u : HO} (s : Same G G') (h : Rd G a u) : Rd G' a u := h.elim (fun e => .inl (s _ _ e)) fun ⟨o, e⟩ => .inr ⟨o, s _ _ e⟩
theorem Same.seqT {K : PySem.W.Frag} {a : Addr} {xs : List V} (s : Same G G') (h : SqT K G a xs) : SqT K G' a xs := h.elim (fun e => .inl (Same.rd s e)) .inr
mutual
theorem T.mono (s : Same G G') : ∀ {v : V} {d : D} {A : List Addr}, T z G H v d A → (∀ a ∈ A, H' a = H a) → T z G' H' v d A
  | _, _, _, .non, _ => .non
  | _, _, _, .bl b, _ => .bl b
  | _, _, _, .int i, _ => .int i
  | _, _, _, .str x, _ => .str x
  | _, _, _, .lst h t, k => .lst (s.seq h) (Ts.mono s t k)
  | _, _, _, .lstF h t, k => .lstF (by rw [k _ (List.mem_cons_self ..)]; exact h) (Ts.mono s t fun a m => k a (List.mem_cons_of_mem _ m))
  | _, _, _, .tup h t, k => .tup (Same.seqT s h) (Ts.mono s t k)
  | _, _, _, .dic h e t, k => .dic (Same.rd s h) e (Ts.mono s t k)
  | _, _, _, .dicF h e t, k => .dicF (by rw [k _ (List.mem_cons_self ..)]; exact h) e (Ts.mono s t fun a m => k a (List.mem_cons_of_mem _ m))
  | _, _, _, .ins h c e t, k => .ins (s _ _ h) c e (Ts.mono s t k)
  | _, _, _, .insF h c e t, k => .insF (by rw [k _ (List.mem_cons_self ..)]; exact h) c e (Ts.mono s t fun a m => k a (List.mem_cons_of_mem _ m))
  | _, _, _, .gl h, _ => .gl h
theorem Ts.mono (s : Same G G') : ∀ {vs : List V} {ds : List D} {A : List Addr}, Ts z G H vs ds A → (∀ a ∈ A, H' a = H a) → Ts z G' H' vs ds A
  | _, _, _, .nil, _ => .nil
  | _, _, _, .cons h t, k => .cons (T.mono s h fun a m => k a (List.mem_append_left _ m)) (Ts.mono s t fun a m => k a (List.mem_append_right _ m))
end
mutual
theorem T.nf_nil : ∀ {v : V} {d : D} {A : List Addr}, T z G H v d A → nf d = true → A = []
  | _, _, _, .non, _ => rfl
  | _, _, _, .bl b, _ => rfl
  | _, _, _, .int i, _ => rfl
  | _, _, _, .str x, _ => rfl
  | _, _, _, .lst h t, k => Ts.nf_nil t (by rw [nf, Bool.and_eq_true] at k; exact k.2)
  | _, _, _, .lstF h t, k => by rw [nf, Bool.and_eq_true] at k; cases k.1
  | _, _, _, .tup h t, k => Ts.nf_nil t (by rw [nf] at k; exact k)
  | _, _, _, .dic h e t, k => Ts.nf_nil t (by rw [nf, Bool.and_eq_true, nfk_all] at k; rw [nfs_all, List.all_map]; exact k.2)
  | _, _, _, .dicF h e t, k => by rw [nf, Bool.and_eq_true] at k; cases k.1
  | _, _, _, .ins h c e t, k => Ts.nf_nil t (by rw [nf, Bool.and_eq_true, nff_all] at k; rw [nfs_all, List.all_map]; exact k.2)
  | _, _, _, .insF h c e t, k => by rw [nf, Bool.and_eq_true] at k; cases k.1
  | _, _, _, .gl h, _ => rfl
theorem Ts.nf_nil : ∀ {vs : List V} {ds : List D} {A : List Addr}, Ts z G H vs ds A → nfs ds = true → A = []
  | _, _, _, .nil, _ => rfl
  | _, _, _, .cons h t, k => by
    rw [nfs, Bool.and_eq_true] at k
    rw [T.nf_nil h k.1, Ts.nf_nil t k.2]; rfl
end
mutual
theorem T.nf_of : ∀ {v : V} {d : D} {A : List Addr}, T z G H v d A → A = [] → nf d = true
  | _, _, _, .non, _ => rfl
  | _, _, _, .bl b, _ => rfl
  | _, _, _, .int i, _ => rfl
  | _, _, _, .str x, _ => rfl
  | _, _, _, .lst h t, k => by rw [nf, Ts.nf_of t k]; rfl
  | _, _, _, .lstF h t, k => by cases k
  | _, _, _, .tup h t, k => by rw [nf, Ts.nf_of t k]
  | _, _, _, .dic h e t, k => by
    have q := Ts.nf_of t k
    rw [nfs_all, List.all_map] at q
    rw [nf, nfk_all]; exact q
  | _, _, _, .dicF h e t, k => by cases k
  | _, _, _, .ins h c e t, k => by
    have q := Ts.nf_of t k
    rw [nfs_all, List.all_map] at q
    rw [nf, nff_all]; exact q
  | _, _, _, .insF h c e t, k => by cases k
  | _, _, _, .gl h, _ => rfl
theorem Ts.nf_of : ∀ {vs : List V} {ds : List D} {A : List Addr}, Ts z G H vs ds A → A = [] → nfs ds = true
  | _, _, _, .nil, _ => rfl
  | _, _, _, .cons h t, k => by
    obtain ⟨k1, k2⟩ := List.append_eq_nil_iff.mp k
    rw [nfs, T.nf_of h k1, Ts.nf_of t k2]; rfl
end
theorem T.clr_eq {v : V} {d : D} (h : T z G H v d []) : clr d = d := clr_nf d (h.nf_of rfl)
theorem Ts.clr_eq {vs : List V} {ds : List D} (h : Ts z G H vs ds []) : clrs ds = ds := clrs_nf ds (h.nf_of rfl)
/-- the floating nodes are there -/
def IsSome (H : Hp) (a : Addr) : Prop := ∃ o, H a = some o
mutual
theorem T.there : ∀ {v : V} {d : D} {A : List Addr}, T z G H v d A → ∀ a ∈ A, IsSome H a
  | _, _, _, .non, _, m => by cases m
  | _, _, _, .bl b, _, m => by cases m
  | _, _, _, .int i, _, m => by cases m
  | _, _, _, .str x, _, m => by cases m
  | _, _, _, .lst h t, a, m => Ts.there t a m
  | _, _, _, .lstF h t, a, m => (List.mem_cons.mp m).elim (fun e => ⟨_, e ▸ h⟩) fun m => Ts.there t a m
  | _, _, _, .tup h t, a, m => Ts.there t a m
  | _, _, _, .dic h e t, a, m => Ts.there t a m
  | _, _, _, .dicF h e t, a, m => (List.mem_cons.mp m).elim (fun e => ⟨_, e ▸ h⟩) fun m => Ts.there t a m
  | _, _, _, .ins h c e t, a, m => Ts.there t a m
  | _, _, _, .insF h c e t, a, m => (List.mem_cons.mp m).elim (fun e => ⟨_, e ▸ h⟩) fun m => Ts.there t a m
  | _, _, _, .gl h, _, m => by cases m
theorem Ts.there : ∀ {vs : List V} {ds : List D} {A : List Addr}, Ts z G H vs ds A → ∀ a ∈ A, IsSome H a
  | _, _, _, .nil, _, m => by cases m
  | _, _, _, .cons h t, a, m => (List.mem_append.mp m).elim (fun m => T.there h a m) fun m => Ts.there t a m
end
/-- G with what stands in H at A -/
def adj (G H : Hp) (A : List Addr) : Hp := fun a => if a ∈ A then H a else G a
theorem adj_in {A : List Addr} {a : Addr} (m : a ∈ A) : adj G H A a = H a := if_pos m
theorem adj_out {A : List Addr} {a : Addr} (m : a ∉ A) : adj G H A a = G a := if_neg m
theorem adj_same {A : List Addr} (h : ∀ a ∈ A, G a = none) : Same G (adj G H A) := fun a o e => by
  by_cases m : a ∈ A
  · rw [h a m] at e; cases e
  · rw [adj_out m]; exact e
theorem adj_nil : adj G H [] = G := funext fun a => adj_out (List.not_mem_nil)
mutual
theorem T.settle {A0 : List Addr} (s : Same G (adj G H A0)) : ∀ {v : V} {d : D} {A : List Addr}, T z G H v d A → (∀ a ∈ A, a ∈ A0) → T z (adj G H A0) H v (clr d) []
  | _, _, _, .non, _ => .non
  | _, _, _, .bl b, _ => .bl b
  | _, _, _, .int i, _ => .int i
  | _, _, _, .str x, _ => .str x
  | _, _, _, .lst h t, k => .lst (s.seq h) (Ts.settle s t k)
  | _, _, _, .lstF h t, k => .lst (.inl (.inl ((adj_in (k _ (List.mem_cons_self ..))).trans h))) (Ts.settle s t fun a m => k a (List.mem_cons_of_mem _ m))
  | _, _, _, .tup h t, k => .tup (Same.seqT s h) (Ts.settle s t k)
  | _, _, _, .dic h e t, k => .dic (Same.rd s h) (by rw [clrk_map, List.map_map]; exact e) (by rw [clrk_map, List.map_map]; have q := Ts.settle s t k; rw [clrs_map, List.map_map] at q; exact q)
  | _, _, _, .dicF h e t, k => .dic (.inl ((adj_in (k _ (List.mem_cons_self ..))).trans h)) (by rw [clrk_map, List.map_map]; exact e) (by rw [clrk_map, List.map_map]; have q := Ts.settle s t fun a m => k a (List.mem_cons_of_mem _ m); rw [clrs_map, List.map_map] at q; exact q)
  | _, _, _, .ins h c e t, k => .ins (s _ _ h) c (by rw [clrf_map, List.map_map]; exact e) (by rw [clrf_map, List.map_map]; have q := Ts.settle s t k; rw [clrs_map, List.map_map] at q; exact q)
  | _, _, _, .insF h c e t, k => .ins ((adj_in (k _ (List.mem_cons_self ..))).trans h) c (by rw [clrf_map, List.map_map]; exact e) (by rw [clrf_map, List.map_map]; have q := Ts.settle s t fun a m => k a (List.mem_cons_of_mem _ m); rw [clrs_map, List.map_map] at q; exact q)
  | _, _, _, .gl h, _ => .gl h
theorem Ts.settle {A0 : List Addr} (s : Same G (adj G H A0)) : ∀ {vs : List V} {ds : List D} {A : List Addr}, Ts z G H vs ds A → (∀ a ∈ A, a ∈ A0) → Ts z (adj G H A0) H vs (clrs ds) []
  | _, _, _, .nil, _ => .nil
  | _, _, _, .cons h t, k => .cons (A := []) (B := []) (T.settle s h fun a m => k a (List.mem_append_left _ m)) (Ts.settle s t fun a m => k a (List.mem_append_right _ m))
end
/-! ### the slots of a def, what lies on the stack of an expression -/
/-- a slot's content: whether it has floating nodes -/
abbrev SD := Option (Bool × D)
abbrev EnvD := List SD
/-- a value of an expression: data (with floating nodes or not), or a slot that is looked at -/
inductive O where
  | v (f : Bool) (d : D)
  | p (i : Nat)
inductive TO (z : Z) (G H : Hp) : Option V → SD → List Addr → Prop
  | none {v : Option V} : TO z G H v none []
  | some {v : V} {f : Bool} {d : D} {A : List Addr} : T z G H v d A → (f = false → A = []) → TO z G H (some v) (some (f, d)) A
inductive TOs (z : Z) (G H : Hp) : St → EnvD → List Addr → Prop
  | nil : TOs z G H [] [] []
  | cons {v : Option V} {vs : St} {d : SD} {ds : EnvD} {A B : List Addr} : TO z G H v d A → TOs z G H vs ds B → TOs z G H (v :: vs) (d :: ds) (A ++ B)
inductive TP (z : Z) (G H : Hp) (σ : St) : V → O → List Addr → Prop
  | v {v : V} {f : Bool} {d : D} {A : List Addr} : T z G H v d A → (f = false → A = []) → TP z G H σ v (.v f d) A
  | p {v : V} {i : Nat} : σ[i]? = some (some v) → TP z G H σ v (.p i) []
inductive TPs (z : Z) (G H : Hp) (σ : St) : List (V × O) → List Addr → Prop
  | nil : TPs z G H σ [] []
  | cons {v : V} {o : O} {ps : List (V × O)} {A B : List Addr} : TP z G H σ v o A → TPs z G H σ ps B → TPs z G H σ ((v, o) :: ps) (A ++ B)
theorem TO.mono (s : Same G G') {v : Option V} {d : SD} {A : List Addr} (h : TO z G H v d A) (k : ∀ a ∈ A, H' a = H a) : TO z G' H' v d A := by
  cases h with
  | none => exact .none
  | some h f => exact .some (h.mono s k) f
theorem TOs.mono (s : Same G G') : ∀ {vs : St} {ds : EnvD} {A : List Addr}, TOs z G H vs ds A → (∀ a ∈ A, H' a = H a) → TOs z G' H' vs ds A
  | _, _, _, .nil, _ => .nil
  | _, _, _, .cons h t, k => .cons (h.mono s fun a m => k a (List.mem_append_left _ m)) (TOs.mono s t fun a m => k a (List.mem_append_right _ m))
theorem TP.mono (s : Same G G') {σ : St} {v : V} {d : O} {A : List Addr} (h : TP z G H σ v d A) (k : ∀ a ∈ A, H' a = H a) : TP z G' H' σ v d A := by
  cases h with
  | v h f => exact .v (h.mono s k) f
  | p h => exact .p h
theorem TPs.mono (s : Same G G') {σ : St} : ∀ {ps : List (V × O)} {A : List Addr}, TPs z G H σ ps A → (∀ a ∈ A, H' a = H a) → TPs z G' H' σ ps A
  | _, _, .nil, _ => .nil
  | _, _, .cons h t, k => .cons (h.mono s fun a m => k a (List.mem_append_left _ m)) (TPs.mono s t fun a m => k a (List.mem_append_right _ m))
theorem TO.there {v : Option V} {d : SD} {A : List Addr} (h : TO z G H v d A) : ∀ a ∈ A, IsSome H a := by
  cases h with
  | none => exact fun _ m => by cases m
  | some h f => exact h.there
theorem TOs.there : ∀ {vs : St} {ds : EnvD} {A : List Addr}, TOs z G H vs ds A → ∀ a ∈ A, IsSome H a
  | _, _, _, .nil, _, m => by cases m
  | _, _, _, .cons h t, a, m => (List.mem_append.mp m).elim (fun m => h.there a m) fun m => TOs.there t a m
theorem TP.there {σ : St} {v : V} {d : O} {A : List Addr} (h : TP z G H σ v d A) : ∀ a ∈ A, IsSome H a := by
  cases h with
  | v h f => exact h.there
  | p h => exact fun _ m => by cases m
theorem TPs.there {σ : St} : ∀ {ps : List (V × O)} {A : List Addr}, TPs z G H σ ps A → ∀ a ∈ A, IsSome H a
  | _, _, .nil, _, m => by cases m
  | _, _, .cons h t, a, m => (List.mem_append.mp m).elim (fun m => h.there a m) fun m => TPs.there t a m
theorem TOs.len : ∀ {vs : St} {ds : EnvD} {A : List Addr}, TOs z G H vs ds A → vs.length = ds.length
  | _, _, _, .nil => rfl
  | _, _, _, .cons h t => by rw [List.length_cons, List.length_cons, TOs.len t]
/-- a slot, and the others whatever comes into it -/
theorem TOs.focus : ∀ {vs : St} {ds : EnvD} {A : List Addr} (i : Nat), TOs z G H vs ds A → i < ds.length →
    ∃ (v : Option V) (d : SD) (B C : List Addr), vs[i]? = some v ∧ ds[i]? = some d ∧ TO z G H v d B ∧ A.Perm (B ++ C) ∧ (∀ a ∈ C, IsSome H a) ∧
      ∀ {G2 H2 : Hp} {v' : Option V} {d' : SD} {B' : List Addr}, Same G G2 → (∀ a ∈ C, H2 a = H a) → TO z G2 H2 v' d' B' → ∃ A', TOs z G2 H2 (vs.set i v') (ds.set i d') A' ∧ A'.Perm (B' ++ C)
  | _, _, _, _, .nil, l => absurd l (Nat.not_lt_zero _)
  | v :: vs, d :: ds, _, 0, .cons (A := A) (B := B) h t, _ => ⟨v, d, A, B, rfl, rfl, h, .rfl, t.there, fun {G2 H2 v' d' B'} s k h' => ⟨B' ++ B, .cons h' (t.mono s k), .rfl⟩⟩
  | v :: vs, d :: ds, _, i + 1, .cons (A := A) (B := B) h t, l => by
    obtain ⟨v1, d1, B1, C1, e1, e2, h1, p1, th, k1⟩ := TOs.focus i t (Nat.lt_of_succ_lt_succ l)
    refine ⟨v1, d1, B1, A ++ C1, e1, e2, h1, ?_, fun a m => (List.mem_append.mp m).elim (h.there a) (th a), fun {G2 H2 v' d' B'} s k h' => ?_⟩
    · refine (p1.append_left A).trans ?_
      rw [← List.append_assoc, ← List.append_assoc]
      exact List.perm_append_comm.append_right C1
    · obtain ⟨A', t', p'⟩ := k1 s (fun a m => k a (List.mem_append_right _ m)) h'
      refine ⟨A ++ A', .cons (h.mono s fun a m => k a (List.mem_append_left _ m)) t', ?_⟩
      refine (p'.append_left A).trans ?_
      rw [← List.append_assoc, ← List.append_assoc]
      exact List.perm_append_comm.append_right C1
theorem TPs.append {σ : St} : ∀ {ps qs : List (V × O)} {A B : List Addr}, TPs z G H σ ps A → TPs z G H σ qs B → TPs z G H σ (ps ++ qs) (A ++ B)
  | _, _, _, _, .nil, t => t
  | _, _, _, _, .cons h s, t => by
    rw [List.append_assoc]
    exact .cons h (TPs.append s t)
theorem TPs.split {σ : St} : ∀ {ps qs : List (V × O)} {C : List Addr}, TPs z G H σ (ps ++ qs) C → ∃ A B, TPs z G H σ ps A ∧ TPs z G H σ qs B ∧ C = A ++ B
  | [], _, C, t => ⟨[], C, .nil, t, rfl⟩
  | p :: ps, qs, _, .cons (A := A) h t => by
    obtain ⟨A', B', t1, t2, e⟩ := TPs.split t
    exact ⟨A ++ A', B', .cons h t1, t2, by rw [e, List.append_assoc]⟩
end
/-- G lies in H, dicts that are walked locked -/
def GS (G H : Hp) : Prop := ∀ a o, G a = some o → H a = some o ∨ ∃ kvs ob, o = .dK kvs ∧ H a = some (.frz ob o)
/-- what is fixed in a def's run: F is to stay, G0 was settled ahead, pin: slots that are not stored to -/
structure Fx where
  z : Z
  F : Hp
  G0 : Hp
  pin : List (Nat × V)
/-- the exception that is handled lies where it is said -/
def Xz (x : Fx) : Prop := ∀ q, x.z.xs = some q → (q.i, V.ref q.a) ∈ x.pin ∧ Same q.g x.G0 ∧ ∀ d, q.d = some d → x.G0 d = some (.xd q.vfs)
theorem Xz.no {x : Fx} (h : x.z.xs = none) : Xz x := fun q e => by
  rw [h] at e
  cases e
/-- the state: G settled; the slots; the stack -/
structure Rel (x : Fx) (G : Hp) (σ : St) (H : Hp) (env : EnvD) (ps : List (V × O)) : Prop where
  ex : ∃ A C, TOs x.z G H σ env A ∧ TPs x.z G H σ ps C ∧ (A ++ C).Nodup ∧ ∀ a ∈ A ++ C, G a = none ∧ x.F a = none
  gs : GS G H
  fs : Same x.F H
  g0 : Same x.G0 G
  gf : ∀ a o, x.F a = some o → x.G0 a = none → G a = none
  pn : ∀ p ∈ x.pin, σ[p.1]? = some (some p.2)
  xz : Xz x
end Vm
/-! Vm: the small language and its evaluator. -/
namespace Vm
open PySem L2
inductive B2 where
  | add | sub | mul | fdiv | mod | pow | shr | band
  deriving DecidableEq
inductive C2 where
  | eq | ne | lt | le | gt | ge | isin | notin
  deriving DecidableEq
/-- built-in functions -/
inductive BF where
  | len | max2 | min2 | int1 | str1 | list1 | sum1 | sorted1 | max1 | min1 | dict1
  deriving DecidableEq
/-- methods of built-in types that change nothing -/
inductive BM where
  | index | count | join | split | endsw | startsw | get1 | get2 | values | items | keys | partition | rev
  deriving DecidableEq
/-- methods that change a list or a dict in a slot -/
inductive MM where
  | append | clear | remove | insert | extend | pop1 | reverse
  deriving DecidableEq
inductive Ty where
  | int | bool | str | list | tuple | dict
  deriving DecidableEq
/-- what of a dict is walked -/
inductive DK where
  | keys | values | items
  deriving DecidableEq
inductive Tg where
  | nm (i : Nat)
  | tup (ts : List Tg)
mutual
inductive E where
  | non | bl (b : Bool) | int (i : Int) | str (s : Str)
  | var (i : Nat) | mv (i : Nat) | pk (i : Nat) | bw (i : Nat)
  | gint (x : Str) (i : Int) | gstr (x s : Str) | gl (x : Nat)
  | bin (o : B2) (a b : E)
  | neg (a : E) | not (a : E)
  | cmp (o : C2) (a b : E)
  | isN (a : E) | notN (a : E) | isB (a : E) (b : Bool) | notB (a : E) (b : Bool)
  | chain (o o' : C2) (a b c : E)
  | and (es : Es) | or (es : Es)
  | ite (c a b : E)
  | idx (a i : E)
  | slc (a : E) (lo hi : Eo)
  | lst (es : Es) | tup (es : Es)
  | call (f : Nat) (es : Es)
  | mk (c f : Nat) (es : Es)
  | meth (c f : Nat) (o : E) (es : Es)
  | bcall (b : BF) (es : Es)
  | bmeth (m : BM) (o : E) (es : Es)
  | isi (t : Ty) (a : E)
  | fld (c f : Nat) (o : E)
  | lc (elt : E) (tg : Tg) (it : I) (c : Eo) (vs : List Nat)
  | lcd (elt : E) (tg : Tg) (k : DK) (i : Nat) (c : Eo) (vs : List Nat)
  | dsp (es : Es)
  | rep (es : Es) (k : E)
  | look (a : E)
  /-- of the exception that is handled: a field, whether of one of these classes -/
  | xf (f : Nat)
  | xis (cs : List Nat)
  | dead
inductive Es where
  | nil
  | cons (e : E) (es : Es)
inductive Eo where
  | none
  | some (e : E)
inductive I where
  | seq (e : E) | rng1 (a : E) | rng2 (a b : E) | enum (e : E) | zip (a b : E) | rev (e : E) | items (e : E) | values (e : E) | keys (e : E)
end
mutual
inductive S where
  | asg (keep : Bool) (i : Nat) (e : E)
  | asgt (tg : Tg) (e : E)
  | asgs (i : Nat) (k : E) (e : E)
  | asgl (i : Nat) (lo hi : Eo) (e : E)
  | asgf (c i f : Nat) (e : E)
  | aug (o : B2) (i : Nat) (e : E)
  | augs (o : B2) (i : Nat) (k : E) (e : E)
  | clrd (i : Nat)
  | mut (m : MM) (i : Nat) (p : List Int) (es : Es)
  | ex (e : E)
  | ife (c : E) (a b : Ss)
  | whl (c : E) (b : Ss) (kill : List Nat)
  | for (tg : Tg) (it : I) (b : Ss) (kill : List Nat)
  | ford (tg : Tg) (k : DK) (i : Nat) (b : Ss) (kill : List Nat)
  | ret (e : Eo) | brk | cnt | pas
  | rse (c : Nat) (fs : List Nat) (es : Es)
  /-- try: b, which raises classes of ks alone; except cs (as the slot): h -/
  | try1 (b : Ss) (ks cs : List Nat) (ao : Option Nat) (h : Ss)
  | dead
inductive Ss where
  | nil
  | cons (s : S) (ss : Ss)
end
/-! ### operations on plain data -/
def rsD : O → EnvD → Option D
  | .v false d, _ => some d
  | .v true d, _ => some (clr d)
  | .p i, env => match env[i]? with
    | some (some (_, d)) => if nfc d then some d else none
    | _ => none
def lenOk (n : Nat) : Bool := decide (n ≤ sizeLine)
def sgl (s : Str) : List Nat := s.cps.toList
/-- a question that nobody computes -/
noncomputable def dec (p : Prop) : Bool := @decide p (Classical.propDecidable p)
theorem of_dec {p : Prop} (h : dec p = true) : p := @of_decide_eq_true p (Classical.propDecidable p) h
theorem dec_of {p : Prop} (h : p) : dec p = true := @decide_eq_true p (Classical.propDecidable p) h
@[simp] noncomputable def opBin : B2 → D → D → Option D
  | .add, .int i, .int j => some (.int (i + j))
  | .add, .str x, .str y => if x.length + y.length ≤ sizeLine then some (.str (x ++ y)) else none
  | .add, .lst _ xs, .lst _ ys => if xs.length + ys.length ≤ sizeLine then some (.lst true (xs ++ ys)) else none
  | .sub, .int i, .int j => some (.int (i - j))
  | .mul, .int i, .int j => bif dec ((-(2 ^ 64) < i ∧ i < 2 ^ 64) ∨ (-(2 ^ 64) < j ∧ j < 2 ^ 64)) then some (.int (i * j)) else none
  | .fdiv, .int i, .int j => if 0 < j ∧ j < 1073741824 then some (.int (i / j)) else none
  | .mod, .int i, .int j => if 0 < j then some (.int (i % j)) else none
  | .pow, .int i, .int j => bif dec (0 ≤ j ∧ j ≤ 1000000 ∧ i.natAbs < 2 ^ 64) then some (.int (i ^ j.toNat)) else none
  | .shr, .int i, .int j => if 0 ≤ j then some (.int (i / 2 ^ j.toNat)) else none
  | .band, .int i, .int j => some (.int (Builtin.bitAnd i j))
  | _, _, _ => none
/-- ==, to the depth n; none where it is not known here -/
def deqs (f : D → D → Option Bool) : List D → List D → Option Bool
  | [], [] => some true
  | x :: xs, y :: ys => match f x y, deqs f xs ys with
    | some a, some b => some (a && b)
    | _, _ => none
  | _, _ => some false
def b2i (b : Bool) : Int := if b then 1 else 0
def deq : Nat → D → D → Option Bool
  | 0, _, _ => none
  | n + 1, d, e => match d, e with
    | .non, .non => some true
    | .non, .bl _ => some false
    | .non, .int _ => some false
    | .non, .str _ => some false
    | .non, .lst _ _ => some false
    | .non, .tup _ => some false
    | .bl _, .non => some false
    | .bl a, .bl b => some (a == b)
    | .bl a, .int b => some (b2i a == b)
    | .bl _, .str _ => some false
    | .bl _, .lst _ _ => some false
    | .bl _, .tup _ => some false
    | .int _, .non => some false
    | .int a, .bl b => some (a == b2i b)
    | .int a, .int b => some (a == b)
    | .int _, .str _ => some false
    | .int _, .lst _ _ => some false
    | .int _, .tup _ => some false
    | .str _, .non => some false
    | .str _, .bl _ => some false
    | .str _, .int _ => some false
    | .str a, .str b => some (a == b)
    | .str _, .lst _ _ => some false
    | .str _, .tup _ => some false
    | .str _, .dic _ _ => some false
    | .dic _ ks, .dic _ ls => if ks.isEmpty && ls.isEmpty then some true else none
    | .lst _ _, .non => some false
    | .lst _ _, .bl _ => some false
    | .lst _ _, .int _ => some false
    | .lst _ _, .str _ => some false
    | .lst _ xs, .lst _ ys => if xs.length = ys.length then deqs (deq n) xs ys else some false
    | .lst _ _, .tup _ => some false
    | .tup _, .non => some false
    | .tup _, .bl _ => some false
    | .tup _, .int _ => some false
    | .tup _, .str _ => some false
    | .tup _, .lst _ _ => some false
    | .tup xs, .tup ys => if xs.length = ys.length then deqs (deq n) xs ys else none
    | _, _ => none
/-- == of two dicts -/
def kfind (kvs : List (Key × D)) (k : Key) : Option D := (kvs.find? fun p => decide (p.1 = k)).map (·.2)
def keqs (f : D → D → Option Bool) (ls : List (Key × D)) : List (Key × D) → Option Bool
  | [] => some true
  | (k, d) :: r => match kfind ls k with
    | none => some false
    | some e => match f d e, keqs f ls r with
      | some a, some b => some (a && b)
      | _, _ => none
def opEq (d e : D) : Option Bool := match d, e with
  | .dic _ ks, .dic _ ls => if ks.length = ls.length then keqs (deq 40) ls ks else some false
  | d, e => deq 40 d e
@[simp] def isFlat : D → Bool
  | .non => true
  | .bl _ => true
  | .int _ => true
  | .str _ => true
  | _ => false
/-- a list of one's own, of flat things -/
@[simp] def flatL : D → Bool
  | .lst true xs => xs.all isFlat
  | _ => false
/-- == of flat data -/
def feq : D → D → Bool
  | .non, .non => true
  | .bl a, .bl b => a == b
  | .bl a, .int b => b2i a == b
  | .int a, .bl b => a == b2i b
  | .int a, .int b => a == b
  | .str a, .str b => a == b
  | _, _ => false
/-- x in the list xs -/
def dmem (x : D) (ys : List D) : Option Bool := if isFlat x && ys.all isFlat then some (ys.any fun y => feq y x) else if ys.all fun y => deq 40 y x == some false then some false else none
def asKey : D → Option Key
  | .int i => some (.inl i)
  | .str s => some (.inr s)
  | _ => none
/-- one text in another -/
def inStr (x y : Str) : Bool := !(Builtin.Str.occurrences y x 0 y.length 1).isEmpty
@[simp] def opCmp : C2 → D → D → Option Bool
  | .eq, d, e => opEq d e
  | .ne, d, e => (opEq d e).map (!·)
  | .lt, .int i, .int j => some (decide (i < j))
  | .le, .int i, .int j => some (decide (i ≤ j))
  | .gt, .int i, .int j => some (decide (j < i))
  | .ge, .int i, .int j => some (decide (j ≤ i))
  | .isin, .str x, .str y => some (inStr x y)
  | .notin, .str x, .str y => some (!inStr x y)
  | .isin, x, .lst _ ys => dmem x ys
  | .notin, x, .lst _ ys => (dmem x ys).map (!·)
  | .isin, x, .tup ys => dmem x ys
  | .notin, x, .tup ys => (dmem x ys).map (!·)
  | .isin, x, .dic _ kvs => (asKey x).map fun k => (kfind kvs k).isSome
  | .notin, x, .dic _ kvs => (asKey x).map fun k => !(kfind kvs k).isSome
  | _, _, _ => none
@[simp] def opIdx : D → D → Option D
  | .lst _ xs, .int i => atI xs i
  | .tup xs, .int i => atI xs i
  | .str z, .int i => if z.length ≤ sizeLine then (atI z.cps.toList i).map fun c => .str ⟨#[c]⟩ else none
  | .dic _ kvs, k => (asKey k).bind (kfind kvs)
  | _, _ => none
def cutD {α : Type} (xs : List α) (lo hi : Option Int) : List α := (xs.drop (HT.sIx xs.length 0 lo)).take (HT.sIx xs.length xs.length hi - HT.sIx xs.length 0 lo)
@[simp] def opSlc : D → Option Int → Option Int → Option D
  | .lst _ xs, lo, hi => some (.lst true (cutD xs lo hi))
  | .str z, lo, hi => if z.length ≤ sizeLine then some (.str (cutS z lo hi)) else none
  | _, _, _ => none
/-- a list of ints, of texts -/
def intsOf : List D → Option (List Int)
  | [] => some []
  | .int i :: r => (intsOf r).map (i :: ·)
  | _ => none
def strsOf : List D → Option (List Str)
  | [] => some []
  | .str i :: r => (strsOf r).map (i :: ·)
  | _ => none
def keyD : Key → D
  | .inl i => .int i
  | .inr s => .str s
/-- pairs with keys -/
def pairsOf : List D → Option (List (Key × D))
  | [] => some []
  | .tup [k, d] :: r => match asKey k, pairsOf r with
    | some k, some ps => some ((k, d) :: ps)
    | _, _ => none
  | _ => none
def kput (kvs : List (Key × D)) (k : Key) (d : D) : List (Key × D) := if kvs.any (fun p => decide (p.1 = k)) then kvs.map (fun p => if p.1 = k then (p.1, d) else p) else kvs ++ [(k, d)]
@[simp] def opBF : BF → List D → Option D
  | .len, [.lst _ xs] => some (.int xs.length)
  | .len, [.tup xs] => some (.int xs.length)
  | .len, [.str s] => if s.length ≤ sizeLine then some (.int s.length) else none
  | .len, [.dic _ kvs] => some (.int kvs.length)
  | .max2, [.int i, .int j] => some (.int (if j > i then j else i))
  | .min2, [.int i, .int j] => some (.int (if j < i then j else i))
  | .int1, [.int i] => some (.int i)
  | .int1, [.bl b] => some (.int (if b then 1 else 0))
  | .str1, [.int i] => if i.natAbs.log2 < 1920 then some (.str (toString i)) else none
  | .list1, [.lst _ xs] => some (.lst true xs)
  | .list1, [.tup xs] => some (.lst true xs)
  | .sum1, [.lst _ xs] => (intsOf xs).map fun ns => .int ns.sum
  | .max1, [.lst _ xs] => (intsOf xs).bind fun ns => ns.max?.map .int
  | .min1, [.lst _ xs] => (intsOf xs).bind fun ns => ns.min?.map .int
  | .list1, [.dic _ kvs] => some (.lst true (kvs.map fun p => keyD p.1))
  | .dict1, [.dic _ kvs] => some (.dic true kvs)
  | .dict1, [.lst _ xs] => (pairsOf xs).map fun ps => .dic true (ps.foldl (fun acc p => kput acc p.1 p.2) [])
  | _, _ => none
/-- the first place of x -/
def dfind (x : D) : List D → Nat → Option Nat
  | [], _ => none
  | y :: ys, k => if feq y x then some k else dfind x ys (k + 1)
@[simp] def opBM : BM → List D → Option D
  | .join, [.str s, .lst _ xs] => (strsOf xs).bind fun ys => if (ys.map (·.length)).sum + ys.length * s.length ≤ 16777216 then some (.str (Txt.join s ys)) else none
  | .index, [.lst _ xs, x] => if isFlat x && xs.all isFlat then (dfind x xs 0).map fun (k : Nat) => D.int (k : Int) else none
  | .count, [.lst _ xs, x] => if isFlat x && xs.all isFlat then some (.int ((xs.countP fun y => feq y x : Nat) : Int)) else none
  | .get2, [.dic _ kvs, k, d] => if nf d then (asKey k).map fun q => (kfind kvs q).getD d else none
  | .items, [.dic _ kvs] => some (.lst true (kvs.map fun p => .tup [keyD p.1, p.2]))
  | .values, [.dic _ kvs] => some (.lst true (kvs.map (·.2)))
  | .rev, [.lst _ xs] => some (.lst true xs.reverse)
  | _, _ => none
/-- what the receiver must be -/
@[simp] def bmOk : BM → D → Bool
  | .join, .str _ => true
  | .index, .lst _ _ => true
  | .count, .lst _ _ => true
  | .get2, .dic _ _ => true
  | .items, .dic _ _ => true
  | .values, .dic _ _ => true
  | .rev, .lst _ _ => true
  | _, _ => false
@[simp] def isTy : Ty → D → Option Bool
  | .int, .int _ => some true
  | .int, .bl _ => some true
  | .bool, .bl _ => some true
  | .str, .str _ => some true
  | .list, .lst _ _ => some true
  | .tuple, .tup _ => some true
  | .dict, .dic _ _ => some true
  | _, .ins _ _ _ => none
  | _, .gl _ => none
  | _, _ => some false
def fldD (fs : List (Nat × D)) (f : Nat) : Option D := fs.lookup f
/-! ### the evaluator -/
inductive R where
  | ok (o : O) (env : EnvD)
  | ex (c : Nat) (fs : List (Nat × D)) (env : EnvD)
  | bad
inductive Rs where
  | ok (os : List O) (env : EnvD)
  | ex (c : Nat) (fs : List (Nat × D)) (env : EnvD)
  | bad
inductive RI where
  | ok (ds : List D) (env : EnvD)
  | ex (c : Nat) (fs : List (Nat × D)) (env : EnvD)
  | bad
inductive CR where
  | ok (f : Bool) (d : D) (outs : EnvD)
  | ex (c : Nat) (fs : List (Nat × D)) (outs : EnvD)
  | bad
inductive SR where
  | next (env : EnvD) | brk (env : EnvD) | cnt (env : EnvD)
  | ret (f : Bool) (d : D) (env : EnvD)
  | ex (c : Nat) (fs : List (Nat × D)) (env : EnvD)
  | bad
def R.bind : R → (O → EnvD → R) → R
  | .ok o env, k => k o env
  | .ex c fs env, _ => .ex c fs env
  | .bad, _ => .bad
def Rs.bind : Rs → (List O → EnvD → R) → R
  | .ok o env, k => k o env
  | .ex c fs env, _ => .ex c fs env
  | .bad, _ => .bad
def RI.bind : RI → (List D → EnvD → R) → R
  | .ok o env, k => k o env
  | .ex c fs env, _ => .ex c fs env
  | .bad, _ => .bad
def R.bindS : R → (O → EnvD → SR) → SR
  | .ok o env, k => k o env
  | .ex c fs env, _ => .ex c fs env
  | .bad, _ => .bad
def RI.bindS : RI → (List D → EnvD → SR) → SR
  | .ok o env, k => k o env
  | .ex c fs env, _ => .ex c fs env
  | .bad, _ => .bad
def Rs.bindS : Rs → (List O → EnvD → SR) → SR
  | .ok o env, k => k o env
  | .ex c fs env, _ => .ex c fs env
  | .bad, _ => .bad
/-- an operation's answer: settled, or a new node -/
def ofOp : Option D → EnvD → R
  | some d, env => .ok (.v true d) env
  | none, _ => .bad
def ofB : Option Bool → EnvD → R
  | some b, env => .ok (.v false (.bl b)) env
  | none, _ => .bad
def rsAll : List O → EnvD → Option (List D)
  | [], _ => some []
  | o :: os, env => match rsD o env, rsAll os env with
    | some d, some ds => some (d :: ds)
    | _, _ => none
/-- data off the stack, as it is -/
def unO : O → Option (Bool × D)
  | .v f d => some (f, d)
  | .p _ => none
def unOs : List O → Option (List (Bool × D))
  | [] => some []
  | o :: os => match unO o, unOs os with
    | some d, some ds => some (d :: ds)
    | _, _ => none
/-- settled -/
def stl : Bool × D → D
  | (false, d) => d
  | (true, d) => clr d
def getS (env : EnvD) (i : Nat) : SD := (env[i]?).getD none
/-- a target takes settled data -/
def tgSet (io : List Nat) : Tg → D → EnvD → Option EnvD
  | .nm i, d, env => if io.contains i then none else if i < env.length then some (env.set i (some (false, d))) else none
  | .tup ts, .tup ds, env => tgs io ts ds env
  | .tup ts, .lst _ ds, env => tgs io ts ds env
  | .tup _, _, _ => none
where tgs (io : List Nat) : List Tg → List D → EnvD → Option EnvD
  | [], [], env => some env
  | t :: ts, d :: ds, env => (tgSet io t d env).bind (tgs io ts ds)
  | _, _, _ => none
def kill (vs : List Nat) (env : EnvD) : EnvD := vs.foldl (fun e i => e.set i none) env
/-- what stood settled in the slots vs stands again -/
def restore (vs : List Nat) (old env : EnvD) : EnvD := vs.foldl (fun e i => match getS old i with
  | some (false, d) => e.set i (some (false, d))
  | _ => e.set i none) env
noncomputable def rngOk (i : Int) : Bool := dec (-(2 ^ 62) ≤ i ∧ i < 2 ^ 62)
theorem rngOk_of {i : Int} (h : rngOk i = true) : -(2 ^ 62) ≤ i ∧ i < 2 ^ 62 := of_dec h
def range1 (n : Int) : List D := (List.range n.toNat).map fun (k : Nat) => .int (k : Int)
def range2 (lo hi : Int) : List D := (List.range (hi - lo).toNat).map fun (k : Nat) => .int (lo + (k : Int))
/-- a list comprehension's turns -/
def lcL (el : EnvD → R) (c : EnvD → Option Bool × EnvD) (set : D → EnvD → Option EnvD) : List D → List D → EnvD → R
  | [], acc, env => .ok (.v true (.lst true acc)) env
  | x :: xs, acc, env => match set x env with
    | none => .bad
    | some env1 => match c env1 with
      | (some true, env2) => match el env2 with
        | .ok o env3 => match unO o with
          | some p => if acc.length < sizeLine then lcL el c set xs (acc ++ [p.2]) env3 else .bad
          | none => .bad
        | _ => .bad
      | (some false, env2) => lcL el c set xs acc env2
      | (none, _) => .bad
def lcSet (tg : Tg) (vs : List Nat) (d : D) (e : EnvD) : Option EnvD := if vs.all (fun i => decide (i < e.length)) then tgSet [] tg d (kill vs e) else none
/-- a list comprehension -/
def lcRun (el : EnvD → R) (c : EnvD → Option Bool × EnvD) (tg : Tg) (vs : List Nat) (ds : List D) (env1 : EnvD) : R := (lcL el c (lcSet tg vs) ds [] (kill vs env1)).bind fun o env2 => .ok o (restore vs env1 env2)
/-- a for's turns -/
def forL (b : EnvD → SR) (set : D → EnvD → Option EnvD) (vs : List Nat) : List D → EnvD → SR
  | [], env => .next env
  | x :: xs, env => match set x env with
    | none => .bad
    | some env1 => match b env1 with
      | .next env2 => forL b set vs xs (kill vs env2)
      | .cnt env2 => forL b set vs xs (kill vs env2)
      | .brk env2 => .next (kill vs env2)
      | r => r
/-- a while's turns -/
def whlL (c : EnvD → R) (b : EnvD → SR) (vs : List Nat) : Nat → EnvD → SR
  | 0, _ => .bad
  | n + 1, env => match c env with
    | .ok (.v _ (.bl true)) env1 => match b env1 with
      | .next env2 => whlL c b vs n (kill vs env2)
      | .cnt env2 => whlL c b vs n (kill vs env2)
      | .brk env2 => .next (kill vs env2)
      | r => r
    | .ok (.v _ (.bl false)) env1 => .next env1
    | .ok _ _ => .bad
    | .ex c fs env1 => .ex c fs env1
    | .bad => .bad
/-- the borrowed slots take back what the callee left -/
def giveBack : Es → EnvD → EnvD → EnvD
  | .nil, _, env => env
  | .cons (.bw i) es, o :: os, env => giveBack es os (env.set i o)
  | .cons _ es, _ :: os, env => giveBack es os env
  | .cons _ _, [], env => env
/-- what is handed to a callee: settled, but for what is lent -/
def argsOf : Es → List (Bool × D) → List (Bool × D)
  | .cons (.bw _) es, p :: ps => p :: argsOf es ps
  | .cons _ es, p :: ps => (false, stl p) :: argsOf es ps
  | _, _ => []
/-- all slots, seen as settled -/
def lookD (env : EnvD) : EnvD := env.map (Option.map fun p => (false, stl p))
structure Cf where
  call : Nat → List (Bool × D) → CR
  meth : Nat → Nat → Option Nat
  wf : Nat
  io : List Nat
  /-- the exception that is handled: its class, its fields -/
  ex : Option (Nat × List (Nat × D))
@[simp] def ofCR (es : Es) (k : EnvD → EnvD → EnvD) : CR → EnvD → R
  | .ok f d outs, env => .ok (.v f d) (k outs env)
  | .ex c fs outs, env => .ex c fs (k outs env)
  | .bad, _ => .bad
@[simp] def dItems : DK → List (Key × D) → List D
  | .keys, kvs => kvs.map fun p => keyD p.1
  | .values, kvs => kvs.map (·.2)
  | .items, kvs => kvs.map fun p => .tup [keyD p.1, p.2]
def R.noEx : R → R
  | .ex _ _ _ => .bad
  | r => r
def SR.noEx : SR → SR
  | .ex _ _ _ => .bad
  | r => r
mutual
@[simp] noncomputable def evE (Γ : Cf) : E → EnvD → R
  | .non, env => .ok (.v false .non) env
  | .bl b, env => .ok (.v false (.bl b)) env
  | .int i, env => .ok (.v false (.int i)) env
  | .str s, env => .ok (.v false (.str s)) env
  | .gint _ i, env => .ok (.v false (.int i)) env
  | .gstr _ s, env => .ok (.v false (.str s)) env
  | .gl x, env => .ok (.v false (.gl x)) env
  | .var i, env => match getS env i with
    | some (false, d) => .ok (.v false d) env
    | some (true, d) => .ok (.v false (clr d)) (env.set i (some (false, clr d)))
    | none => .bad
  | .mv i, env => match getS env i with
    | some (f, d) => .ok (.v f d) (env.set i none)
    | none => .bad
  | .bw i, env => match getS env i with
    | some (f, d) => .ok (.v f d) (env.set i none)
    | none => .bad
  | .pk i, env => match getS env i with
    | some _ => .ok (.p i) env
    | none => .bad
  | .bin o a b, env => (evE Γ a env).bind fun x env1 => (evE Γ b env1).bind fun y env2 =>
    match rsD x env2, rsD y env2 with
    | some d, some e => ofOp (opBin o d e) env2
    | _, _ => .bad
  | .neg a, env => (evE Γ a env).bind fun x env1 => match rsD x env1 with
    | some (.int i) => .ok (.v false (.int (-i))) env1
    | _ => .bad
  | .not a, env => (evE Γ a env).bind fun x env1 => match x with
    | .v _ (.bl b) => .ok (.v false (.bl (!b))) env1
    | _ => .bad
  | .cmp o a b, env => (evE Γ a env).bind fun x env1 => (evE Γ b env1).bind fun y env2 =>
    match rsD x env2, rsD y env2 with
    | some d, some e => ofB (opCmp o d e) env2
    | _, _ => .bad
  | .isN a, env => (evE Γ a env).bind fun x env1 => match rsD x env1 with
    | some .non => .ok (.v false (.bl true)) env1
    | some _ => .ok (.v false (.bl false)) env1
    | none => .bad
  | .notN a, env => (evE Γ a env).bind fun x env1 => match rsD x env1 with
    | some .non => .ok (.v false (.bl false)) env1
    | some _ => .ok (.v false (.bl true)) env1
    | none => .bad
  | .isB a b, env => (evE Γ a env).bind fun x env1 => match x with
    | .v _ (.bl c) => .ok (.v false (.bl (c == b))) env1
    | _ => .bad
  | .notB a b, env => (evE Γ a env).bind fun x env1 => match x with
    | .v _ (.bl c) => .ok (.v false (.bl (!(c == b)))) env1
    | _ => .bad
  | .chain o o' a b c, env => (evE Γ a env).bind fun x env1 => (evE Γ b env1).bind fun y env2 =>
    match rsD x env2, rsD y env2 with
    | some d, some e => match opCmp o d e with
      | some false => .ok (.v false (.bl false)) env2
      | some true => (evE Γ c env2).bind fun w env3 => match rsD y env3, rsD w env3 with
        | some e, some g => ofB (opCmp o' e g) env3
        | _, _ => .bad
      | none => .bad
    | _, _ => .bad
  | .and es, env => evAnd Γ es env
  | .or es, env => evOr Γ es env
  | .ite c a b, env => (evE Γ c env).bind fun x env1 => match x with
    | .v _ (.bl true) => evE Γ a env1
    | .v _ (.bl false) => evE Γ b env1
    | _ => .bad
  | .idx a i, env => (evE Γ a env).bind fun x env1 => (evE Γ i env1).bind fun y env2 =>
    match rsD x env2, rsD y env2 with
    | some d, some e => match opIdx d e with
      | some r => .ok (.v false r) env2
      | none => .bad
    | _, _ => .bad
  | .slc a lo hi, env => (evE Γ a env).bind fun x env1 => match evO Γ lo env1 with
    | none => .bad
    | some (l, env2) => match evO Γ hi env2 with
      | none => .bad
      | some (h, env3) => match rsD x env3 with
        | some d => ofOp (opSlc d l h) env3
        | none => .bad
  | .lst es, env => (evEs Γ es env).bind fun os env1 => match unOs os with
    | some ds => if ds.length ≤ sizeLine then .ok (.v true (.lst true (ds.map (·.2)))) env1 else .bad
    | none => .bad
  | .tup es, env => (evEs Γ es env).bind fun os env1 => match unOs os with
    | some ds => if ds.length ≤ sizeLine then .ok (.v (ds.any (·.1)) (.tup (ds.map (·.2)))) env1 else .bad
    | none => .bad
  | .call f es, env => (evEs Γ es env).bind fun os env1 => match unOs os with
    | some ds => ofCR es (giveBack es) (Γ.call f (argsOf es ds)) env1
    | none => .bad
  | .mk c f es, env => (evEs Γ es env).bind fun os env1 => match unOs os with
    | some ds => match Γ.call f ((true, .ins true c []) :: ds.map fun p => (false, stl p)) with
      | .ok _ .non (some (fl, d) :: _) => .ok (.v fl d) env1
      | _ => .bad
    | none => .bad
  | .meth c f o es, env => (evE Γ o env).bind fun x env1 => match x with
    | .v false (.ins false c' fs) => if c' = c then (evEs Γ es env1).bind fun os env2 => match unOs os with
      | some ds => match Γ.call f ((false, .ins false c' fs) :: ds.map fun p => (false, stl p)) with
        | .ok fl d _ => .ok (.v fl d) env2
        | _ => .bad
      | none => .bad else .bad
    | _ => .bad
  | .bcall b es, env => (evEs Γ es env).bind fun os env1 => match rsAll os env1 with
    | some ds => ofOp (opBF b ds) env1
    | none => .bad
  | .bmeth m o es, env => (evE Γ o env).bind fun x env1 => match rsD x env1 with
    | some d0 => if bmOk m d0 then (evEs Γ es env1).bind fun os env2 => match rsAll (x :: os) env2 with
      | some ds => ofOp (opBM m ds) env2
      | none => .bad else .bad
    | none => .bad
  | .isi t a, env => (evE Γ a env).bind fun x env1 => match rsD x env1 with
    | some d => ofB (isTy t d) env1
    | none => .bad
  | .fld c f o, env => (evE Γ o env).bind fun x env1 => match rsD x env1 with
    | some (.ins _ c' fs) => if c' = c then match fldD fs f with
      | some d => .ok (.v false d) env1
      | none => .bad else .bad
    | _ => .bad
  | .xf f, env => match Γ.ex with
    | some p => match fldD p.2 f with
      | some d => .ok (.v false d) env
      | none => .bad
    | none => .bad
  | .xis cs, env => match Γ.ex with
    | some p => .ok (.v false (.bl (cs.contains p.1))) env
    | none => .bad
  | .dead, _ => .bad
  | .lc elt tg it c vs, env => (evI Γ it env).bind (lcRun (evE Γ elt) (evC Γ c) tg vs)
  | .lcd elt tg k i c vs, env => match getS env i with
    | some p => match stl p with
      | .dic _ kvs => (lcRun (evE Γ elt) (evC Γ c) tg vs (dItems k kvs) (env.set i (some (false, stl p)))).noEx
      | _ => .bad
    | none => .bad
  | .dsp es, env => match es with
    | .nil => .ok (.v true (.dic true [])) env
    | _ => .bad
  | .rep es k, env => (evEs Γ es env).bind fun os env1 => match unOs os with
    | some ds => if ds.length ≤ sizeLine then (evE Γ k env1).bind fun y env2 => match rsD y env2 with
      | some (.int k) => if -(2 ^ 63) ≤ k ∧ k < 2 ^ 63 ∧ ds.length * k.toNat ≤ sizeLine then .ok (.v true (.lst true (List.replicate k.toNat (ds.map fun p => clr p.2)).flatten)) env2 else .bad
      | _ => .bad else .bad
    | none => .bad
  | .look a, env => match evE Γ a (lookD env) with
    | .ok (.v f d) _ => if isFlat d then .ok (.v false d) env else if f && flatL d then .ok (.v true d) env else .bad
    | .ok (.p _) _ => .bad
    | .ex _ _ _ => .bad
    | .bad => .bad
@[simp] noncomputable def evC (Γ : Cf) : Eo → EnvD → Option Bool × EnvD
  | .none, env => (some true, env)
  | .some e, env => match evE Γ e env with
    | .ok (.v _ (.bl b)) env1 => (some b, env1)
    | _ => (none, env)
@[simp] noncomputable def evO (Γ : Cf) : Eo → EnvD → Option (Option Int × EnvD)
  | .none, env => some (none, env)
  | .some e, env => match evE Γ e env with
    | .ok (.v _ (.int i)) env1 => some (some i, env1)
    | _ => none
@[simp] noncomputable def evEs (Γ : Cf) : Es → EnvD → Rs
  | .nil, env => .ok [] env
  | .cons e es, env => match evE Γ e env with
    | .ok o env1 => match evEs Γ es env1 with
      | .ok os env2 => .ok (o :: os) env2
      | .ex c fs env2 => .ex c fs env2
      | .bad => .bad
    | .ex c fs env1 => .ex c fs env1
    | .bad => .bad
@[simp] noncomputable def evAnd (Γ : Cf) : Es → EnvD → R
  | .nil, env => .ok (.v false (.bl true)) env
  | .cons e .nil, env => (evE Γ e env).bind fun x env1 => match x with
    | .v _ (.bl b) => .ok (.v false (.bl b)) env1
    | _ => .bad
  | .cons e es, env => (evE Γ e env).bind fun x env1 => match x with
    | .v _ (.bl true) => evAnd Γ es env1
    | .v _ (.bl false) => .ok (.v false (.bl false)) env1
    | _ => .bad
@[simp] noncomputable def evOr (Γ : Cf) : Es → EnvD → R
  | .nil, env => .ok (.v false (.bl false)) env
  | .cons e .nil, env => (evE Γ e env).bind fun x env1 => match x with
    | .v _ (.bl b) => .ok (.v false (.bl b)) env1
    | _ => .bad
  | .cons e es, env => (evE Γ e env).bind fun x env1 => match x with
    | .v _ (.bl true) => .ok (.v false (.bl true)) env1
    | .v _ (.bl false) => evOr Γ es env1
    | _ => .bad
@[simp] noncomputable def evI (Γ : Cf) : I → EnvD → RI
  | .seq e, env => match evE Γ e env with
    | .ok (.v f d) env1 => match stl (f, d) with
      | .lst _ xs => .ok xs env1
      | .tup xs => .ok xs env1
      | _ => .bad
    | .ok (.p _) _ => .bad
    | .ex c fs env1 => .ex c fs env1
    | .bad => .bad
  | .rng1 a, env => match evE Γ a env with
    | .ok (.v _ (.int j)) env1 => match rngOk j with
      | true => .ok (range1 j) env1
      | false => .bad
    | .ok _ _ => .bad
    | .ex c fs env1 => .ex c fs env1
    | .bad => .bad
  | .rng2 a b, env => match evE Γ a env with
    | .ok (.v _ (.int i)) env1 => match evE Γ b env1 with
      | .ok (.v _ (.int j)) env2 => match rngOk i, rngOk j with
        | true, true => .ok (range2 i j) env2
        | _, _ => .bad
      | .ok _ _ => .bad
      | .ex c fs env1 => .ex c fs env1
      | .bad => .bad
    | .ok _ _ => .bad
    | .ex c fs env1 => .ex c fs env1
    | .bad => .bad
  | .enum e, env => match evE Γ e env with
    | .ok (.v f d) env1 => match stl (f, d) with
      | .lst _ xs => .ok (xs.zipIdx.map fun p => .tup [.int p.2, p.1]) env1
      | _ => .bad
    | .ok (.p _) _ => .bad
    | .ex c fs env1 => .ex c fs env1
    | .bad => .bad
  | .zip a b, env => match evE Γ a env with
    | .ok (.v f d) env1 => match evE Γ b env1 with
      | .ok (.v g e) env2 => match stl (f, d), stl (g, e) with
        | .lst _ xs, .lst _ ys => .ok ((xs.zip ys).map fun p => .tup [p.1, p.2]) env2
        | _, _ => .bad
      | .ok (.p _) _ => .bad
      | .ex c fs env1 => .ex c fs env1
      | .bad => .bad
    | .ok (.p _) _ => .bad
    | .ex c fs env1 => .ex c fs env1
    | .bad => .bad
  | .rev e, env => match evE Γ e env with
    | .ok (.v f d) env1 => match stl (f, d) with
      | .lst _ xs => .ok xs.reverse env1
      | _ => .bad
    | .ok (.p _) _ => .bad
    | .ex c fs env1 => .ex c fs env1
    | .bad => .bad
  | .items e, env => match evE Γ e env with
    | .ok (.v f d) env1 => match stl (f, d) with
      | .dic _ kvs => .ok (kvs.map fun p => .tup [keyD p.1, p.2]) env1
      | _ => .bad
    | .ok (.p _) _ => .bad
    | .ex c fs env1 => .ex c fs env1
    | .bad => .bad
  | .values e, env => match evE Γ e env with
    | .ok (.v f d) env1 => match stl (f, d) with
      | .dic _ kvs => .ok (kvs.map (·.2)) env1
      | _ => .bad
    | .ok (.p _) _ => .bad
    | .ex c fs env1 => .ex c fs env1
    | .bad => .bad
  | .keys e, env => match evE Γ e env with
    | .ok (.v f d) env1 => match stl (f, d) with
      | .dic _ kvs => .ok (kvs.map fun p => keyD p.1) env1
      | _ => .bad
    | .ok (.p _) _ => .bad
    | .ex c fs env1 => .ex c fs env1
    | .bad => .bad
end
/-! ### statements -/
/-- the node at the path p, changed by f -/
def setAt {α : Type} (xs : List α) (i : Int) (f : α → Option α) : Option (List α) := match ixN xs.length i with
  | some j => match xs[j]? with
    | some x => (f x).map fun y => xs.set j y
    | none => none
  | none => none
@[simp] def mutAt : List Int → (D → Option D) → D → Option D
  | [], f, d => f d
  | i :: p, f, .lst g xs => (setAt xs i (mutAt p f)).map fun ys => .lst g ys
  | i :: p, f, .tup xs => (setAt xs i (mutAt p f)).map fun ys => .tup ys
  | _, _, _ => none
/-- there is a list of one's own at the end of the path -/
@[simp] def pathL : List Int → D → Bool
  | [], .lst true _ => true
  | i :: p, .lst _ xs => match ixN xs.length i with
    | some j => match xs[j]? with
      | some x => pathL p x
      | none => false
    | none => false
  | i :: p, .tup xs => match ixN xs.length i with
    | some j => match xs[j]? with
      | some x => pathL p x
      | none => false
    | none => false
  | _, _ => false
@[simp] def cstE : E → Option D
  | .non => some .non
  | .bl b => some (.bl b)
  | .int i => some (.int i)
  | .str s => some (.str s)
  | _ => none
@[simp] def cstEs : Es → Bool
  | .nil => true
  | .cons e es => (cstE e).isSome && cstEs es
@[simp] def opMut : MM → List (Bool × D) → D → Option D
  | .append, [(_, d)], .lst true xs => if xs.length < sizeLine then some (.lst true (xs ++ [d])) else none
  | .clear, [], .lst true _ => some (.lst true [])
  | .reverse, [], .lst true xs => some (.lst true xs.reverse)
  | .remove, [(_, x)], .lst true xs => if isFlat x && xs.all isFlat then (dfind x xs 0).map fun (k : Nat) => D.lst true (xs.eraseIdx k) else none
  | .pop1, [(_, .int i)], .lst true xs => if 0 ≤ i ∧ i < xs.length ∧ i < 1000000000 then some (.lst true (xs.eraseIdx i.toNat)) else none
  | .insert, [(_, .int i), (_, d)], .lst true xs => if 0 ≤ i ∧ i < 1000000000 ∧ xs.length < sizeLine then some (.lst true (xs.take i.toNat ++ [d] ++ xs.drop i.toNat)) else none
  | _, _, _ => none
def putD (fs : List (Nat × D)) (f : Nat) (d : D) : List (Nat × D) := match fs with
  | [] => [(f, d)]
  | (g, e) :: r => if g = f then (f, d) :: r else (g, e) :: putD r f d
/-- slot[k] = d, d settled -/
@[simp] def opSet (k d : D) : D → Option D
  | .lst true xs => match k with
    | .int i => match ixN xs.length i with
      | some j => some (.lst true (xs.set j d))
      | none => none
    | _ => none
  | .dic true kvs => match asKey k with
    | some q => if kvs.length < sizeLine then some (.dic true (kput kvs q d)) else none
    | none => none
  | _ => none
@[simp] def augK : B2 → Nat → Int → Int → List (Key × D) → Key → EnvD → SR
  | .add, i, a, b, kvs, k, env => .next (env.set i (some (true, .dic true (kput kvs k (.int (a + b))))))
  | .sub, i, a, b, kvs, k, env => .next (env.set i (some (true, .dic true (kput kvs k (.int (a - b))))))
  | _, _, _, _, _, _, _ => .bad
def B2.aug : B2 → Bool
  | .add => true
  | .sub => true
  | _ => false
/-- the slot of an exception is forgotten -/
def killo (ao : Option Nat) (env : EnvD) : EnvD := match ao with
  | some i => env.set i none
  | none => env
/-- the slot is one's own -/
def slo (ao : Option Nat) (io : List Nat) (env : EnvD) : Bool := match ao with
  | some i => !io.contains i && decide (i < env.length)
  | none => true
def iox (ao : Option Nat) (io : List Nat) : List Nat := match ao with
  | some i => i :: io
  | none => io
def SR.out (ao : Option Nat) : SR → SR
  | .next env => .next (killo ao env)
  | .brk env => .brk (killo ao env)
  | .cnt env => .cnt (killo ao env)
  | _ => .bad
def SR.bind : SR → (EnvD → SR) → SR
  | .next env, k => k env
  | r, _ => r
mutual
@[simp] noncomputable def evS (Γ : Cf) : S → EnvD → SR
  | .asg keep i e, env => (evE Γ e env).bindS fun o env1 => match unO o with
    | some (f, d) => if Γ.io.contains i then .bad else if i < env1.length then .next (env1.set i (some (if keep then (f, d) else (false, stl (f, d))))) else .bad
    | none => .bad
  | .asgt tg e, env => (evE Γ e env).bindS fun o env1 => match unO o with
    | some p => match tgSet Γ.io tg (stl p) env1 with
      | some env2 => .next env2
      | none => .bad
    | none => .bad
  | .asgs i k e, env => (evE Γ e env).bindS fun o env1 => match getS env1 i with
    | none => .bad
    | some _ => (evE Γ k env1).bindS fun q env2 => match unO o, rsD q env2, getS env2 i with
      | some p, some kd, some (true, t) => match opSet kd (stl p) t with
        | some t' => .next (env2.set i (some (true, t')))
        | none => .bad
      | _, _, _ => .bad
  | .asgl _ _ _ _, _ => .bad
  | .asgf c i f e, env => (evE Γ e env).bindS fun o env1 => match unO o, getS env1 i with
    | some (_, d), some (true, .ins true c' fs) => if c' = c ∧ fs.length < 900 then .next (env1.set i (some (true, .ins true c' (putD fs f d)))) else .bad
    | _, _ => .bad
  | .dead, _ => .bad
  | .aug o i e, env => match getS env i with
    | some (false, d) => (evE Γ e env).bindS fun x env1 => match rsD x env1, d with
      | some (.int j), .int k => if Γ.io.contains i then .bad else match o with
        | .add => .next (env1.set i (some (false, .int (k + j))))
        | .sub => .next (env1.set i (some (false, .int (k - j))))
        | _ => .bad
      | _, _ => .bad
    | _ => .bad
  | .augs o i k e, env => match getS env i with
    | none => .bad
    | some _ => (evE Γ k env).bindS fun q env1 => match rsD q env1, getS env1 i with
      | some kd, some (true, .dic true kvs) => match asKey kd with
        | some key => match kfind kvs key with
          | some (.int a) => (evE Γ e env1).bindS fun x env2 => match rsD x env2, getS env2 i with
            | some (.int b), some (true, .dic true kvs2) => if kvs2.length < sizeLine then augK o i a b kvs2 key env2 else .bad
            | _, _ => .bad
          | _ => .bad
        | none => .bad
      | _, _ => .bad
  | .clrd i, env => match getS env i with
    | some (true, .dic true _) => .next (env.set i (some (true, .dic true [])))
    | _ => .bad
  | .mut m i p es, env => match getS env i with
    | some (true, t0) => if pathL p t0 && (p.isEmpty || cstEs es) then (evEs Γ es env).bindS fun os env1 => match unOs os, getS env1 i with
      | some ds, some (true, t) => match mutAt p (opMut m ds) t with
        | some t' => .next (env1.set i (some (true, t')))
        | none => .bad
      | _, _ => .bad else .bad
    | _ => .bad
  | .ex e, env => (evE Γ e env).bindS fun _ env1 => .next env1
  | .ife c a b, env => (evE Γ c env).bindS fun o env1 => match o with
    | .v _ (.bl true) => evSs Γ a env1
    | .v _ (.bl false) => evSs Γ b env1
    | _ => .bad
  | .whl c b vs, env => whlL (evE Γ c) (evSs Γ b) vs Γ.wf (kill vs env)
  | .for tg it b vs, env => (evI Γ it env).bindS fun ds env1 => forL (evSs Γ b) (tgSet Γ.io tg) vs ds (kill vs env1)
  | .ford tg k i b vs, env => match getS env i with
    | some p => match stl p with
      | .dic _ kvs => (forL (evSs Γ b) (tgSet Γ.io tg) vs (dItems k kvs) (kill vs (env.set i (some (false, stl p))))).noEx
      | _ => .bad
    | none => .bad
  | .ret .none, env => .ret false .non env
  | .ret (.some e), env => (evE Γ e env).bindS fun o env1 => match unO o with
    | some (f, d) => .ret f d env1
    | none => .bad
  | .brk, env => .brk env
  | .cnt, env => .cnt env
  | .pas, env => .next env
  | .try1 b ks cs ao h, env => match evSs Γ b env with
    | .ex c fs env1 => if ks.contains c then (if cs.contains c then (if slo ao Γ.io env1 then (evSs ⟨Γ.call, Γ.meth, Γ.wf, iox ao Γ.io, some (c, fs)⟩ h (killo ao env1)).out ao else .bad) else .ex c fs env1) else .bad
    | r => r
  | .rse c fs es, env => (evEs Γ es env).bindS fun os env1 => match unOs os with
    | some ds => .ex c (fs.zip (ds.map stl)) env1
    | none => .bad
@[simp] noncomputable def evSs (Γ : Cf) : Ss → EnvD → SR
  | .nil, env => .next env
  | .cons s ss, env => (evS Γ s env).bind (evSs Γ ss)
end
/-- a def: how many names, how many of them parameters, which parameters are given back, its body -/
structure Fd where
  np : Nat
  nn : Nat
  io : List Nat
  body : Ss
def outsOf (io : List Nat) (np : Nat) (env : EnvD) : EnvD := (List.range np).map fun k => if io.contains k then getS env k else none
noncomputable def callF (P : List Fd) (ms : Nat → Nat → Option Nat) (wf : Nat) : Nat → Nat → List (Bool × D) → CR
  | 0, _, _ => .bad
  | n + 1, f, args => match P[f]? with
    | some fd => if args.length = fd.np then match evSs ⟨callF P ms wf n, ms, wf, fd.io, none⟩ fd.body (args.map some ++ List.replicate (fd.nn - fd.np) none) with
      | .ret fl d env => .ok fl d (outsOf fd.io fd.np env)
      | .next env => .ok false .non (outsOf fd.io fd.np env)
      | .ex c fs env => .ex c fs (outsOf fd.io fd.np env)
      | _ => .bad else .bad
    | none => .bad
end Vm
/-! Vm: steps of the state. -/
namespace Vm
open PySem L2
section
variable {x : Fx} {G G' : Hp} {σ : St} {H H' : Hp} {env : EnvD} {ps qs : List (V × O)}
theorem nodup_perm_left {A A' C : List Addr} (p : A.Perm A') (n : (A ++ C).Nodup) : (A' ++ C).Nodup := (p.append_right C).nodup_iff.mp n
/-- the parts of a state -/
theorem Rel.intro {A C : List Addr} (t : TOs x.z G H σ env A) (s : TPs x.z G H σ ps C) (n : (A ++ C).Nodup) (o : ∀ a ∈ A ++ C, G a = none ∧ x.F a = none) (gs : GS G H) (fs : Same x.F H) (g0 : Same x.G0 G) (gf : ∀ a o, x.F a = some o → x.G0 a = none → G a = none)
    (pn : ∀ p ∈ x.pin, σ[p.1]? = some (some p.2)) (xz : Xz x := by exact Rel.xz (by assumption)) : Rel x G σ H env ps := ⟨⟨A, C, t, s, n, o⟩, gs, fs, g0, gf, pn, xz⟩
theorem Rel.pop (r : Rel x G σ H env (ps ++ qs)) : Rel x G σ H env ps := by
  obtain ⟨A, C, t, s, n, o⟩ := r.ex
  obtain ⟨C1, C2, s1, s2, rfl⟩ := s.split
  rw [← List.append_assoc] at n o
  exact .intro t s1 (List.nodup_append.mp n).1 (fun a m => o a (List.mem_append_left _ m)) r.gs r.fs r.g0 r.gf r.pn
theorem Rel.push {v : V} {f : Bool} {d : D} (r : Rel x G σ H env ps) (h : T x.z G H v d []) : Rel x G σ H env (ps ++ [(v, .v f d)]) := by
  obtain ⟨A, C, t, s, n, o⟩ := r.ex
  have s' : TPs x.z G H σ (ps ++ [(v, .v f d)]) (C ++ ([] ++ [])) := s.append (.cons (.v h fun _ => rfl) .nil)
  rw [List.append_nil, List.append_nil] at s'
  exact .intro t s' n o r.gs r.fs r.g0 r.gf r.pn
theorem Rel.pushP {v : V} {i : Nat} (r : Rel x G σ H env ps) (h : σ[i]? = some (some v)) : Rel x G σ H env (ps ++ [(v, .p i)]) := by
  obtain ⟨A, C, t, s, n, o⟩ := r.ex
  have s' : TPs x.z G H σ (ps ++ [(v, .p i)]) (C ++ ([] ++ [])) := s.append (.cons (.p h) .nil)
  rw [List.append_nil, List.append_nil] at s'
  exact .intro t s' n o r.gs r.fs r.g0 r.gf r.pn
/-- settled data of the stack -/
theorem Rel.top {v : V} {d : D} (r : Rel x G σ H env (ps ++ [(v, .v false d)])) : T x.z G H v d [] := by
  obtain ⟨A, C, t, s, n, o⟩ := r.ex
  obtain ⟨C1, C2, s1, s2, rfl⟩ := s.split
  cases s2 with
  | cons h k =>
    cases h with
    | v h f =>
      have e := f rfl
      subst e
      exact h
def stlO : O → O
  | .v f d => .v false (stl (f, d))
  | .p i => .p i
theorem T.stl {f : Bool} {v : V} {d : D} {A A0 : List Addr} {z : Z} (h : T z G H v d A) (e : f = false → A = []) (s : Same G (adj G H A0)) (k : ∀ a ∈ A, a ∈ A0) : T z (adj G H A0) H v (stl (f, d)) [] := by
  cases f with
  | false =>
    have q := e rfl
    subst q
    exact h.mono s fun a m => by cases m
  | true => exact h.settle s k
theorem TPs.stl {A0 : List Addr} {z : Z} (s : Same G (adj G H A0)) : ∀ {qs : List (V × O)} {C : List Addr}, TPs z G H σ qs C → (∀ a ∈ C, a ∈ A0) → TPs z (adj G H A0) H σ (qs.map fun p => (p.1, stlO p.2)) []
  | _, _, .nil, _ => .nil
  | _, _, .cons (A := A) (B := B) h t, k => by
    refine .cons (A := []) (B := []) ?_ (TPs.stl s t fun a m => k a (List.mem_append_right _ m))
    cases h with
    | v h f => exact .v (T.stl h f s fun a m => k a (List.mem_append_left _ m)) fun _ => rfl
    | p h => exact .p h
mutual
/-- a floating node is a list, a dict, an instance -/
theorem T.kind {z : Z} : ∀ {v : V} {d : D} {A : List Addr}, T z G H v d A → ∀ a ∈ A, ∃ o, H a = some o
  | _, _, _, h, a, m => h.there a m
end
theorem GS.adj {A : List Addr} (g : GS G H) : GS (adj G H A) H := fun a o e => by
  by_cases m : a ∈ A
  · rw [adj_in m] at e; exact .inl e
  · rw [adj_out m] at e; exact g a o e
/-- the top of the stack is settled -/
theorem Rel.settle (r : Rel x G σ H env (ps ++ qs)) : ∃ G', Same G G' ∧ Rel x G' σ H env (ps ++ qs.map fun p => (p.1, stlO p.2)) := by
  obtain ⟨A, C, t, s, n, o⟩ := r.ex
  obtain ⟨C1, C2, s1, s2, rfl⟩ := s.split
  have hg : ∀ a ∈ C2, G a = none := fun a m => (o a (List.mem_append_right _ (List.mem_append_right _ m))).1
  have sm := adj_same (G := G) (H := H) hg
  refine ⟨adj G H C2, sm, .intro (A := A) (C := C1) (t.mono sm fun _ _ => rfl) ?_ ?_ ?_ r.gs.adj r.fs (fun a o e => sm a o (r.g0 a o e)) ?_ r.pn⟩
  · have q := (s1.mono (H' := H) sm fun _ _ => rfl).append (TPs.stl sm s2 fun a m => m)
    rw [List.append_nil] at q
    exact q
  · rw [← List.append_assoc] at n
    exact (List.nodup_append.mp n).1
  · intro a m
    rw [← List.append_assoc] at n o
    have nm : a ∉ C2 := fun m2 => (List.nodup_append.mp n).2.2 a m a m2 rfl
    rw [adj_out nm]
    exact o a (List.mem_append_left _ m)
  · intro a ob e e0
    by_cases m : a ∈ C2
    · have q := (o a (List.mem_append_right _ (List.mem_append_right _ m))).2
      rw [q] at e; cases e
    · rw [adj_out m]; exact r.gf a ob e e0
/-- a value that is looked at: its children are settled -/
def Vw (z : Z) (G H : Hp) (v : V) (d : D) : Prop := nfc d = true ∧ ∃ A, T z G H v d A
inductive Vws (z : Z) (G H : Hp) : List V → List D → Prop
  | nil : Vws z G H [] []
  | cons {v : V} {vs : List V} {d : D} {ds : List D} : Vw z G H v d → Vws z G H vs ds → Vws z G H (v :: vs) (d :: ds)
theorem nfc_of_nf : ∀ {d : D}, nf d = true → nfc d = true
  | .non, _ => rfl
  | .bl _, _ => rfl
  | .int _, _ => rfl
  | .str _, _ => rfl
  | .lst f xs, h => by rw [nf, Bool.and_eq_true] at h; exact h.2
  | .tup xs, h => h
  | .dic f xs, h => by rw [nf, Bool.and_eq_true] at h; exact h.2
  | .ins f c xs, h => by rw [nf, Bool.and_eq_true] at h; exact h.2
  | .gl _, _ => rfl
theorem Vw.of {z : Z} {v : V} {d : D} (h : T z G H v d []) : Vw z G H v d := ⟨nfc_of_nf (h.nf_of rfl), _, h⟩
theorem TOs.get {z : Z} : ∀ {σ : St} {env : EnvD} {A : List Addr}, TOs z G H σ env A → ∀ (i : Nat) {f : Bool} {d : D}, env[i]? = some (some (f, d)) → ∃ v B, σ[i]? = some (some v) ∧ T z G H v d B ∧ (f = false → B = []) ∧ ∀ a ∈ B, a ∈ A
  | _, _, _, .nil, i, _, _, e => by simp at e
  | _, _, _, .cons h t, 0, f, d, e => by
    simp at e
    subst e
    cases h with
    | some h k => exact ⟨_, _, rfl, h, k, fun a m => List.mem_append_left _ m⟩
  | _, _, _, .cons h t, i + 1, f, d, e => by
    obtain ⟨v, B, e1, h1, k, m1⟩ := TOs.get t i (by simpa using e)
    exact ⟨v, B, by simpa using e1, h1, k, fun a m => List.mem_append_right _ (m1 a m)⟩
theorem getS_some {i : Nat} {p : Bool × D} (h : getS env i = some p) : env[i]? = some (some p) ∧ i < env.length := by
  unfold getS at h
  cases e : env[i]? with
  | none => rw [e] at h; cases h
  | some q =>
    rw [e] at h
    have h' : q = some p := h
    subst h'
    exact ⟨rfl, (List.getElem?_eq_some_iff.mp e).1⟩
theorem Rel.slot {i : Nat} {f : Bool} {d : D} (r : Rel x G σ H env ps) (h : getS env i = some (f, d)) : ∃ v B, σ[i]? = some (some v) ∧ T x.z G H v d B ∧ (f = false → B = []) := by
  obtain ⟨A, C, t, s, n, o⟩ := r.ex
  obtain ⟨v, B, e, h1, k, _⟩ := t.get i (getS_some h).1
  exact ⟨v, B, e, h1, k⟩
theorem TPs.views {z : Z} {A : List Addr} (t : TOs z G H σ env A) : ∀ {qs : List (V × O)} {C : List Addr}, TPs z G H σ qs C → C = [] → ∀ {ds : List D}, rsAll (qs.map (·.2)) env = some ds → Vws z G H (qs.map (·.1)) ds
  | _, _, .nil, _, ds, e => by
    cases e
    exact .nil
  | _, _, .cons (o := o) (ps := qs) h k, ec, ds, e => by
    obtain ⟨e1, e2⟩ := List.append_eq_nil_iff.mp ec
    subst e1
    have e' : (match rsD o env, rsAll (qs.map (·.2)) env with
      | some d, some ds => some (d :: ds)
      | _, _ => none) = some ds := e
    cases q1 : rsD o env with
    | none => rw [q1] at e'; cases e'
    | some d =>
      cases q2 : rsAll (qs.map (·.2)) env with
      | none => rw [q1, q2] at e'; cases e'
      | some ds' =>
        rw [q1, q2] at e'
        cases e'
        refine .cons ?_ (TPs.views t k e2 q2)
        cases h with
        | @v f d0 _ h f0 =>
          cases f with
          | false =>
            have e3 : d0 = d := Option.some.inj q1
            subst e3
            exact .of h
          | true =>
            have e3 : clr d0 = d := Option.some.inj q1
            rw [h.clr_eq] at e3
            subst e3
            exact .of h
        | @p i h =>
          have q1' : (match env[i]? with
            | some (some (_, d)) => if nfc d then some d else none
            | _ => none) = some d := q1
          cases q3 : env[i]? with
          | none => rw [q3] at q1'; cases q1'
          | some sd =>
            cases sd with
            | none => rw [q3] at q1'; cases q1'
            | some p =>
              obtain ⟨f, d0⟩ := p
              rw [q3] at q1'
              have q4 : (if nfc d0 then some d0 else none) = some d := q1'
              by_cases c : nfc d0 = true
              · rw [if_pos c] at q4
                cases q4
                obtain ⟨v', B, e4, h4, _, _⟩ := t.get i q3
                rw [h] at e4
                cases e4
                exact ⟨c, B, h4⟩
              · rw [if_neg c] at q4; cases q4
theorem rsD_stl (o : O) (env : EnvD) : rsD (stlO o) env = rsD o env := by
  cases o with
  | v f d => cases f <;> rfl
  | p i => rfl
theorem rsAll_stl : ∀ (os : List O) (env : EnvD), rsAll (os.map stlO) env = rsAll os env
  | [], _ => rfl
  | o :: os, env => by
    show (match rsD (stlO o) env, rsAll (os.map stlO) env with
      | some d, some ds => some (d :: ds)
      | _, _ => none) = _
    rw [rsD_stl, rsAll_stl os env]
    rfl
/-- the operands, looked at; they stay on the stack, settled -/
theorem Rel.viewsK {ds : List D} (r : Rel x G σ H env (ps ++ qs)) (e : rsAll (qs.map (·.2)) env = some ds) : ∃ G', Same G G' ∧ Rel x G' σ H env (ps ++ qs.map fun p => (p.1, stlO p.2)) ∧ Vws x.z G' H (qs.map (·.1)) ds := by
  obtain ⟨A, C, t, s, n, o⟩ := r.ex
  obtain ⟨C1, C2, s1, s2, rfl⟩ := s.split
  have hg : ∀ a ∈ C2, G a = none := fun a m => (o a (List.mem_append_right _ (List.mem_append_right _ m))).1
  have sm := adj_same (G := G) (H := H) hg
  obtain ⟨G', sg, r'⟩ := r.settle
  obtain ⟨A', C', t', s', n', o'⟩ := r'.ex
  obtain ⟨D1, D2, u1, u2, rfl⟩ := s'.split
  refine ⟨G', sg, r', ?_⟩
  have e2 : rsAll ((qs.map fun p => (p.1, stlO p.2)).map (·.2)) env = some ds := by
    rw [List.map_map]
    show rsAll (qs.map fun p => stlO p.2) env = some ds
    have q := rsAll_stl (qs.map (·.2)) env
    rw [List.map_map] at q
    exact q.trans e
  have hD : D2 = [] := by
    have all : ∀ {qs : List (V × O)} {C : List Addr}, TPs x.z G' H σ (qs.map fun p => (p.1, stlO p.2)) C → C = [] := by
      intro qs
      induction qs with
      | nil =>
        intro C h
        cases h
        rfl
      | cons p qs ih =>
        intro C h
        cases h with
        | cons h k =>
          have e1 := ih k
          obtain ⟨v, o⟩ := p
          cases o with
          | v f d =>
            cases h with
            | v h f0 => rw [f0 rfl, e1]; rfl
          | p i =>
            cases h with
            | p h => rw [e1]; rfl
    exact all u2
  have q := TPs.views t' u2 hD e2
  rw [List.map_map] at q
  exact q
/-- the operands, off the stack -/
theorem Rel.views {ds : List D} (r : Rel x G σ H env (ps ++ qs)) (e : rsAll (qs.map (·.2)) env = some ds) : ∃ G', Same G G' ∧ Rel x G' σ H env ps ∧ Vws x.z G' H (qs.map (·.1)) ds := by
  obtain ⟨G', s, r', w⟩ := r.viewsK e
  exact ⟨G', s, r'.pop, w⟩
/-! ### looking at values -/
theorem GS.rd {a : Addr} {xs : List V} (g : GS G H) (h : Rd G a (.lst xs)) : Rd H a (.lst xs) := by
  rcases h with h | ⟨o, h⟩
  · rcases g a _ h with h | ⟨_, _, e, _⟩
    · exact .inl h
    · cases e
  · rcases g a _ h with h | ⟨_, _, e, _⟩
    · exact .inr ⟨o, h⟩
    · cases e
theorem GS.rdT {a : Addr} {xs : List V} (g : GS G H) (h : Rd G a (.tup xs)) : Rd H a (.tup xs) := by
  rcases h with h | ⟨o, h⟩
  · rcases g a _ h with h | ⟨_, _, e, _⟩
    · exact .inl h
    · cases e
  · rcases g a _ h with h | ⟨_, _, e, _⟩
    · exact .inr ⟨o, h⟩
    · cases e
theorem GS.sqL {K : PySem.W.Frag} {a : Addr} {xs : List V} (g : GS G H) (h : SqL K G a xs) : SqL K H a xs := h.elim (fun h => .inl (g.rd h)) .inr
theorem GS.sqT {K : PySem.W.Frag} {a : Addr} {xs : List V} (g : GS G H) (h : SqT K G a xs) : SqT K H a xs := h.elim (fun h => .inl (g.rdT h)) .inr
theorem GS.rdD {a : Addr} {kvs : List (Key × V)} (g : GS G H) (h : RdD G a kvs) : RdD H a kvs := by
  rcases h with h | ⟨o, h⟩
  · rcases g a _ h with h | ⟨kvs', ob, e, h⟩
    · exact .inl h
    · cases e
      exact .inr ⟨ob, h⟩
  · rcases g a _ h with h | ⟨_, _, e, _⟩
    · exact .inr ⟨o, h⟩
    · cases e
theorem Vw.lst {z : Z} {v : V} {f : Bool} {ds : List D} (g : GS G H) (h : Vw z G H v (.lst f ds)) : ∃ a vs, v = .ref a ∧ SqL z.K H a vs ∧ Ts z G H vs ds [] := by
  obtain ⟨n, A, t⟩ := h
  cases t with
  | lst hs ht =>
    have e := ht.nf_nil n
    subst e
    exact ⟨_, _, rfl, g.sqL hs, ht⟩
  | lstF hs ht =>
    have e := ht.nf_nil n
    subst e
    exact ⟨_, _, rfl, .inl (.inl hs), ht⟩
theorem Vw.tup {z : Z} {v : V} {ds : List D} (g : GS G H) (h : Vw z G H v (.tup ds)) : ∃ a vs, v = .ref a ∧ SqT z.K H a vs ∧ Ts z G H vs ds [] := by
  obtain ⟨n, A, t⟩ := h
  cases t with
  | tup hs ht =>
    have e := ht.nf_nil n
    subst e
    exact ⟨_, _, rfl, g.sqT hs, ht⟩
theorem Vw.int {z : Z} {v : V} {i : Int} (h : Vw z G H v (.int i)) : v = .int i := by
  obtain ⟨n, A, t⟩ := h
  cases t
  rfl
theorem Vw.str {z : Z} {v : V} {i : Str} (h : Vw z G H v (.str i)) : v = .str i := by
  obtain ⟨n, A, t⟩ := h
  cases t
  rfl
theorem Vw.bl {z : Z} {v : V} {i : Bool} (h : Vw z G H v (.bl i)) : v = .bl i := by
  obtain ⟨n, A, t⟩ := h
  cases t
  rfl
theorem Vw.non {z : Z} {v : V} (h : Vw z G H v .non) : v = .non := by
  obtain ⟨n, A, t⟩ := h
  cases t
  rfl
theorem Ts.length {z : Z} : ∀ {vs : List V} {ds : List D} {A : List Addr}, Ts z G H vs ds A → vs.length = ds.length
  | _, _, _, .nil => rfl
  | _, _, _, .cons _ t => by rw [List.length_cons, List.length_cons, Ts.length t]
theorem Ts.nil_inv {z : Z} {v : V} {vs : List V} {d : D} {ds : List D} (h : Ts z G H (v :: vs) (d :: ds) []) : T z G H v d [] ∧ Ts z G H vs ds [] := by
  generalize hA : ([] : List Addr) = A0 at h
  cases h with
  | cons h t =>
    obtain ⟨e1, e2⟩ := List.append_eq_nil_iff.mp hA.symm
    subst e1 e2
    exact ⟨h, t⟩
theorem Ts.get {z : Z} : ∀ {vs : List V} {ds : List D}, Ts z G H vs ds [] → ∀ (i : Nat) {d : D}, ds[i]? = some d → ∃ v, vs[i]? = some v ∧ T z G H v d []
  | [], ds, h, i, d, e => by
    have q := h.length
    cases ds with
    | nil => simp at e
    | cons _ _ => simp at q
  | v :: vs, [], h, i, d, e => by simp at e
  | v :: vs, d0 :: ds, h, 0, d, e => by
    simp at e
    subst e
    exact ⟨v, rfl, h.nil_inv.1⟩
  | v :: vs, d0 :: ds, h, i + 1, d, e => by
    obtain ⟨w, e1, h1⟩ := Ts.get h.nil_inv.2 i (by simpa using e)
    exact ⟨w, by simpa using e1, h1⟩
theorem Ts.con {z : Z} {v : V} {vs : List V} {d : D} {ds : List D} (h : T z G H v d []) (t : Ts z G H vs ds []) : Ts z G H (v :: vs) (d :: ds) [] := .cons (A := []) (B := []) h t
theorem Ts.append {z : Z} : ∀ {vs ws : List V} {ds es : List D} {A B : List Addr}, Ts z G H vs ds A → Ts z G H ws es B → Ts z G H (vs ++ ws) (ds ++ es) (A ++ B)
  | _, _, _, _, _, _, .nil, t => t
  | _, _, _, _, _, _, .cons h s, t => by
    rw [List.append_assoc]
    exact .cons h (Ts.append s t)
theorem Ts.app {z : Z} {vs ws : List V} {ds es : List D} (h : Ts z G H vs ds []) (t : Ts z G H ws es []) : Ts z G H (vs ++ ws) (ds ++ es) [] := h.append t
theorem Ts.drop {z : Z} : ∀ (n : Nat) {vs : List V} {ds : List D}, Ts z G H vs ds [] → Ts z G H (vs.drop n) (ds.drop n) []
  | 0, _, _, h => h
  | n + 1, vs, ds, h => by
    cases vs with
    | nil =>
      cases ds with
      | nil => exact h
      | cons d ds => exact absurd h.length (by simp)
    | cons v vs =>
      cases ds with
      | nil => exact absurd h.length (by simp)
      | cons d ds => exact Ts.drop n h.nil_inv.2
theorem Ts.take {z : Z} : ∀ (n : Nat) {vs : List V} {ds : List D}, Ts z G H vs ds [] → Ts z G H (vs.take n) (ds.take n) []
  | 0, _, _, h => .nil
  | n + 1, vs, ds, h => by
    cases vs with
    | nil =>
      cases ds with
      | nil => exact h
      | cons d ds => exact absurd h.length (by simp)
    | cons v vs =>
      cases ds with
      | nil => exact absurd h.length (by simp)
      | cons d ds => exact .con h.nil_inv.1 (Ts.take n h.nil_inv.2)
theorem Ts.rep {z : Z} {vs : List V} {ds : List D} (h : Ts z G H vs ds []) : ∀ n : Nat, Ts z G H (List.replicate n vs).flatten (List.replicate n ds).flatten []
  | 0 => .nil
  | n + 1 => by
    rw [List.replicate_succ, List.replicate_succ, List.flatten_cons, List.flatten_cons]
    exact h.app (Ts.rep h n)
/-! ### new objects -/
theorem GS.alloc {p : Addr} {o : HO} (g : GS G H) (hp : H p = none) : GS G (upd H p o) := fun a u e => by
  have ne : a ≠ p := fun q => by
    subst q
    rcases g a u e with h | ⟨_, _, _, h⟩ <;> (rw [hp] at h; cases h)
  rw [upd_ne ne]
  exact g a u e
theorem Same.alloc {F : Hp} {p : Addr} {o : HO} (s : Same F H) (hp : H p = none) : Same F (upd H p o) := fun a u e => by
  rw [upd_ne (ne_of_none (s a u e) hp)]
  exact s a u e
theorem keep_alloc {p : Addr} {o : HO} {A : List Addr} (th : ∀ a ∈ A, IsSome H a) (hp : H p = none) : ∀ a ∈ A, upd H p o a = H a := fun a m => by
  obtain ⟨u, e⟩ := th a m
  exact upd_ne (ne_of_none e hp)
theorem GS.free {p : Addr} (g : GS G H) (hp : H p = none) : G p = none := by
  cases e : G p with
  | none => rfl
  | some o => rcases g p o e with h | ⟨_, _, _, h⟩ <;> (rw [hp] at h; cases h)
theorem Same.free' {F : Hp} {p : Addr} (s : Same F H) (hp : H p = none) : F p = none := by
  cases e : F p with
  | none => rfl
  | some o => rw [s p o e] at hp; cases hp
/-- a new floating node above the stack ps, its children off the stack -/
theorem Rel.alloc {p : Addr} {o : HO} {d : D} (r : Rel x G σ H env (ps ++ qs)) (hp : H p = none) (ho : ∀ C2, TPs x.z G H σ qs C2 → T x.z G (upd H p o) (.ref p) d (p :: C2)) : Rel x G σ (upd H p o) env (ps ++ [(.ref p, .v true d)]) := by
  obtain ⟨A, C, t, s, n, ou⟩ := r.ex
  obtain ⟨C1, C2, s1, s2, rfl⟩ := s.split
  have np : p ∉ A ++ (C1 ++ C2) := fun m => by
    have q : IsSome H p := by
      rcases List.mem_append.mp m with m | m
      · exact t.there p m
      · rcases List.mem_append.mp m with m | m
        · exact s1.there p m
        · exact s2.there p m
    obtain ⟨u, e⟩ := q
    rw [hp] at e; cases e
  have kA := keep_alloc (o := o) t.there hp
  have kC := keep_alloc (o := o) s1.there hp
  have s3 : TPs x.z G (upd H p o) σ (ps ++ [(.ref p, .v true d)]) (C1 ++ ((p :: C2) ++ [])) := (s1.mono (fun _ _ e => e) kC).append (.cons (.v (ho C2 s2) fun e => by cases e) .nil)
  rw [List.append_nil] at s3
  refine .intro (t.mono (fun _ _ e => e) kA) s3 ?_ ?_ (r.gs.alloc hp) (Same.alloc r.fs hp) r.g0 r.gf r.pn
  · have e : (A ++ (C1 ++ p :: C2)).Perm (p :: (A ++ (C1 ++ C2))) := by
      rw [← List.append_assoc, ← List.append_assoc]
      exact List.perm_middle
    exact e.nodup_iff.mpr (List.nodup_cons.mpr ⟨np, n⟩)
  · intro a m
    have m' : a = p ∨ a ∈ A ++ (C1 ++ C2) := by
      simp only [List.mem_append, List.mem_cons] at m ⊢
      rcases m with m | m | m | m
      · exact .inr (.inl m)
      · exact .inr (.inr (.inl m))
      · exact .inl m
      · exact .inr (.inr (.inr m))
    rcases m' with e | m'
    · subst e
      exact ⟨r.gs.free hp, Same.free' r.fs hp⟩
    · exact ou a m'
/-- a new tuple, its items off the stack -/
theorem Rel.allocT {p : Addr} {vs : List V} {d : D} {f : Bool} (r : Rel x G σ H env (ps ++ qs)) (hp : H p = none) (ho : ∀ C2, TPs x.z G H σ qs C2 → T x.z (upd G p (.tup vs)) (upd H p (.tup vs)) (.ref p) d C2 ∧ (f = false → C2 = [])) :
    Same G (upd G p (.tup vs)) ∧ Rel x (upd G p (.tup vs)) σ (upd H p (.tup vs)) env (ps ++ [(.ref p, .v f d)]) := by
  obtain ⟨A, C, t, s, n, ou⟩ := r.ex
  obtain ⟨C1, C2, s1, s2, rfl⟩ := s.split
  have np : p ∉ A ++ (C1 ++ C2) := fun m => by
    have q : IsSome H p := by
      rcases List.mem_append.mp m with m | m
      · exact t.there p m
      · rcases List.mem_append.mp m with m | m
        · exact s1.there p m
        · exact s2.there p m
    obtain ⟨u, e⟩ := q
    rw [hp] at e; cases e
  have gp := r.gs.free hp
  have sg : Same G (upd G p (.tup vs)) := Same.alloc (fun _ _ e => e) gp
  have kA := keep_alloc (o := .tup vs) t.there hp
  have kC := keep_alloc (o := .tup vs) s1.there hp
  obtain ⟨h1, h2⟩ := ho C2 s2
  have s3 : TPs x.z (upd G p (.tup vs)) (upd H p (.tup vs)) σ (ps ++ [(.ref p, .v f d)]) (C1 ++ (C2 ++ [])) := (s1.mono sg kC).append (.cons (.v h1 h2) .nil)
  rw [List.append_nil] at s3
  refine ⟨sg, .intro (t.mono sg kA) s3 n ?_ ?_ (Same.alloc r.fs hp) (fun a o e => sg a o (r.g0 a o e)) ?_ r.pn⟩
  · intro a m
    have ne : a ≠ p := fun e => np (e ▸ m)
    rw [upd_ne ne]
    exact ou a m
  · intro a o e
    by_cases q : a = p
    · subst q
      rw [upd_same] at e
      rw [upd_same]
      exact .inl e
    · rw [upd_ne q] at e
      rw [upd_ne q]
      exact r.gs a o e
  · intro a o e e0
    have ne : a ≠ p := fun q => by
      subst q
      rw [Same.free' r.fs hp] at e; cases e
    rw [upd_ne ne]
    exact r.gf a o e e0
end
end Vm
/-! Vm: what the evaluator tells of an expression is so. -/
namespace PySem.AutoSeq1
section
variable {prog : Program} {w : World}
/-- two lists, whatever slots they have, one behind the other -/
theorem vm_add_meets (l b : Addr) (xs ys : Array Value) (n m : Nat) (sl sl2 : Array (Option Value)) (hz : xs.size + ys.size ≤ sizeLine) :
    Meets (Builtin.«list.__add__» ⟨[.ref l, .ref b], []⟩) (fun _ R s =>
      s.heap.get? l = some ⟨.type "list", none, .seq xs n, sl⟩ ∧
      s.heap.get? b = some ⟨.type "list", none, .seq ys m, sl2⟩ ∧
      R (.ok (.ret (Value.ref s.heap.objs.size)))
        { s with heap := s.heap.push ⟨.type "list", none, .seq (xs ++ ys) 0, #[]⟩ }) :=
  .of_wp fun prog w A R s h => by
    obtain ⟨hp, g, d, tk, os⟩ := s
    obtain ⟨hl, hb, h⟩ := h
    have f1 := idx_int
    have f2 := sub_tuple_tuple
    have f3 := sub_list_list
    have f4 := sub_tuple_list
    have f5 := sub_list_tuple
    wp_walk using wpAny_loadPart' hl, wpAny_loadPart' hb
    exact ⟨_, rfl, h⟩
end
end PySem.AutoSeq1
namespace Vm
open PySem L2
open PyProof.Rows hiding St
/-- an exception of the class c with the fields fs -/
def ExR (z : Z) (G H : Hp) (cls : Value) (dd : Option Addr) (c : Nat) (fs : List (Nat × D)) : Prop :=
  ∃ C, cls = .ref C ∧ z.mg (z.gn c) = some (.ref C) ∧ ((dd = none ∧ fs = []) ∨ ∃ d vfs, dd = some d ∧ G d = some (.xd vfs) ∧ ∀ p ∈ fs, ∃ v, vfs.lookup (z.fn p.1) = some v ∧ T z G H v p.2 [])
/-- what is wanted behind an expression -/
def PostR (x : Fx) (G : Hp) (σ : St) (ps : List (V × O)) (W : WX) (Q : VK) : R → Prop
  | .ok o env => ∀ v G' H', Same G G' → Rel x G' σ H' env (ps ++ [(v, o)]) → Q v H'
  | .ex c fs env => ∀ cls dd G' H', Same G G' → Rel x G' σ H' env [] → ExR x.z G' H' cls dd c fs → W cls dd σ H'
  | .bad => False
def PostRs (x : Fx) (G : Hp) (σ : St) (ps : List (V × O)) (W : WX) (Q : List V → Hp → Prop) : Rs → Prop
  | .ok os env => ∀ vs G' H', vs.length = os.length → Same G G' → Rel x G' σ H' env (ps ++ vs.zip os) → Q vs H'
  | .ex c fs env => ∀ cls dd G' H', Same G G' → Rel x G' σ H' env [] → ExR x.z G' H' cls dd c fs → W cls dd σ H'
  | .bad => False
def tE (z : Z) (W : WX) (m : EnvD → R) : TE := fun σ H Q => ∃ x G env ps, x.z = z ∧ Rel x G σ H env ps ∧ PostR x G σ ps W Q (m env)
def tEs (z : Z) (W : WX) (m : EnvD → Rs) : TA := fun σ H Q => ∃ x G env ps, x.z = z ∧ Rel x G σ H env ps ∧ PostRs x G σ ps W Q (m env)
section
variable {x : Fx} {G G' : Hp} {σ : St} {H H' : Hp} {env : EnvD} {ps qs : List (V × O)} {W : WX} {Q Q' : VK}
theorem Same.tr {a b c : Hp} (h : Same a b) (k : Same b c) : Same a c := fun y o e => k y o (h y o e)
theorem PostR.up {r : R} (s : Same G G') (h : PostR x G σ ps W Q r) : PostR x G' σ ps W Q r := by
  cases r with
  | ok o env => exact fun v G2 H2 s2 r2 => h v G2 H2 (Same.tr s s2) r2
  | ex c fs env => exact fun cls dd G2 H2 s2 r2 e => h cls dd G2 H2 (Same.tr s s2) r2 e
  | bad => exact h
theorem PostRs.up {r : Rs} {Q : List V → Hp → Prop} (s : Same G G') (h : PostRs x G σ ps W Q r) : PostRs x G' σ ps W Q r := by
  cases r with
  | ok o env => exact fun v G2 H2 l s2 r2 => h v G2 H2 l (Same.tr s s2) r2
  | ex c fs env => exact fun cls dd G2 H2 s2 r2 e => h cls dd G2 H2 (Same.tr s s2) r2 e
  | bad => exact h
/-- one operand, then the rest -/
theorem PostR.step {m : EnvD → R} {k : O → EnvD → R} (r : Rel x G σ H env qs) (h : PostR x G σ ps W Q ((m env).bind k))
    (go : ∀ o env1 v G1 H1, Same G G1 → Rel x G1 σ H1 env1 (qs ++ [(v, o)]) → PostR x G1 σ ps W Q (k o env1) → Q' v H1) : tE x.z W m σ H Q' := by
  refine ⟨x, G, env, qs, rfl, r, ?_⟩
  cases e : m env with
  | ok o env1 =>
    rw [e] at h
    exact fun v G1 H1 s r1 => go o env1 v G1 H1 s r1 (PostR.up s h)
  | ex c fs env1 =>
    rw [e] at h
    exact h
  | bad =>
    rw [e] at h
    exact h
theorem PostRs.step {m : EnvD → Rs} {k : List O → EnvD → R} {Q' : List V → Hp → Prop} (r : Rel x G σ H env qs) (h : PostR x G σ ps W Q ((m env).bind k))
    (go : ∀ os env1 vs G1 H1, vs.length = os.length → Same G G1 → Rel x G1 σ H1 env1 (qs ++ vs.zip os) → PostR x G1 σ ps W Q (k os env1) → Q' vs H1) : tEs x.z W m σ H Q' := by
  refine ⟨x, G, env, qs, rfl, r, ?_⟩
  cases e : m env with
  | ok o env1 =>
    rw [e] at h
    exact fun v G1 H1 l s r1 => go o env1 v G1 H1 l s r1 (PostR.up s h)
  | ex c fs env1 =>
    rw [e] at h
    exact h
  | bad =>
    rw [e] at h
    exact h
theorem two_views {o q : O} {v u : V} {k : D → D → R} (r : Rel x G σ H env (qs ++ [(v, o)] ++ [(u, q)])) (h : PostR x G σ ps W Q (match rsD o env, rsD q env with
    | some d, some e => k d e
    | _, _ => .bad)) : ∃ d e G', Same G G' ∧ Rel x G' σ H env qs ∧ Vw x.z G' H v d ∧ Vw x.z G' H u e ∧ PostR x G' σ ps W Q (k d e) := by
  cases e1 : rsD o env with
  | none => rw [e1] at h; exact h.elim
  | some d =>
    cases e2 : rsD q env with
    | none => rw [e1, e2] at h; exact h.elim
    | some e =>
      rw [e1, e2] at h
      rw [List.append_assoc] at r
      obtain ⟨G1, s1, r1, w⟩ := Rel.views (ds := [d, e]) r (by
        show (match rsD o env, rsAll [q] env with
          | some d, some ds => some (d :: ds)
          | _, _ => none) = _
        have q2 : rsAll [q] env = some [e] := by
          show (match rsD q env, rsAll [] env with
            | some d, some ds => some (d :: ds)
            | _, _ => none) = _
          rw [e2]
          rfl
        rw [e1, q2])
      cases w with
      | cons w1 w2 =>
        cases w2 with
        | cons w2 w3 => exact ⟨d, e, G1, s1, r1, w1, w2, PostR.up s1 h⟩
theorem one_view {o : O} {v : V} {k : D → R} (r : Rel x G σ H env (qs ++ [(v, o)])) (h : PostR x G σ ps W Q (match rsD o env with
    | some d => k d
    | none => .bad)) : ∃ d G', Same G G' ∧ Rel x G' σ H env qs ∧ Vw x.z G' H v d ∧ PostR x G' σ ps W Q (k d) := by
  cases e1 : rsD o env with
  | none => rw [e1] at h; exact h.elim
  | some d =>
    rw [e1] at h
    obtain ⟨G1, s1, r1, w⟩ := Rel.views (ds := [d]) r (by
      show (match rsD o env, rsAll [] env with
        | some d, some ds => some (d :: ds)
        | _, _ => none) = _
      rw [e1]
      rfl)
    cases w with
    | cons w1 w2 => exact ⟨d, G1, s1, r1, w1, PostR.up s1 h⟩
end
section
variable {X : Cx} {W : WX}
theorem _root_.L2.PE.to {e : Expr} {t t' : TE} (h : PE X e t) (k : ∀ σ H Q, t' σ H Q → t σ H Q) : PE X e t' := ⟨fun pins s σ H Q I q => h.run pins s σ H Q I (k σ H Q q)⟩
theorem _root_.L2.PA.to {e : List Expr} {t t' : TA} (h : PA X e t) (k : ∀ σ H Q, t' σ H Q → t σ H Q) : PA X e t' := ⟨fun pos pins s σ H Q I q => h.run pos pins s σ H Q I (k σ H Q q)⟩
theorem _root_.L2.PT.to {e : Expr} {t t' : TT} (h : PT X e t) (k : ∀ σ H Q, t' σ H Q → t σ H Q) : PT X e t' := ⟨fun pins s σ H Q I q => h.run pins s σ H Q I (k σ H Q q)⟩
/-! ### an operator: its rule by values, told of plain data -/
/-- lists added, whatever they are -/
def rCatS (K : PySem.W.Frag) : R2 := fun a b H Q => ∃ l m xs ys, a = .ref l ∧ b = .ref m ∧ SqL K H l xs ∧ SqL K H m ys ∧ xs.length + ys.length ≤ sizeLine ∧ ∀ p, H p = none → Q (.ref p) (upd H p (.lst (xs ++ ys)))
theorem op_catS : OpR X (binaryOp .Add) (rCatS X.K) := by
  intro pins s σ H a b va vb Q I ra rb h
  obtain ⟨l, m, xs, ys, rfl, rfl, hl, hm, hz, q⟩ := h
  cases ra
  cases rb
  obtain ⟨us, r1, ⟨⟨oc, od, odt, osl⟩, n1, e1, c1, d1, k1⟩, z1⟩ := I.list hl
  obtain ⟨ws, r2, ⟨⟨pc, pd, pdt, psl⟩, n2, e2, c2, d2, k2⟩, z2⟩ := I.list hm
  cases c1
  cases d1
  cases k1
  cases c2
  cases d2
  cases k2
  have hz' : us.toArray.size + ws.toArray.size ≤ sizeLine := by
    rw [List.size_toArray, List.size_toArray, ← r1.length, ← r2.length]
    exact hz
  refine concat_meets ⟨_, e1, rfl⟩ ⟨_, e2, rfl⟩ noFill_list_add seq_list_add F.slot_list_add F.entry_list_add (F.args_list_add_2 _ _) (AutoSeq1.vm_add_meets l m us.toArray ws.toArray n1 n2 osl psl hz') ⟨e1, e2, ?_⟩
  have ea : us.toArray ++ ws.toArray = (us ++ ws).toArray := by simp
  rw [ea]
  exact ⟨.ref _, _, I.lnew (t' := s.toks) (r1.append r2) (by rw [List.length_append]; exact hz), rfl, q _ I.fresh⟩
/-- list * int, whatever list -/
def B2.py : B2 → Operator
  | .add => .Add
  | .sub => .Sub
  | .mul => .Mult
  | .fdiv => .FloorDiv
  | .mod => .Mod
  | .pow => .Pow
  | .shr => .RShift
  | .band => .BitAnd
def rB (K : PySem.W.Frag) : B2 → R2
  | .add => fun a b H Q => rI0 (fun i j => .int (i + j)) a b H Q ∨ ((∃ i j, a = .str i ∧ b = .str j ∧ i.length + j.length ≤ sizeLine ∧ Q (.str (i ++ j)) H) ∨ rCatS K a b H Q)
  | .sub => rI0 fun i j => .int (i - j)
  | .mul => rI CMul fun i j => .int (i * j)
  | .fdiv => rI CDiv fun i j => .int (i / j)
  | .mod => rI (fun _ j => 0 < j) fun i j => .int (i % j)
  | .pow => rI CPow fun i j => .int (i ^ j.toNat)
  | .shr => rI (fun _ j => 0 ≤ j) fun i j => .int (i / 2 ^ j.toNat)
  | .band => rI0 fun i j => .int (Builtin.bitAnd i j)
theorem op_B (o : B2) : OpR X (binaryOp o.py) (rB X.K o) := by
  cases o with
  | add => exact op_add.or (op_add_str.or op_catS)
  | sub => exact op_sub
  | mul => exact op_mul
  | fdiv => exact op_fdiv
  | mod => exact op_mod
  | pow => exact op_pow
  | shr => exact op_shr
  | band => exact op_and
/-- the end of an operation: settled -/
theorem PostR.val {x : Fx} {G : Hp} {σ : St} {H : Hp} {env : EnvD} {ps : List (V × O)} {Q : VK} {v : V} {f : Bool} {d : D} (r : Rel x G σ H env ps) (h : PostR x G σ ps W Q (.ok (.v f d) env)) (t : T x.z G H v d []) : Q v H :=
  h v G H (fun _ _ e => e) (r.push t)
/-- a new list of settled things -/
theorem PostR.newL {x : Fx} {G : Hp} {σ : St} {H : Hp} {env : EnvD} {ps : List (V × O)} {Q : VK} {vs : List V} {ds : List D} {p : Addr} (r : Rel x G σ H env ps) (h : PostR x G σ ps W Q (.ok (.v true (.lst true ds)) env)) (t : Ts x.z G H vs ds []) (hp : H p = none) :
    Q (.ref p) (upd H p (.lst vs)) := by
  rw [← List.append_nil ps] at r
  refine h _ G _ (fun _ _ e => e) (Rel.alloc r hp fun C2 c2 => ?_)
  cases c2
  exact .lstF upd_same (t.mono (fun _ _ e => e) fun a m => by cases m)
theorem bif_some {c : Bool} {a b : D} (h : (bif c then some a else none) = some b) : c = true ∧ a = b := by
  cases c
  · cases h
  · cases h
    exact ⟨rfl, rfl⟩
theorem bin_end {x : Fx} {G : Hp} {σ : St} {H : Hp} {env : EnvD} {ps : List (V × O)} {Q : VK} {o : B2} {v u : V} {d e : D} (r : Rel x G σ H env ps) (w1 : Vw x.z G H v d) (w2 : Vw x.z G H u e) (h : PostR x G σ ps W Q (ofOp (opBin o d e) env)) : rB x.z.K o v u H Q := by
  cases q : opBin o d e with
  | none => rw [q] at h; exact h.elim
  | some d' =>
    rw [q] at h
    have h' : PostR x G σ ps W Q (.ok (.v true d') env) := h
    unfold opBin at q
    split at q
    · cases q
      rw [w1.int, w2.int]
      exact .inl ⟨_, _, rfl, rfl, h'.val r (.int _)⟩
    · split at q
      · cases q
        rename_i hz
        rw [w1.str, w2.str]
        exact .inr (.inl ⟨_, _, rfl, rfl, hz, h'.val r (.str _)⟩)
      · cases q
    · split at q
      · cases q
        rename_i hz
        obtain ⟨a, vs, rfl, s1, t1⟩ := w1.lst r.gs
        obtain ⟨b, ws, rfl, s2, t2⟩ := w2.lst r.gs
        exact .inr (.inr ⟨a, b, vs, ws, rfl, rfl, s1, s2, by rw [t1.length, t2.length]; exact hz, fun p hp => h'.newL r (t1.app t2) hp⟩)
      · cases q
    · cases q
      rw [w1.int, w2.int]
      exact ⟨_, _, rfl, rfl, h'.val r (.int _)⟩
    · obtain ⟨hz, rfl⟩ := bif_some q
      rw [w1.int, w2.int]
      exact ⟨_, _, rfl, rfl, of_dec hz, h'.val r (.int _)⟩
    · split at q
      · cases q
        rename_i hz
        rw [w1.int, w2.int]
        exact ⟨_, _, rfl, rfl, hz, h'.val r (.int _)⟩
      · cases q
    · split at q
      · cases q
        rename_i hz
        rw [w1.int, w2.int]
        exact ⟨_, _, rfl, rfl, hz, h'.val r (.int _)⟩
      · cases q
    · obtain ⟨hz, rfl⟩ := bif_some q
      rw [w1.int, w2.int]
      exact ⟨_, _, rfl, rfl, of_dec hz, h'.val r (.int _)⟩
    · split at q
      · cases q
        rename_i hz
        rw [w1.int, w2.int]
        exact ⟨_, _, rfl, rfl, hz, h'.val r (.int _)⟩
      · cases q
    · cases q
      rw [w1.int, w2.int]
      exact ⟨_, _, rfl, rfl, h'.val r (.int _)⟩
    · cases q
theorem se_bin {z : Z} {Γ : Cf} {a b : Expr} {ea eb : E} {o : B2} {pos : Pos} (hK : X.K = z.K) (ha : PE X a (tE z W (evE Γ ea))) (hb : PE X b (tE z W (evE Γ eb))) : PE X (.BinOp a o.py b pos) (tE z W (evE Γ (.bin o ea eb))) := by
  refine (pe_op (op_B o) ha hb).to fun σ H Q ⟨x, G, env, ps, ez, r, h⟩ => ?_
  subst ez
  unfold evE at h
  refine PostR.step r h fun o1 env1 v G1 H1 s1 r1 h1 => ?_
  refine PostR.step r1 h1 fun o2 env2 u G2 H2 s2 r2 h2 => ?_
  obtain ⟨d, e, G3, s3, r3, w1, w2, h3⟩ := two_views r2 h2
  rw [hK]
  exact bin_end r3 w1 w2 h3
end
end Vm
/-! Vm: slots, constants, tests. -/
namespace Vm
open PySem L2
open PyProof.Rows hiding St
section
variable {x : Fx} {G G' : Hp} {σ : St} {H H' : Hp} {env : EnvD} {ps qs : List (V × O)}
theorem perm_mid {A B C D : List Addr} (p : A.Perm (B ++ C)) : (A ++ D).Perm (C ++ (D ++ B)) := by
  refine (p.append_right D).trans ?_
  rw [List.append_assoc]
  refine List.perm_append_comm.trans ?_
  rw [List.append_assoc]
/-- a slot's data goes onto the stack -/
theorem Rel.move {i : Nat} {f : Bool} {d : D} (r : Rel x G σ H env ps) (h : getS env i = some (f, d)) : ∃ v, σ[i]? = some (some v) ∧ Rel x G σ H (env.set i none) (ps ++ [(v, .v f d)]) := by
  obtain ⟨A, C, t, s, n, o⟩ := r.ex
  obtain ⟨e1, l⟩ := getS_some h
  obtain ⟨v, d', B, C', e2, e3, t1, p1, th, k⟩ := t.focus i l
  rw [e1] at e3
  cases e3
  cases t1 with
  | some t1 f1 =>
    rename_i w
    obtain ⟨A', t', p'⟩ := k (G2 := G) (H2 := H) (v' := some w) (d' := none) (fun _ _ e => e) (fun _ _ => rfl) .none
    have es : σ.set i (some w) = σ := by
      apply List.ext_getElem?
      intro j
      rw [List.getElem?_set]
      by_cases q : i = j
      · subst q
        rw [if_pos rfl, e2, t.len, if_pos l]
      · rw [if_neg q]
    rw [es] at t'
    have s' : TPs x.z G H σ (ps ++ [(w, .v f d)]) (C ++ (B ++ [])) := s.append (.cons (.v t1 f1) .nil)
    rw [List.append_nil] at s'
    have pp : (A ++ C).Perm (A' ++ (C ++ B)) := (perm_mid p1).trans (List.Perm.append_right (C ++ B) (show C'.Perm A' from p'.symm))
    refine ⟨w, e2, .intro t' s' (pp.nodup_iff.mp n) (fun a m => o a (pp.mem_iff.mpr m)) r.gs r.fs r.g0 r.gf r.pn⟩
/-- a slot takes what lies on the stack -/
theorem Rel.store {i : Nat} {f : Bool} {d : D} {v : V} (r : Rel x G σ H env (ps ++ [(v, .v f d)])) (l : i < env.length) (np : ∀ p ∈ x.pin, p.1 ≠ i) : Rel x G (σ.set i (some v)) H (env.set i (some (f, d))) ps ∨ ps ≠ [] := by
  by_cases hp : ps = []
  · subst hp
    left
    obtain ⟨A, C, t, s, n, o⟩ := r.ex
    cases s with
    | cons s1 s2 =>
      cases s2
      cases s1 with
      | v s1 f1 =>
        obtain ⟨v0, d', B, C', e2, e3, t1, p1, th, k⟩ := t.focus i l
        obtain ⟨A', t', p'⟩ := k (G2 := G) (H2 := H) (fun _ _ e => e) (fun _ _ => rfl) (.some s1 f1)
        rename_i A1
        rw [List.append_nil] at n o
        have pp : (A ++ A1).Perm (A' ++ B) := by
          refine (perm_mid p1).trans ?_
          rw [← List.append_assoc]
          exact ((List.perm_append_comm).trans p'.symm).append_right B
        have n' := pp.nodup_iff.mp n
        refine .intro (C := []) t' .nil (by rw [List.append_nil]; exact (List.nodup_append.mp n').1) (fun a m => o a (pp.mem_iff.mpr (List.mem_append_left _ (by rw [List.append_nil] at m; exact m)))) r.gs r.fs r.g0 r.gf fun p m => ?_
        rw [List.getElem?_set_ne (np p m).symm]
        exact r.pn p m
  · exact .inr hp
theorem Rel.store0 {i : Nat} {f : Bool} {d : D} {v : V} (r : Rel x G σ H env [(v, .v f d)]) (l : i < env.length) (np : ∀ p ∈ x.pin, p.1 ≠ i) : Rel x G (σ.set i (some v)) H (env.set i (some (f, d))) [] :=
  (Rel.store (ps := []) r l np).resolve_right fun h => h rfl
/-- a slot is forgotten -/
theorem Rel.forget {i : Nat} (r : Rel x G σ H env ps) : Rel x G σ H (env.set i none) ps := by
  by_cases l : i < env.length
  · obtain ⟨A, C, t, s, n, o⟩ := r.ex
    obtain ⟨v0, d', B, C', e2, e3, t1, p1, th, k⟩ := t.focus i l
    obtain ⟨A', t', p'⟩ := k (G2 := G) (H2 := H) (v' := v0) (fun _ _ e => e) (fun _ _ => rfl) .none
    have es : σ.set i v0 = σ := by
      apply List.ext_getElem?
      intro j
      rw [List.getElem?_set]
      by_cases q : i = j
      · subst q
        rw [if_pos rfl, e2, t.len, if_pos l]
      · rw [if_neg q]
    rw [es] at t'
    have pp : (A ++ C).Perm ((A' ++ C) ++ B) := by
      refine (perm_mid p1).trans ?_
      rw [← List.append_assoc]
      exact ((p'.symm).append_right C).append_right B
    have n' := pp.nodup_iff.mp n
    exact .intro t' s (List.nodup_append.mp n').1 (fun a m => o a (pp.mem_iff.mpr (List.mem_append_left _ m))) r.gs r.fs r.g0 r.gf r.pn
  · rw [List.set_eq_of_length_le (Nat.le_of_not_lt l)]
    exact r
theorem Rel.kill (vs : List Nat) : ∀ {env : EnvD}, Rel x G σ H env ps → Rel x G σ H (kill vs env) ps := by
  induction vs with
  | nil => exact fun r => r
  | cons i vs ih => exact fun r => ih r.forget
/-- a slot is settled in its place -/
theorem Rel.freeze {i : Nat} {d : D} (r : Rel x G σ H env ps) (h : getS env i = some (true, d)) : ∃ G' v, Same G G' ∧ σ[i]? = some (some v) ∧ T x.z G' H v (clr d) [] ∧ Rel x G' σ H (env.set i (some (false, clr d))) ps := by
  obtain ⟨A, C, t, s, n, o⟩ := r.ex
  obtain ⟨e1, l⟩ := getS_some h
  obtain ⟨v, d', B, C', e2, e3, t1, p1, th, k⟩ := t.focus i l
  rw [e1] at e3
  cases e3
  cases t1 with
  | some t1 f1 =>
    rename_i w
    have hB : ∀ a ∈ B, a ∈ A ++ C := fun a m => List.mem_append_left _ (p1.mem_iff.mpr (List.mem_append_left _ m))
    have sm := adj_same (G := G) (H := H) (A := B) fun a m => (o a (hB a m)).1
    obtain ⟨A', t', p'⟩ := k (G2 := adj G H B) (H2 := H) (v' := some w) (d' := some (false, clr d)) sm (fun _ _ => rfl) (.some (t1.settle sm fun _ m => m) fun _ => rfl)
    have es : σ.set i (some w) = σ := by
      apply List.ext_getElem?
      intro j
      rw [List.getElem?_set]
      by_cases q : i = j
      · subst q
        rw [if_pos rfl, e2, t.len, if_pos l]
      · rw [if_neg q]
    rw [es] at t'
    have pp : (A ++ C).Perm ((A' ++ C) ++ B) := by
      refine (perm_mid p1).trans ?_
      rw [← List.append_assoc]
      exact ((p'.symm).append_right C).append_right B
    have n' := pp.nodup_iff.mp n
    refine ⟨adj G H B, w, sm, e2, t1.settle sm fun _ m => m, .intro t' (s.mono sm fun _ _ => rfl) (List.nodup_append.mp n').1 (fun a m => ?_) r.gs.adj r.fs (fun a u e => sm a u (r.g0 a u e)) (fun a u e e0 => ?_) r.pn⟩
    · have q := o a (pp.mem_iff.mpr (List.mem_append_left _ m))
      rw [adj_out fun m2 => (List.nodup_append.mp n').2.2 a m a m2 rfl]
      exact q
    · by_cases m : a ∈ B
      · rw [(o a (hB a m)).2] at e; cases e
      · rw [adj_out m]; exact r.gf a u e e0
end
section
variable {X : Cx} {z : Z} {W : WX} {Γ : Cf} {pos : Pos}
theorem tE.val {σ : St} {H : Hp} {Q : VK} {m : EnvD → R} {v : V} {d : D} (hm : ∀ env, m env = .ok (.v false d) env) (t : ∀ G H, T z G H v d []) (h : tE z W m σ H Q) : Q v H := by
  obtain ⟨x, G, env, ps, ez, r, h⟩ := h
  subst ez
  rw [hm] at h
  exact h.val r (t G H)
theorem se_non {j} : PE X (.Constant .none j pos) (tE z W (evE Γ .non)) := pe_non.to fun σ H Q h => tE.val (fun _ => rfl) (fun _ _ => .non) h
theorem se_bl {b j} : PE X (.Constant (.bool b) j pos) (tE z W (evE Γ (.bl b))) := pe_bl.to fun σ H Q h => tE.val (fun _ => rfl) (fun _ _ => .bl b) h
theorem se_int {i j} : PE X (.Constant (.int i) j pos) (tE z W (evE Γ (.int i))) := pe_int.to fun σ H Q h => tE.val (fun _ => rfl) (fun _ _ => .int i) h
theorem se_str {i j} : PE X (.Constant (.str i) j pos) (tE z W (evE Γ (.str i))) := pe_str.to fun σ H Q h => tE.val (fun _ => rfl) (fun _ _ => .str i) h
theorem se_gint {y : Str} {i : Int} {t : Tok} (hg : Gl X y) (hm : X.mg y = some (.int i t)) (hd : (y == ("__debug__" : Str)) = false) : PE X (.Name y pos) (tE z W (evE Γ (.gint y i))) := (pe_glob hg hm (v := .int i) ⟨_, rfl⟩ hd).to fun σ H Q h => tE.val (fun _ => rfl) (fun _ _ => .int i) h
theorem se_gstr {y s : Str} {t : Tok} (hg : Gl X y) (hm : X.mg y = some (.str s t)) (hd : (y == ("__debug__" : Str)) = false) : PE X (.Name y pos) (tE z W (evE Γ (.gstr y s))) := (pe_glob hg hm (v := .str s) ⟨_, rfl⟩ hd).to fun σ H Q h => tE.val (fun _ => rfl) (fun _ _ => .str s) h
theorem se_gl {y : Nat} {a : Addr} (hK : X.mg = z.mg) (hg : Gl X (z.gn y)) (hm : X.mg (z.gn y) = some (.ref a)) (hd : (z.gn y == ("__debug__" : Str)) = false) : PE X (.Name (z.gn y) pos) (tE z W (evE Γ (.gl y))) :=
  (pe_glob hg hm (v := .ref a) rfl hd).to fun σ H Q h => tE.val (fun _ => rfl) (fun _ _ => .gl (by rw [← hK]; exact hm)) h
theorem se_var {i : Nat} {y : Str} (hN : X.N[i]? = some y) (hv : Vis X.env.scope y) (hd : (y == ("__debug__" : Str)) = false) (hc : (y == ("__classdict__" : Str)) = false) : PE X (.Name y pos) (tE z W (evE Γ (.var i))) := by
  refine (pe_var hN hv hd hc).to fun σ H Q ⟨x, G, env, ps, ez, r, h⟩ => ?_
  subst ez
  unfold evE at h
  cases e : getS env i with
  | none => rw [e] at h; exact h.elim
  | some p =>
    obtain ⟨f, d⟩ := p
    rw [e] at h
    cases f with
    | false =>
      obtain ⟨v, B, e1, t, f1⟩ := r.slot e
      have q := f1 rfl
      subst q
      exact ⟨v, e1, PostR.val (d := d) r h t⟩
    | true =>
      obtain ⟨G', v, s, e1, t, r'⟩ := r.freeze e
      exact ⟨v, e1, PostR.val (d := clr d) r' (PostR.up s h) t⟩
theorem se_mv {i : Nat} {y : Str} (hN : X.N[i]? = some y) (hv : Vis X.env.scope y) (hd : (y == ("__debug__" : Str)) = false) (hc : (y == ("__classdict__" : Str)) = false) : PE X (.Name y pos) (tE z W (evE Γ (.mv i))) := by
  refine (pe_var hN hv hd hc).to fun σ H Q ⟨x, G, env, ps, ez, r, h⟩ => ?_
  subst ez
  unfold evE at h
  cases e : getS env i with
  | none => rw [e] at h; exact h.elim
  | some p =>
    obtain ⟨f, d⟩ := p
    rw [e] at h
    obtain ⟨v, e1, r'⟩ := r.move e
    exact ⟨v, e1, h v G H (fun _ _ e => e) r'⟩
theorem se_bw {i : Nat} {y : Str} (hN : X.N[i]? = some y) (hv : Vis X.env.scope y) (hd : (y == ("__debug__" : Str)) = false) (hc : (y == ("__classdict__" : Str)) = false) : PE X (.Name y pos) (tE z W (evE Γ (.bw i))) := by
  refine (pe_var hN hv hd hc).to fun σ H Q ⟨x, G, env, ps, ez, r, h⟩ => ?_
  subst ez
  unfold evE at h
  cases e : getS env i with
  | none => rw [e] at h; exact h.elim
  | some p =>
    obtain ⟨f, d⟩ := p
    rw [e] at h
    obtain ⟨v, e1, r'⟩ := r.move e
    exact ⟨v, e1, h v G H (fun _ _ e => e) r'⟩
theorem se_pk {i : Nat} {y : Str} (hN : X.N[i]? = some y) (hv : Vis X.env.scope y) (hd : (y == ("__debug__" : Str)) = false) (hc : (y == ("__classdict__" : Str)) = false) : PE X (.Name y pos) (tE z W (evE Γ (.pk i))) := by
  refine (pe_var hN hv hd hc).to fun σ H Q ⟨x, G, env, ps, ez, r, h⟩ => ?_
  subst ez
  unfold evE at h
  cases e : getS env i with
  | none => rw [e] at h; exact h.elim
  | some p =>
    obtain ⟨f, d⟩ := p
    rw [e] at h
    obtain ⟨v, B, e1, t, f1⟩ := r.slot e
    exact ⟨v, e1, h v G H (fun _ _ e => e) (r.pushP e1)⟩
/-! ### tests -/
def PostT (x : Fx) (G : Hp) (σ : St) (ps : List (V × O)) (W : WX) (Q : Bool → Hp → Prop) : R → Prop
  | .ok (.v _ (.bl b)) env => ∀ G' H', Same G G' → Rel x G' σ H' env ps → Q b H'
  | .ok _ _ => False
  | .ex c fs env => ∀ cls dd G' H', Same G G' → Rel x G' σ H' env [] → ExR x.z G' H' cls dd c fs → W cls dd σ H'
  | .bad => False
def tT (z : Z) (W : WX) (m : EnvD → R) : TT := fun σ H Q => ∃ x G env ps, x.z = z ∧ Rel x G σ H env ps ∧ PostT x G σ ps W Q (m env)
theorem T.bl_inv {z : Z} {G H : Hp} {v : V} {b : Bool} {A : List Addr} (h : T z G H v (.bl b) A) : v = .bl b := by
  cases h
  rfl
theorem Rel.topBl {x : Fx} {G : Hp} {σ : St} {H : Hp} {env : EnvD} {ps : List (V × O)} {v : V} {f b : Bool} (r : Rel x G σ H env (ps ++ [(v, .v f (.bl b))])) : v = .bl b := by
  obtain ⟨A, C, t, s, n, o⟩ := r.ex
  obtain ⟨C1, C2, s1, s2, rfl⟩ := s.split
  cases s2 with
  | cons h k =>
    cases h with
    | v h f0 => exact h.bl_inv
theorem Rel.topInt {x : Fx} {G : Hp} {σ : St} {H : Hp} {env : EnvD} {ps : List (V × O)} {v : V} {f : Bool} {b : Int} (r : Rel x G σ H env (ps ++ [(v, .v f (.int b))])) : v = .int b := by
  obtain ⟨A, C, t, s, n, o⟩ := r.ex
  obtain ⟨C1, C2, s1, s2, rfl⟩ := s.split
  cases s2 with
  | cons h k =>
    cases h with
    | v h f0 =>
      cases h
      rfl
/-- a value that is a truth, as a test -/
theorem tB_of {σ : St} {H : Hp} {Q : Bool → Hp → Prop} {m : EnvD → R} (h : tT z W m σ H Q) : tB (tE z W m) σ H Q := by
  obtain ⟨x, G, env, ps, ez, r, h⟩ := h
  refine ⟨x, G, env, ps, ez, r, ?_⟩
  cases e : m env with
  | bad => rw [e] at h; exact h.elim
  | ex c fs env1 => rw [e] at h; exact h
  | ok o env1 =>
    rw [e] at h
    cases o with
    | p i => exact h.elim
    | v f d =>
      cases d with
      | bl b => exact fun v G' H' s r' => ⟨b, r'.topBl, h G' H' s r'.pop⟩
      | _ => exact h.elim
theorem st_val {e : Expr} {m : EnvD → R} (h : PE X e (tE z W m)) (he : ∀ whole, isTrue e X.env whole = (do let v ← whole; standAt e.pos; holding [v] (truthy v))) : PT X e (tT z W m) :=
  (pt_val h he).to fun _ _ _ q => tB_of q
/-- the other way: a test's reading from a value's -/
theorem PostT.step {x : Fx} {G : Hp} {σ : St} {H : Hp} {env : EnvD} {ps : List (V × O)} {Q Q' : Bool → Hp → Prop} {m : EnvD → R} {k : O → EnvD → R} (r : Rel x G σ H env ps) (h : PostT x G σ ps W Q ((m env).bind k))
    (hk : ∀ o env1, (∀ f b, o ≠ .v f (.bl b)) → k o env1 = .bad)
    (go : ∀ f b env1 G1 H1, Same G G1 → Rel x G1 σ H1 env1 ps → PostT x G1 σ ps W Q (k (.v f (.bl b)) env1) → Q' b H1) : tT x.z W m σ H Q' := by
  refine ⟨x, G, env, ps, rfl, r, ?_⟩
  cases e : m env with
  | bad => rw [e] at h; exact h.elim
  | ex c fs env1 => rw [e] at h; exact h
  | ok o env1 =>
    rw [e] at h
    have h' : PostT x G σ ps W Q (k o env1) := h
    have up : ∀ {G1 : Hp} {r : R}, Same G G1 → PostT x G σ ps W Q r → PostT x G1 σ ps W Q r := by
      intro G1 r s h
      cases r with
      | bad => exact h
      | ex c fs env => exact fun cls dd G2 H2 s2 r2 e => h cls dd G2 H2 (Same.tr s s2) r2 e
      | ok o env =>
        cases o with
        | p i => exact h
        | v f d =>
          cases d with
          | bl b => exact fun G2 H2 s2 r2 => h G2 H2 (Same.tr s s2) r2
          | _ => exact h
    cases o with
    | p i =>
      rw [hk _ _ (fun f b q => by cases q)] at h'
      exact h'.elim
    | v f d =>
      cases d with
      | bl b => exact fun G' H' s r' => go f b env1 G' H' s r' (up s h')
      | _ =>
        rw [hk _ _ (fun f b q => by cases q)] at h'
        exact h'.elim
theorem PostR.stepT {x : Fx} {G : Hp} {σ : St} {H : Hp} {env : EnvD} {ps : List (V × O)} {Q : VK} {Q' : Bool → Hp → Prop} {m : EnvD → R} {k : O → EnvD → R} (r : Rel x G σ H env ps) (h : PostR x G σ ps W Q ((m env).bind k))
    (hk : ∀ o env1, (∀ f b, o ≠ .v f (.bl b)) → k o env1 = .bad)
    (go : ∀ f b env1 G1 H1, Same G G1 → Rel x G1 σ H1 env1 ps → PostR x G1 σ ps W Q (k (.v f (.bl b)) env1) → Q' b H1) : tT x.z W m σ H Q' := by
  refine ⟨x, G, env, ps, rfl, r, ?_⟩
  cases e : m env with
  | bad => rw [e] at h; exact h.elim
  | ex c fs env1 => rw [e] at h; exact h
  | ok o env1 =>
    rw [e] at h
    have h' : PostR x G σ ps W Q (k o env1) := h
    cases o with
    | p i =>
      rw [hk _ _ (fun f b q => by cases q)] at h'
      exact h'.elim
    | v f d =>
      cases d with
      | bl b => exact fun G' H' s r' => go f b env1 G' H' s r' (PostR.up s h')
      | _ =>
        rw [hk _ _ (fun f b q => by cases q)] at h'
        exact h'.elim
theorem PostT.bl {x : Fx} {G : Hp} {σ : St} {H : Hp} {env : EnvD} {ps : List (V × O)} {Q : Bool → Hp → Prop} {f b : Bool} (r : Rel x G σ H env ps) (h : PostT x G σ ps W Q (.ok (.v f (.bl b)) env)) : Q b H := h G H (fun _ _ e => e) r
theorem no_bl {k : Bool → EnvD → R} {o : O} {env : EnvD} (h : ∀ f b, o ≠ .v f (.bl b)) : (match o with
    | .v _ (.bl b) => k b env
    | _ => .bad) = .bad := by
  split
  · exact absurd rfl (h _ _)
  · rfl
theorem st_not {e : Expr} {ee : E} (hh : PT X e (tT z W (evE Γ ee))) : PT X (.UnaryOp .Not e pos) (tT z W (evE Γ (.not ee))) := by
  refine (pt_not hh).to fun σ H Q ⟨x, G, env, ps, ez, r, h⟩ => ?_
  subst ez
  unfold evE at h
  exact PostT.step r h (fun o env1 q => no_bl q) fun f b env1 G1 H1 s1 r1 h1 => PostT.bl r1 h1
theorem se_not {e : Expr} {ee : E} (hh : PE X e (tE z W (evE Γ ee))) : PE X (.UnaryOp .Not e pos) (tE z W (evE Γ (.not ee))) := by
  refine (pe_not hh).to fun σ H Q ⟨x, G, env, ps, ez, r, h⟩ => ?_
  subst ez
  unfold evE at h
  refine PostR.step r h fun o env1 v G1 H1 s1 r1 h1 => ?_
  cases o with
  | p i => exact h1.elim
  | v f d =>
    cases d with
    | bl b =>
      have e := r1.topBl
      subst e
      exact ⟨b, rfl, h1.val r1.pop (.bl _)⟩
    | _ => exact h1.elim
end
end Vm
/-! Vm: a text beside a dict, two empty dicts. -/
namespace Vm
open PySem L2
open AutoSeq1 (wpAny_loadPart')
open MeetsSeq SeqAt
theorem str_eq_dict (b : Str) (u : Tok) (l : Addr) (c : Value) (es : Array DictEntry) (ep : Nat) (dd : Option Addr) (sl : Array (Option Value)) :
    Meets (Builtin.«str.__eq__» ⟨[.str b u, .ref l], []⟩) (fun _ R s => s.heap.get? l = some { cls := c, dict := dd, data := .dict es ep, slots := sl } ∧ R (.ok (.ret .notImplemented)) s) :=
  .of_wp fun prog w A R s h => by obtain ⟨hp, g, d, tk, os⟩ := s; obtain ⟨hl, h⟩ := h; wp_walk using wpAny_loadPart' hl, wpAny_load hl; exact ⟨_, rfl, h⟩
theorem str_ne_dict (b : Str) (u : Tok) (l : Addr) (c : Value) (es : Array DictEntry) (ep : Nat) (dd : Option Addr) (sl : Array (Option Value)) :
    Meets (Builtin.«str.__ne__» ⟨[.str b u, .ref l], []⟩) (fun _ R s => s.heap.get? l = some { cls := c, dict := dd, data := .dict es ep, slots := sl } ∧ R (.ok (.ret .notImplemented)) s) :=
  .of_wp fun prog w A R s h => by obtain ⟨hp, g, d, tk, os⟩ := s; obtain ⟨hl, h⟩ := h; wp_walk using wpAny_loadPart' hl, wpAny_load hl; exact ⟨_, rfl, h⟩
theorem dict_eq_str (b : Str) (u : Tok) (l : Addr) :
    Meets (Builtin.«dict.__eq__» ⟨[.ref l, .str b u], []⟩) (fun _ R s => s.TypeIs (.ref l) "dict" ∧ R (.ok (.ret .notImplemented)) s) :=
  .of_wp fun prog w A R s h => by
    obtain ⟨hT, h⟩ := h
    show wpAny _ _ (Builtin.Dict.dictSlotArgs "__eq__" ⟨[.ref l, .str b u], []⟩ >>= _) _ _ s
    refine wpAny_bind ?_
    unfold Builtin.Dict.dictSlotArgs
    refine wpAny_bind (wpAny_notOrdered_dict hT ?_)
    show wpAny _ _ (pure (Value.ref l, Value.str b u)) _ _ s
    refine wpAny_pure ?_
    refine wpAny_bind (wpAny_isInstance (T := "str") (typeIs_str s b u) F.sub_str_dict ?_)
    wp_walk
    exact ⟨_, rfl, h⟩
theorem dict_ne_str (b : Str) (u : Tok) (l : Addr) :
    Meets (Builtin.«dict.__ne__» ⟨[.ref l, .str b u], []⟩) (fun _ R s => s.TypeIs (.ref l) "dict" ∧ R (.ok (.ret .notImplemented)) s) :=
  .of_wp fun prog w A R s h => by
    obtain ⟨hT, h⟩ := h
    show wpAny _ _ (Builtin.Dict.dictSlotArgs "__ne__" ⟨[.ref l, .str b u], []⟩ >>= _) _ _ s
    refine wpAny_bind ?_
    unfold Builtin.Dict.dictSlotArgs
    refine wpAny_bind (wpAny_notOrdered_dict hT ?_)
    show wpAny _ _ (pure (Value.ref l, Value.str b u)) _ _ s
    refine wpAny_pure ?_
    refine wpAny_bind (wpAny_isInstance (T := "str") (typeIs_str s b u) F.sub_str_dict ?_)
    wp_walk
    exact ⟨_, rfl, h⟩
section
variable {A : Around} {s : Shared} {prog : Program} {w : World} {K : Type} [DecidableEq K] {knd : KeyKind prog w K}
theorem RcAt_str_dict {l : Addr} {kvs : List (K × Value)} (b : Str) (u : Tok) (hl : s.heap.DictOf knd l kvs) (hu : A.units < cLine) : RcAt A s (.str b u) (.ref l) false := fun prog w E Q h => by
  have ht := hl.typeIs
  obtain ⟨⟨cls, dd, data, sl⟩, es, ep, ho, _, hd, _⟩ := id hl
  simp only at hd
  subst hd
  exact rc_eq_decline_or (k := false) (typeIs_str s b u) ht (by decide) F.sub_dict_str F.slot_str_eq F.slot_dict_eq_refl
    (fun _ hq => call_meets F.slot_str_eq (typeIs_str s b u) F.entry_str_eq (F.args_str_eq_2 _ _) (str_eq_dict b u l cls es ep dd sl) ⟨ho, hq⟩)
    (fun _ hq => call_meets F.slot_dict_eq_refl ht F.entry_dict_eq (F.args_dict_eq_2 _ _) (dict_eq_str b u l) ⟨ht, hq⟩)
    (fun _ hq => wpAny_of_eq (rfl : isSame (.str b u) (.ref l) = pure false) hq) (.inr hu) h
theorem EqAt_str_dict {l : Addr} {kvs : List (K × Value)} (b : Str) (u : Tok) (hl : s.heap.DictOf knd l kvs) (hu : A.units < cLine) : EqAt A s (.str b u) (.ref l) false := fun prog w E Q h => by
  unfold eqBool
  refine wpAny_holding ?_
  refine wpAny_ite_split (fun hab => absurd (eq_of_beq hab) nofun) (fun _ => ?_)
  exact wpAny_bind (RcAt_str_dict b u hl hu prog w E _ (wpAny_truthy_bool h))
theorem RcNeAt_str_dict {l : Addr} {kvs : List (K × Value)} (b : Str) (u : Tok) (hl : s.heap.DictOf knd l kvs) (hu : A.units < cLine) : RcNeAt A s (.str b u) (.ref l) true := fun prog w E Q h => by
  have ht := hl.typeIs
  obtain ⟨⟨cls, dd, data, sl⟩, es, ep, ho, _, hd, _⟩ := id hl
  simp only at hd
  subst hd
  exact rc_ne_decline_or (k := false) (typeIs_str s b u) ht (by decide) F.sub_dict_str F.slot_str_ne F.slot_dict_ne_refl
    (fun _ hq => call_meets F.slot_str_ne (typeIs_str s b u) F.entry_str_ne (F.args_str_ne_2 _ _) (str_ne_dict b u l cls es ep dd sl) ⟨ho, hq⟩)
    (fun _ hq => call_meets F.slot_dict_ne_refl ht F.entry_dict_ne (F.args_dict_ne_2 _ _) (dict_ne_str b u l) ⟨ht, hq⟩)
    (fun _ hq => wpAny_of_eq (rfl : isSame (.str b u) (.ref l) = pure false) hq) (.inr hu) h
theorem dict_nil_any {a : Addr} {knd : KeyKind prog w K} {prog' : Program} {w' : World} (knd' : KeyKind prog' w' K) (d : s.heap.DictOf knd a []) : s.heap.DictOf knd' a [] := by
  obtain ⟨o, es, ep, ho, h1, h2, h3, h4, h5⟩ := d
  have e : es.toList = [] := by
    cases hh : es.toList with
    | nil => rfl
    | cons _ _ => rw [hh] at h4; cases h4
  have e' : es = #[] := by
    cases es
    simp at e
    subst e
    rfl
  subst e'
  exact ⟨o, #[], ep, ho, h1, h2, fun e he => by simp at he, .nil, h5⟩
end
section
variable {A : Around} {s : Shared} {prog : Program} {w : World}
theorem RcAt_dict_nil {a b : Addr} (ha : (a == sysModules) = false) (hb : (b == sysModules) = false) (da : s.heap.DictOf (mixKind prog w) a []) (db : s.heap.DictOf (mixKind prog w) b []) (hu : A.units < cLine) : RcAt A s (.ref a) (.ref b) true := fun prog' w' E Q h =>
  PySem.W.keq_eq (knd := mixKind prog' w') ha hb (dict_nil_any _ da) (dict_nil_any _ db) hu (r := true) (fun _ => .nil) h
theorem RcNeAt_dict_nil {a b : Addr} (ha : (a == sysModules) = false) (hb : (b == sysModules) = false) (da : s.heap.DictOf (mixKind prog w) a []) (db : s.heap.DictOf (mixKind prog w) b []) (hu : A.units < cLine) : RcNeAt A s (.ref a) (.ref b) false := fun prog' w' E Q h =>
  PySem.W.keq_ne (knd := mixKind prog' w') ha hb (dict_nil_any _ da) (dict_nil_any _ db) hu (r := true) (fun _ => .nil) h
theorem EqAt_dict_nil {a b : Addr} (ha : (a == sysModules) = false) (hb : (b == sysModules) = false) (da : s.heap.DictOf (mixKind prog w) a []) (db : s.heap.DictOf (mixKind prog w) b []) (hu : A.units < cLine) : EqAt A s (.ref a) (.ref b) true := by
  by_cases e : a = b
  · subst e
    exact EqAt.same _
  · exact EqAt.of_refs e (RcAt_dict_nil ha hb da db hu)
end
end Vm
/-! Vm: == of plain data. -/
namespace Vm
open PySem L2
open PyProof.Rows hiding St
theorem Ts.getA {z : Z} {G H : Hp} : ∀ {vs : List V} {ds : List D} {A : List Addr}, Ts z G H vs ds A → ∀ (i : Nat) {v : V} {d : D}, vs[i]? = some v → ds[i]? = some d → ∃ B, T z G H v d B
  | _, _, _, .nil, i, v, d, e, _ => by simp at e
  | _, _, _, .cons h t, 0, v, d, e1, e2 => by
    simp at e1 e2
    subst e1 e2
    exact ⟨_, h⟩
  | _, _, _, .cons h t, i + 1, v, d, e1, e2 => Ts.getA t i (by simpa using e1) (by simpa using e2)
theorem T.asL {z : Z} {G H : Hp} {v : V} {f : Bool} {ds : List D} {A : List Addr} (g : GS G H) (h : T z G H v (.lst f ds) A) : ∃ a vs B, v = .ref a ∧ SqL z.K H a vs ∧ Ts z G H vs ds B := by
  cases h with
  | lst hs ht => exact ⟨_, _, _, rfl, g.sqL hs, ht⟩
  | lstF hs ht => exact ⟨_, _, _, rfl, .inl (.inl hs), ht⟩
theorem T.asT {z : Z} {G H : Hp} {v : V} {ds : List D} {A : List Addr} (g : GS G H) (h : T z G H v (.tup ds) A) : ∃ a vs B, v = .ref a ∧ SqT z.K H a vs ∧ Ts z G H vs ds B := by
  cases h with
  | tup hs ht => exact ⟨_, _, _, rfl, g.sqT hs, ht⟩
theorem deq_dic {n : Nat} {f g : Bool} {ks ls : List (Key × D)} {b : Bool} (h : deq (n + 1) (.dic f ks) (.dic g ls) = some b) : ks = [] ∧ ls = [] ∧ b = true := by
  have h' : (if ks.isEmpty && ls.isEmpty then some true else none) = some b := h
  split at h'
  · rename_i c
    simp at c
    cases h'
    exact ⟨c.1, c.2, rfl⟩
  · cases h'
theorem deqs_all {f : D → D → Option Bool} : ∀ {xs ys : List D} {b : Bool}, deqs f xs ys = some b → xs.length = ys.length →
    (∀ (j : Nat) {x y : D}, xs[j]? = some x → ys[j]? = some y → (f x y).isSome = true) ∧ b = (List.range xs.length).all fun j => match xs[j]?, ys[j]? with
      | some x, some y => (f x y).getD false
      | _, _ => false
  | [], [], b, e, _ => by
    cases e
    exact ⟨fun j x y e => by simp at e, rfl⟩
  | [], _ :: _, _, _, l => by simp at l
  | _ :: _, [], _, _, l => by simp at l
  | x :: xs, y :: ys, b, e, l => by
    unfold deqs at e
    cases e1 : f x y with
    | none => rw [e1] at e; cases e
    | some p =>
      cases e2 : deqs f xs ys with
      | none => rw [e1, e2] at e; cases e
      | some q =>
        rw [e1, e2] at e
        cases e
        obtain ⟨h1, h2⟩ := deqs_all e2 (by simpa using l)
        refine ⟨fun j x' y' k1 k2 => ?_, ?_⟩
        · cases j with
          | zero =>
            simp at k1 k2
            subst k1 k2
            rw [e1]
            rfl
          | succ j => exact h1 j (by simpa using k1) (by simpa using k2)
        · rw [List.length_cons, List.range_succ_eq_map, List.all_cons, List.all_map]
          congr 1
          simp [e1]
section
variable {X : Cx} {pins : List (Addr × Obj)} {σ : St} {H G : Hp} {s : Shared} {z : Z}
theorem Inv.notLT (I : Inv X pins σ H s) {a : Addr} {xs ys : List V} (h1 : SqL X.K H a xs) (h2 : SqT X.K H a ys) : False := by
  obtain ⟨us, _, p, _⟩ := I.list h1
  obtain ⟨ws, _, q, _⟩ := I.tuple h2
  exact SeqAt.ne_of_list_tuple p.isList (show s.heap.IsTuple a ws.toArray from q) rfl
theorem dec_self {α : Type} [BEq α] [LawfulBEq α] (a : α) : (a == a) = true := by simp
/-- the same object is equal to itself -/
theorem deq_same (I : Inv X pins σ H s) (gs : GS G H) (hK : X.K = z.K) : ∀ (n : Nat) {d e : D} {b : Bool} {v : V} {A B : List Addr}, deq n d e = some b → T z G H v d A → T z G H v e B → b = true
  | 0, _, _, _, _, _, _, h, _, _ => by cases h
  | n + 1, d, e, b, v, A, B, h, t1, t2 => by
    have kids : ∀ {xs ys : List D} {vs : List V} {A B : List Addr} {o : Option Bool}, Ts z G H vs xs A → Ts z G H vs ys B → (if xs.length = ys.length then deqs (deq n) xs ys else o) = some b → b = true := by
      intro xs ys vs A B o u1 u2 q
      have l : xs.length = ys.length := u1.length.symm.trans u2.length
      rw [if_pos l] at q
      obtain ⟨k1, k2⟩ := deqs_all q l
      rw [k2, List.all_eq_true]
      intro j hj
      have hj' := List.mem_range.mp hj
      have hv : j < vs.length := by rw [u1.length]; exact hj'
      have e1 : xs[j]? = some xs[j] := by simp [hj']
      have e2 : ys[j]? = some (ys[j]'(l ▸ hj')) := by simp [l ▸ hj']
      have e3 : vs[j]? = some vs[j] := by simp [hv]
      obtain ⟨_, c1⟩ := u1.getA j e3 e1
      obtain ⟨_, c2⟩ := u2.getA j e3 e2
      have k3 := k1 j e1 e2
      obtain ⟨p, hp⟩ := Option.isSome_iff_exists.mp k3
      have := deq_same I gs hK n hp c1 c2
      subst this
      rw [e1, e2]
      show (deq n xs[j] (ys[j]'(l ▸ hj'))).getD false = true
      rw [hp]
      rfl
    cases t1 with
    | non => cases t2; cases h; rfl
    | bl a => cases t2; cases h; exact dec_self a
    | int a => cases t2; cases h; exact dec_self a
    | str a => cases t2; cases h; exact dec_self a
    | lst q1 u1 =>
      cases t2 with
      | lst q2 u2 =>
        have e := I.list_inj (show SqL X.K H _ _ by rw [hK]; exact gs.sqL q1) (show SqL X.K H _ _ by rw [hK]; exact gs.sqL q2)
        subst e
        exact kids u1 u2 h
      | lstF q2 u2 =>
        have e := I.list_inj (show SqL X.K H _ _ by rw [hK]; exact gs.sqL q1) (show SqL X.K H _ _ from .inl (.inl q2))
        subst e
        exact kids u1 u2 h
      | tup q2 u2 => exact (Inv.notLT I (show SqL X.K H _ _ by rw [hK]; exact gs.sqL q1) (show SqT X.K H _ _ by rw [hK]; exact gs.sqT q2)).elim
      | _ => cases h
    | lstF q1 u1 =>
      cases t2 with
      | lst q2 u2 =>
        have e := I.list_inj (show SqL X.K H _ _ from .inl (.inl q1)) (show SqL X.K H _ _ by rw [hK]; exact gs.sqL q2)
        subst e
        exact kids u1 u2 h
      | lstF q2 u2 =>
        have e := I.list_inj (show SqL X.K H _ _ from .inl (.inl q1)) (show SqL X.K H _ _ from .inl (.inl q2))
        subst e
        exact kids u1 u2 h
      | tup q2 u2 => exact (Inv.notLT I (show SqL X.K H _ _ from .inl (.inl q1)) (show SqT X.K H _ _ by rw [hK]; exact gs.sqT q2)).elim
      | _ => cases h
    | tup q1 u1 =>
      cases t2 with
      | lst q2 u2 => exact (Inv.notLT I (show SqL X.K H _ _ by rw [hK]; exact gs.sqL q2) (show SqT X.K H _ _ by rw [hK]; exact gs.sqT q1)).elim
      | lstF q2 u2 => exact (Inv.notLT I (show SqL X.K H _ _ from .inl (.inl q2)) (show SqT X.K H _ _ by rw [hK]; exact gs.sqT q1)).elim
      | tup q2 u2 =>
        have e := I.tuple_inj (show SqT X.K H _ _ by rw [hK]; exact gs.sqT q1) (show SqT X.K H _ _ by rw [hK]; exact gs.sqT q2)
        subst e
        exact kids u1 u2 h
      | _ => cases h
    | _ => cases t2 <;> first | exact (deq_dic h).2.2 | (cases h; done)
/-- a dict, as the machine has it -/
theorem T.asD (I : Inv X pins σ H s) (gs : GS G H) {v : V} {u : Value} {f : Bool} {ks : List (Key × D)} {A : List Addr} (t : T z G H v (.dic f ks) A) (r : RelV v u) : ∃ a us, u = .ref a ∧ (a == sysModules) = false ∧ s.heap.DictOf (mixKind X.prog X.w) a us ∧ us.length = ks.length := by
  have fin : ∀ {a : Addr} {vs : List (Key × V)}, RdD H a vs → vs.map (·.1) = ks.map (·.1) → RelV (.ref a) u → ∃ a us, u = .ref a ∧ (a == sysModules) = false ∧ s.heap.DictOf (mixKind X.prog X.w) a us ∧ us.length = ks.length := by
    intro a vs hs e r
    cases r
    obtain ⟨_, y1, u1, r1, d1⟩ := dk_rd I.hok hs
    refine ⟨a, u1, rfl, y1, d1, ?_⟩
    have l1 := congrArg List.length e
    have l2 := r1.length
    simp at l1
    omega
  cases t with
  | dic hs e ht => exact fin (gs.rdD hs) e r
  | dicF hs e ht => exact fin (.inl hs) e r
/-- == of plain data, as the machine's eqBool has it -/
theorem deq_at (I : Inv X pins σ H s) (gs : GS G H) (hK : X.K = z.K) : ∀ (n : Nat) (Ar : Around), Ar.units + n < cLine → ∀ {d e : D} {b : Bool} {v w : V} {u1 u2 : Value} {A B : List Addr}, deq n d e = some b → T z G H v d A → T z G H w e B → RelV v u1 → RelV w u2 → SeqAt.EqAt Ar s u1 u2 b
  | 0, _, _, _, _, _, _, _, _, _, _, _, h, _, _, _, _ => by cases h
  | n + 1, Ar, hu, d, e, b, v, w, u1, u2, A, B, h, t1, t2, r1, r2 => by
    have hu0 : Ar.units < cLine := by omega
    -- the items of two lists or tuples
    have kids : ∀ {xs ys : List D} {vs ws : List V} {us1 us2 : List Value} {A B : List Addr}, Ts z G H vs xs A → Ts z G H ws ys B → Vals vs us1 → Vals ws us2 → xs.length = ys.length → deqs (deq n) xs ys = some b →
        us1.length = us2.length ∧ ∃ e : Nat → Bool, (∀ j (h1 : j < us1.toArray.size) (h2 : j < us2.toArray.size), SeqAt.EqAt Ar.in1 s us1.toArray[j] us2.toArray[j] (e j)) ∧ b = (List.range us1.toArray.size).all e := by
      intro xs ys vs ws us1 us2 A B c1 c2 v1 v2 l q
      obtain ⟨k1, k2⟩ := deqs_all q l
      have l1 := v1.length
      have l2 := v2.length
      have m1 := c1.length
      have m2 := c2.length
      refine ⟨by omega, _, fun j h1 h2 => ?_, by rw [k2]; rw [show us1.toArray.size = xs.length by rw [List.size_toArray]; omega]⟩
      have h1' : j < us1.length := by simpa using h1
      have h2' : j < us2.length := by simpa using h2
      have e1 : xs[j]? = some (xs[j]'(by omega)) := List.getElem?_eq_getElem _
      have e2 : ys[j]? = some (ys[j]'(by omega)) := List.getElem?_eq_getElem _
      have e3 : vs[j]? = some (vs[j]'(by omega)) := List.getElem?_eq_getElem _
      have e4 : ws[j]? = some (ws[j]'(by omega)) := List.getElem?_eq_getElem _
      obtain ⟨_, a1⟩ := c1.getA j e3 e1
      obtain ⟨_, a2⟩ := c2.getA j e4 e2
      obtain ⟨p, hp⟩ := Option.isSome_iff_exists.mp (k1 j e1 e2)
      obtain ⟨y1, g1, r1'⟩ := v1.get e3
      obtain ⟨y2, g2, r2'⟩ := v2.get e4
      rw [List.getElem?_eq_getElem h1'] at g1
      rw [List.getElem?_eq_getElem h2'] at g2
      cases g1
      cases g2
      have := deq_at I gs hK n Ar.in1 (by show Ar.units + 1 + n < cLine; omega) hp a1 a2 r1' r2'
      rw [e1, e2]
      show SeqAt.EqAt Ar.in1 s _ _ ((deq n (xs[j]'(by omega)) (ys[j]'(by omega))).getD false)
      rw [hp]
      simpa using this
    have two : ∀ {xs ys : List D} {f g : Bool} {A B : List Addr}, T z G H v (.lst f xs) A → T z G H w (.lst g ys) B → (if xs.length = ys.length then deqs (deq n) xs ys else some false) = some b → SeqAt.EqAt Ar s u1 u2 b := by
      intro xs ys f g A B t1 t2 q
      obtain ⟨a1, vs, _, rfl, q1, c1⟩ := t1.asL gs
      obtain ⟨a2, ws, _, rfl, q2, c2⟩ := t2.asL gs
      rw [← hK] at q1 q2
      obtain ⟨us1, v1, p1, _⟩ := I.list q1
      obtain ⟨us2, v2, p2, _⟩ := I.list q2
      cases r1
      cases r2
      by_cases ea : a1 = a2
      · subst ea
        have := deq_same (b := b) I gs hK (n + 1) (by show (if xs.length = ys.length then deqs (deq n) xs ys else some false) = some b; exact q) t1 t2
        subst this
        exact SeqAt.EqAt.same _
      · refine SeqAt.EqAt.of_refs ea ?_
        by_cases l : xs.length = ys.length
        · rw [if_pos l] at q
          obtain ⟨hl, e, he, hb⟩ := kids c1 c2 v1 v2 l q
          rw [hb]
          exact SeqAt.RcAt.lists p1.isList p2.isList (by simpa using hl) hu0 he
        · rw [if_neg l] at q
          cases q
          have l1 := v1.length
          have l2 := v2.length
          have m1 := c1.length
          have m2 := c2.length
          exact SeqAt.RcAt.lists_lengths p1.isList p2.isList (by simp; omega) hu0
    have twoT : ∀ {xs ys : List D} {A B : List Addr}, T z G H v (.tup xs) A → T z G H w (.tup ys) B → (if xs.length = ys.length then deqs (deq n) xs ys else none) = some b → SeqAt.EqAt Ar s u1 u2 b := by
      intro xs ys A B t1 t2 q
      obtain ⟨a1, vs, _, rfl, q1, c1⟩ := t1.asT gs
      obtain ⟨a2, ws, _, rfl, q2, c2⟩ := t2.asT gs
      rw [← hK] at q1 q2
      obtain ⟨us1, v1, p1, _⟩ := I.tuple q1
      obtain ⟨us2, v2, p2, _⟩ := I.tuple q2
      cases r1
      cases r2
      by_cases ea : a1 = a2
      · subst ea
        have := deq_same (b := b) I gs hK (n + 1) (by show (if xs.length = ys.length then deqs (deq n) xs ys else none) = some b; exact q) t1 t2
        subst this
        exact SeqAt.EqAt.same _
      · refine SeqAt.EqAt.of_refs ea ?_
        by_cases l : xs.length = ys.length
        · rw [if_pos l] at q
          obtain ⟨hl, e, he, hb⟩ := kids c1 c2 v1 v2 l q
          have hm : min us1.toArray.size us2.toArray.size = us1.toArray.size := by simp; omega
          have hb' : b = ((List.range (min us1.toArray.size us2.toArray.size)).all e && us1.toArray.size == us2.toArray.size) := by
            rw [hm, ← hb]
            simp [hl]
          rw [hb']
          exact SeqAt.RcAt.tuples (show s.heap.IsTuple a1 us1.toArray from p1) (show s.heap.IsTuple a2 us2.toArray from p2) hu0 he
        · rw [if_neg l] at q
          cases q
    -- a list or a tuple, and something else
    have isL : ∀ {v : V} {u : Value} {f : Bool} {xs : List D} {A : List Addr}, T z G H v (.lst f xs) A → RelV v u → ∃ a its, u = .ref a ∧ s.heap.IsList a its := by
      intro v u f xs A t r
      obtain ⟨a1, vs, _, rfl, q1, c1⟩ := t.asL gs
      rw [← hK] at q1
      obtain ⟨us1, v1, p1, _⟩ := I.list q1
      cases r
      exact ⟨_, _, rfl, p1.isList⟩
    have isT : ∀ {v : V} {u : Value} {xs : List D} {A : List Addr}, T z G H v (.tup xs) A → RelV v u → ∃ a its, u = .ref a ∧ s.heap.IsTuple a its := by
      intro v u xs A t r
      obtain ⟨a1, vs, _, rfl, q1, c1⟩ := t.asT gs
      rw [← hK] at q1
      obtain ⟨us1, v1, p1, _⟩ := I.tuple q1
      cases r
      exact ⟨_, _, rfl, p1⟩
    cases d with
    | non =>
      cases t1
      cases r1
      cases e with
      | non => cases t2; cases r2; cases h; exact SeqAt.EqAt.same _
      | bl b => cases t2; cases r2; cases h; exact SeqAt.EqAt.none_bool b
      | int i => cases t2; obtain ⟨t, rfl⟩ := r2; cases h; exact SeqAt.EqAt.none_int i t
      | str x => cases t2; obtain ⟨t, rfl⟩ := r2; cases h; exact SeqAt.EqAt.none_str x t
      | lst f xs => obtain ⟨a, its, rfl, k⟩ := isL t2 r2; cases h; exact SeqAt.EqAt.none_list k hu0
      | tup xs => obtain ⟨a, its, rfl, k⟩ := isT t2 r2; cases h; exact SeqAt.EqAt.none_tuple k hu0
      | _ => cases h
    | bl c =>
      cases t1
      cases r1
      cases e with
      | non => cases t2; cases r2; cases h; exact SeqAt.EqAt.bool_none c
      | bl b => cases t2; cases r2; cases h; exact SeqAt.EqAt.bool_bool c b
      | int i => cases t2; obtain ⟨t, rfl⟩ := r2; cases h; exact SeqAt.EqAt.bool_int c i t
      | str x => cases t2; obtain ⟨t, rfl⟩ := r2; cases h; exact SeqAt.EqAt.bool_str c x t
      | lst f xs => obtain ⟨a, its, rfl, k⟩ := isL t2 r2; cases h; exact SeqAt.EqAt.bool_list c k hu0
      | tup xs => obtain ⟨a, its, rfl, k⟩ := isT t2 r2; cases h; exact SeqAt.EqAt.bool_tuple c k hu0
      | _ => cases h
    | int c =>
      cases t1
      obtain ⟨t0, rfl⟩ := r1
      cases e with
      | non => cases t2; cases r2; cases h; exact SeqAt.EqAt.int_none c t0
      | bl b => cases t2; cases r2; cases h; exact SeqAt.EqAt.int_bool c t0 b
      | int i => cases t2; obtain ⟨t, rfl⟩ := r2; cases h; exact SeqAt.EqAt.int_int c t0 i t
      | str x => cases t2; obtain ⟨t, rfl⟩ := r2; cases h; exact SeqAt.EqAt.int_str c t0 x t
      | lst f xs => obtain ⟨a, its, rfl, k⟩ := isL t2 r2; cases h; exact SeqAt.EqAt.int_list c t0 k hu0
      | tup xs => obtain ⟨a, its, rfl, k⟩ := isT t2 r2; cases h; exact SeqAt.EqAt.int_tuple c t0 k hu0
      | _ => cases h
    | str c =>
      cases t1
      obtain ⟨t0, rfl⟩ := r1
      cases e with
      | non => cases t2; cases r2; cases h; exact SeqAt.EqAt.str_none c t0
      | bl b => cases t2; cases r2; cases h; exact SeqAt.EqAt.str_bool c t0 b
      | int i => cases t2; obtain ⟨t, rfl⟩ := r2; cases h; exact SeqAt.EqAt.str_int c t0 i t
      | str x => cases t2; obtain ⟨t, rfl⟩ := r2; cases h; exact SeqAt.EqAt.str_str c t0 x t
      | lst f xs => obtain ⟨a, its, rfl, k⟩ := isL t2 r2; cases h; exact SeqAt.EqAt.str_list c t0 k hu0
      | tup xs => obtain ⟨a, its, rfl, k⟩ := isT t2 r2; cases h; exact SeqAt.EqAt.str_tuple c t0 k hu0
      | dic f ks => obtain ⟨a, us, rfl, y, k, l⟩ := t2.asD I gs r2; cases h; exact EqAt_str_dict c t0 k hu0
      | _ => cases h
    | lst f xs =>
      cases e with
      | lst g ys => exact two t1 t2 h
      | non => obtain ⟨a, its, rfl, k⟩ := isL t1 r1; cases t2; cases r2; cases h; exact SeqAt.EqAt.list_none k hu0
      | bl b => obtain ⟨a, its, rfl, k⟩ := isL t1 r1; cases t2; cases r2; cases h; exact SeqAt.EqAt.list_bool b k hu0
      | int i => obtain ⟨a, its, rfl, k⟩ := isL t1 r1; cases t2; obtain ⟨t, rfl⟩ := r2; cases h; exact SeqAt.EqAt.list_int i t k hu0
      | str x => obtain ⟨a, its, rfl, k⟩ := isL t1 r1; cases t2; obtain ⟨t, rfl⟩ := r2; cases h; exact SeqAt.EqAt.list_str x t k hu0
      | tup ys => obtain ⟨a, its, rfl, k⟩ := isL t1 r1; obtain ⟨a2, its2, rfl, k2⟩ := isT t2 r2; cases h; exact SeqAt.EqAt.list_tuple k k2 hu0
      | _ => cases h
    | tup xs =>
      cases e with
      | tup ys => exact twoT t1 t2 h
      | non => obtain ⟨a, its, rfl, k⟩ := isT t1 r1; cases t2; cases r2; cases h; exact SeqAt.EqAt.tuple_none k hu0
      | bl b => obtain ⟨a, its, rfl, k⟩ := isT t1 r1; cases t2; cases r2; cases h; exact SeqAt.EqAt.tuple_bool b k hu0
      | int i => obtain ⟨a, its, rfl, k⟩ := isT t1 r1; cases t2; obtain ⟨t, rfl⟩ := r2; cases h; exact SeqAt.EqAt.tuple_int i t k hu0
      | str x => obtain ⟨a, its, rfl, k⟩ := isT t1 r1; cases t2; obtain ⟨t, rfl⟩ := r2; cases h; exact SeqAt.EqAt.tuple_str x t k hu0
      | lst f ys => obtain ⟨a, its, rfl, k⟩ := isT t1 r1; obtain ⟨a2, its2, rfl, k2⟩ := isL t2 r2; cases h; exact SeqAt.EqAt.tuple_list k k2 hu0
      | _ => cases h
    | dic f ks =>
      cases e with
      | dic g ls =>
        obtain ⟨a1, us1, rfl, y1, k1, l1⟩ := t1.asD I gs r1
        obtain ⟨a2, us2, rfl, y2, k2, l2⟩ := t2.asD I gs r2
        obtain ⟨e1, e2, e3⟩ := deq_dic h
        subst e1 e2 e3
        cases us1 with
        | cons _ _ => simp at l1
        | nil => cases us2 with
          | cons _ _ => simp at l2
          | nil => exact EqAt_dict_nil y1 y2 k1 k2 hu0
      | _ => cases h
    | _ => cases h
/-- the operator itself, at the top -/
theorem rc_at (I : Inv X pins σ H s) (gs : GS G H) (hK : X.K = z.K) : ∀ (n : Nat) (Ar : Around), Ar.units + n < cLine → ∀ {d e : D} {b : Bool} {v w : V} {u1 u2 : Value} {A B : List Addr}, deq n d e = some b → T z G H v d A → T z G H w e B → RelV v u1 → RelV w u2 → SeqAt.RcAt Ar s u1 u2 b
  | 0, _, _, _, _, _, _, _, _, _, _, _, h, _, _, _, _ => by cases h
  | n + 1, Ar, hu, d, e, b, v, w, u1, u2, A, B, h, t1, t2, r1, r2 => by
    have hu0 : Ar.units < cLine := by omega
    -- the items of two lists or tuples
    have kids : ∀ {xs ys : List D} {vs ws : List V} {us1 us2 : List Value} {A B : List Addr}, Ts z G H vs xs A → Ts z G H ws ys B → Vals vs us1 → Vals ws us2 → xs.length = ys.length → deqs (deq n) xs ys = some b →
        us1.length = us2.length ∧ ∃ e : Nat → Bool, (∀ j (h1 : j < us1.toArray.size) (h2 : j < us2.toArray.size), SeqAt.EqAt Ar.in1 s us1.toArray[j] us2.toArray[j] (e j)) ∧ b = (List.range us1.toArray.size).all e := by
      intro xs ys vs ws us1 us2 A B c1 c2 v1 v2 l q
      obtain ⟨k1, k2⟩ := deqs_all q l
      have l1 := v1.length
      have l2 := v2.length
      have m1 := c1.length
      have m2 := c2.length
      refine ⟨by omega, _, fun j h1 h2 => ?_, by rw [k2]; rw [show us1.toArray.size = xs.length by rw [List.size_toArray]; omega]⟩
      have h1' : j < us1.length := by simpa using h1
      have h2' : j < us2.length := by simpa using h2
      have e1 : xs[j]? = some (xs[j]'(by omega)) := List.getElem?_eq_getElem _
      have e2 : ys[j]? = some (ys[j]'(by omega)) := List.getElem?_eq_getElem _
      have e3 : vs[j]? = some (vs[j]'(by omega)) := List.getElem?_eq_getElem _
      have e4 : ws[j]? = some (ws[j]'(by omega)) := List.getElem?_eq_getElem _
      obtain ⟨_, a1⟩ := c1.getA j e3 e1
      obtain ⟨_, a2⟩ := c2.getA j e4 e2
      obtain ⟨p, hp⟩ := Option.isSome_iff_exists.mp (k1 j e1 e2)
      obtain ⟨y1, g1, r1'⟩ := v1.get e3
      obtain ⟨y2, g2, r2'⟩ := v2.get e4
      rw [List.getElem?_eq_getElem h1'] at g1
      rw [List.getElem?_eq_getElem h2'] at g2
      cases g1
      cases g2
      have := deq_at I gs hK n Ar.in1 (by show Ar.units + 1 + n < cLine; omega) hp a1 a2 r1' r2'
      rw [e1, e2]
      show SeqAt.EqAt Ar.in1 s _ _ ((deq n (xs[j]'(by omega)) (ys[j]'(by omega))).getD false)
      rw [hp]
      simpa using this
    have two : ∀ {xs ys : List D} {f g : Bool} {A B : List Addr}, T z G H v (.lst f xs) A → T z G H w (.lst g ys) B → (if xs.length = ys.length then deqs (deq n) xs ys else some false) = some b → SeqAt.RcAt Ar s u1 u2 b := by
      intro xs ys f g A B t1 t2 q
      obtain ⟨a1, vs, _, rfl, q1, c1⟩ := t1.asL gs
      obtain ⟨a2, ws, _, rfl, q2, c2⟩ := t2.asL gs
      rw [← hK] at q1 q2
      obtain ⟨us1, v1, p1, _⟩ := I.list q1
      obtain ⟨us2, v2, p2, _⟩ := I.list q2
      cases r1
      cases r2
      · skip
        by_cases l : xs.length = ys.length
        · rw [if_pos l] at q
          obtain ⟨hl, e, he, hb⟩ := kids c1 c2 v1 v2 l q
          rw [hb]
          exact SeqAt.RcAt.lists p1.isList p2.isList (by simpa using hl) hu0 he
        · rw [if_neg l] at q
          cases q
          have l1 := v1.length
          have l2 := v2.length
          have m1 := c1.length
          have m2 := c2.length
          exact SeqAt.RcAt.lists_lengths p1.isList p2.isList (by simp; omega) hu0
    have twoT : ∀ {xs ys : List D} {A B : List Addr}, T z G H v (.tup xs) A → T z G H w (.tup ys) B → (if xs.length = ys.length then deqs (deq n) xs ys else none) = some b → SeqAt.RcAt Ar s u1 u2 b := by
      intro xs ys A B t1 t2 q
      obtain ⟨a1, vs, _, rfl, q1, c1⟩ := t1.asT gs
      obtain ⟨a2, ws, _, rfl, q2, c2⟩ := t2.asT gs
      rw [← hK] at q1 q2
      obtain ⟨us1, v1, p1, _⟩ := I.tuple q1
      obtain ⟨us2, v2, p2, _⟩ := I.tuple q2
      cases r1
      cases r2
      · skip
        by_cases l : xs.length = ys.length
        · rw [if_pos l] at q
          obtain ⟨hl, e, he, hb⟩ := kids c1 c2 v1 v2 l q
          have hm : min us1.toArray.size us2.toArray.size = us1.toArray.size := by simp; omega
          have hb' : b = ((List.range (min us1.toArray.size us2.toArray.size)).all e && us1.toArray.size == us2.toArray.size) := by
            rw [hm, ← hb]
            simp [hl]
          rw [hb']
          exact SeqAt.RcAt.tuples (show s.heap.IsTuple a1 us1.toArray from p1) (show s.heap.IsTuple a2 us2.toArray from p2) hu0 he
        · rw [if_neg l] at q
          cases q
    -- a list or a tuple, and something else
    have isL : ∀ {v : V} {u : Value} {f : Bool} {xs : List D} {A : List Addr}, T z G H v (.lst f xs) A → RelV v u → ∃ a its, u = .ref a ∧ s.heap.IsList a its := by
      intro v u f xs A t r
      obtain ⟨a1, vs, _, rfl, q1, c1⟩ := t.asL gs
      rw [← hK] at q1
      obtain ⟨us1, v1, p1, _⟩ := I.list q1
      cases r
      exact ⟨_, _, rfl, p1.isList⟩
    have isT : ∀ {v : V} {u : Value} {xs : List D} {A : List Addr}, T z G H v (.tup xs) A → RelV v u → ∃ a its, u = .ref a ∧ s.heap.IsTuple a its := by
      intro v u xs A t r
      obtain ⟨a1, vs, _, rfl, q1, c1⟩ := t.asT gs
      rw [← hK] at q1
      obtain ⟨us1, v1, p1, _⟩ := I.tuple q1
      cases r
      exact ⟨_, _, rfl, p1⟩
    cases d with
    | non =>
      cases t1
      cases r1
      cases e with
      | non => cases t2; cases r2; cases h; exact SeqAt.RcAt.none_none
      | bl b => cases t2; cases r2; cases h; exact SeqAt.RcAt.none_bool b
      | int i => cases t2; obtain ⟨t, rfl⟩ := r2; cases h; exact SeqAt.RcAt.none_int i t
      | str x => cases t2; obtain ⟨t, rfl⟩ := r2; cases h; exact SeqAt.RcAt.none_str x t
      | lst f xs => obtain ⟨a, its, rfl, k⟩ := isL t2 r2; cases h; exact SeqAt.RcAt.none_list k hu0
      | tup xs => obtain ⟨a, its, rfl, k⟩ := isT t2 r2; cases h; exact SeqAt.RcAt.none_tuple k hu0
      | _ => cases h
    | bl c =>
      cases t1
      cases r1
      cases e with
      | non => cases t2; cases r2; cases h; exact SeqAt.RcAt.bool_none c
      | bl b => cases t2; cases r2; cases h; exact SeqAt.RcAt.bool_bool c b
      | int i => cases t2; obtain ⟨t, rfl⟩ := r2; cases h; exact SeqAt.RcAt.bool_int c i t
      | str x => cases t2; obtain ⟨t, rfl⟩ := r2; cases h; exact SeqAt.RcAt.bool_str c x t
      | lst f xs => obtain ⟨a, its, rfl, k⟩ := isL t2 r2; cases h; exact SeqAt.RcAt.bool_list c k hu0
      | tup xs => obtain ⟨a, its, rfl, k⟩ := isT t2 r2; cases h; exact SeqAt.RcAt.bool_tuple c k hu0
      | _ => cases h
    | int c =>
      cases t1
      obtain ⟨t0, rfl⟩ := r1
      cases e with
      | non => cases t2; cases r2; cases h; exact SeqAt.RcAt.int_none c t0
      | bl b => cases t2; cases r2; cases h; exact SeqAt.RcAt.int_bool c t0 b
      | int i => cases t2; obtain ⟨t, rfl⟩ := r2; cases h; exact SeqAt.RcAt.int_int c t0 i t
      | str x => cases t2; obtain ⟨t, rfl⟩ := r2; cases h; exact SeqAt.RcAt.int_str c t0 x t
      | lst f xs => obtain ⟨a, its, rfl, k⟩ := isL t2 r2; cases h; exact SeqAt.RcAt.int_list c t0 k hu0
      | tup xs => obtain ⟨a, its, rfl, k⟩ := isT t2 r2; cases h; exact SeqAt.RcAt.int_tuple c t0 k hu0
      | _ => cases h
    | str c =>
      cases t1
      obtain ⟨t0, rfl⟩ := r1
      cases e with
      | non => cases t2; cases r2; cases h; exact SeqAt.RcAt.str_none c t0
      | bl b => cases t2; cases r2; cases h; exact SeqAt.RcAt.str_bool c t0 b
      | int i => cases t2; obtain ⟨t, rfl⟩ := r2; cases h; exact SeqAt.RcAt.str_int c t0 i t
      | str x => cases t2; obtain ⟨t, rfl⟩ := r2; cases h; exact SeqAt.RcAt.str_str c t0 x t
      | lst f xs => obtain ⟨a, its, rfl, k⟩ := isL t2 r2; cases h; exact SeqAt.RcAt.str_list c t0 k hu0
      | tup xs => obtain ⟨a, its, rfl, k⟩ := isT t2 r2; cases h; exact SeqAt.RcAt.str_tuple c t0 k hu0
      | dic f ks => obtain ⟨a, us, rfl, y, k, l⟩ := t2.asD I gs r2; cases h; exact RcAt_str_dict c t0 k hu0
      | _ => cases h
    | lst f xs =>
      cases e with
      | lst g ys => exact two t1 t2 h
      | non => obtain ⟨a, its, rfl, k⟩ := isL t1 r1; cases t2; cases r2; cases h; exact SeqAt.RcAt.list_none k hu0
      | bl b => obtain ⟨a, its, rfl, k⟩ := isL t1 r1; cases t2; cases r2; cases h; exact SeqAt.RcAt.list_bool b k hu0
      | int i => obtain ⟨a, its, rfl, k⟩ := isL t1 r1; cases t2; obtain ⟨t, rfl⟩ := r2; cases h; exact SeqAt.RcAt.list_int i t k hu0
      | str x => obtain ⟨a, its, rfl, k⟩ := isL t1 r1; cases t2; obtain ⟨t, rfl⟩ := r2; cases h; exact SeqAt.RcAt.list_str x t k hu0
      | tup ys => obtain ⟨a, its, rfl, k⟩ := isL t1 r1; obtain ⟨a2, its2, rfl, k2⟩ := isT t2 r2; cases h; exact SeqAt.RcAt.list_tuple k k2 hu0
      | _ => cases h
    | tup xs =>
      cases e with
      | tup ys => exact twoT t1 t2 h
      | non => obtain ⟨a, its, rfl, k⟩ := isT t1 r1; cases t2; cases r2; cases h; exact SeqAt.RcAt.tuple_none k hu0
      | bl b => obtain ⟨a, its, rfl, k⟩ := isT t1 r1; cases t2; cases r2; cases h; exact SeqAt.RcAt.tuple_bool b k hu0
      | int i => obtain ⟨a, its, rfl, k⟩ := isT t1 r1; cases t2; obtain ⟨t, rfl⟩ := r2; cases h; exact SeqAt.RcAt.tuple_int i t k hu0
      | str x => obtain ⟨a, its, rfl, k⟩ := isT t1 r1; cases t2; obtain ⟨t, rfl⟩ := r2; cases h; exact SeqAt.RcAt.tuple_str x t k hu0
      | lst f ys => obtain ⟨a, its, rfl, k⟩ := isT t1 r1; obtain ⟨a2, its2, rfl, k2⟩ := isL t2 r2; cases h; exact SeqAt.RcAt.tuple_list k k2 hu0
      | _ => cases h
    | dic f ks =>
      cases e with
      | dic g ls =>
        obtain ⟨a1, us1, rfl, y1, k1, l1⟩ := t1.asD I gs r1
        obtain ⟨a2, us2, rfl, y2, k2, l2⟩ := t2.asD I gs r2
        obtain ⟨e1, e2, e3⟩ := deq_dic h
        subst e1 e2 e3
        cases us1 with
        | cons _ _ => simp at l1
        | nil => cases us2 with
          | cons _ _ => simp at l2
          | nil => exact RcAt_dict_nil y1 y2 k1 k2 hu0
      | _ => cases h
    | _ => cases h
/-- the operator itself, at the top -/
theorem rcne_at (I : Inv X pins σ H s) (gs : GS G H) (hK : X.K = z.K) : ∀ (n : Nat) (Ar : Around), Ar.units + n < cLine → ∀ {d e : D} {b : Bool} {v w : V} {u1 u2 : Value} {A B : List Addr}, deq n d e = some b → T z G H v d A → T z G H w e B → RelV v u1 → RelV w u2 → SeqAt.RcNeAt Ar s u1 u2 (!b)
  | 0, _, _, _, _, _, _, _, _, _, _, _, h, _, _, _, _ => by cases h
  | n + 1, Ar, hu, d, e, b, v, w, u1, u2, A, B, h, t1, t2, r1, r2 => by
    have hu0 : Ar.units < cLine := by omega
    -- the items of two lists or tuples
    have kids : ∀ {xs ys : List D} {vs ws : List V} {us1 us2 : List Value} {A B : List Addr}, Ts z G H vs xs A → Ts z G H ws ys B → Vals vs us1 → Vals ws us2 → xs.length = ys.length → deqs (deq n) xs ys = some b →
        us1.length = us2.length ∧ ∃ e : Nat → Bool, (∀ j (h1 : j < us1.toArray.size) (h2 : j < us2.toArray.size), SeqAt.EqAt Ar.in1 s us1.toArray[j] us2.toArray[j] (e j)) ∧ b = (List.range us1.toArray.size).all e := by
      intro xs ys vs ws us1 us2 A B c1 c2 v1 v2 l q
      obtain ⟨k1, k2⟩ := deqs_all q l
      have l1 := v1.length
      have l2 := v2.length
      have m1 := c1.length
      have m2 := c2.length
      refine ⟨by omega, _, fun j h1 h2 => ?_, by rw [k2]; rw [show us1.toArray.size = xs.length by rw [List.size_toArray]; omega]⟩
      have h1' : j < us1.length := by simpa using h1
      have h2' : j < us2.length := by simpa using h2
      have e1 : xs[j]? = some (xs[j]'(by omega)) := List.getElem?_eq_getElem _
      have e2 : ys[j]? = some (ys[j]'(by omega)) := List.getElem?_eq_getElem _
      have e3 : vs[j]? = some (vs[j]'(by omega)) := List.getElem?_eq_getElem _
      have e4 : ws[j]? = some (ws[j]'(by omega)) := List.getElem?_eq_getElem _
      obtain ⟨_, a1⟩ := c1.getA j e3 e1
      obtain ⟨_, a2⟩ := c2.getA j e4 e2
      obtain ⟨p, hp⟩ := Option.isSome_iff_exists.mp (k1 j e1 e2)
      obtain ⟨y1, g1, r1'⟩ := v1.get e3
      obtain ⟨y2, g2, r2'⟩ := v2.get e4
      rw [List.getElem?_eq_getElem h1'] at g1
      rw [List.getElem?_eq_getElem h2'] at g2
      cases g1
      cases g2
      have := deq_at I gs hK n Ar.in1 (by show Ar.units + 1 + n < cLine; omega) hp a1 a2 r1' r2'
      rw [e1, e2]
      show SeqAt.EqAt Ar.in1 s _ _ ((deq n (xs[j]'(by omega)) (ys[j]'(by omega))).getD false)
      rw [hp]
      simpa using this
    have two : ∀ {xs ys : List D} {f g : Bool} {A B : List Addr}, T z G H v (.lst f xs) A → T z G H w (.lst g ys) B → (if xs.length = ys.length then deqs (deq n) xs ys else some false) = some b → SeqAt.RcNeAt Ar s u1 u2 (!b) := by
      intro xs ys f g A B t1 t2 q
      obtain ⟨a1, vs, _, rfl, q1, c1⟩ := t1.asL gs
      obtain ⟨a2, ws, _, rfl, q2, c2⟩ := t2.asL gs
      rw [← hK] at q1 q2
      obtain ⟨us1, v1, p1, _⟩ := I.list q1
      obtain ⟨us2, v2, p2, _⟩ := I.list q2
      cases r1
      cases r2
      · skip
        by_cases l : xs.length = ys.length
        · rw [if_pos l] at q
          obtain ⟨hl, e, he, hb⟩ := kids c1 c2 v1 v2 l q
          rw [hb]
          exact SeqAt.RcNeAt.lists p1.isList p2.isList (by simpa using hl) hu0 he
        · rw [if_neg l] at q
          cases q
          have l1 := v1.length
          have l2 := v2.length
          have m1 := c1.length
          have m2 := c2.length
          exact SeqAt.RcNeAt.lists_lengths p1.isList p2.isList (by simp; omega) hu0
    have twoT : ∀ {xs ys : List D} {A B : List Addr}, T z G H v (.tup xs) A → T z G H w (.tup ys) B → (if xs.length = ys.length then deqs (deq n) xs ys else none) = some b → SeqAt.RcNeAt Ar s u1 u2 (!b) := by
      intro xs ys A B t1 t2 q
      obtain ⟨a1, vs, _, rfl, q1, c1⟩ := t1.asT gs
      obtain ⟨a2, ws, _, rfl, q2, c2⟩ := t2.asT gs
      rw [← hK] at q1 q2
      obtain ⟨us1, v1, p1, _⟩ := I.tuple q1
      obtain ⟨us2, v2, p2, _⟩ := I.tuple q2
      cases r1
      cases r2
      · skip
        by_cases l : xs.length = ys.length
        · rw [if_pos l] at q
          obtain ⟨hl, e, he, hb⟩ := kids c1 c2 v1 v2 l q
          have hm : min us1.toArray.size us2.toArray.size = us1.toArray.size := by simp; omega
          have hb' : b = ((List.range (min us1.toArray.size us2.toArray.size)).all e && us1.toArray.size == us2.toArray.size) := by
            rw [hm, ← hb]
            simp [hl]
          rw [hb']
          exact SeqAt.RcNeAt.tuples (show s.heap.IsTuple a1 us1.toArray from p1) (show s.heap.IsTuple a2 us2.toArray from p2) hu0 he
        · rw [if_neg l] at q
          cases q
    -- a list or a tuple, and something else
    have isL : ∀ {v : V} {u : Value} {f : Bool} {xs : List D} {A : List Addr}, T z G H v (.lst f xs) A → RelV v u → ∃ a its, u = .ref a ∧ s.heap.IsList a its := by
      intro v u f xs A t r
      obtain ⟨a1, vs, _, rfl, q1, c1⟩ := t.asL gs
      rw [← hK] at q1
      obtain ⟨us1, v1, p1, _⟩ := I.list q1
      cases r
      exact ⟨_, _, rfl, p1.isList⟩
    have isT : ∀ {v : V} {u : Value} {xs : List D} {A : List Addr}, T z G H v (.tup xs) A → RelV v u → ∃ a its, u = .ref a ∧ s.heap.IsTuple a its := by
      intro v u xs A t r
      obtain ⟨a1, vs, _, rfl, q1, c1⟩ := t.asT gs
      rw [← hK] at q1
      obtain ⟨us1, v1, p1, _⟩ := I.tuple q1
      cases r
      exact ⟨_, _, rfl, p1⟩
    cases d with
    | non =>
      cases t1
      cases r1
      cases e with
      | non => cases t2; cases r2; cases h; exact SeqAt.RcNeAt.none_none
      | bl b => cases t2; cases r2; cases h; exact SeqAt.RcNeAt.none_bool b
      | int i => cases t2; obtain ⟨t, rfl⟩ := r2; cases h; exact SeqAt.RcNeAt.none_int i t
      | str x => cases t2; obtain ⟨t, rfl⟩ := r2; cases h; exact SeqAt.RcNeAt.none_str x t
      | lst f xs => obtain ⟨a, its, rfl, k⟩ := isL t2 r2; cases h; exact SeqAt.RcNeAt.none_list k hu0
      | tup xs => obtain ⟨a, its, rfl, k⟩ := isT t2 r2; cases h; exact SeqAt.RcNeAt.none_tuple k hu0
      | _ => cases h
    | bl c =>
      cases t1
      cases r1
      cases e with
      | non => cases t2; cases r2; cases h; exact SeqAt.RcNeAt.bool_none c
      | bl b => cases t2; cases r2; cases h; exact SeqAt.RcNeAt.bool_bool c b
      | int i => cases t2; obtain ⟨t, rfl⟩ := r2; cases h; exact SeqAt.RcNeAt.bool_int c i t
      | str x => cases t2; obtain ⟨t, rfl⟩ := r2; cases h; exact SeqAt.RcNeAt.bool_str c x t
      | lst f xs => obtain ⟨a, its, rfl, k⟩ := isL t2 r2; cases h; exact SeqAt.RcNeAt.bool_list c k hu0
      | tup xs => obtain ⟨a, its, rfl, k⟩ := isT t2 r2; cases h; exact SeqAt.RcNeAt.bool_tuple c k hu0
      | _ => cases h
    | int c =>
      cases t1
      obtain ⟨t0, rfl⟩ := r1
      cases e with
      | non => cases t2; cases r2; cases h; exact SeqAt.RcNeAt.int_none c t0
      | bl b => cases t2; cases r2; cases h; exact SeqAt.RcNeAt.int_bool c t0 b
      | int i => cases t2; obtain ⟨t, rfl⟩ := r2; cases h; exact SeqAt.RcNeAt.int_int c t0 i t
      | str x => cases t2; obtain ⟨t, rfl⟩ := r2; cases h; exact SeqAt.RcNeAt.int_str c t0 x t
      | lst f xs => obtain ⟨a, its, rfl, k⟩ := isL t2 r2; cases h; exact SeqAt.RcNeAt.int_list c t0 k hu0
      | tup xs => obtain ⟨a, its, rfl, k⟩ := isT t2 r2; cases h; exact SeqAt.RcNeAt.int_tuple c t0 k hu0
      | _ => cases h
    | str c =>
      cases t1
      obtain ⟨t0, rfl⟩ := r1
      cases e with
      | non => cases t2; cases r2; cases h; exact SeqAt.RcNeAt.str_none c t0
      | bl b => cases t2; cases r2; cases h; exact SeqAt.RcNeAt.str_bool c t0 b
      | int i => cases t2; obtain ⟨t, rfl⟩ := r2; cases h; exact SeqAt.RcNeAt.str_int c t0 i t
      | str x => cases t2; obtain ⟨t, rfl⟩ := r2; cases h; exact SeqAt.RcNeAt.str_str c t0 x t
      | lst f xs => obtain ⟨a, its, rfl, k⟩ := isL t2 r2; cases h; exact SeqAt.RcNeAt.str_list c t0 k hu0
      | tup xs => obtain ⟨a, its, rfl, k⟩ := isT t2 r2; cases h; exact SeqAt.RcNeAt.str_tuple c t0 k hu0
      | dic f ks => obtain ⟨a, us, rfl, y, k, l⟩ := t2.asD I gs r2; cases h; exact RcNeAt_str_dict c t0 k hu0
      | _ => cases h
    | lst f xs =>
      cases e with
      | lst g ys => exact two t1 t2 h
      | non => obtain ⟨a, its, rfl, k⟩ := isL t1 r1; cases t2; cases r2; cases h; exact SeqAt.RcNeAt.list_none k hu0
      | bl b => obtain ⟨a, its, rfl, k⟩ := isL t1 r1; cases t2; cases r2; cases h; exact SeqAt.RcNeAt.list_bool b k hu0
      | int i => obtain ⟨a, its, rfl, k⟩ := isL t1 r1; cases t2; obtain ⟨t, rfl⟩ := r2; cases h; exact SeqAt.RcNeAt.list_int i t k hu0
      | str x => obtain ⟨a, its, rfl, k⟩ := isL t1 r1; cases t2; obtain ⟨t, rfl⟩ := r2; cases h; exact SeqAt.RcNeAt.list_str x t k hu0
      | tup ys => obtain ⟨a, its, rfl, k⟩ := isL t1 r1; obtain ⟨a2, its2, rfl, k2⟩ := isT t2 r2; cases h; exact SeqAt.RcNeAt.list_tuple k k2 hu0
      | _ => cases h
    | tup xs =>
      cases e with
      | tup ys => exact twoT t1 t2 h
      | non => obtain ⟨a, its, rfl, k⟩ := isT t1 r1; cases t2; cases r2; cases h; exact SeqAt.RcNeAt.tuple_none k hu0
      | bl b => obtain ⟨a, its, rfl, k⟩ := isT t1 r1; cases t2; cases r2; cases h; exact SeqAt.RcNeAt.tuple_bool b k hu0
      | int i => obtain ⟨a, its, rfl, k⟩ := isT t1 r1; cases t2; obtain ⟨t, rfl⟩ := r2; cases h; exact SeqAt.RcNeAt.tuple_int i t k hu0
      | str x => obtain ⟨a, its, rfl, k⟩ := isT t1 r1; cases t2; obtain ⟨t, rfl⟩ := r2; cases h; exact SeqAt.RcNeAt.tuple_str x t k hu0
      | lst f ys => obtain ⟨a, its, rfl, k⟩ := isT t1 r1; obtain ⟨a2, its2, rfl, k2⟩ := isL t2 r2; cases h; exact SeqAt.RcNeAt.tuple_list k k2 hu0
      | _ => cases h
    | dic f ks =>
      cases e with
      | dic g ls =>
        obtain ⟨a1, us1, rfl, y1, k1, l1⟩ := t1.asD I gs r1
        obtain ⟨a2, us2, rfl, y2, k2, l2⟩ := t2.asD I gs r2
        obtain ⟨e1, e2, e3⟩ := deq_dic h
        subst e1 e2 e3
        cases us1 with
        | cons _ _ => simp at l1
        | nil => cases us2 with
          | cons _ _ => simp at l2
          | nil => exact RcNeAt_dict_nil y1 y2 k1 k2 hu0
      | _ => cases h
    | _ => cases h
end
end Vm
/-! Vm: comparisons, items, displays, built-in functions. -/
namespace Vm
open PySem L2
open PyProof.Rows hiding St
def C2.py : C2 → CmpOp
  | .eq => .Eq
  | .ne => .NotEq
  | .lt => .Lt
  | .le => .LtE
  | .gt => .Gt
  | .ge => .GtE
  | .isin => .In
  | .notin => .NotIn
/-- a comparison, by the data -/
def rC (z : Z) (o : C2) : R2 := fun a b H Q => ∃ G d e r, GS G H ∧ Vw z G H a d ∧ Vw z G H b e ∧ opCmp o d e = some r ∧ Q (.bl r) H
theorem Vw.dic {z : Z} {G H : Hp} {v : V} {f : Bool} {ds : List (Key × D)} (g : GS G H) (h : Vw z G H v (.dic f ds)) : ∃ a vs, v = .ref a ∧ RdD H a vs ∧ vs.map (·.1) = ds.map (·.1) ∧ Ts z G H (vs.map (·.2)) (ds.map (·.2)) [] := by
  obtain ⟨n, A, t⟩ := h
  have n' : nfs (ds.map (·.2)) = true := by
    rw [nfs_all, List.all_map]
    have q : nfk ds = true := n
    rw [nfk_all] at q
    exact q
  cases t with
  | dic hs e ht =>
    have e0 := ht.nf_nil n'
    subst e0
    exact ⟨_, _, rfl, g.rdD hs, e, ht⟩
  | dicF hs e ht =>
    have e0 := ht.nf_nil n'
    subst e0
    exact ⟨_, _, rfl, .inl hs, e, ht⟩
/-- keys and values, one beside the other -/
theorem kfind_val {z : Z} {G H : Hp} : ∀ {vs : List (Key × V)} {ds : List (Key × D)} (k : Key), vs.map (·.1) = ds.map (·.1) → Ts z G H (vs.map (·.2)) (ds.map (·.2)) [] →
    (kfind ds k = none ∧ valV vs k = none) ∨ ∃ d v, kfind ds k = some d ∧ valV vs k = some v ∧ T z G H v d []
  | [], [], k, _, _ => .inl ⟨rfl, rfl⟩
  | [], _ :: _, _, e, _ => by simp at e
  | _ :: _, [], _, e, _ => by simp at e
  | (a, v) :: vs, (b, d) :: ds, k, e, t => by
    simp only [List.map_cons, List.cons.injEq] at e
    obtain ⟨e1, e2⟩ := e
    obtain ⟨t1, t2⟩ := t.nil_inv
    by_cases q : a = k
    · right
      subst q
      have e1' : b = a := e1.symm
      refine ⟨d, v, ?_, ?_, t1⟩
      · unfold kfind
        rw [List.find?_cons_of_pos (by simp [e1'])]
        rfl
      · exact valV_pos rfl
    · rcases kfind_val k e2 t2 with ⟨h1, h2⟩ | ⟨d', v', h1, h2, h3⟩
      · left
        refine ⟨?_, by rw [valV_neg q]; exact h2⟩
        unfold kfind
        rw [List.find?_cons_of_neg (by simp; intro z; exact q (e1.trans z))]
        exact h1
      · right
        refine ⟨d', v', ?_, by rw [valV_neg q]; exact h2, h3⟩
        unfold kfind
        rw [List.find?_cons_of_neg (by simp; intro z; exact q (e1.trans z))]
        exact h1
section
variable {X : Cx} {z : Z} {W : WX} {Γ : Cf} {pos : Pos}
theorem keqs_hits {pins : List (Addr × Obj)} {σ : St} {H G : Hp} {s : Shared} (I : Inv X pins σ H s) (gs : GS G H) (hK : X.K = z.K) {Ar : Around} (hu : Ar.units + 40 < cLine) {ls : List (Key × D)} {vl : List (Key × V)} {ul : List (Key × Value)} (el : vl.map (·.1) = ls.map (·.1)) (tl : Ts z G H (vl.map (·.2)) (ls.map (·.2)) []) (rl : KV vl ul) :
    ∀ {ks : List (Key × D)} {vk : List (Key × V)} {uk : List (Key × Value)} {b : Bool}, keqs (deq 40) ls ks = some b → vk.map (·.1) = ks.map (·.1) → Ts z G H (vk.map (·.2)) (ks.map (·.2)) [] → KV vk uk → PySem.W.KeqHits Ar s ul uk b
  | [], [], uk, b, e, _, _, r => by
    cases r
    cases e
    exact .nil
  | [], _ :: _, _, _, _, e, _, _ => by simp at e
  | _ :: _, [], _, _, _, e, _, _ => by simp at e
  | (k, d) :: ks, (k', v) :: vk, uk, b, e, ek, tk, r => by
    cases r with
    | @cons _ q _ us r1 r2 =>
      obtain ⟨ku, u⟩ := q
      obtain ⟨q1, q2⟩ := r1
      have q1' : k' = ku := q1
      simp only [List.map_cons, List.cons.injEq] at ek
      obtain ⟨e1, e2⟩ := ek
      obtain ⟨t1, t2⟩ := tk.nil_inv
      unfold keqs at e
      have rv := rl.val k
      rcases kfind_val k el tl with ⟨h1, h2⟩ | ⟨d2, v2, h1, h2, h3⟩
      · rw [h1] at e
        cases e
        rw [h2] at rv
        have ev := rv.none_of
        rw [← q1', e1]
        exact .miss ev
      · rw [h1] at e
        dsimp only at e
        cases c1 : deq 40 d d2 with
        | none => rw [c1] at e; cases e
        | some p1 =>
          cases c2 : keqs (deq 40) ls ks with
          | none => rw [c1, c2] at e; cases e
          | some p2 =>
            rw [c1, c2] at e
            cases e
            rw [h2] at rv
            obtain ⟨y, ey, ry⟩ := rv.some_of
            rw [← q1', e1]
            exact .hit ey (deq_at I gs hK 40 Ar hu c1 t1 h3 q2 ry) (keqs_hits I gs hK hu el tl rl c2 e2 t2 r2)
theorem flat_vw {z : Z} {G H : Hp} {v : V} {d : D} {A : List Addr} (f : isFlat d = true) (t : T z G H v d A) : flatV v = true := by
  cases t with
  | non => rfl
  | bl b => rfl
  | int i => rfl
  | str x => rfl
  | _ => cases f
theorem feq_eqV {z : Z} {G H : Hp} {v u : V} {d e : D} {A B : List Addr} (f : isFlat d = true) (g : isFlat e = true) (t : T z G H v d A) (k : T z G H u e B) : eqV v u = feq d e := by
  cases t with
  | non => cases k with
    | non => rfl
    | bl b => rfl
    | int i => rfl
    | str x => rfl
    | _ => cases g
  | bl b => cases k with
    | non => rfl
    | bl b => rfl
    | int i => rfl
    | str x => rfl
    | _ => cases g
  | int i => cases k with
    | non => rfl
    | bl b => rfl
    | int i => rfl
    | str x => rfl
    | _ => cases g
  | str x => cases k with
    | non => rfl
    | bl b => rfl
    | int i => rfl
    | str x => rfl
    | _ => cases g
  | _ => cases f
theorem dmem_inV {z : Z} {G H : Hp} {x : V} {d : D} {A : List Addr} (f : isFlat d = true) (t : T z G H x d A) : ∀ {ys : List D} {vs : List V}, ys.all isFlat = true → Ts z G H vs ys [] → vs.all flatV = true ∧ inV x vs = ys.any fun y => feq y d
  | [], vs, _, u => by
    have l := u.length
    cases vs with
    | nil => exact ⟨rfl, rfl⟩
    | cons _ _ => simp at l
  | y :: ys, vs, a, u => by
    cases vs with
    | nil => exact absurd u.length (by simp)
    | cons v vs =>
      obtain ⟨u1, u2⟩ := u.nil_inv
      rw [List.all_cons, Bool.and_eq_true] at a
      obtain ⟨h1, h2⟩ := dmem_inV f t a.2 u2
      refine ⟨?_, ?_⟩
      · rw [List.all_cons, flat_vw a.1 u1, h1]
        rfl
      · show (eqV v x || inV x vs) = (feq y d || _)
        rw [h2, feq_eqV a.1 f u1 t]
section
variable {X : Cx} {pins : List (Addr × Obj)} {σ : St} {H G : Hp} {s : Shared} {z : Z}
theorem dmem_no (I : Inv X pins σ H s) (gs : GS G H) (hK : X.K = z.K) {Ar : Around} (hu : Ar.units + 40 < cLine) {xv : V} {ux : Value} {x : D} {B : List Addr} (tx : T z G H xv x B) (rx : RelV xv ux) :
    ∀ {ys : List D} {vs : List V} {us : List Value} {A : List Addr}, (ys.all fun y => deq 40 y x == some false) = true → Ts z G H vs ys A → Vals vs us → ∀ y ∈ us, SeqAt.EqAt Ar s y ux false
  | _, _, _, _, h, .nil, r, y, m => by
    cases r
    simp at m
  | _, _, _, _, h, .cons t1 t2, .cons r1 r2, y, m => by
    rw [List.all_cons, Bool.and_eq_true] at h
    rcases List.mem_cons.mp m with e | m
    · subst e
      exact deq_at I gs hK 40 Ar hu (by simpa using h.1) t1 tx r1 rx
    · exact dmem_no I gs hK hu tx rx h.2 t2 r2 y m
theorem any_no {us : List Value} : us.toArray.any (fun _ => false) = false := by simp
end
theorem asKey_kV {z : Z} {G H : Hp} {v : V} {d : D} {k : Key} {A : List Addr} (h : asKey d = some k) (t : T z G H v d A) : v = kV k := by
  cases t with
  | int i => cases h; rfl
  | str x => cases h; rfl
  | _ => cases h
theorem op_C (hK : X.K = z.K) (hu : X.A.units + 64 < cLine) (o : C2) : OpR X (compareOp o.py) (rC z o) := by
  intro pins s σ H a b v u Q I ra rb ⟨G, d, e, r, gs, w1, w2, hr, q⟩
  have eqd : ∀ {r : Bool}, opEq d e = some r → (∀ fl ks fl' ls, d = .dic fl ks → e = .dic fl' ls → False) → deq 40 d e = some r := by
    intro r h n
    unfold opEq at h
    split at h
    · exact (n _ _ _ _ rfl rfl).elim
    · exact h
  -- two dicts
  have dics : ∀ {r : Bool} {fl ks fl' ls}, d = .dic fl ks → e = .dic fl' ls → opEq d e = some r → ∃ a1 a2 u1 u2 r', v = Value.ref a1 ∧ u = Value.ref a2 ∧ (a1 == sysModules) = false ∧ (a2 == sysModules) = false ∧ s.heap.DictOf (mixKind X.prog X.w) a1 u1 ∧ s.heap.DictOf (mixKind X.prog X.w) a2 u2 ∧
      (u1.length = u2.length → PySem.W.KeqHits X.A.in1 s u2 u1 r') ∧ r = (u1.length == u2.length && r') := by
    intro r fl ks fl' ls e1 e2 h
    subst e1 e2
    obtain ⟨a1, vk, rfl, q1, k1, t1⟩ := w1.dic gs
    obtain ⟨a2, vl, rfl, q2, k2, t2⟩ := w2.dic gs
    cases ra
    cases rb
    obtain ⟨_, y1, u1, r1, d1⟩ := dk_rd I.hok q1
    obtain ⟨_, y2, u2, r2, d2⟩ := dk_rd I.hok q2
    have l1 : ks.length = u1.length := by rw [← r1.length]; simpa using (congrArg List.length k1).symm
    have l2 : ls.length = u2.length := by rw [← r2.length]; simpa using (congrArg List.length k2).symm
    have h' : (if ks.length = ls.length then keqs (deq 40) ls ks else some false) = some r := h
    by_cases l : ks.length = ls.length
    · rw [if_pos l] at h'
      refine ⟨a1, a2, u1, u2, r, rfl, rfl, y1, y2, d1, d2, fun _ => keqs_hits I gs hK (by show X.A.units + 1 + 40 < cLine; omega) k2 t2 r2 h' k1 t1 r1, ?_⟩
      rw [show (u1.length == u2.length) = true by rw [← l1, ← l2, l]; simp]
      rfl
    · rw [if_neg l] at h'
      cases h'
      refine ⟨a1, a2, u1, u2, false, rfl, rfl, y1, y2, d1, d2, fun q => absurd (by rw [l1, l2, q]) l, by simp⟩
  obtain ⟨n1, A1, t1⟩ := id w1
  obtain ⟨n2, A2, t2⟩ := id w2
  have fin : EP X pins σ Q (.bool r) s := ⟨.bl r, H, I, rfl, q⟩
  cases o with
  | eq =>
    have hr' : opEq d e = some r := hr
    by_cases c : ∃ fl ks fl' ls, d = .dic fl ks ∧ e = .dic fl' ls
    · obtain ⟨fl, ks, fl', ls, e1, e2⟩ := c
      obtain ⟨a1, a2, u1, u2, r', rfl, rfl, y1, y2, d1, d2, hits, er⟩ := dics e1 e2 hr'
      exact PySem.W.keq_eq (knd := mixKind X.prog X.w) y1 y2 d1 d2 (by omega) hits (by rw [← er]; exact fin)
    · exact rc_at I gs hK 40 X.A (by omega) (eqd hr' fun fl ks fl' ls e1 e2 => c ⟨fl, ks, fl', ls, e1, e2⟩) t1 t2 ra rb _ _ _ _ fin
  | ne =>
    have hr' : (opEq d e).map (!·) = some r := hr
    cases c0 : opEq d e with
    | none => rw [c0] at hr'; cases hr'
    | some r0 =>
      rw [c0] at hr'
      have hr2 : (!r0) = r := Option.some.inj hr'
      subst hr2
      by_cases c : ∃ fl ks fl' ls, d = .dic fl ks ∧ e = .dic fl' ls
      · obtain ⟨fl, ks, fl', ls, e1, e2⟩ := c
        obtain ⟨a1, a2, u1, u2, r', rfl, rfl, y1, y2, d1, d2, hits, er⟩ := dics e1 e2 c0
        exact PySem.W.keq_ne (knd := mixKind X.prog X.w) y1 y2 d1 d2 (by omega) hits (by rw [← er]; exact fin)
      · exact rcne_at I gs hK 40 X.A (by omega) (eqd c0 fun fl ks fl' ls e1 e2 => c ⟨fl, ks, fl', ls, e1, e2⟩) t1 t2 ra rb _ _ _ _ fin
  | lt =>
    unfold opCmp at hr
    split at hr <;> first | cases hr | skip
    all_goals first | (rename_i h; cases h) | skip
    refine op_lt pins s σ H a b v u Q I ra rb ⟨_, _, w1.int, w2.int, q⟩
  | le =>
    unfold opCmp at hr
    split at hr <;> first | cases hr | skip
    all_goals first | (rename_i h; cases h) | skip
    refine op_le pins s σ H a b v u Q I ra rb ⟨_, _, w1.int, w2.int, q⟩
  | gt =>
    unfold opCmp at hr
    split at hr <;> first | cases hr | skip
    all_goals first | (rename_i h; cases h) | skip
    refine op_gt pins s σ H a b v u Q I ra rb ⟨_, _, w1.int, w2.int, q⟩
  | ge =>
    unfold opCmp at hr
    split at hr <;> first | cases hr | skip
    all_goals first | (rename_i h; cases h) | skip
    refine op_ge pins s σ H a b v u Q I ra rb ⟨_, _, w1.int, w2.int, q⟩
  | isin =>
    unfold opCmp at hr
    split at hr <;> first | (rename_i h; cases h; done) | skip
    all_goals first | (rename_i h _ _; cases h; done) | skip
    all_goals first | (rename_i h _; cases h; done) | skip
    all_goals first | (cases hr; done) | skip
    · cases hr
      exact op_in_str pins s σ H a b v u Q I ra rb ⟨_, _, w1.str, w2.str, q⟩
    · rename_i d0 _ _ _ f ys _
      cases c0 : dmem d0 ys with
      | none => rw [c0] at hr; cases hr
      | some r0 =>
        rw [c0] at hr
        have hr2 : r0 = r := Option.some.inj hr
        subst hr2
        unfold dmem at c0
        by_cases c : (isFlat d0 && ys.all isFlat) = true
        · rw [if_pos c] at c0
          cases c0
          obtain ⟨f1, f2⟩ := Bool.and_eq_true_iff.mp c
          obtain ⟨l, vs, rfl, hs, ts⟩ := w2.lst gs
          rw [← hK] at hs
          obtain ⟨h1, h2⟩ := dmem_inV f1 t1 f2 ts
          refine op_in_seq pins s σ H a _ v u Q I ra rb ⟨l, vs, rfl, .inl hs, flat_vw f1 t1, h1, ?_⟩
          rw [h2]
          exact q
        · rw [if_neg c] at c0
          split at c0
          · rename_i c1
            cases c0
            obtain ⟨l, vs, rfl, hs, ts⟩ := w2.lst gs
            rw [← hK] at hs
            obtain ⟨us, v1, p1, _⟩ := I.list hs
            cases rb
            refine SeqAt.in_listAt (fun _ => false) p1.isList (fun y m => dmem_no I gs hK (by show X.A.units + 1 + 40 < cLine; omega) t1 ra c1 ts v1 y (by simpa using m)) ⟨.bl _, H, I, rfl, ?_⟩
            rw [any_no]
            exact q
          · cases c0
    · rename_i d0 _ _ _ ys _
      cases c0 : dmem d0 ys with
      | none => rw [c0] at hr; cases hr
      | some r0 =>
        rw [c0] at hr
        have hr2 : r0 = r := Option.some.inj hr
        subst hr2
        unfold dmem at c0
        by_cases c : (isFlat d0 && ys.all isFlat) = true
        · rw [if_pos c] at c0
          cases c0
          obtain ⟨f1, f2⟩ := Bool.and_eq_true_iff.mp c
          obtain ⟨l, vs, rfl, hs, ts⟩ := w2.tup gs
          rw [← hK] at hs
          obtain ⟨h1, h2⟩ := dmem_inV f1 t1 f2 ts
          refine op_in_seq pins s σ H a _ v u Q I ra rb ⟨l, vs, rfl, .inr hs, flat_vw f1 t1, h1, ?_⟩
          rw [h2]
          exact q
        · rw [if_neg c] at c0
          split at c0
          · rename_i c1
            cases c0
            obtain ⟨l, vs, rfl, hs, ts⟩ := w2.tup gs
            rw [← hK] at hs
            obtain ⟨us, v1, p1, _⟩ := I.tuple hs
            cases rb
            refine SeqAt.in_tupleAt (fun _ => false) p1 (fun y m => dmem_no I gs hK (by show X.A.units + 1 + 40 < cLine; omega) t1 ra c1 ts v1 y (by simpa using m)) ⟨.bl _, H, I, rfl, ?_⟩
            rw [any_no]
            exact q
          · cases c0
    · rename_i d0 _ _ _ f kvs _
      cases c0 : asKey d0 with
      | none => rw [c0] at hr; cases hr
      | some k =>
        rw [c0] at hr
        have hr2 : ((kfind kvs k).isSome) = r := Option.some.inj hr
        subst hr2
        obtain ⟨l, vs, rfl, hd, ek, ts⟩ := w2.dic gs
        have ea := asKey_kV c0 t1
        subst ea
        cases rb
        have g : DGet H l (kV k) (valV vs k) := .inl ⟨vs, k, hd, rfl, rfl⟩
        refine d_in (A := X.A) (by omega) I g ra fun s' I' => ⟨.bl _, H, I', rfl, ?_⟩
        rcases kfind_val k ek ts with ⟨h1, h2⟩ | ⟨d', v', h1, h2, h3⟩
        · rw [h2]
          rw [h1] at q
          exact q
        · rw [h2]
          rw [h1] at q
          exact q
  | notin =>
    unfold opCmp at hr
    split at hr <;> first | (rename_i h; cases h; done) | skip
    all_goals first | (rename_i h _ _; cases h; done) | skip
    all_goals first | (rename_i h _; cases h; done) | skip
    all_goals first | (cases hr; done) | skip
    · cases hr
      exact op_notin_str pins s σ H a b v u Q I ra rb ⟨_, _, w1.str, w2.str, q⟩
    · rename_i d0 _ _ _ f ys _
      cases c0 : dmem d0 ys with
      | none => rw [c0] at hr; cases hr
      | some r0 =>
        rw [c0] at hr
        have hr2 : (!r0) = r := Option.some.inj hr
        subst hr2
        unfold dmem at c0
        by_cases c : (isFlat d0 && ys.all isFlat) = true
        · rw [if_pos c] at c0
          cases c0
          obtain ⟨f1, f2⟩ := Bool.and_eq_true_iff.mp c
          obtain ⟨l, vs, rfl, hs, ts⟩ := w2.lst gs
          rw [← hK] at hs
          obtain ⟨h1, h2⟩ := dmem_inV f1 t1 f2 ts
          refine op_notIn_seq pins s σ H a _ v u Q I ra rb ⟨l, vs, rfl, .inl hs, flat_vw f1 t1, h1, ?_⟩
          rw [h2]
          exact q
        · rw [if_neg c] at c0
          split at c0
          · rename_i c1
            cases c0
            obtain ⟨l, vs, rfl, hs, ts⟩ := w2.lst gs
            rw [← hK] at hs
            obtain ⟨us, v1, p1, _⟩ := I.list hs
            cases rb
            refine SeqAt.notIn_listAt (fun _ => false) p1.isList (fun y m => dmem_no I gs hK (by show X.A.units + 1 + 40 < cLine; omega) t1 ra c1 ts v1 y (by simpa using m)) ⟨.bl _, H, I, rfl, ?_⟩
            rw [any_no]
            exact q
          · cases c0
    · rename_i d0 _ _ _ ys _
      cases c0 : dmem d0 ys with
      | none => rw [c0] at hr; cases hr
      | some r0 =>
        rw [c0] at hr
        have hr2 : (!r0) = r := Option.some.inj hr
        subst hr2
        unfold dmem at c0
        by_cases c : (isFlat d0 && ys.all isFlat) = true
        · rw [if_pos c] at c0
          cases c0
          obtain ⟨f1, f2⟩ := Bool.and_eq_true_iff.mp c
          obtain ⟨l, vs, rfl, hs, ts⟩ := w2.tup gs
          rw [← hK] at hs
          obtain ⟨h1, h2⟩ := dmem_inV f1 t1 f2 ts
          refine op_notIn_seq pins s σ H a _ v u Q I ra rb ⟨l, vs, rfl, .inr hs, flat_vw f1 t1, h1, ?_⟩
          rw [h2]
          exact q
        · rw [if_neg c] at c0
          split at c0
          · rename_i c1
            cases c0
            obtain ⟨l, vs, rfl, hs, ts⟩ := w2.tup gs
            rw [← hK] at hs
            obtain ⟨us, v1, p1, _⟩ := I.tuple hs
            cases rb
            refine SeqAt.notIn_tupleAt (fun _ => false) p1 (fun y m => dmem_no I gs hK (by show X.A.units + 1 + 40 < cLine; omega) t1 ra c1 ts v1 y (by simpa using m)) ⟨.bl _, H, I, rfl, ?_⟩
            rw [any_no]
            exact q
          · cases c0
    · rename_i d0 _ _ _ f kvs _
      cases c0 : asKey d0 with
      | none => rw [c0] at hr; cases hr
      | some k =>
        rw [c0] at hr
        have hr2 : (!(kfind kvs k).isSome) = r := Option.some.inj hr
        subst hr2
        obtain ⟨l, vs, rfl, hd, ek, ts⟩ := w2.dic gs
        have ea := asKey_kV c0 t1
        subst ea
        cases rb
        have g : DGet H l (kV k) (valV vs k) := .inl ⟨vs, k, hd, rfl, rfl⟩
        refine d_notIn (A := X.A) (by omega) I g ra fun s' I' => ⟨.bl _, H, I', rfl, ?_⟩
        rcases kfind_val k ek ts with ⟨h1, h2⟩ | ⟨d', v', h1, h2, h3⟩
        · rw [h2]
          rw [h1] at q
          exact q
        · rw [h2]
          rw [h1] at q
          exact q
end
end Vm
/-! Vm: comparisons as expressions, and, or, items, displays, built-in functions. -/
namespace Vm
open PySem L2
open PyProof.Rows hiding St
section
variable {X : Cx} {z : Z} {W : WX} {Γ : Cf} {pos : Pos}
theorem cmp_end {x : Fx} {G : Hp} {σ : St} {H : Hp} {env : EnvD} {ps : List (V × O)} {Q : VK} {o : C2} {v u : V} {d e : D} (r : Rel x G σ H env ps) (w1 : Vw x.z G H v d) (w2 : Vw x.z G H u e) (h : PostR x G σ ps W Q (ofB (opCmp o d e) env)) : rC x.z o v u H Q := by
  cases q : opCmp o d e with
  | none => rw [q] at h; exact h.elim
  | some b =>
    rw [q] at h
    have h' : PostR x G σ ps W Q (.ok (.v false (.bl b)) env) := h
    exact ⟨G, d, e, b, r.gs, w1, w2, q, h'.val r (.bl b)⟩
theorem cmp_rd {ea eb : E} {o : C2} {σ : St} {H : Hp} {Q : VK} (h : tE z W (evE Γ (.cmp o ea eb)) σ H Q) : tOp (rC z o) (tE z W (evE Γ ea)) (tE z W (evE Γ eb)) σ H Q := by
  obtain ⟨x, G, env, ps, ez, r, h⟩ := h
  subst ez
  unfold evE at h
  refine PostR.step r h fun o1 env1 v G1 H1 s1 r1 h1 => ?_
  refine PostR.step r1 h1 fun o2 env2 u G2 H2 s2 r2 h2 => ?_
  obtain ⟨d, e, G3, s3, r3, w1, w2, h3⟩ := two_views r2 h2
  exact cmp_end r3 w1 w2 h3
theorem se_cmp {a b : Expr} {ea eb : E} {o : C2} (hK : X.K = z.K) (hu : X.A.units + 64 < cLine) (hm : behindInMarks o.py b = false) (ha : PE X a (tE z W (evE Γ ea))) (hb : PE X b (tE z W (evE Γ eb))) : PE X (.Compare a [o.py] [b] pos) (tE z W (evE Γ (.cmp o ea eb))) :=
  (pe_cmpR (op_C hK hu o) ha hb hm).to fun σ H Q h => cmp_rd h
theorem st_cmp {a b : Expr} {ea eb : E} {o : C2} (hK : X.K = z.K) (hu : X.A.units + 64 < cLine) (hm : behindInMarks o.py b = false) (ha : PE X a (tE z W (evE Γ ea))) (hb : PE X b (tE z W (evE Γ eb))) : PT X (.Compare a [o.py] [b] pos) (tT z W (evE Γ (.cmp o ea eb))) :=
  (pt_cmpR (op_C hK hu o) ha hb hm).to fun σ H Q h => cmp_rd (tB_of h)
theorem isN_rd {ea : E} {neg : Bool} {σ : St} {H : Hp} {Q : VK} (h : tE z W (evE Γ (if neg then .notN ea else .isN ea)) σ H Q) : tE z W (evE Γ ea) σ H fun v H1 => Q (.bl (if neg then !decide (v = .non) else decide (v = .non))) H1 := by
  obtain ⟨x, G, env, ps, ez, r, h⟩ := h
  subst ez
  have h' : PostR x G σ ps W Q ((evE Γ ea env).bind fun y env1 => match rsD y env1 with
    | some d => match d with
      | .non => .ok (.v false (.bl !neg)) env1
      | _ => .ok (.v false (.bl neg)) env1
    | none => .bad) := by
    cases neg with
    | false =>
      rw [if_neg Bool.false_ne_true] at h
      unfold evE at h
      cases e : evE Γ ea env with
      | bad => rw [e] at h; exact h.elim
      | ex c fs env1 => rw [e] at h; exact h
      | ok o env1 =>
        rw [e] at h
        show PostR x G σ ps W Q (match rsD o env1 with
          | some d => match d with
            | .non => .ok (.v false (.bl true)) env1
            | _ => .ok (.v false (.bl false)) env1
          | none => .bad)
        have h2 : PostR x G σ ps W Q (match rsD o env1 with
          | some .non => .ok (.v false (.bl true)) env1
          | some _ => .ok (.v false (.bl false)) env1
          | none => .bad) := h
        cases c : rsD o env1 with
        | none => rw [c] at h2; exact h2
        | some d =>
          rw [c] at h2
          cases d <;> exact h2
    | true =>
      rw [if_pos rfl] at h
      unfold evE at h
      cases e : evE Γ ea env with
      | bad => rw [e] at h; exact h.elim
      | ex c fs env1 => rw [e] at h; exact h
      | ok o env1 =>
        rw [e] at h
        show PostR x G σ ps W Q (match rsD o env1 with
          | some d => match d with
            | .non => .ok (.v false (.bl false)) env1
            | _ => .ok (.v false (.bl true)) env1
          | none => .bad)
        have h2 : PostR x G σ ps W Q (match rsD o env1 with
          | some .non => .ok (.v false (.bl false)) env1
          | some _ => .ok (.v false (.bl true)) env1
          | none => .bad) := h
        cases c : rsD o env1 with
        | none => rw [c] at h2; exact h2
        | some d =>
          rw [c] at h2
          cases d <;> exact h2
  refine PostR.step r h' fun o1 env1 v G1 H1 s1 r1 h1 => ?_
  obtain ⟨d, G2, s2, r2, w, h2⟩ := one_view r1 h1
  have key : ∀ {c : Bool}, PostR x G2 σ ps W Q (.ok (.v false (.bl c)) env1) → c = (if neg then !decide (v = .non) else decide (v = .non)) → Q (.bl (if neg then !decide (v = .non) else decide (v = .non))) H1 := fun {c} h3 e => by
    rw [← e]
    exact h3.val r2 (.bl c)
  obtain ⟨n, A, t⟩ := w
  cases t with
  | non => exact key h2 (by cases neg <;> rfl)
  | _ => exact key h2 (by cases neg <;> rfl)
theorem se_isN {a : Expr} {ea : E} {j : Nat} {pos' : Pos} (ha : PE X a (tE z W (evE Γ ea))) : PE X (.Compare a [.Is] [.Constant .none j pos'] pos) (tE z W (evE Γ (.isN ea))) :=
  (pe_cmp (pc_isN ha) rfl).to fun σ H Q h => isN_rd (neg := false) h
theorem se_notN {a : Expr} {ea : E} {j : Nat} {pos' : Pos} (ha : PE X a (tE z W (evE Γ ea))) : PE X (.Compare a [.IsNot] [.Constant .none j pos'] pos) (tE z W (evE Γ (.notN ea))) :=
  (pe_cmp (pc_notN ha) rfl).to fun σ H Q h => isN_rd (neg := true) h
theorem st_isN {a : Expr} {ea : E} {j : Nat} {pos' : Pos} (ha : PE X a (tE z W (evE Γ ea))) : PT X (.Compare a [.Is] [.Constant .none j pos'] pos) (tT z W (evE Γ (.isN ea))) :=
  (pt_cmp (pc_isN ha) rfl).to fun σ H Q h => isN_rd (neg := false) (tB_of h)
theorem st_notN {a : Expr} {ea : E} {j : Nat} {pos' : Pos} (ha : PE X a (tE z W (evE Γ ea))) : PT X (.Compare a [.IsNot] [.Constant .none j pos'] pos) (tT z W (evE Γ (.notN ea))) :=
  (pt_cmp (pc_notN ha) rfl).to fun σ H Q h => isN_rd (neg := true) (tB_of h)
/-! ### chains -/
theorem chain_rd {ea eb ec : E} {o o' : C2} {σ : St} {H : Hp} {Q : VK} (h : tE z W (evE Γ (.chain o o' ea eb ec)) σ H Q) : tChain (rC z o) (rC z o') (tE z W (evE Γ ea)) (tE z W (evE Γ eb)) (tE z W (evE Γ ec)) σ H Q := by
  obtain ⟨x, G, env, ps, ez, r, h⟩ := h
  subst ez
  unfold evE at h
  refine PostR.step r h fun o1 env1 v G1 H1 s1 r1 h1 => ?_
  refine PostR.step r1 h1 fun o2 env2 u G2 H2 s2 r2 h2 => ?_
  -- both are looked at; the second one stays on the stack
  cases e1 : rsD o1 env2 with
  | none => rw [e1] at h2; exact h2.elim
  | some d =>
    cases e2 : rsD o2 env2 with
    | none => rw [e1, e2] at h2; exact h2.elim
    | some e =>
      rw [e1, e2] at h2
      dsimp only at h2
      obtain ⟨G3, s3, r3, w⟩ := Rel.viewsK (ps := ps) (qs := [(v, o1), (u, o2)]) (ds := [d, e]) (by rw [List.append_assoc] at r2; exact r2) (by
        show (match rsD o1 env2, rsAll [o2] env2 with
          | some d, some ds => some (d :: ds)
          | _, _ => none) = _
        have q2 : rsAll [o2] env2 = some [e] := by
          show (match rsD o2 env2, rsAll [] env2 with
            | some d, some ds => some (d :: ds)
            | _, _ => none) = _
          rw [e2]
          rfl
        rw [e1, q2])
      cases w with
      | cons w1 w2 =>
        cases w2 with
        | cons w2 _ =>
          cases c0 : opCmp o d e with
          | none => rw [c0] at h2; exact h2.elim
          | some b =>
            rw [c0] at h2
            refine ⟨G3, d, e, b, r3.gs, w1, w2, c0, b, rfl, ?_⟩
            have r3' : Rel x G3 σ H2 env2 (ps ++ [(v, stlO o1)] ++ [(u, stlO o2)]) := by
              rw [List.append_assoc]
              exact r3
            cases b with
            | false =>
              rw [if_neg Bool.false_ne_true]
              exact PostR.val (r3'.pop).pop (PostR.up s3 h2) (.bl false)
            | true =>
              rw [if_pos rfl]
              refine PostR.step r3' (PostR.up s3 h2) fun o3 env3 w G4 H4 s4 r4 h4 => ?_
              rw [← rsD_stl o2 env3] at h4
              obtain ⟨d', e', G5, s5, r5, w3, w4, h5⟩ := two_views (qs := ps ++ [(v, stlO o1)]) r4 h4
              exact cmp_end (Rel.pop r5) w3 w4 h5
theorem se_chain {a b c : Expr} {ea eb ec : E} {o o' : C2} (hK : X.K = z.K) (hu : X.A.units + 64 < cLine) (hm : lastMarks [o.py, o'.py] [b, c] = false) (ha : PE X a (tE z W (evE Γ ea))) (hb : PE X b (tE z W (evE Γ eb))) (hc : PE X c (tE z W (evE Γ ec))) :
    PE X (.Compare a [o.py, o'.py] [b, c] pos) (tE z W (evE Γ (.chain o o' ea eb ec))) := (pe_chain (op_C hK hu o) (op_C hK hu o') ha hb hc hm).to fun σ H Q h => chain_rd h
theorem st_chain {a b c : Expr} {ea eb ec : E} {o o' : C2} (hK : X.K = z.K) (hu : X.A.units + 64 < cLine) (hm : lastMarks [o.py, o'.py] [b, c] = false) (ha : PE X a (tE z W (evE Γ ea))) (hb : PE X b (tE z W (evE Γ eb))) (hc : PE X c (tE z W (evE Γ ec))) :
    PT X (.Compare a [o.py, o'.py] [b, c] pos) (tT z W (evE Γ (.chain o o' ea eb ec))) := (pt_chain (op_C hK hu o) (op_C hK hu o') ha hb hc hm).to fun σ H Q h => chain_rd (tB_of h)
end
end Vm
/-! Vm: and, or, items, slices, displays. -/
namespace Vm
open PySem L2
open PyProof.Rows hiding St
section
variable {X : Cx} {z : Z} {W : WX} {Γ : Cf} {pos : Pos}
theorem _root_.L2.PW.to {e : Expr} {t t' : TT} (h : PW X e t) (k : ∀ σ H Q, t' σ H Q → t σ H Q) : PW X e t' := ⟨fun wh pins s σ H Q I q => h.run wh pins s σ H Q I (k σ H Q q)⟩
theorem _root_.L2.PO.to {e : Option Expr} {t t' : L2.TO} (h : PO X e t) (k : ∀ σ H Q, t' σ H Q → t σ H Q) : PO X e t' := ⟨fun pins s σ H Q I q => h.run pins s σ H Q I (k σ H Q q)⟩
/-! ### tests: and, or -/
theorem sw_and1 {a : Expr} {ea : E} (hp : PT X a (tT z W (evE Γ ea))) : PW X (.BoolOp .And [a] pos) (tT z W (evAnd Γ (.cons ea .nil))) := by
  refine (pw_and1 hp).to fun σ H Q ⟨x, G, env, ps, ez, r, h⟩ => ?_
  subst ez
  unfold evAnd at h
  exact PostT.step r h (fun o env1 q => no_bl q) fun f b env1 G1 H1 s1 r1 h1 => PostT.bl r1 h1
theorem sw_or1 {a : Expr} {ea : E} (hp : PT X a (tT z W (evE Γ ea))) : PW X (.BoolOp .Or [a] pos) (tT z W (evOr Γ (.cons ea .nil))) := by
  refine (pw_or1 hp).to fun σ H Q ⟨x, G, env, ps, ez, r, h⟩ => ?_
  subst ez
  unfold evOr at h
  exact PostT.step r h (fun o env1 q => no_bl q) fun f b env1 G1 H1 s1 r1 h1 => PostT.bl r1 h1
theorem no_if {p q : EnvD → R} {o : O} {env : EnvD} (h : ∀ f b, o ≠ .v f (.bl b)) : (match o with
    | .v _ (.bl true) => p env
    | .v _ (.bl false) => q env
    | _ => .bad) = .bad := by
  split
  · exact absurd rfl (h _ _)
  · exact absurd rfl (h _ _)
  · rfl
theorem sw_and {a b : Expr} {l : List Expr} {ea eb : E} {es : Es} (hp : PT X a (tT z W (evE Γ ea))) (hl : PW X (.BoolOp .And (b :: l) pos) (tT z W (evAnd Γ (.cons eb es)))) : PW X (.BoolOp .And (a :: b :: l) pos) (tT z W (evAnd Γ (.cons ea (.cons eb es)))) := by
  refine (pw_and hp hl).to fun σ H Q ⟨x, G, env, ps, ez, r, h⟩ => ?_
  subst ez
  rw [evAnd] at h
  · refine PostT.step r h (fun o env1 q => no_if q) fun f c env1 G1 H1 s1 r1 h1 => ?_
    cases c with
    | true => exact ⟨x, G1, env1, ps, rfl, r1, h1⟩
    | false => exact PostT.bl r1 h1
  · exact fun h => nomatch h
theorem sw_or {a b : Expr} {l : List Expr} {ea eb : E} {es : Es} (hp : PT X a (tT z W (evE Γ ea))) (hl : PW X (.BoolOp .Or (b :: l) pos) (tT z W (evOr Γ (.cons eb es)))) : PW X (.BoolOp .Or (a :: b :: l) pos) (tT z W (evOr Γ (.cons ea (.cons eb es)))) := by
  refine (pw_or hp hl).to fun σ H Q ⟨x, G, env, ps, ez, r, h⟩ => ?_
  subst ez
  rw [evOr] at h
  · refine PostT.step r h (fun o env1 q => no_if q) fun f c env1 G1 H1 s1 r1 h1 => ?_
    cases c with
    | false => exact ⟨x, G1, env1, ps, rfl, r1, h1⟩
    | true => exact PostT.bl r1 h1
  · exact fun h => nomatch h
/-- the same as values -/
theorem one_rd {x : Fx} {G : Hp} {σ : St} {H : Hp} {env : EnvD} {ps : List (V × O)} {Q : VK} {ea : E} (r : Rel x G σ H env ps) (h : PostR x G σ ps W Q ((evE Γ ea env).bind fun y env1 => match y with
    | .v _ (.bl b) => .ok (.v false (.bl b)) env1
    | _ => .bad)) : tE x.z W (evE Γ ea) σ H Q := by
  refine PostR.step r h fun o env1 v G1 H1 s1 r1 h1 => ?_
  cases o with
  | p i => exact h1.elim
  | v f d =>
    cases d with
    | bl b =>
      have e := r1.topBl
      subst e
      exact h1.val r1.pop (.bl _)
    | _ => exact h1.elim
theorem se_and1 {a : Expr} {ea : E} (hp : PE X a (tE z W (evE Γ ea))) : PE X (.BoolOp .And [a] pos) (tE z W (evAnd Γ (.cons ea .nil))) := by
  refine (pe_one hp).to fun σ H Q ⟨x, G, env, ps, ez, r, h⟩ => ?_
  subst ez
  unfold evAnd at h
  exact one_rd r h
theorem se_or1 {a : Expr} {ea : E} (hp : PE X a (tE z W (evE Γ ea))) : PE X (.BoolOp .Or [a] pos) (tE z W (evOr Γ (.cons ea .nil))) := by
  refine (pe_one hp).to fun σ H Q ⟨x, G, env, ps, ez, r, h⟩ => ?_
  subst ez
  unfold evOr at h
  exact one_rd r h
theorem if_rd {x : Fx} {G : Hp} {σ : St} {H : Hp} {env : EnvD} {ps : List (V × O)} {Q : VK} {ea : E} {p q : EnvD → R} {t u : TE} (r : Rel x G σ H env ps) (h : PostR x G σ ps W Q ((evE Γ ea env).bind fun y env1 => match y with
    | .v _ (.bl true) => p env1
    | .v _ (.bl false) => q env1
    | _ => .bad)) (h1 : ∀ env1 G1 H1, Rel x G1 σ H1 env1 ps → PostR x G1 σ ps W Q (p env1) → t σ H1 Q) (h2 : ∀ env1 G1 H1, Rel x G1 σ H1 env1 ps → PostR x G1 σ ps W Q (q env1) → u σ H1 Q) : tE x.z W (evE Γ ea) σ H fun v H1 => ∃ c, v = .bl c ∧ if c = true then t σ H1 Q else u σ H1 Q := by
  refine PostR.step r h fun o env1 v G1 H1 s1 r1 h3 => ?_
  cases o with
  | p i => exact h3.elim
  | v f d =>
    cases d with
    | bl b =>
      have e := r1.topBl
      subst e
      cases b with
      | true => exact ⟨true, rfl, h1 env1 G1 H1 r1.pop h3⟩
      | false => exact ⟨false, rfl, h2 env1 G1 H1 r1.pop h3⟩
    | _ => exact h3.elim
theorem se_and {a b : Expr} {l : List Expr} {ea eb : E} {es : Es} (hp : PE X a (tE z W (evE Γ ea))) (hl : PE X (.BoolOp .And (b :: l) pos) (tE z W (evAnd Γ (.cons eb es)))) : PE X (.BoolOp .And (a :: b :: l) pos) (tE z W (evAnd Γ (.cons ea (.cons eb es)))) := by
  refine (pe_and hp hl).to fun σ H Q ⟨x, G, env, ps, ez, r, h⟩ => ?_
  subst ez
  rw [evAnd] at h
  · exact if_rd (t := tE x.z W (evAnd Γ (.cons eb es))) (u := fun _ H1 Q => Q (.bl false) H1) (q := fun env1 => .ok (.v false (.bl false)) env1) r h (fun env1 G1 H1 r1 h1 => ⟨x, G1, env1, ps, rfl, r1, h1⟩) fun env1 G1 H1 r1 h1 => h1.val r1 (.bl _)
  · exact fun h => nomatch h
theorem se_or {a b : Expr} {l : List Expr} {ea eb : E} {es : Es} (hp : PE X a (tE z W (evE Γ ea))) (hl : PE X (.BoolOp .Or (b :: l) pos) (tE z W (evOr Γ (.cons eb es)))) : PE X (.BoolOp .Or (a :: b :: l) pos) (tE z W (evOr Γ (.cons ea (.cons eb es)))) := by
  refine (pe_or hp hl).to fun σ H Q ⟨x, G, env, ps, ez, r, h⟩ => ?_
  subst ez
  rw [evOr] at h
  · exact if_rd (t := fun _ H1 Q => Q (.bl true) H1) (u := tE x.z W (evOr Γ (.cons eb es))) (p := fun env1 => .ok (.v false (.bl true)) env1) r h (fun env1 G1 H1 r1 h1 => h1.val r1 (.bl _)) fun env1 G1 H1 r1 h1 => ⟨x, G1, env1, ps, rfl, r1, h1⟩
  · exact fun h => nomatch h
theorem se_ite {c a b : Expr} {ec ea eb : E} (hc : PT X c (tT z W (evE Γ ec))) (ha : PE X a (tE z W (evE Γ ea))) (hb : PE X b (tE z W (evE Γ eb))) : PE X (.IfExp c a b pos) (tE z W (evE Γ (.ite ec ea eb))) := by
  refine (pe_ifExp hc ha hb).to fun σ H Q ⟨x, G, env, ps, ez, r, h⟩ => ?_
  subst ez
  unfold evE at h
  refine PostR.stepT r h (fun o env1 q => no_if q) fun f c env1 G1 H1 s1 r1 h1 => ?_
  cases c with
  | true => exact ⟨x, G1, env1, ps, rfl, r1, h1⟩
  | false => exact ⟨x, G1, env1, ps, rfl, r1, h1⟩
/-! ### items -/
def rIxK : R2 := fun a b H Q => ∃ p vs k v, a = .ref p ∧ b = kV k ∧ RdD H p vs ∧ valV vs k = some v ∧ Q v H
theorem ix_dic (hu : X.A.units + 64 < cLine) : IxR X rIxK := by
  intro value slice pins s σ H x y v u Q I rx ry h hs
  obtain ⟨p, vs, k, w, rfl, rfl, hd, hv, q⟩ := h
  cases rx
  have g : DGet H p (kV k) (some w) := .inl ⟨vs, k, hd, rfl, hv.symm⟩
  exact tail_any (dict_typeIs I g) PySem.F.slot_dict_getitem.lookup (d_getItem (by omega) I g ry fun w' s' I' rw' => ⟨w, H, I', rw', q⟩) hs
def rIdx (K : PySem.W.Frag) : R2 := fun a b H Q => rIx K a b H Q ∨ rIxK a b H Q
theorem Ts.atI {z : Z} {G H : Hp} {vs : List V} {ds : List D} {i : Int} {d : D} (h : Ts z G H vs ds []) (e : L2.atI ds i = some d) : ∃ v, L2.atI vs i = some v ∧ T z G H v d [] := by
  unfold L2.atI at e ⊢
  rw [h.length]
  cases q : ixN ds.length i with
  | none => rw [q] at e; cases e
  | some j =>
    rw [q] at e
    exact h.get j e
theorem se_idx {a b : Expr} {ea eb : E} (hK : X.K = z.K) (hu : X.A.units + 64 < cLine) (hs : PlainIx b) (ha : PE X a (tE z W (evE Γ ea))) (hb : PE X b (tE z W (evE Γ eb))) : PE X (.Subscript a b pos) (tE z W (evE Γ (.idx ea eb))) := by
  refine (pe_ix (ix_seq.or (ix_dic hu)) ha hb hs).to fun σ H Q ⟨x, G, env, ps, ez, r, h⟩ => ?_
  subst ez
  unfold evE at h
  refine PostR.step r h fun o1 env1 v G1 H1 s1 r1 h1 => ?_
  refine PostR.step r1 h1 fun o2 env2 u G2 H2 s2 r2 h2 => ?_
  obtain ⟨d, e, G3, s3, r3, w1, w2, h3⟩ := two_views (k := fun d e => match opIdx d e with
      | some r => .ok (.v false r) env2
      | none => .bad) r2 h2
  cases c : opIdx d e with
  | none => rw [c] at h3; exact h3.elim
  | some g =>
    rw [c] at h3
    unfold opIdx at c
    split at c
    · obtain ⟨p, vs, rfl, hs, ht⟩ := w1.lst r3.gs
      obtain ⟨w, e1, t1⟩ := ht.atI c
      rw [w2.int]
      exact .inl (.inl ⟨p, vs, _, w, rfl, rfl, by rw [hK]; exact hs, e1, PostR.val (d := g) r3 h3 t1⟩)
    · obtain ⟨p, vs, rfl, hs, ht⟩ := w1.tup r3.gs
      obtain ⟨w, e1, t1⟩ := ht.atI c
      rw [w2.int]
      exact .inl (.inr (.inl ⟨p, vs, _, w, rfl, rfl, by rw [hK]; exact hs, e1, PostR.val (d := g) r3 h3 t1⟩))
    · split at c
      · rename_i hz
        rw [w1.str, w2.int]
        obtain ⟨ch, e1, e2⟩ := Option.map_eq_some_iff.mp c
        subst e2
        exact .inl (.inr (.inr ⟨_, _, ch, rfl, rfl, hz, e1, PostR.val r3 h3 (.str _)⟩))
      · cases c
    · obtain ⟨p, vs, rfl, hs, hk, ht⟩ := w1.dic r3.gs
      obtain ⟨k, e1, e2⟩ := Option.bind_eq_some_iff.mp c
      rcases kfind_val k hk ht with ⟨h4, _⟩ | ⟨d', v', h4, h5, h6⟩
      · rw [h4] at e2; cases e2
      · rw [h4] at e2
        cases e2
        exact .inr ⟨p, vs, k, v', rfl, asKey_kV e1 w2.2.choose_spec, hs, h5, PostR.val r3 h3 h6⟩
    · cases c
/-! ### slices -/
def tOI (z : Z) (W : WX) (m : EnvD → Option (Option Int × EnvD)) : L2.TO := fun σ H Q => ∃ x G env ps, x.z = z ∧ Rel x G σ H env ps ∧ ∃ i env1, m env = some (i, env1) ∧ ∀ G' H', Same G G' → Rel x G' σ H' env1 ps → Q i H'
theorem so_none : PO X none (tOI z W (evO Γ .none)) := by
  refine po_none.to fun σ H Q ⟨x, G, env, ps, ez, r, i, env1, h, k⟩ => ?_
  unfold evO at h
  cases h
  exact k G H (fun _ _ e => e) r
theorem so_some {e : Expr} {ee : E} (hp : PE X e (tE z W (evE Γ ee))) : PO X (some e) (tOI z W (evO Γ (.some ee))) := by
  refine (po_some hp).to fun σ H Q ⟨x, G, env, ps, ez, r, i, env1, h, k⟩ => ?_
  subst ez
  unfold evO at h
  refine ⟨x, G, env, ps, rfl, r, ?_⟩
  cases c : evE Γ ee env with
  | bad => rw [c] at h; cases h
  | ex _ _ _ => rw [c] at h; cases h
  | ok o env2 =>
    rw [c] at h
    cases o with
    | p i => cases h
    | v f d =>
      cases d with
      | int j =>
        cases h
        exact fun v G' H' s r' => ⟨j, r'.topInt, k G' H' s r'.pop⟩
      | _ => cases h
def rSlc (K : PySem.W.Frag) : V → Option Int → Option Int → Hp → VK → Prop := fun x lo hi H Q => rSlL K x lo hi H Q ∨ rSlS x lo hi H Q
theorem se_slc {a : Expr} {lo hi : Option Expr} {ea : E} {el eh : Eo} {p2 : Pos} (hK : X.K = z.K) (ha : PE X a (tE z W (evE Γ ea))) (hl : PO X lo (tOI z W (evO Γ el))) (hh : PO X hi (tOI z W (evO Γ eh))) : PE X (.Subscript a (.Slice lo hi none p2) pos) (tE z W (evE Γ (.slc ea el eh))) := by
  refine (pe_slice (sl_list.or sl_str) ha hl hh).to fun σ H Q ⟨x, G, env, ps, ez, r, h⟩ => ?_
  subst ez
  unfold evE at h
  refine PostR.step r h fun o1 env1 v G1 H1 s1 r1 h1 => ?_
  cases c1 : evO Γ el env1 with
  | none => rw [c1] at h1; exact h1.elim
  | some q1 =>
    obtain ⟨l, env2⟩ := q1
    rw [c1] at h1
    refine ⟨x, G1, env1, _, rfl, r1, l, env2, c1, fun G2 H2 s2 r2 => ?_⟩
    have h2 := PostR.up s2 h1
    dsimp only at h2
    cases c2 : evO Γ eh env2 with
    | none => rw [c2] at h2; exact h2.elim
    | some q2 =>
      obtain ⟨u, env3⟩ := q2
      rw [c2] at h2
      refine ⟨x, G2, env2, _, rfl, r2, u, env3, c2, fun G3 H3 s3 r3 => ?_⟩
      have h3 := PostR.up s3 h2
      dsimp only at h3
      obtain ⟨d, G4, s4, r4, w, h4⟩ := one_view (k := fun d => ofOp (opSlc d l u) env3) r3 h3
      cases c : opSlc d l u with
      | none => rw [c] at h4; exact h4.elim
      | some g =>
        rw [c] at h4
        unfold opSlc at c
        split at c
        · cases c
          obtain ⟨p, vs, rfl, hs, ht⟩ := w.lst r4.gs
          refine .inl ⟨p, vs, rfl, by rw [hK]; exact hs, fun q hq => ?_⟩
          have e : ∀ {α : Type} (xs : List α), cutD xs l u = (xs.drop (HT.sIx xs.length 0 l)).take (HT.sIx xs.length xs.length u - HT.sIx xs.length 0 l) := fun _ => rfl
          refine PostR.newL r4 h4 ?_ hq
          unfold cutV cutD
          rw [ht.length]
          exact (ht.drop _).take _
        · split at c
          · cases c
            rename_i hz
            rw [w.str]
            exact .inr ⟨_, rfl, hz, PostR.val r4 h4 (.str _)⟩
          · cases c
        · cases c
/-! ### displays -/
theorem sa_nil : PA X [] (tEs z W (evEs Γ .nil)) := by
  refine pa_nil.to fun σ H Q ⟨x, G, env, ps, ez, r, h⟩ => ?_
  unfold evEs at h
  exact h [] G H rfl (fun _ _ e => e) (by simpa using r)
theorem sa_cons {e : Expr} {l : List Expr} {ee : E} {es : Es} (hs : starEach (e :: l) X.env = (false, eval e X.env) :: starEach l X.env) (hp : PE X e (tE z W (evE Γ ee))) (hl : PA X l (tEs z W (evEs Γ es))) : PA X (e :: l) (tEs z W (evEs Γ (.cons ee es))) := by
  refine (pa_cons hp hl hs).to fun σ H Q ⟨x, G, env, ps, ez, r, h⟩ => ?_
  subst ez
  unfold evEs at h
  refine ⟨x, G, env, ps, rfl, r, ?_⟩
  cases c1 : evE Γ ee env with
  | bad => rw [c1] at h; exact h.elim
  | ex _ _ _ => rw [c1] at h; exact h
  | ok o env1 =>
    rw [c1] at h
    refine fun v G1 H1 s1 r1 => ⟨x, G1, env1, _, rfl, r1, ?_⟩
    dsimp only at h
    cases c2 : evEs Γ es env1 with
    | bad => rw [c2] at h; exact h.elim
    | ex _ _ _ =>
      rw [c2] at h
      exact fun cls dd G2 H2 s2 r2 e => h cls dd G2 H2 (Same.tr s1 s2) r2 e
    | ok os env2 =>
      rw [c2] at h
      exact fun vs G2 H2 l s2 r2 => h (v :: vs) G2 H2 (by simp [l]) (Same.tr s1 s2) (by simpa using r2)
/-- data off the stack -/
theorem TPs.un {z : Z} {G H : Hp} {σ : St} : ∀ {vs : List V} {os : List O} {C : List Addr} {ds : List (Bool × D)}, vs.length = os.length → TPs z G H σ (vs.zip os) C → unOs os = some ds → Ts z G H vs (ds.map (·.2)) C ∧ ((ds.any (·.1)) = false → C = [])
  | [], [], _, ds, _, h, e => by
    cases h
    cases e
    exact ⟨.nil, fun _ => rfl⟩
  | v :: vs, o :: os, C, ds, l, h, e => by
    have e' : (match unO o, unOs os with
      | some d, some ds => some (d :: ds)
      | _, _ => none) = some ds := e
    cases h with
    | cons h t =>
      cases h with
      | p h => cases e'
      | @v f d A h f1 =>
        cases c : unOs os with
        | none =>
          rw [c] at e'
          cases e'
        | some ds' =>
          rw [c] at e'
          cases e'
          obtain ⟨t1, k⟩ := TPs.un (by simpa using l) t c
          refine ⟨.cons h t1, fun q => ?_⟩
          simp only [List.any_cons, Bool.or_eq_false_iff] at q
          rw [f1 q.1, k q.2]
          rfl
  | [], o :: os, _, _, l, _, _ => by simp at l
  | v :: vs, [], _, _, l, _, _ => by simp at l
theorem se_lst {l : List Expr} {es : Es} (hp : PA X l (tEs z W (evEs Γ es))) : PE X (.List l pos) (tE z W (evE Γ (.lst es))) := by
  refine (pe_lst hp).to fun σ H Q ⟨x, G, env, ps, ez, r, h⟩ => ?_
  subst ez
  unfold evE at h
  refine PostRs.step r h fun os env1 vs G1 H1 hl s1 r1 h1 => ?_
  cases c : unOs os with
  | none => rw [c] at h1; exact h1.elim
  | some ds =>
    rw [c] at h1
    dsimp only at h1
    split at h1
    · rename_i hz
      have hl2 : vs.length = ds.length := by
        obtain ⟨A, C, t, s, n, ou⟩ := r1.ex
        obtain ⟨C1, C2, s1, s2, rfl⟩ := s.split
        have q := (s2.un hl c).1.length
        simpa using q
      refine ⟨by rw [hl2]; exact hz, fun p hp => ?_⟩
      refine h1 _ G1 _ (fun _ _ e => e) (Rel.alloc r1 hp fun C2 c2 => ?_)
      obtain ⟨t, _⟩ := c2.un hl c
      refine .lstF upd_same (t.mono (fun _ _ e => e) (keep_alloc t.there hp))
    · exact h1.elim
theorem se_tup {l : List Expr} {es : Es} {x1} (hp : PA X l (tEs z W (evEs Γ es))) : PE X (.Tuple l x1 pos) (tE z W (evE Γ (.tup es))) := by
  refine (pe_tup hp).to fun σ H Q ⟨x, G, env, ps, ez, r, h⟩ => ?_
  subst ez
  unfold evE at h
  refine PostRs.step r h fun os env1 vs G1 H1 hl s1 r1 h1 => ?_
  cases c : unOs os with
  | none => rw [c] at h1; exact h1.elim
  | some ds =>
    rw [c] at h1
    dsimp only at h1
    split at h1
    · rename_i hz
      have hl2 : vs.length = ds.length := by
        obtain ⟨A, C, t, s, n, ou⟩ := r1.ex
        obtain ⟨C1, C2, s1, s2, rfl⟩ := s.split
        have q := (s2.un hl c).1.length
        simpa using q
      refine ⟨by rw [hl2]; exact hz, fun p hp => ?_⟩
      obtain ⟨sg, r2⟩ := Rel.allocT (d := .tup (ds.map (·.2))) (f := ds.any (·.1)) (vs := vs) r1 hp fun C2 c2 => by
        obtain ⟨t, k⟩ := c2.un hl c
        have sg : Same G1 (upd G1 p (.tup vs)) := Same.alloc (fun _ _ e => e) (r1.gs.free hp)
        exact ⟨.tup (.inl (.inl upd_same)) (t.mono sg (keep_alloc t.there hp)), k⟩
      exact h1 _ _ _ sg r2
    · exact h1.elim
theorem se_neg {a : Expr} {ea : E} (ha : PE X a (tE z W (evE Γ ea))) : PE X (.UnaryOp .USub a pos) (tE z W (evE Γ (.neg ea))) := by
  refine (pe_un un_neg ha).to fun σ H Q ⟨x, G, env, ps, ez, r, h⟩ => ?_
  subst ez
  unfold evE at h
  refine PostR.step r h fun o1 env1 v G1 H1 s1 r1 h1 => ?_
  have h1' : PostR x G1 σ ps W Q (match rsD o1 env1 with
    | some d => match d with
      | .int i => .ok (.v false (.int (-i))) env1
      | _ => .bad
    | none => .bad) := by
    cases c : rsD o1 env1 with
    | none => rw [c] at h1; exact h1.elim
    | some d =>
      rw [c] at h1
      cases d with
      | int i => exact h1
      | _ => exact h1.elim
  obtain ⟨d, G2, s2, r2, w, h2⟩ := one_view r1 h1'
  cases d with
  | int i =>
    rw [w.int]
    exact ⟨i, rfl, h2.val r2 (.int _)⟩
  | _ => exact h2.elim
end
end Vm
/-! Vm: dicts and their data. -/
namespace Vm
open PySem L2
open PyProof.Rows hiding St
section
variable {z : Z} {G H : Hp}
theorem Ts.setV {v : V} {d : D} (hv : T z G H v d []) : ∀ {us : List V} {xs : List D} {B : List Addr} (j : Nat), Ts z G H us xs B → ∃ B' R, Ts z G H (us.set j v) (xs.set j d) B' ∧ B.Perm (B' ++ R)
  | _, _, _, j, .nil => ⟨[], [], by simpa using Ts.nil, by simp⟩
  | _, _, _, 0, .cons (A := A) (B := B) h t => ⟨[] ++ B, A, .cons hv t, List.perm_append_comm⟩
  | _, _, _, j + 1, .cons (A := A) (B := B) h t => by
    obtain ⟨B', R, t', p⟩ := Ts.setV hv j t
    exact ⟨A ++ B', R, .cons h t', by rw [List.append_assoc]; exact p.append_left A⟩
theorem Ts.replK {k : Key} {v : V} {d : D} (hv : T z G H v d []) : ∀ {vs : List (Key × V)} {ds : List (Key × D)} {B : List Addr}, vs.map (·.1) = ds.map (·.1) → Ts z G H (vs.map (·.2)) (ds.map (·.2)) B →
    (vs.map fun p => if p.1 = k then (p.1, v) else p).map (·.1) = (ds.map fun p => if p.1 = k then (p.1, d) else p).map (·.1) ∧
    ∃ B' R, Ts z G H ((vs.map fun p => if p.1 = k then (p.1, v) else p).map (·.2)) ((ds.map fun p => if p.1 = k then (p.1, d) else p).map (·.2)) B' ∧ B.Perm (B' ++ R)
  | [], [], _, _, t => by
    cases t
    exact ⟨rfl, [], [], .nil, by simp⟩
  | (a, w) :: vs, (b, e) :: ds, B, hk, t => by
    simp only [List.map_cons, List.cons.injEq] at hk
    obtain ⟨rfl, hk⟩ := hk
    cases (show Ts z G H (w :: vs.map (·.2)) (e :: ds.map (·.2)) B from t) with
    | cons h1 t2 =>
      rename_i B1 B2
      obtain ⟨i1, B', R, i2, p⟩ := Ts.replK (k := k) hv hk t2
      by_cases q : a = k
      · simp only [List.map_cons, if_pos q]
        refine ⟨by rw [i1], [] ++ B', B1 ++ R, .cons hv i2, ?_⟩
        · refine (p.append_left B1).trans ?_
          rw [List.nil_append, ← List.append_assoc, ← List.append_assoc]
          exact List.perm_append_comm.append_right R
      · simp only [List.map_cons, if_neg q]
        refine ⟨by rw [i1], B1 ++ B', R, .cons h1 i2, ?_⟩
        rw [List.append_assoc]
        exact p.append_left B1
  | [], _ :: _, _, e, _ => by simp at e
  | _ :: _, [], _, e, _ => by simp at e
theorem any_keys {k : Key} : ∀ {vs : List (Key × V)} {ds : List (Key × D)}, vs.map (·.1) = ds.map (·.1) → (vs.any fun p => decide (p.1 = k)) = (ds.any fun p => decide (p.1 = k))
  | [], [], _ => rfl
  | (a, w) :: vs, (b, e) :: ds, hk => by
    simp only [List.map_cons, List.cons.injEq] at hk
    obtain ⟨rfl, hk⟩ := hk
    simp only [List.any_cons, any_keys hk]
  | [], _ :: _, e => by simp at e
  | _ :: _, [], e => by simp at e
theorem Ts.kput {k : Key} {v : V} {d : D} (hv : T z G H v d []) {vs : List (Key × V)} {ds : List (Key × D)} {B : List Addr} (hk : vs.map (·.1) = ds.map (·.1)) (t : Ts z G H (vs.map (·.2)) (ds.map (·.2)) B) :
    (putK vs k v).map (·.1) = (Vm.kput ds k d).map (·.1) ∧ ∃ B' R, Ts z G H ((putK vs k v).map (·.2)) ((Vm.kput ds k d).map (·.2)) B' ∧ B.Perm (B' ++ R) := by
  unfold putK Vm.kput
  rw [any_keys hk]
  by_cases h : (ds.any fun p => decide (p.1 = k)) = true
  · rw [if_pos h, if_pos h]
    exact Ts.replK hv hk t
  · rw [if_neg h, if_neg h]
    refine ⟨by rw [List.map_append, List.map_append, hk]; rfl, B ++ ([] ++ []), [], ?_, by simp⟩
    rw [List.map_append, List.map_append]
    exact t.append (.cons hv .nil)
theorem asKey_kVT {kd : D} {k : Key} {u : V} {A : List Addr} (h : T z G H u kd A) (e : asKey kd = some k) : u = kV k := by
  cases kd <;> first | (cases e; done) | skip
  · cases e
    cases h
    rfl
  · cases e
    cases h
    rfl
end
section
variable {z : Z} {G H : Hp}
theorem Ts.kputs {qs : List (Key × V)} {ps : List (Key × D)} (hk : qs.map (·.1) = ps.map (·.1)) (t : Ts z G H (qs.map (·.2)) (ps.map (·.2)) []) : ∀ {vs : List (Key × V)} {ds : List (Key × D)}, vs.map (·.1) = ds.map (·.1) → Ts z G H (vs.map (·.2)) (ds.map (·.2)) [] →
    (qs.foldl (fun acc kv => putK acc kv.1 kv.2) vs).map (·.1) = (ps.foldl (fun acc p => Vm.kput acc p.1 p.2) ds).map (·.1) ∧ Ts z G H ((qs.foldl (fun acc kv => putK acc kv.1 kv.2) vs).map (·.2)) ((ps.foldl (fun acc p => Vm.kput acc p.1 p.2) ds).map (·.2)) [] := by
  induction qs generalizing ps with
  | nil =>
    intro vs ds e1 e2
    cases ps with
    | nil => exact ⟨e1, e2⟩
    | cons p ps => simp at hk
  | cons q qs ih =>
    intro vs ds e1 e2
    cases ps with
    | nil => simp at hk
    | cons p ps =>
      obtain ⟨k, v⟩ := q
      obtain ⟨k2, d⟩ := p
      simp only [List.map_cons, List.cons.injEq] at hk
      obtain ⟨rfl, hk⟩ := hk
      obtain ⟨t1, t2⟩ := (show Ts z G H (v :: qs.map (·.2)) (d :: ps.map (·.2)) [] from t).nil_inv
      obtain ⟨f1, B', R, f2, pm⟩ := Ts.kput (k := k) t1 e1 e2
      have eb : B' = [] := by
        have := pm.length_eq
        simp at this
        exact List.length_eq_zero_iff.mp (by omega)
      subst eb
      exact ih hk t2 f1 f2
/-- pairs on the heap -/
theorem pairs_at {G0 : Hp} (g : GS G H) : ∀ {vs : List V} {xs : List D} {ps : List (Key × D)}, Ts z G H vs xs [] → pairsOf xs = some ps →
    ∃ (as : List Addr) (kvs : List (Key × V)), vs = as.map V.ref ∧ Paired (fun p kv => SqT z.K H p [kV kv.1, kv.2]) as kvs ∧ kvs.map (·.1) = ps.map (·.1) ∧ Ts z G H (kvs.map (·.2)) (ps.map (·.2)) []
  | [], [], ps, _, e => by
    cases e
    exact ⟨[], [], rfl, .nil, rfl, .nil⟩
  | v :: vs, x :: xs, ps, t, e => by
    obtain ⟨t1, t2⟩ := t.nil_inv
    cases x with
    | tup l =>
      cases l with
      | nil => cases e
      | cons k l =>
        cases l with
        | nil => cases e
        | cons d l =>
          cases l with
          | cons _ _ => cases e
          | nil =>
            have e' : (match asKey k, pairsOf xs with
              | some k, some ps => some ((k, d) :: ps)
              | _, _ => none) = some ps := e
            cases c1 : asKey k with
            | none => rw [c1] at e'; cases e'
            | some q =>
              cases c2 : pairsOf xs with
              | none => rw [c1, c2] at e'; cases e'
              | some qs =>
                rw [c1, c2] at e'
                cases e'
                obtain ⟨as, kvs, rfl, h1, h2, h3⟩ := pairs_at (G0 := G0) g t2 c2
                generalize hA : ([] : List Addr) = A at t1
                cases t1 with
                | @tup a us _ _ hs ht =>
                  subst hA
                  cases us with
                  | nil => cases ht
                  | cons u1 us =>
                    obtain ⟨f1, f2⟩ := ht.nil_inv
                    cases us with
                    | nil => cases f2
                    | cons u2 us =>
                      obtain ⟨f3, f4⟩ := f2.nil_inv
                      cases us with
                      | cons _ _ => cases f4
                      | nil =>
                        have ek : u1 = kV q := asKey_kVT f1 c1
                        subst ek
                        exact ⟨a :: as, (q, u2) :: kvs, rfl, .cons (g.sqT hs) h1, by simp [h2], .con f3 h3⟩
    | _ => cases e
  | [], _ :: _, _, h, _ => by have := h.length; simp at this
  | _ :: _, [], _, h, _ => by have := h.length; simp at this
theorem keys_T : ∀ {vs : List (Key × V)} {ds : List (Key × D)}, vs.map (·.1) = ds.map (·.1) → Ts z G H (vs.map fun p => kV p.1) (ds.map fun p => keyD p.1) []
  | [], [], _ => .nil
  | (a, w) :: vs, (b, e) :: ds, hk => by
    simp only [List.map_cons, List.cons.injEq] at hk
    obtain ⟨rfl, hk⟩ := hk
    refine .con ?_ (keys_T hk)
    cases a with
    | inl i => exact .int i
    | inr s => exact .str s
  | [], _ :: _, e => by simp at e
  | _ :: _, [], e => by simp at e
end
end Vm
/-! Vm: built-in functions, join, isinstance. -/
namespace Vm
open PySem L2
open PyProof.Rows hiding St
def BF.py : BF → Str
  | .len => "len" | .max2 => "max" | .min2 => "min" | .int1 => "int" | .str1 => "str" | .list1 => "list" | .sum1 => "sum" | .sorted1 => "sorted" | .max1 => "max" | .min1 => "min" | .dict1 => "dict"
def BF.val : BF → Value
  | .len => .builtin "len" | .max2 => .builtin "max" | .min2 => .builtin "min" | .int1 => .type "int" | .str1 => .type "str" | .list1 => .type "list" | .sum1 => .builtin "sum" | .sorted1 => .builtin "sorted" | .max1 => .builtin "max" | .min1 => .builtin "min" | .dict1 => .type "dict"
theorem BF.boot (b : BF) : bootBuiltins b.py = some b.val := by cases b <;> decide +kernel
theorem BF.ne (b : BF) : b.py ≠ "__name__" ∧ (b.py == ("__debug__" : Str)) = false := by cases b <;> decide +kernel
/-- an argument list without a star -/
def noStar : Expr → Bool
  | .Starred _ _ => false
  | _ => true
theorem star_of {e : Expr} {l : List Expr} {env : Env} (h : noStar e = true) : starEach (e :: l) env = (false, eval e env) :: starEach l env := by
  cases e <;> first | rfl | cases h
theorem stars_of {env : Env} {pos : Pos} : ∀ {l : List Expr}, l.all noStar = true → (backTo pos (starEach l env)).any (·.1) = false
  | [], _ => rfl
  | e :: l, h => by
    simp only [List.all_cons, Bool.and_eq_true] at h
    rw [star_of h.1]
    have q := stars_of (env := env) (pos := pos) h.2
    unfold backTo at q ⊢
    rw [List.map_cons, List.any_cons, q]
    rfl
section
variable {x : Fx} {G G' : Hp} {σ : St} {H H' : Hp} {env : EnvD} {ps qs : List (V × O)} {W : WX} {Q : VK}
theorem zip_fst : ∀ {vs : List V} {os : List O}, vs.length = os.length → (vs.zip os).map (·.1) = vs
  | [], [], _ => rfl
  | v :: vs, o :: os, h => by rw [List.zip_cons_cons, List.map_cons, zip_fst (by simpa using h)]
  | [], _ :: _, h => by simp at h
  | _ :: _, [], h => by simp at h
theorem zip_snd : ∀ {vs : List V} {os : List O}, vs.length = os.length → (vs.zip os).map (·.2) = os
  | [], [], _ => rfl
  | v :: vs, o :: os, h => by rw [List.zip_cons_cons, List.map_cons, zip_snd (by simpa using h)]
  | [], _ :: _, h => by simp at h
  | _ :: _, [], h => by simp at h
theorem all_views {vs : List V} {os : List O} {k : List D → R} (l : vs.length = os.length) (r : Rel x G σ H env (qs ++ vs.zip os)) (h : PostR x G σ ps W Q (match rsAll os env with
    | some ds => k ds
    | none => .bad)) : ∃ ds G', Same G G' ∧ Rel x G' σ H env qs ∧ Vws x.z G' H vs ds ∧ PostR x G' σ ps W Q (k ds) := by
  cases e : rsAll os env with
  | none => rw [e] at h; exact h.elim
  | some ds =>
    rw [e] at h
    obtain ⟨G1, s1, r1, w⟩ := Rel.views (qs := vs.zip os) (ds := ds) r (by rw [zip_snd l]; exact e)
    rw [zip_fst l] at w
    exact ⟨ds, G1, s1, r1, w, PostR.up s1 h⟩
theorem Vws.one {z : Z} {vs : List V} {d : D} (h : Vws z G H vs [d]) : ∃ v, vs = [v] ∧ Vw z G H v d := by
  cases h with
  | cons h t => cases t; exact ⟨_, rfl, h⟩
theorem Vws.two {z : Z} {vs : List V} {d e : D} (h : Vws z G H vs [d, e]) : ∃ v u, vs = [v, u] ∧ Vw z G H v d ∧ Vw z G H u e := by
  cases h with
  | cons h t =>
    cases t with
    | cons h' t => cases t; exact ⟨_, _, rfl, h, h'⟩
theorem ints_of {z : Z} : ∀ {vs : List V} {ds : List D} {ns : List Int}, Ts z G H vs ds [] → intsOf ds = some ns → vs = ns.map V.int
  | [], [], ns, _, e => by cases e; rfl
  | v :: vs, d :: ds, ns, h, e => by
    obtain ⟨h1, h2⟩ := h.nil_inv
    cases d with
    | int i =>
      have e' : (intsOf ds).map (i :: ·) = some ns := e
      obtain ⟨ms, e1, e2⟩ := Option.map_eq_some_iff.mp e'
      subst e2
      cases h1
      rw [ints_of h2 e1]
      rfl
    | _ => cases e
  | [], _ :: _, _, h, _ => by have := h.length; simp at this
  | _ :: _, [], _, h, _ => by have := h.length; simp at this
theorem strs_of {z : Z} : ∀ {vs : List V} {ds : List D} {ns : List Str}, Ts z G H vs ds [] → strsOf ds = some ns → vs = ns.map V.str
  | [], [], ns, _, e => by cases e; rfl
  | v :: vs, d :: ds, ns, h, e => by
    obtain ⟨h1, h2⟩ := h.nil_inv
    cases d with
    | str i =>
      have e' : (strsOf ds).map (i :: ·) = some ns := e
      obtain ⟨ms, e1, e2⟩ := Option.map_eq_some_iff.mp e'
      subst e2
      cases h1
      rw [strs_of h2 e1]
      rfl
    | _ => cases e
  | [], _ :: _, _, h, _ => by have := h.length; simp at this
  | _ :: _, [], _, h, _ => by have := h.length; simp at this
end
section
variable {X : Cx} {z : Z} {W : WX} {Γ : Cf} {pos : Pos}
/-- a new dict of settled things -/
theorem PostR.newD {x : Fx} {G : Hp} {σ : St} {H : Hp} {env : EnvD} {ps : List (V × O)} {Q : VK} {vs : List (Key × V)} {ds : List (Key × D)} {p : Addr} (r : Rel x G σ H env ps) (h : PostR x G σ ps W Q (.ok (.v true (.dic true ds)) env)) (hk : vs.map (·.1) = ds.map (·.1)) (t : Ts x.z G H (vs.map (·.2)) (ds.map (·.2)) []) (hp : H p = none) :
    Q (.ref p) (upd H p (.dK vs)) := by
  rw [← List.append_nil ps] at r
  refine h _ G _ (fun _ _ e => e) (Rel.alloc r hp fun C2 c2 => ?_)
  cases c2
  exact .dicF upd_same hk (t.mono (fun _ _ e => e) fun a m => by cases m)
/-- a built-in function, by its data -/
def rBF (z : Z) (W : WX) (b : BF) : List V → Hp → VK → Prop := fun vs H Q => ∃ x G σ env ps ds, x.z = z ∧ Rel x G σ H env ps ∧ Vws z G H vs ds ∧ PostR x G σ ps W Q (ofOp (opBF b ds) env)
theorem CallR.to {f : Value} {r r' : List V → Hp → VK → Prop} (h : CallR X f r) (k : ∀ vs H Q, r' vs H Q → r vs H Q) : CallR X f r' := fun pins s σ H xs us Q I rs q => h pins s σ H xs us Q I rs (k xs H Q q)
theorem call_lenD' : CallR X (.builtin "len") (fun xs H Q => ∃ a kvs, xs = [V.ref a] ∧ RdD H a kvs ∧ Q (.int kvs.length) H) := by
  intro pins s σ H xs us Q I r h
  obtain ⟨a, kvs, rfl, ha, q⟩ := h
  obtain ⟨u, rfl, ru⟩ := vals1 r
  cases ru
  exact d_len I ha fun t s' I' => ⟨.int kvs.length, H, I', ⟨t, rfl⟩, q⟩
theorem bf_call (hK : X.K = z.K) (hc : X.calm = true) (b : BF) : CallR X b.val (rBF z W b) := by
  have none : ∀ {x : Fx} {G : Hp} {σ : St} {env : EnvD} {ps : List (V × O)} {Q : VK}, PostR x G σ ps W Q (ofOp none env) → False := fun h => h
  have val : ∀ {x : Fx} {G : Hp} {σ : St} {H : Hp} {env : EnvD} {ps : List (V × O)} {Q : VK} {v : V} {d : D}, Rel x G σ H env ps → PostR x G σ ps W Q (ofOp (some d) env) → T x.z G H v d [] → Q v H := fun r h t => PostR.val (f := true) r h t
  cases b with
  | len =>
    refine CallR.to (call_len.or call_lenD') fun vs H Q ⟨x, G, σ, env, ps, ds, ez, r, w, h⟩ => ?_
    subst ez
    unfold opBF at h
    split at h <;> try first | exact (none h).elim | contradiction
    · rename_i _ f xs heq
      obtain ⟨v, rfl, w1⟩ := w.one
      obtain ⟨a, us, rfl, hs, ht⟩ := w1.lst r.gs
      exact .inl ⟨.ref a, us.length, rfl, .inl ⟨us, by rw [hK]; exact hs, rfl⟩, by rw [ht.length]; exact val r h (.int _)⟩
    · obtain ⟨v, rfl, w1⟩ := w.one
      obtain ⟨a, us, rfl, hs, ht⟩ := w1.tup r.gs
      exact .inl ⟨.ref a, us.length, rfl, .inr ⟨us, by rw [hK]; exact hs, rfl⟩, by rw [ht.length]; exact val r h (.int _)⟩
    · split at h
      · rename_i hz
        obtain ⟨v, rfl, w1⟩ := w.one
        rw [w1.str]
        exact .inl ⟨.str _, _, rfl, ⟨hz, rfl⟩, val r h (.int _)⟩
      · exact (none h).elim
    · obtain ⟨v, rfl, w1⟩ := w.one
      obtain ⟨a, us, rfl, hs, hk, ht⟩ := w1.dic r.gs
      have hl := congrArg List.length hk
      rw [List.length_map, List.length_map] at hl
      exact .inr ⟨a, us, rfl, hs, by rw [hl]; exact val r h (.int _)⟩
  | max2 =>
    refine CallR.to (call_max2 hc) fun vs H Q ⟨x, G, σ, env, ps, ds, ez, r, w, h⟩ => ?_
    subst ez
    unfold opBF at h
    split at h <;> try first | exact (none h).elim | contradiction
    obtain ⟨v, u, rfl, w1, w2⟩ := w.two
    rw [w1.int, w2.int]
    exact ⟨_, _, rfl, val r h (.int _)⟩
  | min2 =>
    refine CallR.to (call_min2 hc) fun vs H Q ⟨x, G, σ, env, ps, ds, ez, r, w, h⟩ => ?_
    subst ez
    unfold opBF at h
    split at h <;> try first | exact (none h).elim | contradiction
    obtain ⟨v, u, rfl, w1, w2⟩ := w.two
    rw [w1.int, w2.int]
    exact ⟨_, _, rfl, val r h (.int _)⟩
  | int1 =>
    refine CallR.to call_int1 fun vs H Q ⟨x, G, σ, env, ps, ds, ez, r, w, h⟩ => ?_
    subst ez
    unfold opBF at h
    split at h <;> try first | exact (none h).elim | contradiction
    · obtain ⟨v, rfl, w1⟩ := w.one
      rw [w1.int]
      exact .inl ⟨_, rfl, val r h (.int _)⟩
    · obtain ⟨v, rfl, w1⟩ := w.one
      rw [w1.bl]
      exact .inr ⟨_, rfl, val r h (.int _)⟩
  | str1 =>
    refine CallR.to call_str_int fun vs H Q ⟨x, G, σ, env, ps, ds, ez, r, w, h⟩ => ?_
    subst ez
    unfold opBF at h
    split at h <;> try first | exact (none h).elim | contradiction
    split at h <;> try first | exact (none h).elim | contradiction
    rename_i hz
    obtain ⟨v, rfl, w1⟩ := w.one
    rw [w1.int]
    exact ⟨_, rfl, hz, val r h (.str _)⟩
  | list1 =>
    refine CallR.to (call_list_of.or (call_listD hc)) fun vs H Q ⟨x, G, σ, env, ps, ds, ez, r, w, h⟩ => ?_
    subst ez
    unfold opBF at h
    split at h <;> try first | exact (none h).elim | contradiction
    · obtain ⟨v, rfl, w1⟩ := w.one
      obtain ⟨a, us, rfl, hs, ht⟩ := w1.lst r.gs
      exact .inl ⟨a, us, rfl, .inl (by rw [hK]; exact hs), fun p hp => PostR.newL r h ht hp⟩
    · obtain ⟨v, rfl, w1⟩ := w.one
      obtain ⟨a, us, rfl, hs, ht⟩ := w1.tup r.gs
      exact .inl ⟨a, us, rfl, .inr (by rw [hK]; exact hs), fun p hp => PostR.newL r h ht hp⟩
    · obtain ⟨v, rfl, w1⟩ := w.one
      obtain ⟨a, us, rfl, hs, hk, ht⟩ := w1.dic r.gs
      exact .inr ⟨a, us, rfl, hs, fun p hp => PostR.newL r h (keys_T hk) hp⟩
  | sum1 =>
    refine CallR.to (cr_sum hc) fun vs H Q ⟨x, G, σ, env, ps, ds, ez, r, w, h⟩ => ?_
    subst ez
    unfold opBF at h
    split at h <;> try first | exact (none h).elim | contradiction
    rename_i xs _
    obtain ⟨v, rfl, w1⟩ := w.one
    obtain ⟨a, us, rfl, hs, ht⟩ := w1.lst r.gs
    cases c : intsOf xs with
    | none => rw [c] at h; exact h.elim
    | some ns =>
      rw [c] at h
      have e := ints_of ht c
      subst e
      exact ⟨a, ns, rfl, by rw [hK]; exact hs, val r h (.int _)⟩
  | max1 =>
    refine CallR.to (cr_max hc) fun vs H Q ⟨x, G, σ, env, ps, ds, ez, r, w, h⟩ => ?_
    subst ez
    unfold opBF at h
    split at h <;> try first | exact (none h).elim | contradiction
    rename_i xs _
    obtain ⟨v, rfl, w1⟩ := w.one
    obtain ⟨a, us, rfl, hs, ht⟩ := w1.lst r.gs
    cases c : intsOf xs with
    | none => rw [c] at h; exact h.elim
    | some ns =>
      rw [c] at h
      dsimp only [Option.bind] at h
      have e := ints_of ht c
      subst e
      cases c2 : ns.max? with
      | none => rw [c2] at h; exact h.elim
      | some m =>
        rw [c2] at h
        obtain ⟨m1, m2⟩ := List.max?_eq_some_iff.mp c2
        refine ⟨a, ns, rfl, by rw [hK]; exact hs, List.length_pos_iff.mpr (fun e => by rw [e] at m1; cases m1), fun m' n1 n2 => ?_⟩
        have e : m' = m := Int.le_antisymm (m2 m' n1) (n2 m m1)
        subst e
        exact val r h (.int _)
  | min1 =>
    refine CallR.to (cr_min hc) fun vs H Q ⟨x, G, σ, env, ps, ds, ez, r, w, h⟩ => ?_
    subst ez
    unfold opBF at h
    split at h <;> try first | exact (none h).elim | contradiction
    rename_i xs _
    obtain ⟨v, rfl, w1⟩ := w.one
    obtain ⟨a, us, rfl, hs, ht⟩ := w1.lst r.gs
    cases c : intsOf xs with
    | none => rw [c] at h; exact h.elim
    | some ns =>
      rw [c] at h
      dsimp only [Option.bind] at h
      have e := ints_of ht c
      subst e
      cases c2 : ns.min? with
      | none => rw [c2] at h; exact h.elim
      | some m =>
        rw [c2] at h
        obtain ⟨m1, m2⟩ := List.min?_eq_some_iff.mp c2
        refine ⟨a, ns, rfl, by rw [hK]; exact hs, List.length_pos_iff.mpr (fun e => by rw [e] at m1; cases m1), fun m' n1 n2 => ?_⟩
        have e : m' = m := Int.le_antisymm (n2 m m1) (m2 m' n1)
        subst e
        exact val r h (.int _)
  | dict1 =>
    refine CallR.to (call_dictD.or (call_dictP hc)) fun vs H Q ⟨x, G, σ, env, ps, ds, ez, r, w, h⟩ => ?_
    subst ez
    unfold opBF at h
    split at h <;> try first | exact (none h).elim | contradiction
    · obtain ⟨v, rfl, w1⟩ := w.one
      obtain ⟨a, us, rfl, hs, hk, ht⟩ := w1.dic r.gs
      exact .inl ⟨a, us, rfl, hs, fun p hp => PostR.newD r h hk ht hp⟩
    · rename_i xs _
      obtain ⟨v, rfl, w1⟩ := w.one
      obtain ⟨a, us, rfl, hs, ht⟩ := w1.lst r.gs
      cases c : pairsOf xs with
      | none => rw [c] at h; exact h.elim
      | some ps =>
        rw [c] at h
        obtain ⟨as, kvs, rfl, h1, h2, h3⟩ := pairs_at (G0 := G) r.gs ht c
        obtain ⟨f1, f2⟩ := Ts.kputs h2 h3 (vs := []) (ds := []) rfl .nil
        exact .inr ⟨a, as, kvs, rfl, by rw [hK]; exact hs, by rw [hK]; exact h1, fun p hp => PostR.newD r h f1 f2 hp⟩
  | sorted1 =>
    intro pins s σ H xs us Q I rs ⟨x, G, σ, env, ps, ds, ez, r, w, h⟩
    unfold opBF at h
    split at h <;> first | contradiction | exact (none h).elim
theorem se_bcall {b : BF} {e : Expr} {l : List Expr} {es : Es} {p : Pos} (hK : X.K = z.K) (hc : X.calm = true) (hg : Gl X b.py) (hm : X.mg b.py = none) (hs : (e :: l).all noStar = true) (ha : PA X (e :: l) (tEs z W (evEs Γ es))) :
    PE X (.Call (.Name b.py p) (e :: l) [] pos) (tE z W (evE Γ (.bcall b es))) := by
  have hs' : noStar e = true ∧ l.all noStar = true := by simpa using hs
  have key : ∀ σ H Q, tE z W (evE Γ (.bcall b es)) σ H Q → tCB (rBF z W b) (tEs z W (evEs Γ es)) σ H Q := by
    intro σ H Q ⟨x, G, env, ps, ez, r, h⟩
    subst ez
    unfold evE at h
    refine PostRs.step r h fun os env1 vs G1 H1 hl s1 r1 h1 => ?_
    obtain ⟨ds, G2, s2, r2, w, h2⟩ := all_views hl r1 h1
    exact ⟨x, G2, σ, env1, ps, ds, rfl, r2, w, h2⟩
  have hv := b.boot
  obtain ⟨n1, n2⟩ := b.ne
  have hb := bf_call (X := X) (z := z) (W := W) hK hc b
  cases b with
  | len | max2 | min2 | sum1 | sorted1 | max1 | min1 => exact (pe_callB hb hg hm hv ha n1 n2 (star_of hs'.1) (stars_of hs'.2)).to key
  | int1 | str1 | list1 | dict1 => exact (pe_callTy hb hg hm hv ha n1 n2 (star_of hs'.1) (stars_of hs'.2)).to key
/-! ### join -/
theorem se_join {o e : Expr} {eo ee : E} {apos : Pos} (hK : X.K = z.K) (hb : attributeBase o "join" X.env (eval o X.env) = eval o X.env) (hl : (apos.endLine == pos.line) = true) (hs : noStar e = true) (ho : PE X o (tE z W (evE Γ eo))) (he : PE X e (tE z W (evE Γ ee))) :
    PE X (.Call (.Attribute o "join" apos) [e] [] pos) (tE z W (evE Γ (.bmeth .join eo (.cons ee .nil)))) := by
  refine (pe_join ho he (star_of hs) hb hl).to fun σ H Q ⟨x, G, env, ps, ez, r, h⟩ => ?_
  subst ez
  unfold evE at h
  refine PostR.step r h fun o1 env1 v G1 H1 s1 r1 h1 => ?_
  cases c1 : rsD o1 env1 with
  | none => rw [c1] at h1; exact h1.elim
  | some d0 =>
    rw [c1] at h1
    dsimp only at h1
    obtain ⟨G2, s2, r2, w⟩ := Rel.viewsK (ps := ps) (qs := [(v, o1)]) (ds := [d0]) r1 (by
      show (match rsD o1 env1, rsAll [] env1 with
        | some d, some ds => some (d :: ds)
        | _, _ => none) = _
      rw [c1]
      rfl)
    obtain ⟨_, ew, w⟩ := w.one
    cases ew
    cases d0 with
    | str a =>
      rw [if_pos (show bmOk .join (.str a) = true from rfl)] at h1
      have ev := w.str
      refine ⟨⟨a, ev⟩, ?_⟩
      unfold evEs at h1
      refine ⟨x, G2, env1, _, rfl, r2, ?_⟩
      have h2 := PostR.up s2 h1
      cases c2 : evE Γ ee env1 with
      | bad => rw [c2] at h2; exact h2.elim
      | ex _ _ _ => rw [c2] at h2; exact h2
      | ok o2 env2 =>
        rw [c2] at h2
        refine fun u G3 H3 s3 r3 => ?_
        have h3 := PostR.up s3 h2
        unfold evEs at h3
        have h4 : PostR x G3 σ ps W Q (match rsAll [stlO o1, o2] env2 with
          | some ds => ofOp (opBM .join ds) env2
          | none => .bad) := by
          have e : rsAll [stlO o1, o2] env2 = rsAll [o1, o2] env2 := by
            show (match rsD (stlO o1) env2, rsAll [o2] env2 with
              | some d, some ds => some (d :: ds)
              | _, _ => none) = _
            rw [rsD_stl]
            rfl
          rw [e]
          exact h3
        obtain ⟨ds, G4, s4, r4, w4, h5⟩ := all_views (qs := ps) (vs := [v, u]) (os := [stlO o1, o2]) rfl (by rw [List.append_assoc] at r3; exact r3) h4
        unfold opBM at h5
        split at h5 <;> try first | exact h5.elim | contradiction
        · obtain ⟨_, _, e, w5, w6⟩ := w4.two
          cases e
          obtain ⟨p, us, rfl, hs, ht⟩ := w6.lst r4.gs
          rename_i xs _
          cases c : strsOf xs with
          | none => rw [c] at h5; exact h5.elim
          | some ys =>
            rw [c] at h5
            have e2 := strs_of ht c
            subst e2
            dsimp only [Option.bind] at h5
            split at h5
            · rename_i hz
              exact ⟨_, p, ys, w5.str, rfl, .inl (by rw [hK]; exact hs), hz, PostR.val (f := true) r4 h5 (.str _)⟩
            · exact h5.elim
    | _ => exact h1.elim
/-! ### isinstance -/
def Ty.nm : Ty → String
  | .int => "int" | .bool => "bool" | .str => "str" | .list => "list" | .tuple => "tuple" | .dict => "dict"
def Ty.py : Ty → Str
  | .int => "int" | .bool => "bool" | .str => "str" | .list => "list" | .tuple => "tuple" | .dict => "dict"
theorem Ty.boot (t : Ty) : bootBuiltins t.py = some (.type t.nm) := by cases t <;> decide +kernel
theorem Ty.ne (b : Ty) : b.py ≠ "__name__" ∧ (b.py == ("__debug__" : Str)) = false := by cases b <;> decide +kernel
theorem isi_boot : bootBuiltins "isinstance" = some (.builtin "isinstance") := by decide +kernel
def dTy : D → Option String
  | .non => some "NoneType" | .bl _ => some "bool" | .int _ => some "int" | .str _ => some "str" | .lst _ _ => some "list" | .tup _ => some "tuple" | .dic _ _ => some "dict"
  | _ => none
theorem Vw.ty {z : Z} {G H : Hp} {v : V} {d : D} {n : String} (g : GS G H) (h : Vw z G H v d) (e : dTy d = some n) : TyX z.K H v (.type n) := by
  cases d with
  | non => cases e; rw [h.non]; exact .base .non
  | bl b => cases e; rw [h.bl]; exact .base (.bl b)
  | int b => cases e; rw [h.int]; exact .base (.int b)
  | str b => cases e; rw [h.str]; exact .base (.str b)
  | lst f xs =>
    cases e
    obtain ⟨a, vs, rfl, hs, _⟩ := h.lst g
    rcases hs with (hs | ⟨o, hs⟩) | ⟨o, _, _, hs, hc, _⟩
    · exact .base (.lst hs)
    · exact .base (.frz hs)
    · exact .kList hs hc
  | tup xs =>
    cases e
    obtain ⟨a, vs, rfl, hs, _⟩ := h.tup g
    rcases hs with (hs | ⟨o, hs⟩) | ⟨o, _, _, hs, hc, _⟩
    · exact .base (.tup hs)
    · exact .fTuple hs
    · exact .kTuple hs hc
  | dic f xs =>
    cases e
    obtain ⟨a, vs, rfl, hs, _⟩ := h.dic g
    rcases hs with hs | ⟨o, hs⟩
    · exact .base (.dK hs)
    · exact .fDict hs
  | ins f c fs => cases e
  | gl x => cases e
theorem kit_dTy {K : PySem.W.Frag} (t : Ty) {d : D} {n : String} {b : Bool} (e : dTy d = some n) (h : isTy t d = some b) : PySem.W.kitOne K (.type n) (.type t.nm) = some b := by
  refine kit_ty ?_
  cases d with
  | ins f c fs => cases e
  | gl x => cases e
  | non => cases e; cases t <;> cases h <;> decide +kernel
  | bl _ => cases e; cases t <;> cases h <;> decide +kernel
  | int _ => cases e; cases t <;> cases h <;> decide +kernel
  | str _ => cases e; cases t <;> cases h <;> decide +kernel
  | lst _ _ => cases e; cases t <;> cases h <;> decide +kernel
  | tup _ => cases e; cases t <;> cases h <;> decide +kernel
  | dic _ _ => cases e; cases t <;> cases h <;> decide +kernel
theorem se_isi {t : Ty} {a : Expr} {ea : E} {p p2 : Pos} (hK : X.K = z.K) (hg : Gl X "isinstance") (hm : X.mg "isinstance" = none) (hg2 : Gl X t.py) (hm2 : X.mg t.py = none) (hs : noStar a = true) (ha : PE X a (tE z W (evE Γ ea))) :
    PE X (.Call (.Name "isinstance" p) [a, .Name t.py p2] [] pos) (tE z W (evE Γ (.isi t ea))) := by
  obtain ⟨n1, n2⟩ := t.ne
  refine (pe_callB call_isi hg hm isi_boot (pa_cons ha (pa_cons (pe_bltn (v := .ty t.nm) hg2 hm2 t.boot rfl n1 n2) pa_nil rfl) (star_of hs)) (by decide) (by decide) (star_of hs) (stars_of rfl)).to fun σ H Q ⟨x, G, env, ps, ez, r, h⟩ => ?_
  subst ez
  unfold evE at h
  refine PostR.step r h fun o1 env1 v G1 H1 s1 r1 h1 => ?_
  obtain ⟨d, G2, s2, r2, w, h2⟩ := one_view (k := fun d => ofB (isTy t d) env1) r1 h1
  cases c : isTy t d with
  | none => rw [c] at h2; exact h2.elim
  | some b =>
    rw [c] at h2
    have hd : ∃ n, dTy d = some n := by
      cases d with
      | ins _ _ _ => cases t <;> cases c
      | gl _ => cases t <;> cases c
      | _ => exact ⟨_, rfl⟩
    obtain ⟨n, hn⟩ := hd
    exact ⟨v, .ty t.nm, .type n, .type t.nm, b, rfl, .ty _, by rw [hK]; exact w.ty r2.gs hn, kit_dTy t hn c, PostR.val (f := false) r2 h2 (.bl b)⟩
end
end Vm
/-! Vm: methods of lists and dicts that change nothing; is True, is False. -/
namespace Vm
open PySem L2
open PyProof.Rows hiding St
section
variable {X : Cx} {z : Z} {W : WX} {Γ : Cf} {pos : Pos}
theorem tEs_cons {ee : E} {es : Es} {σ : St} {H : Hp} {Q : List V → Hp → Prop} (h : tEs z W (evEs Γ (.cons ee es)) σ H Q) : tE z W (evE Γ ee) σ H fun v H1 => tEs z W (evEs Γ es) σ H1 fun vs H2 => Q (v :: vs) H2 := by
  obtain ⟨x, G, env, ps, ez, r, h⟩ := h
  subst ez
  unfold evEs at h
  refine ⟨x, G, env, ps, rfl, r, ?_⟩
  cases c1 : evE Γ ee env with
  | bad => rw [c1] at h; exact h.elim
  | ex _ _ _ => rw [c1] at h; exact h
  | ok o env1 =>
    rw [c1] at h
    refine fun v G1 H1 s1 r1 => ⟨x, G1, env1, _, rfl, r1, ?_⟩
    dsimp only at h
    cases c2 : evEs Γ es env1 with
    | bad => rw [c2] at h; exact h.elim
    | ex _ _ _ =>
      rw [c2] at h
      exact fun cls dd G2 H2 s2 r2 e => h cls dd G2 H2 (Same.tr s1 s2) r2 e
    | ok os env2 =>
      rw [c2] at h
      exact fun vs G2 H2 l s2 r2 => h (v :: vs) G2 H2 (by simp [l]) (Same.tr s1 s2) (by simpa using r2)
theorem tEs_nil {σ : St} {H : Hp} {Q : List V → Hp → Prop} (h : tEs z W (evEs Γ .nil) σ H Q) : Q [] H := by
  obtain ⟨x, G, env, ps, ez, r, h⟩ := h
  unfold evEs at h
  exact h [] G H rfl (fun _ _ e => e) (by simpa using r)
theorem tE.imp {m : EnvD → R} {σ : St} {H : Hp} {Q Q' : VK} (h : tE z W m σ H Q) (k : ∀ v H, Q v H → Q' v H) : tE z W m σ H Q' := by
  obtain ⟨x, G, env, ps, ez, r, h⟩ := h
  refine ⟨x, G, env, ps, ez, r, ?_⟩
  cases c : m env with
  | bad => rw [c] at h; exact h
  | ex _ _ _ => rw [c] at h; exact h
  | ok o env1 =>
    rw [c] at h
    exact fun v G1 H1 s1 r1 => k v H1 (h v G1 H1 s1 r1)
theorem tEs.imp {m : EnvD → Rs} {σ : St} {H : Hp} {Q Q' : List V → Hp → Prop} (h : tEs z W m σ H Q) (k : ∀ v H, Q v H → Q' v H) : tEs z W m σ H Q' := by
  obtain ⟨x, G, env, ps, ez, r, h⟩ := h
  refine ⟨x, G, env, ps, ez, r, ?_⟩
  cases c : m env with
  | bad => rw [c] at h; exact h
  | ex _ _ _ => rw [c] at h; exact h
  | ok o env1 =>
    rw [c] at h
    exact fun v G1 H1 l s1 r1 => k v H1 (h v G1 H1 l s1 r1)
/-- a method's rule: receiver and arguments looked at -/
def rBM (z : Z) (W : WX) (b : BM) : V → List V → Hp → VK → Prop := fun v vs H Q => ∃ x G σ env ps ds, x.z = z ∧ Rel x G σ H env ps ∧ Vws z G H (v :: vs) ds ∧ PostR x G σ ps W Q (ofOp (opBM b ds) env)
theorem bm_rd {b : BM} {eo : E} {es : Es} {σ : St} {H : Hp} {Q : VK} (h : tE z W (evE Γ (.bmeth b eo es)) σ H Q) :
    tE z W (evE Γ eo) σ H fun v H1 => (∃ G d, GS G H1 ∧ Vw z G H1 v d ∧ bmOk b d = true) ∧ tEs z W (evEs Γ es) σ H1 fun vs H2 => rBM z W b v vs H2 Q := by
  obtain ⟨x, G, env, ps, ez, r, h⟩ := h
  subst ez
  unfold evE at h
  refine PostR.step r h fun o1 env1 v G1 H1 s1 r1 h1 => ?_
  cases c1 : rsD o1 env1 with
  | none => rw [c1] at h1; exact h1.elim
  | some d0 =>
    rw [c1] at h1
    dsimp only at h1
    obtain ⟨G2, s2, r2, w⟩ := Rel.viewsK (ps := ps) (qs := [(v, o1)]) (ds := [d0]) r1 (by
      show (match rsD o1 env1, rsAll [] env1 with
        | some d, some ds => some (d :: ds)
        | _, _ => none) = _
      rw [c1]
      rfl)
    obtain ⟨_, ew, w⟩ := w.one
    cases ew
    split at h1
    · rename_i hb
      refine ⟨⟨G2, d0, r2.gs, w, hb⟩, ?_⟩
      have h2 := PostR.up s2 h1
      refine PostRs.step r2 h2 fun os env2 vs G3 H3 hl s3 r3 h3 => ?_
      have h4 : PostR x G3 σ ps W Q (match rsAll (stlO o1 :: os) env2 with
          | some ds => ofOp (opBM b ds) env2
          | none => .bad) := by
        have e : rsAll (stlO o1 :: os) env2 = rsAll (o1 :: os) env2 := by
          show (match rsD (stlO o1) env2, rsAll os env2 with
            | some d, some ds => some (d :: ds)
            | _, _ => none) = _
          rw [rsD_stl]
          rfl
        rw [e]
        exact h3
      obtain ⟨ds, G4, s4, r4, w4, h5⟩ := all_views (qs := ps) (vs := v :: vs) (os := stlO o1 :: os) (by simp [hl]) (by rw [List.append_assoc] at r3; exact r3) h4
      exact ⟨x, G4, σ, env2, ps, ds, rfl, r4, w4, h5⟩
    · exact h1.elim
theorem flatV_of {G H : Hp} {v : V} {d : D} {A : List Addr} (h : T z G H v d A) (e : isFlat d = true) : flatV v = true := by
  cases h <;> first | rfl | cases e
theorem feqV2 {G H : Hp} {v u : V} {d e : D} {A B : List Addr} (h1 : T z G H v d A) (h2 : T z G H u e B) (f1 : isFlat d = true) (f2 : isFlat e = true) : eqV v u = feq d e := by
  cases h1 <;> first | (cases f1; done) | (cases h2 <;> first | (cases f2; done) | rfl)
theorem flats_of {G H : Hp} : ∀ {vs : List V} {ds : List D}, Ts z G H vs ds [] → ds.all isFlat = true → vs.all flatV = true
  | [], [], _, _ => rfl
  | v :: vs, d :: ds, t, h => by
    obtain ⟨t1, t2⟩ := t.nil_inv
    rw [List.all_cons, Bool.and_eq_true] at h
    rw [List.all_cons, flatV_of t1 h.1, flats_of t2 h.2]
    rfl
  | [], _ :: _, h, _ => by have := h.length; simp at this
  | _ :: _, [], h, _ => by have := h.length; simp at this
theorem dfind_at {G H : Hp} {u : V} {e : D} {B : List Addr} (h2 : T z G H u e B) (f2 : isFlat e = true) : ∀ {vs : List V} {ds : List D} {k j : Nat}, Ts z G H vs ds [] → ds.all isFlat = true → dfind e ds k = some j →
    ∃ i w, j = k + i ∧ vs[i]? = some w ∧ eqV w u = true ∧ ∀ (m : Nat) (z' : V), m < i → vs[m]? = some z' → eqV z' u = false
  | [], [], k, j, _, _, h => by cases h
  | v :: vs, d :: ds, k, j, t, f, h => by
    obtain ⟨t1, t2⟩ := t.nil_inv
    rw [List.all_cons, Bool.and_eq_true] at f
    have eq := feqV2 t1 h2 f.1 f2
    have h' : (if feq d e then some k else dfind e ds (k + 1)) = some j := h
    by_cases c : feq d e = true
    · rw [if_pos c] at h'
      cases h'
      exact ⟨0, v, rfl, rfl, by rw [eq]; exact c, fun m _ lt => absurd lt (Nat.not_lt_zero _)⟩
    · rw [if_neg c] at h'
      obtain ⟨i, w, e1, e2, e3, e4⟩ := dfind_at h2 f2 t2 f.2 h'
      refine ⟨i + 1, w, by omega, by simpa using e2, e3, fun m z' lt ez => ?_⟩
      cases m with
      | zero =>
        simp at ez
        subst ez
        rw [eq]
        simpa using c
      | succ m => exact e4 m z' (by omega) (by simpa using ez)
  | [], _ :: _, _, _, h, _, _ => by have := h.length; simp at this
  | _ :: _, [], _, _, h, _, _ => by have := h.length; simp at this
theorem count_at {G H : Hp} {u : V} {e : D} {B : List Addr} (h2 : T z G H u e B) (f2 : isFlat e = true) : ∀ {vs : List V} {ds : List D}, Ts z G H vs ds [] → ds.all isFlat = true → vs.countP (fun w => eqV w u) = ds.countP fun y => feq y e
  | [], [], _, _ => rfl
  | v :: vs, d :: ds, t, f => by
    obtain ⟨t1, t2⟩ := t.nil_inv
    rw [List.all_cons, Bool.and_eq_true] at f
    rw [List.countP_cons, List.countP_cons, feqV2 t1 h2 f.1 f2, count_at h2 f2 t2 f.2]
  | [], _ :: _, h, _ => by have := h.length; simp at this
  | _ :: _, [], h, _ => by have := h.length; simp at this
/-! ### the kit's rules for flat items -/
def rCntF (K : PySem.W.Frag) : V → List V → Hp → VK → Prop := fun x xs H Q => ∃ (p : Addr) (ys : List V) (k : V), x = .ref p ∧ xs = [k] ∧ SqL K H p ys ∧ flatV k = true ∧ ys.all flatV = true ∧ Q (.int (ys.countP fun w => eqV w k : Nat)) H
theorem eqU_count {y : V} : ∀ {xs : List V} {us : List Value}, Vals xs us → xs.all flatV = true → us.countP (eqU y) = xs.countP fun w => eqV w y
  | _, _, .nil, _ => rfl
  | _, _, .cons r t, f => by
    rw [List.all_cons, Bool.and_eq_true] at f
    rw [List.countP_cons, List.countP_cons, eqU_of r f.1, eqU_count t f.2]
theorem mt_count : MtR X "list.count" (rCntF X.K) := by
  intro pins s σ H x xs v us Q I rx rxs h
  obtain ⟨p, ys, k, rfl, rfl, hs, fk, fy, q⟩ := h
  cases rx
  obtain ⟨u, rfl, ru⟩ := rxs.one
  obtain ⟨its, rv, ⟨⟨cls, dd, data, sl⟩, n, ho, hc, hdn, hd⟩, hlen⟩ := I.list hs
  simp only at hc hd
  subst hc hd
  refine call_meets PySem.F.slot_list_count ⟨_, ho, rfl⟩ PySem.F.entry_list_count (PySem.F.args_list_count_2 _ _)
    (SeqAt.list_countAt p its.toArray n dd sl u (eqU k)) ⟨ho, fun y hy => mem_eqAt ru fk rv fy y (by simpa using hy), ?_⟩
  have ec : its.toArray.toList.countP (eqU k) = ys.countP fun w => eqV w k := eqU_count rv fy
  refine ⟨.int (ys.countP fun w => eqV w k : Nat), H, I.tok _, ⟨s.toks, ?_⟩, q⟩
  show Value.int ((its.toArray.toList.countP (eqU k) : Nat) : Int) s.toks = _
  rw [ec]
def rRemF : V → List V → Hp → VK → Prop := fun x xs H Q => ∃ (l : Addr) (ys : List V) (k : V) (j : Nat) (w : V), x = .ref l ∧ xs = [k] ∧ H l = some (.lst ys) ∧ flatV k = true ∧ ys.all flatV = true ∧ ys[j]? = some w ∧ eqV w k = true ∧
  (∀ (m : Nat) (z' : V), m < j → ys[m]? = some z' → eqV z' k = false) ∧ Q .non (upd H l (.lst (ys.eraseIdx j)))
theorem mt_removeF : MtR X "list.remove" rRemF := by
  intro pins s σ H x xs v us Q I rx rxs h
  obtain ⟨l, ys, k, j, w, rfl, rfl, hH, fk, fy, hw, hwk, hno, q⟩ := h
  cases rx
  obtain ⟨u, rfl, ru⟩ := rxs.one
  obtain ⟨z, its, n, r, hl, e⟩ := I.lstM hH
  obtain ⟨u2, hu, ru2⟩ := r.get hw
  obtain ⟨hjl, hje⟩ := List.getElem?_eq_some_iff.mp hu
  have hj : j < its.toArray.size := by simpa using hjl
  refine call_meets PySem.F.slot_list_remove ⟨_, e, rfl⟩ PySem.F.entry_list_remove (PySem.F.args_list_remove_2 _ _)
    (SeqAt.list_removeAt l its.toArray n none #[] u (eqU k) j hj ?_ ?_ (by rw [List.size_toArray]; omega)) ⟨e, fun u' hu' => mem_eqAt ru fk r fy u' (by simpa using hu'), ?_⟩
  · have e1 : its.toArray[j] = u2 := by simpa using hje
    rw [e1, eqU_of ru2 (flat_at fy hw)]
    exact hwk
  · intro m hm hmj
    have hml : m < its.length := by simpa using hm
    have hmy : m < ys.length := by omega
    have hy' : ys[m]? = some ys[m] := List.getElem?_eq_getElem hmy
    obtain ⟨u3, hu3, ru3⟩ := r.get hy'
    obtain ⟨_, hme⟩ := List.getElem?_eq_some_iff.mp hu3
    have e1 : its.toArray[m] = u3 := by simpa using hme
    rw [e1, eqU_of ru3 (flat_at fy hy')]
    exact hno m _ hmj hy'
  · refine ⟨.non, _, I.lset (its' := its.eraseIdx j) (t' := s.toks) hH e ?_ (r.eraseIdx j) ?_, rfl, q⟩
    · show its.toArray.eraseIdxIfInBounds j = (its.eraseIdx j).toArray
      rw [List.eraseIdxIfInBounds_toArray]
    · have := List.length_eraseIdx_le ys j
      omega
/-! ### index, count -/
theorem se_index {o e : Expr} {l : List Expr} {eo : E} {es : Es} {apos : Pos} (hK : X.K = z.K) (hb : attributeBase o "index" X.env (eval o X.env) = eval o X.env) (hl : (apos.endLine == pos.line) = true) (hs : (e :: l).all noStar = true)
    (hfew : ((backTo pos (starEach (e :: l) X.env)).all (fun x => !x.1) && (backToKw pos (keywordEach [] X.env)).all (fun x => x.1.isSome) && decide ((e :: l).length + ([] : List Keyword).length + (if ([] : List Keyword).isEmpty then 0 else 1) < 30)) = true)
    (ho : PE X o (tE z W (evE Γ eo))) (ha : PA X (e :: l) (tEs z W (evEs Γ es))) : PE X (.Call (.Attribute o "index" apos) (e :: l) [] pos) (tE z W (evE Γ (.bmeth .index eo es))) := by
  simp only [List.all_cons, Bool.and_eq_true] at hs
  refine (pe_bm PySem.F.plainAttrs_list PySem.F.slot_list_index PySem.F.type_list_index mt_index ho ha hb hfew hl (star_of hs.1) (stars_of hs.2)).to fun σ H Q h => (bm_rd h).imp fun v H1 ⟨⟨G, d, g, w, hd⟩, h1⟩ => ⟨?_, h1.imp fun vs H2 h2 => ?_⟩
  · cases d with
    | lst f xs =>
      obtain ⟨a, us, rfl, hs, _⟩ := w.lst g
      exact .inl ⟨rfl, us, by rw [hK]; exact hs⟩
    | _ => cases hd
  · obtain ⟨x, G2, σ2, env2, ps2, ds, ez, r2, w2, h3⟩ := h2
    subst ez
    unfold opBM at h3
    split at h3 <;> try first | exact h3.elim | contradiction
    obtain ⟨_, u, e1, w3, w4⟩ := w2.two
    cases e1
    obtain ⟨p, us, rfl, hs, ht⟩ := w3.lst r2.gs
    split at h3
    · rename_i hf
      rw [Bool.and_eq_true] at hf
      rename_i xs y _ _
      cases c : dfind y xs 0 with
      | none => rw [c] at h3; exact h3.elim
      | some j =>
        rw [c] at h3
        obtain ⟨A, ty⟩ := w4.2
        obtain ⟨i, w0, e1, e2, e3, e4⟩ := dfind_at ty hf.1 ht hf.2 c
        rw [Nat.zero_add] at e1
        subst e1
        exact ⟨p, us, u, _, w0, rfl, rfl, by rw [hK]; exact hs, flatV_of ty hf.1, flats_of ht hf.2, e2, e3, e4, PostR.val (f := true) r2 h3 (.int _)⟩
    · exact h3.elim
theorem se_count {o e : Expr} {l : List Expr} {eo : E} {es : Es} {apos : Pos} (hK : X.K = z.K) (hb : attributeBase o "count" X.env (eval o X.env) = eval o X.env) (hl : (apos.endLine == pos.line) = true) (hs : (e :: l).all noStar = true)
    (hfew : ((backTo pos (starEach (e :: l) X.env)).all (fun x => !x.1) && (backToKw pos (keywordEach [] X.env)).all (fun x => x.1.isSome) && decide ((e :: l).length + ([] : List Keyword).length + (if ([] : List Keyword).isEmpty then 0 else 1) < 30)) = true)
    (ho : PE X o (tE z W (evE Γ eo))) (ha : PA X (e :: l) (tEs z W (evEs Γ es))) : PE X (.Call (.Attribute o "count" apos) (e :: l) [] pos) (tE z W (evE Γ (.bmeth .count eo es))) := by
  simp only [List.all_cons, Bool.and_eq_true] at hs
  refine (pe_bm PySem.F.plainAttrs_list PySem.F.slot_list_count PySem.F.type_list_count mt_count ho ha hb hfew hl (star_of hs.1) (stars_of hs.2)).to fun σ H Q h => (bm_rd h).imp fun v H1 ⟨⟨G, d, g, w, hd⟩, h1⟩ => ⟨?_, h1.imp fun vs H2 h2 => ?_⟩
  · cases d with
    | lst f xs =>
      obtain ⟨a, us, rfl, hs, _⟩ := w.lst g
      exact .inl ⟨rfl, us, by rw [hK]; exact hs⟩
    | _ => cases hd
  · obtain ⟨x, G2, σ2, env2, ps2, ds, ez, r2, w2, h3⟩ := h2
    subst ez
    unfold opBM at h3
    split at h3 <;> try first | exact h3.elim | contradiction
    obtain ⟨_, u, e1, w3, w4⟩ := w2.two
    cases e1
    obtain ⟨p, us, rfl, hs, ht⟩ := w3.lst r2.gs
    split at h3
    · rename_i hf
      rw [Bool.and_eq_true] at hf
      obtain ⟨A, ty⟩ := w4.2
      refine ⟨p, us, u, rfl, rfl, by rw [hK]; exact hs, flatV_of ty hf.1, flats_of ht hf.2, ?_⟩
      rw [count_at ty hf.1 ht hf.2]
      exact PostR.val (f := true) r2 h3 (.int _)
    · exact h3.elim
/-! ### get -/
theorem m2_of {o e f : Expr} {m : Str} {apos : Pos} (hb : attributeBase o m X.env (eval o X.env) = eval o X.env) (hl : (apos.endLine == pos.line) = true) (h1 : noStar e = true) (h2 : noStar f = true) : M2 X o m apos e f pos := by
  have q : starEach [e, f] X.env = [(false, eval e X.env), (false, eval f X.env)] := by
    rw [star_of h1, star_of h2]
    rfl
  exact ⟨hb, by rw [q]; rfl, hl, by rw [q]; rfl⟩
theorem nf_nilA {G H : Hp} {v : V} {d : D} {A : List Addr} (h : T z G H v d A) (e : nf d = true) : T z G H v d [] := by
  have := h.nf_nil e
  subst this
  exact h
theorem se_get2 {o e f : Expr} {eo ee ef : E} {apos : Pos} (hu : X.A.units + 64 < cLine) (hb : attributeBase o "get" X.env (eval o X.env) = eval o X.env) (hl : (apos.endLine == pos.line) = true) (h1 : noStar e = true) (h2 : noStar f = true)
    (ho : PE X o (tE z W (evE Γ eo))) (he : PE X e (tE z W (evE Γ ee))) (hf : PE X f (tE z W (evE Γ ef))) : PE X (.Call (.Attribute o "get" apos) [e, f] [] pos) (tE z W (evE Γ (.bmeth .get2 eo (.cons ee (.cons ef .nil))))) := by
  refine (pe_dget2 (by omega) ho he hf (m2_of hb hl h1 h2)).to fun σ H Q h => (bm_rd h).imp fun v H1 ⟨⟨G, d, g, w, hd⟩, h1⟩ => ?_
  cases d with
  | dic f0 kvs0 =>
    obtain ⟨a, us, rfl, hs, _⟩ := w.dic g
    refine ⟨a, rfl, .inl ⟨us, hs⟩, (tEs_cons h1).imp fun y H2 h2 => (tEs_cons h2).imp fun u H3 h3 => ?_⟩
    obtain ⟨x, G2, σ2, env2, ps2, ds, ez, r2, w2, h6⟩ := tEs_nil h3
    subst ez
    unfold opBM at h6
    split at h6 <;> try first | exact h6.elim | contradiction
    cases w2 with
    | cons w3 w2 =>
      obtain ⟨_, _, e1, w4, w5⟩ := w2.two
      cases e1
      obtain ⟨a2, us2, e2, hs2, hk2, ht2⟩ := w3.dic r2.gs
      cases e2
      split at h6
      · rename_i hn
        rename_i _ kd d0 _
        cases c : asKey kd with
        | none => rw [c] at h6; exact h6.elim
        | some k =>
          rw [c] at h6
          have h4 : PostR x G2 σ2 ps2 W Q (.ok (.v true ((kfind _ k).getD d0)) env2) := h6
          have ey := asKey_kVT w4.2.choose_spec c
          subst ey
          rcases kfind_val k hk2 ht2 with ⟨e3, e4⟩ | ⟨d', v', e3, e4, e5⟩
          · refine ⟨none, .inl ⟨us2, k, hs2, rfl, e4.symm⟩, ?_⟩
            rw [e3] at h4
            exact PostR.val (f := true) r2 h4 (nf_nilA w5.2.choose_spec hn)
          · refine ⟨some v', .inl ⟨us2, k, hs2, rfl, e4.symm⟩, ?_⟩
            rw [e3] at h4
            exact PostR.val (f := true) r2 h4 e5
      · exact h6.elim
  | _ => cases hd
/-! ### is True, is False -/
theorem isB_rd {n b : Bool} {ea : E} {σ : St} {H : Hp} {Q : VK} (h : tE z W (evE Γ (if n then .notB ea b else .isB ea b)) σ H Q) : tOp (if n then rNotB else rIsB) (tE z W (evE Γ ea)) (tC (.bl b)) σ H Q := by
  obtain ⟨x, G, env, ps, ez, r, h⟩ := h
  subst ez
  cases n with
  | false =>
    rw [if_neg Bool.false_ne_true] at h ⊢
    unfold evE at h
    refine PostR.step r h fun o1 env1 v G1 H1 s1 r1 h1 => ?_
    cases o1 with
    | p i => exact h1.elim
    | v f d =>
      cases d with
      | bl c =>
        have ev := r1.topBl
        subst ev
        refine ⟨c, b, rfl, rfl, ?_⟩
        have e : decide (c = b) = (c == b) := by cases c <;> cases b <;> rfl
        rw [e]
        exact PostR.val (f := false) r1.pop h1 (.bl _)
      | _ => exact h1.elim
  | true =>
    rw [if_pos rfl] at h ⊢
    unfold evE at h
    refine PostR.step r h fun o1 env1 v G1 H1 s1 r1 h1 => ?_
    cases o1 with
    | p i => exact h1.elim
    | v f d =>
      cases d with
      | bl c =>
        have ev := r1.topBl
        subst ev
        refine ⟨c, b, rfl, rfl, ?_⟩
        have e : (!decide (c = b)) = (!(c == b)) := by cases c <;> cases b <;> rfl
        rw [e]
        exact PostR.val (f := false) r1.pop h1 (.bl _)
      | _ => exact h1.elim
theorem se_isB {a : Expr} {ea : E} {b : Bool} {j} {p' : Pos} (ha : PE X a (tE z W (evE Γ ea))) : PE X (.Compare a [.Is] [.Constant (.bool b) j p'] pos) (tE z W (evE Γ (.isB ea b))) :=
  (pe_cmpR op_isBl ha pe_bl rfl).to fun σ H Q h => isB_rd (n := false) h
theorem se_notB {a : Expr} {ea : E} {b : Bool} {j} {p' : Pos} (ha : PE X a (tE z W (evE Γ ea))) : PE X (.Compare a [.IsNot] [.Constant (.bool b) j p'] pos) (tE z W (evE Γ (.notB ea b))) :=
  (pe_cmpR op_notBl ha pe_bl rfl).to fun σ H Q h => isB_rd (n := true) h
theorem st_isB {a : Expr} {ea : E} {b : Bool} {j} {p' : Pos} (ha : PE X a (tE z W (evE Γ ea))) : PT X (.Compare a [.Is] [.Constant (.bool b) j p'] pos) (tT z W (evE Γ (.isB ea b))) :=
  (pt_cmpR op_isBl ha pe_bl rfl).to fun σ H Q h => isB_rd (n := false) (tB_of h)
theorem st_notB {a : Expr} {ea : E} {b : Bool} {j} {p' : Pos} (ha : PE X a (tE z W (evE Γ ea))) : PT X (.Compare a [.IsNot] [.Constant (.bool b) j p'] pos) (tT z W (evE Γ (.notB ea b))) :=
  (pt_cmpR op_notBl ha pe_bl rfl).to fun σ H Q h => isB_rd (n := true) (tB_of h)
end
end Vm
/-! Vm: list(d.items()), list(d.values()). -/
namespace LiV
open PySem PySem.Spec PyProof.Rows L2
section
variable {X : Cx} {e : Expr} {te : TE} {p apos cpos pos : Pos}
def tLI (te : TE) : TE := fun σ H Q => te σ H fun x H1 => ∃ (d : Addr) (kvs : List (Key × V)), x = .ref d ∧ Rd H1 d (.dK kvs) ∧
  ∀ (H' : Hp) (p : Addr) (ts : List Addr), (∀ b o, H1 b = some o → H' b = some o) → H1 p = none → (∀ t ∈ ts, H1 t = none) → p ∉ ts → H' p = some (.lst (ts.map V.ref)) → Paired (fun (t : Addr) (q : Key × V) => H' t = some (.tup [kV q.1, q.2])) ts kvs → Q (.ref p) H'
theorem pe_li (hc : X.calm = true) (he : PE X e te) (hg : Gl X "list") (hm : X.mg "list" = none) (hbase : attributeBase e "items" X.env (eval e X.env) = eval e X.env) (hline : (apos.endLine == cpos.line) = true) :
    PE X (.Call (.Name "list" p) [.Call (.Attribute e "items" apos) [] [] cpos] [] pos) (tLI te) := by
  have hv : bootBuiltins "list" = some (.type "list") := by decide +kernel
  have hs : starEach [.Call (.Attribute e "items" apos) [] [] cpos] X.env = (false, eval (.Call (.Attribute e "items" apos) [] [] cpos) X.env) :: starEach [] X.env := rfl
  refine ⟨fun pins s σ H Q I hq => ?_⟩
  refine wpAny_Call_Name_kw (ld_blt I hg hm hv ?_)
  refine PyProof.Rows.callWith_type1 ?_ hs rfl
  rw [hs]
  show wpAny _ _ (spliced ((false, eval (.Call (.Attribute e "items" apos) [] [] cpos) X.env) :: backTo pos (starEach [] X.env))) _ _ s
  refine Calls.spliced_cons ?_
  refine wpAny_Call_method (T := "dict") (id := "dict.items") hbase rfl hline F.plainAttrs_dict F.slot_dict_items F.type_dict_items (thn (he.run pins s σ H _ I hq) fun u s1 ⟨x, H1, I1, rx, d, kvs, ex, hd, q⟩ => ?_)
  subst ex
  obtain rfl : u = Value.ref d := rx
  obtain ⟨hz, hs0, vs, kv, hdo⟩ := dk_rd I1.hok hd
  obtain ⟨ep, hat⟩ := hdo.dictAt
  have lk : kvs.length = vs.length := Paired.length kv
  have I2 : Inv X pins σ H1 { s1 with heap := s1.heap.push { cls := .type "dict_items", data := .fields #[.ref d] } } := I1.kept (t' := s1.toks) fun b ob q => Heap.get?_push_of_some _ q
  refine ⟨hdo.typeIs, hdo.mapOf.noDict, ?_⟩
  show wpAny _ _ (callWith cpos (.builtin "dict.items") [.ref d] [] []) _ X.xe s1
  refine method_meetsIn F.slot_dict_items F.entry_dict_items rfl (PySem.evalArgs_none ⟨rfl, hdo.typeIs, F.args_dict_items_1 _, _, meets_dict_items (mixKind X.prog X.w) d hs0, ⟨vs, hdo⟩, ?_⟩)
  refine Calls.spliced_nil ?_
  refine PySem.W.kdx_call (knd := mixKind X.prog X.w) (kvs := vs) (ep := ep) (I1.ok.hd hc) ⟨_, Heap.get?_push_size _ rfl, rfl, rfl⟩ (hat.push _) (by omega) fun h' tk acc c as hk hS hl hG hacc => ?_
  obtain ⟨H', k1, k2, k3, k4, k5, k6, J⟩ := LiI.items_laid (tk := tk) I2 hz kv hk hS hl hG hacc
  exact ⟨.ref _, H', J, rfl, q H' _ as k1 k2 k3 k4 k5 k6⟩
def tLV (te : TE) : TE := fun σ H Q => te σ H fun x H1 => ∃ (d : Addr) (kvs : List (Key × V)), x = .ref d ∧ Rd H1 d (.dK kvs) ∧ ∀ p, H1 p = none → Q (.ref p) (upd H1 p (.lst (kvs.map (·.2))))
theorem vals_of : ∀ {kvs : List (Key × V)} {vs : List (Key × Value)}, KV kvs vs → Vals (kvs.map (·.2)) (vs.map (·.2))
  | _, _, .nil => .nil
  | _, _, .cons r t => .cons r.2 (vals_of t)
theorem items_vals {vs : List (Key × Value)} {acc : Array Value} (h : PySem.ItemsOf (fun i v => ∃ k, vs[i]? = some (k, v)) acc vs.length) : acc.toList = vs.map (·.2) := by
  refine List.ext_getElem? fun i => ?_
  rw [Array.getElem?_toList]
  cases e : acc[i]? with
  | none =>
    have : ¬ i < acc.size := fun l => by rw [Array.getElem?_eq_getElem l] at e; cases e
    rw [List.getElem?_eq_none (by rw [List.length_map, ← h.1]; omega)]
  | some v =>
    obtain ⟨k, ek⟩ := h.2 i v e
    rw [List.getElem?_map, ek]
    rfl
theorem pe_lv (hc : X.calm = true) (he : PE X e te) (hg : Gl X "list") (hm : X.mg "list" = none) (hbase : attributeBase e "values" X.env (eval e X.env) = eval e X.env) (hline : (apos.endLine == cpos.line) = true) :
    PE X (.Call (.Name "list" p) [.Call (.Attribute e "values" apos) [] [] cpos] [] pos) (tLV te) := by
  have hv : bootBuiltins "list" = some (.type "list") := by decide +kernel
  have hs : starEach [.Call (.Attribute e "values" apos) [] [] cpos] X.env = (false, eval (.Call (.Attribute e "values" apos) [] [] cpos) X.env) :: starEach [] X.env := rfl
  refine ⟨fun pins s σ H Q I hq => ?_⟩
  refine wpAny_Call_Name_kw (ld_blt I hg hm hv ?_)
  refine PyProof.Rows.callWith_type1 ?_ hs rfl
  rw [hs]
  show wpAny _ _ (spliced ((false, eval (.Call (.Attribute e "values" apos) [] [] cpos) X.env) :: backTo pos (starEach [] X.env))) _ _ s
  refine Calls.spliced_cons ?_
  refine wpAny_Call_method (T := "dict") (id := "dict.values") hbase rfl hline F.plainAttrs_dict F.slot_dict_values F.type_dict_values (thn (he.run pins s σ H _ I hq) fun u s1 ⟨x, H1, I1, rx, d, kvs, ex, hd, q⟩ => ?_)
  subst ex
  obtain rfl : u = Value.ref d := rx
  obtain ⟨hz, hs0, vs, kv, hdo⟩ := dk_rd I1.hok hd
  obtain ⟨ep, hat⟩ := hdo.dictAt
  have lk : kvs.length = vs.length := Paired.length kv
  have I2 : Inv X pins σ H1 { s1 with heap := s1.heap.push { cls := .type "dict_values", data := .fields #[.ref d] } } := I1.kept (t' := s1.toks) fun b ob q => Heap.get?_push_of_some _ q
  refine ⟨hdo.typeIs, hdo.mapOf.noDict, ?_⟩
  show wpAny _ _ (callWith cpos (.builtin "dict.values") [.ref d] [] []) _ X.xe s1
  refine method_meetsIn F.slot_dict_values F.entry_dict_values rfl (PySem.evalArgs_none ⟨rfl, hdo.typeIs, F.args_dict_values_1 _, _, meets_dict_values (mixKind X.prog X.w) d hs0, ⟨vs, hdo⟩, ?_⟩)
  refine Calls.spliced_nil ?_
  refine PySem.W.kdl_call (PySem.W.kdl_values (knd := mixKind X.prog X.w) (kvs := vs) (ep := ep)) (I1.ok.hd hc) ⟨⟨_, Heap.get?_push_size _ rfl, rfl, rfl⟩, hat.push _⟩ (by omega) fun h' tk acc c' hk hD hacc => ?_
  have ev := items_vals hacc
  exact ⟨.ref _, _, I2.laid (t' := tk) hk (Nat.le_refl _) (show ObjOk X.prog X.w _ _ _ (.lst (kvs.map (·.2))) from ⟨by rw [List.length_map]; exact hz, acc.toList, c', by rw [ev]; exact vals_of kv, by rw [Array.toArray_toList]; exact hD⟩), rfl, q _ (I2.hok.fresh (Nat.le_refl _))⟩
end
end LiV
namespace Vm
open PySem L2
open PyProof.Rows hiding St
section
variable {x : Fx} {G : Hp} {σ : St} {H H' : Hp} {env : EnvD} {ps : List (V × O)}
/-- more nodes, those at ts settled -/
theorem Rel.growT {ts : List Addr} (r : Rel x G σ H env ps) (ext : ∀ b o, H b = some o → H' b = some o) (ht : ∀ t ∈ ts, H t = none) : Same G (adj G H' ts) ∧ Rel x (adj G H' ts) σ H' env ps := by
  obtain ⟨A, C, t, s, n, o⟩ := r.ex
  have gt : ∀ a ∈ ts, G a = none := fun a m => by
    cases e : G a with
    | none => rfl
    | some u =>
      rcases r.gs a u e with q | ⟨_, _, _, q⟩
      · rw [ht a m] at q; cases q
      · rw [ht a m] at q; cases q
  have sm : Same G (adj G H' ts) := adj_same gt
  have keep : ∀ a, IsSome H a → H' a = H a := fun a ⟨u, e⟩ => by rw [e]; exact ext a u e
  have thr : ∀ a ∈ A ++ C, IsSome H a := fun a m => (List.mem_append.mp m).elim (t.there a) (s.there a)
  refine ⟨sm, .intro (t.mono sm fun a m => keep a (t.there a m)) (s.mono sm fun a m => keep a (s.there a m)) n (fun a m => ?_) ?_ (fun a u e => ext a u (r.fs a u e)) (fun a u e => sm a u (r.g0 a u e)) (fun a u e e0 => ?_) r.pn⟩
  · have nm : a ∉ ts := fun m2 => by
      obtain ⟨u, e⟩ := thr a m
      rw [ht a m2] at e
      cases e
    rw [adj_out nm]
    exact o a m
  · intro a u e
    by_cases m : a ∈ ts
    · rw [adj_in m] at e
      exact .inl e
    · rw [adj_out m] at e
      rcases r.gs a u e with q | ⟨kvs, ob, e1, q⟩
      · exact .inl (ext a u q)
      · exact .inr ⟨kvs, ob, e1, ext a _ q⟩
  · have nm : a ∉ ts := fun m => by
      have q := r.fs a u e
      rw [ht a m] at q
      cases q
    rw [adj_out nm]
    exact r.gf a u e e0
theorem Paired.mem1 {α β : Type} {R : α → β → Prop} {as : List α} {bs : List β} (h : Paired R as bs) : ∀ a ∈ as, ∃ b, R a b := by
  induction h with
  | nil => exact fun a m => by cases m
  | cons r t ih => exact fun a m => (List.mem_cons.mp m).elim (fun e => ⟨_, e ▸ r⟩) (ih a)
end
section
variable {X : Cx} {z : Z} {W : WX} {Γ : Cf} {pos : Pos}
theorem pairs_T {G H : Hp} {K : PySem.W.Frag} (hz : z.K = K) : ∀ {ts : List Addr} {vs : List (Key × V)} {ds : List (Key × D)}, Paired (fun (t : Addr) (q : Key × V) => G t = some (.tup [kV q.1, q.2])) ts vs → vs.map (·.1) = ds.map (·.1) → Ts z G H (vs.map (·.2)) (ds.map (·.2)) [] →
    Ts z G H (ts.map V.ref) (ds.map fun p => D.tup [keyD p.1, p.2]) []
  | [], [], [], _, _, _ => .nil
  | t :: ts, (a, w) :: vs, (b, e) :: ds, .cons h p, hk, tt => by
    simp only [List.map_cons, List.cons.injEq] at hk
    obtain ⟨rfl, hk⟩ := hk
    obtain ⟨t1, t2⟩ := (show Ts z G H (w :: vs.map (·.2)) (e :: ds.map (·.2)) [] from tt).nil_inv
    refine .con (.tup (.inl (.inl h)) (.con ?_ (.con t1 .nil))) (pairs_T hz p hk t2)
    cases a with
    | inl i => exact .int i
    | inr s => exact .str s
  | _, [], _ :: _, _, e, _ => by simp at e
  | _, _ :: _, [], _, e, _ => by simp at e
theorem se_litems {o : Expr} {eo : E} {p apos cpos : Pos} (hK : X.K = z.K) (hc : X.calm = true) (hg : Gl X "list") (hm : X.mg "list" = none) (hb : attributeBase o "items" X.env (eval o X.env) = eval o X.env) (hl : (apos.endLine == cpos.line) = true) (ho : PE X o (tE z W (evE Γ eo))) :
    PE X (.Call (.Name "list" p) [.Call (.Attribute o "items" apos) [] [] cpos] [] pos) (tE z W (evE Γ (.bmeth .items eo .nil))) := by
  refine (LiV.pe_li hc ho hg hm hb hl).to fun σ H Q h => (bm_rd h).imp fun v H1 ⟨⟨G, d, g, w, hd⟩, h1⟩ => ?_
  obtain ⟨x, G2, σ2, env2, ps2, ds, ez, r2, w2, h3⟩ := tEs_nil h1
  subst ez
  unfold opBM at h3
  split at h3 <;> try first | exact h3.elim | contradiction
  obtain ⟨_, e1, w3⟩ := w2.one
  cases e1
  obtain ⟨a, us, rfl, hs, hk, ht⟩ := w3.dic r2.gs
  refine ⟨a, us, rfl, hs, fun H' p ts ext hp hts np hl hpr => ?_⟩
  have ext2 : ∀ b o, H1 b = some o → (fun a => if a = p then none else H' a) b = some o := fun b o e => by
    have nb : b ≠ p := fun q => by rw [q, hp] at e; cases e
    show (if b = p then none else H' b) = _
    rw [if_neg nb]
    exact ext b o e
  obtain ⟨sg, r3⟩ := r2.growT ext2 hts
  have at' : ∀ t ∈ ts, (if t = p then none else H' t) = H' t := fun t m => if_neg fun (q : t = p) => np (by rw [← q]; exact m)
  have prs : Paired (fun (t : Addr) (q : Key × V) => adj G2 (fun a => if a = p then none else H' a) ts t = some (.tup [kV q.1, q.2])) ts us := by
    have gen : ∀ {l : List Addr} {ks : List (Key × V)}, Paired (fun (t : Addr) (q : Key × V) => H' t = some (.tup [kV q.1, q.2])) l ks → (∀ t ∈ l, t ∈ ts) → Paired (fun (t : Addr) (q : Key × V) => adj G2 (fun a => if a = p then none else H' a) ts t = some (.tup [kV q.1, q.2])) l ks := by
      intro l ks h
      induction h with
      | nil => exact fun _ => .nil
      | cons r t ih => exact fun k => .cons ((adj_in (k _ (List.mem_cons_self ..))).trans ((at' _ (k _ (List.mem_cons_self ..))).trans r)) (ih fun a m => k a (List.mem_cons_of_mem _ m))
    exact gen hpr fun t m => m
  have q := PostR.newL (vs := ts.map V.ref) r3 (PostR.up sg h3) (pairs_T rfl prs hk (ht.mono sg fun a m => by cases m)) (p := p) (if_pos rfl)
  have eh : upd (fun a => if a = p then none else H' a) p (.lst (ts.map V.ref)) = H' := by
    funext a
    by_cases e : a = p
    · rw [e, upd_same, hl]
    · rw [upd_ne e, if_neg e]
  rw [eh] at q
  exact q
theorem se_lvalues {o : Expr} {eo : E} {p apos cpos : Pos} (hK : X.K = z.K) (hc : X.calm = true) (hg : Gl X "list") (hm : X.mg "list" = none) (hb : attributeBase o "values" X.env (eval o X.env) = eval o X.env) (hl : (apos.endLine == cpos.line) = true) (ho : PE X o (tE z W (evE Γ eo))) :
    PE X (.Call (.Name "list" p) [.Call (.Attribute o "values" apos) [] [] cpos] [] pos) (tE z W (evE Γ (.bmeth .values eo .nil))) := by
  refine (LiV.pe_lv hc ho hg hm hb hl).to fun σ H Q h => (bm_rd h).imp fun v H1 ⟨⟨G, d, g, w, hd⟩, h1⟩ => ?_
  obtain ⟨x, G2, σ2, env2, ps2, ds, ez, r2, w2, h3⟩ := tEs_nil h1
  subst ez
  unfold opBM at h3
  split at h3 <;> try first | exact h3.elim | contradiction
  obtain ⟨_, e1, w3⟩ := w2.one
  cases e1
  obtain ⟨a, us, rfl, hs, hk, ht⟩ := w3.dic r2.gs
  exact ⟨a, us, rfl, hs, fun p hp => PostR.newL r2 h3 ht hp⟩
end
end Vm
/-! Vm: [..] * n. -/
namespace Vm
open PySem L2
open PyProof.Rows hiding St
section
variable {x : Fx} {G : Hp} {σ : St} {H : Hp} {env : EnvD} {ps qs : List (V × O)}
theorem Rel.settleX (r : Rel x G σ H env (ps ++ qs)) : ∃ C2, TPs x.z G H σ qs C2 ∧ Same G (adj G H C2) ∧ Rel x (adj G H C2) σ H env (ps ++ qs.map fun p => (p.1, stlO p.2)) := by
  obtain ⟨A, C, t, s, n, o⟩ := r.ex
  obtain ⟨C1, C2, s1, s2, rfl⟩ := s.split
  have hg : ∀ a ∈ C2, G a = none := fun a m => (o a (List.mem_append_right _ (List.mem_append_right _ m))).1
  have sm := adj_same (G := G) (H := H) hg
  refine ⟨C2, s2, sm, .intro (A := A) (C := C1) (t.mono sm fun _ _ => rfl) ?_ ?_ ?_ r.gs.adj r.fs (fun a o e => sm a o (r.g0 a o e)) ?_ r.pn⟩
  · have q := (s1.mono (H' := H) sm fun _ _ => rfl).append (TPs.stl sm s2 fun a m => m)
    rw [List.append_nil] at q
    exact q
  · rw [← List.append_assoc] at n
    exact (List.nodup_append.mp n).1
  · intro a m
    rw [← List.append_assoc] at n o
    have nm : a ∉ C2 := fun m2 => (List.nodup_append.mp n).2.2 a m a m2 rfl
    rw [adj_out nm]
    exact o a (List.mem_append_left _ m)
  · intro a ob e e0
    by_cases m : a ∈ C2
    · have q := (o a (List.mem_append_right _ (List.mem_append_right _ m))).2
      rw [q] at e; cases e
    · rw [adj_out m]; exact r.gf a ob e e0
theorem Ts.repl {z : Z} {vs : List V} {ds : List D} (h : Ts z G H vs ds []) : ∀ n : Nat, Ts z G H (List.replicate n vs).flatten (List.replicate n ds).flatten []
  | 0 => .nil
  | n + 1 => by
    rw [List.replicate_succ, List.replicate_succ, List.flatten_cons, List.flatten_cons]
    exact h.app (Ts.repl h n)
end
section
variable {X : Cx} {z : Z} {W : WX} {Γ : Cf} {pos : Pos}
theorem se_rep {l : List Expr} {k : Expr} {es : Es} {ek : E} {p : Pos} (ha : PE X (.List l p) (tE z W (evE Γ (.lst es)))) (hk : PE X k (tE z W (evE Γ ek))) : PE X (.BinOp (.List l p) .Mult k pos) (tE z W (evE Γ (.rep es ek))) := by
  refine (pe_op op_rep ha hk).to fun σ H Q ⟨x, G, env, ps, ez, r, h⟩ => ?_
  subst ez
  unfold evE at h
  refine ⟨x, G, env, ps, rfl, r, ?_⟩
  unfold evE
  cases c1 : evEs Γ es env with
  | bad => rw [c1] at h; exact h.elim
  | ex _ _ _ => rw [c1] at h; exact h
  | ok os env1 =>
    rw [c1] at h
    dsimp only [Rs.bind] at h ⊢
    cases c2 : unOs os with
    | none => rw [c2] at h; exact h.elim
    | some ds =>
      rw [c2] at h
      dsimp only at h ⊢
      split at h
      · rename_i hz
        rw [if_pos hz]
        intro v G1 H1 s1 r1
        have h1 := PostR.up s1 h
        refine PostR.step r1 h1 fun o2 env2 u G2 H2 s2 r2 h2 => ?_
        cases c3 : rsD o2 env2 with
        | none => rw [c3] at h2; exact h2.elim
        | some kd =>
          rw [c3] at h2
          cases kd with
          | int n =>
            dsimp only at h2
            split at h2
            · rename_i hc
              obtain ⟨G3, s3, r3, w⟩ := Rel.views (ds := [.int n]) r2 (by
                show (match rsD o2 env2, rsAll [] env2 with
                  | some d, some ds => some (d :: ds)
                  | _, _ => none) = _
                rw [c3]
                rfl)
              cases w with
              | cons w1 _ =>
                have eu := w1.int
                obtain ⟨C2, tt, sg, r4⟩ := r3.settleX
                cases tt with
                | cons t1 t2 =>
                  cases t1 with
                  | v t1 _ =>
                    cases t1 with
                    | @lstF a vs _ B hl ht =>
                      have t5 := ht.settle sg fun b m => List.mem_append_left _ (List.mem_cons_of_mem _ m)
                      have el : vs.length = ds.length := by
                        have := ht.length
                        simpa using this
                      refine ⟨a, n, vs, rfl, eu, hl, hc.1, hc.2.1, by rw [el]; exact hc.2.2, fun p hp => ?_⟩
                      have t6 := t5.repl n.toNat
                      rw [clrs_map, List.map_map] at t6
                      exact PostR.newL (Rel.pop r4) (PostR.up (Same.tr s3 sg) h2) t6 hp
            · exact h2.elim
          | _ => exact h2.elim
      · exact h.elim
end
end Vm
/-! Vm: list(reversed(a list)). -/
namespace RevL
open PySem PySem.Spec PySem.W PyProof.Rows L2
section
variable {prog : Program} {w : World} {A : Around} {E : Value → Shared → Prop} {s : Shared}
theorem call_list_rev {it l : Addr} {items : Array Value} {Q : Value → Shared → Prop} (hh : A.handled = none) (hit : s.heap.IsRevIter it l ((items.size : Int) - 1)) (hl : s.heap.IsList l items) (hne : l ≠ it) (hn : items.size ≤ sizeLine)
    (hQ : ∀ (S : Addr) (h' : Heap) (tk : Nat) (acc : Array Value) (c : Nat), s.heap.objs.size ≤ S → (∀ b o, b ≠ it → s.heap.get? b = some o → h'.get? b = some o) → h'.get? S = some { cls := .type "list", dict := none, data := .seq acc c, slots := #[] } → ItemsOf (fun i v => items[items.size - 1 - i]? = some v) acc items.size →
      Q (.ref S) { s with heap := h', toks := tk }) :
    wpAny (model prog w) A (call (.type "list") [.ref it]) Q E s := by
  have W := (Walks.listRev (prog := prog) (w := w) (A := A.in1.in1) hh it l hne items).toS
  obtain ⟨oi, hoi, _⟩ := id hit
  obtain ⟨ol, hol, _⟩ := id hl
  have hSi : s.heap.objs.size ≠ it := Nat.ne_of_gt (Heap.lt_size hoi)
  have hSl : s.heap.objs.size ≠ l := Nat.ne_of_gt (Heap.lt_size hol)
  have hSf : s.heap.objs.size ∉ [it, l] := by simp only [List.mem_cons, List.not_mem_nil, or_false, not_or]; exact ⟨hSi, hSl⟩
  refine callType_codes (Q₁ := fun obj s₁ => obj = .ref s.heap.objs.size ∧ s₁ = { s with heap := s.heap.push { cls := .type "list", data := .seq #[] } }) F.called_list (F.typeCall_list_1 _) F.entry_list_init
    (code_list_new _ ⟨rfl, rfl⟩) fun obj s₁ h₁ => ?_
  obtain ⟨rfl, rfl⟩ := h₁
  have hS : (s.heap.push { cls := .type "list", data := .seq #[] }).get? s.heap.objs.size = some { cls := .type "list", data := .seq #[] } := Heap.get?_push_size _ rfl
  refine ⟨⟨_, hS, rfl⟩, F.args_list_init_2 _ _, ?_⟩
  show wpAny _ A.in1.in1 (do let old ← Builtin.List.listItems (.ref s.heap.objs.size); Builtin.List.listUpdate (.ref s.heap.objs.size) (fun _ => #[]); letGo old.toList.reverse; Builtin.List.listExtendWith (.ref s.heap.objs.size) (.ref it) .none) _ _ _
  refine wpAny_bind ?_
  unfold Builtin.List.listItems
  refine wpAny_bind (wpAny_seqItems hS rfl (wpAny_pure ?_))
  show wpAny _ A.in1.in1 (updateSeq s.heap.objs.size (fun _ => #[]) >>= fun _ => letGo (#[] : Array Value).toList.reverse >>= fun _ => Builtin.List.listExtendWith (.ref s.heap.objs.size) (.ref it) .none) _ _ _
  refine wpAny_bind (wpAny_updateSeq hS rfl ?_)
  have hS₂ := Heap.get?_update_self (Obj.mapSeq (fun _ => (#[] : Array Value))) hS rfl
  have oth : ∀ b o, s.heap.get? b = some o → ((s.heap.push { cls := .type "list", data := .seq #[] }).update s.heap.objs.size (Obj.mapSeq (fun _ => (#[] : Array Value)))).get? b = some o :=
    fun b o e => (Heap.get?_update_other _ _ (Ne.symm (Nat.ne_of_lt (Heap.lt_size e)))).trans (Heap.get?_push_of_some _ e)
  refine wpAny_bind (wpAny_letGo ?_)
  generalize hg : (s.heap.push { cls := .type "list", data := .seq #[] }).update s.heap.objs.size (Obj.mapSeq (fun _ => (#[] : Array Value))) = h2 at *
  have hit1 : h2.IsRevIter it l ((items.size : Int) - 1) := hit.at fun o e => oth _ _ e
  have hl1 : h2.IsList l items := hl.at fun o e => oth _ _ e
  have hT : ({ s with heap := h2 } : Shared).TypeIs (.ref it) "list_reverseiterator" := Heap.IsRevIter.typeIs (s := { s with heap := h2 }) hit1
  have h1 : Builtin.List.listSameRef (.ref s.heap.objs.size) (.ref it) = false := by simp [Builtin.List.listSameRef, hSi]
  unfold Builtin.List.listExtendWith
  refine wpAny_bind (wpAny_typeOf hT ?_)
  rw [if_neg (by rw [h1]; decide)]
  refine wpAny_bind (wpAny_pyIter_revIter (s := { s with heap := h2 }) hit1 ?_)
  refine wpAny_bind (wpAny_holding ?_)
  unfold Builtin.List.listLengthHint
  refine wpAny_bind (wpAny_specialOf hT RT.nolen_lri ?_)
  show wpAny _ A.in1.in1 (specialOf (Value.ref it) (Str.ofString "__length_hint__") >>= _) _ _ _
  refine wpAny_bind (wpAny_specialOf hT RT.hint_lri ?_)
  generalize hid : ("list_reverseiterator.__length_hint__" : String) = id0
  wp_delta
  rw [show splitId id0 = some ("list_reverseiterator", "__length_hint__") from by subst hid; decide +kernel]
  subst hid
  refine wpAny_bind (wpAny_isInstance (b := true) hT (by rw [isSubtype_type]; kernel_rfl) ?_)
  refine wpAny_pure ?_
  rw [if_neg (by decide)]
  have e0 : ((items.size : Nat) : Int) - 1 - ((0 : Nat) : Int) = (items.size : Int) - 1 := by omega
  refine wpAny_pure ⟨plainId_quiet F.plain_extend_loop _, codeAny_extend_loopS W hn _ hSf _ items.size 0 _ _ _ rfl (Nat.zero_le _) ⟨Nat.zero_le _, by rw [e0]; exact hit1, hl1⟩ (by simpa [Obj.mapSeq] using hS₂) (ItemsOf.nil _) fun s' acc' c' hm hS' hacc => ?_⟩
  refine ⟨rfl, ?_⟩
  rw [Moved.eq_with hm]
  refine hQ _ s'.heap s'.toks acc' c' (Nat.le_refl _) (fun b o hb e => hm.heap b o (fun hmem => ?_) (oth b o e)) hS' hacc
  rcases List.mem_cons.mp hmem with e' | hmem
  · exact absurd (Heap.lt_size e) (by rw [e']; exact Nat.lt_irrefl _)
  · exact hb (List.mem_singleton.mp hmem)
end
/-- list(reversed(x)), x a list: a new list -/
def tListRev (K : PySem.W.Frag) (te : TE) : TE := fun σ H Q => te σ H fun v H1 => ∃ (a : Addr) (xs : List V), v = .ref a ∧ SqL K H1 a xs ∧ ∀ q, H1 q = none → Q (.ref q) (upd H1 q (.lst xs.reverse))
section
variable {X : Cx}
theorem pe_listRev {e : Expr} {te : TE} {p p2 pos pos2 : Pos} (hc : X.calm = true) (hg : Gl X "list") (hm : X.mg "list" = none) (hg2 : Gl X "reversed") (hm2 : X.mg "reversed" = none) (he : PE X e te)
    (hs : starEach [e] X.env = (false, eval e X.env) :: starEach [] X.env := by rfl)
    (hs2 : starEach [.Call (.Name "reversed" p2) [e] [] pos2] X.env = (false, eval (.Call (.Name "reversed" p2) [e] [] pos2) X.env) :: starEach [] X.env := by rfl) :
    PE X (.Call (.Name "list" p) [.Call (.Name "reversed" p2) [e] [] pos2] [] pos) (tListRev X.K te) := by
  have hv : bootBuiltins "list" = some (.type "list") := by decide +kernel
  refine ⟨fun pins s σ H Q I h => ?_⟩
  refine Call_ (ld_blt I hg hm hv (PyProof.Rows.callWith_type1 (args_cons (Call_ (ld_blt I hg2 hm2 PyProof.Rows.boot_reversed (PyProof.Rows.callWith_type1 (args_cons (thn (he.run pins s σ H _ I h) fun u s1 ⟨v, H1, I1, r1, q1⟩ => args_nil ?_) hs) hs rfl))) hs2) hs2 rfl))
  obtain ⟨a, xs, ev, hq, q⟩ := q1
  subst ev
  obtain rfl : u = Value.ref a := r1
  obtain ⟨its, rv, p', hz⟩ := I1.list hq
  refine call_reversed_list p'.isList (args_nil ?_)
  have hl := p'.isList
  obtain ⟨ol, hol, _⟩ := id hl
  have hne : a ≠ s1.heap.objs.size := Nat.ne_of_lt (Heap.lt_size hol)
  have hn : its.toArray.size ≤ sizeLine := by rw [List.size_toArray, ← rv.length]; exact hz
  refine call_list_rev (s := { s1 with heap := s1.heap.push (revObj a ((its.toArray.size : Int) - 1)) }) (I1.ok.hd hc) ⟨_, Heap.get?_push_size _ rfl, rfl, rfl⟩ (hl.push _) hne hn fun S h' tk acc c hS hk hD hi => ?_
  have hk' : ∀ b o, s1.heap.get? b = some o → h'.get? b = some o := fun b o e => hk b o (Nat.ne_of_lt (Heap.lt_size e)) (Heap.get?_push_of_some _ e)
  have hS' : s1.heap.objs.size ≤ S := Nat.le_trans (by simp [Heap.push]) hS
  refine ⟨.ref S, upd H1 S (.lst xs.reverse), I1.laid (t' := tk) hk' hS' (show ObjOk X.prog X.w _ _ _ (.lst xs.reverse) from ⟨by rw [List.length_reverse]; exact hz, acc.toList, c, RT.vals_rev rv hi, by rw [Array.toArray_toList]; exact hD⟩), rfl, q _ (I1.hok.fresh hS')⟩
end
end RevL
namespace Vm
open PySem L2
open PyProof.Rows hiding St
section
variable {X : Cx} {z : Z} {W : WX} {Γ : Cf} {pos : Pos}
theorem Ts.snoc {z : Z} {G H : Hp} {v : V} {d : D} (hv : T z G H v d []) : ∀ {vs : List V} {ds : List D} {A : List Addr}, Ts z G H vs ds A → A = [] → Ts z G H (vs ++ [v]) (ds ++ [d]) []
  | _, _, _, .nil, _ => .cons (A := []) hv .nil
  | _, _, _, .cons h t, e => by
    obtain ⟨e1, e2⟩ := List.append_eq_nil_iff.mp e
    subst e1
    exact .cons (A := []) h (Ts.snoc hv t e2)
theorem Ts.revL' {z : Z} {G H : Hp} : ∀ {vs : List V} {ds : List D} {A : List Addr}, Ts z G H vs ds A → A = [] → Ts z G H vs.reverse ds.reverse []
  | _, _, _, .nil, _ => .nil
  | _, _, _, .cons h t, e => by
    obtain ⟨e1, e2⟩ := List.append_eq_nil_iff.mp e
    subst e1
    rw [List.reverse_cons, List.reverse_cons]
    exact Ts.snoc h (Ts.revL' t e2) rfl
theorem Ts.revL {z : Z} {G H : Hp} {vs : List V} {ds : List D} (h : Ts z G H vs ds []) : Ts z G H vs.reverse ds.reverse [] := Ts.revL' h rfl
theorem se_lrev {o : Expr} {eo : E} {p p2 pos2 : Pos} (hK : X.K = z.K) (hc : X.calm = true) (hg : Gl X "list") (hm : X.mg "list" = none) (hg2 : Gl X "reversed") (hm2 : X.mg "reversed" = none) (ho : PE X o (tE z W (evE Γ eo)))
    (hs : starEach [o] X.env = (false, eval o X.env) :: starEach [] X.env) :
    PE X (.Call (.Name "list" p) [.Call (.Name "reversed" p2) [o] [] pos2] [] pos) (tE z W (evE Γ (.bmeth .rev eo .nil))) := by
  refine (RevL.pe_listRev hc hg hm hg2 hm2 ho hs).to fun σ H Q h => (bm_rd h).imp fun v H1 ⟨⟨G, d, g, w, hd⟩, h1⟩ => ?_
  obtain ⟨x, G2, σ2, env2, ps2, ds, ez, r2, w2, h3⟩ := tEs_nil h1
  subst ez
  unfold opBM at h3
  split at h3 <;> try first | exact h3.elim | contradiction
  obtain ⟨_, e1, w3⟩ := w2.one
  cases e1
  obtain ⟨a, us, rfl, hs, ht⟩ := w3.lst r2.gs
  exact ⟨a, us, rfl, by rw [hK]; exact hs, fun p hp => PostR.newL r2 h3 (Ts.revL ht) hp⟩
end
end Vm
/-! Vm: what is walked. -/
namespace Vm
open PySem L2
open PyProof.Rows hiding St
/-- the iterator J gives the data ds, one by one, as long as what is settled stays, and F -/
structure Wk (z : Z) (F G : Hp) (J : It) (ds : List D) : Prop where
  stop : ∀ G' H, Same G G' → GS G' H → Same F H → J.stop ds.length H
  go : ∀ i G' H, Same G G' → GS G' H → Same F H → i < ds.length → J.go i H
  yld : ∀ i G' H x H', Same G G' → GS G' H → Same F H → i < ds.length → J.yld i H x H' → ∃ d, ds[i]? = some d ∧ ((H' = H ∧ T z G' H x d []) ∨ ∃ p us es, H p = none ∧ H' = upd H p (.tup us) ∧ x = .ref p ∧ d = .tup es ∧ Ts z G' H us es [])
theorem Wk.mono {z : Z} {F G G' : Hp} {J : It} {ds : List D} (k : Wk z F G J ds) (s : Same G G') : Wk z F G' J ds :=
  ⟨fun _ _ s' => k.stop _ _ (Same.tr s s'), fun _ _ _ s' => k.go _ _ _ (Same.tr s s'), fun _ _ _ _ _ s' => k.yld _ _ _ _ _ (Same.tr s s')⟩
/-- an item, on the stack -/
theorem Wk.item {x : Fx} {G G1 : Hp} {σ : St} {H H' : Hp} {env : EnvD} {ps : List (V × O)} {J : It} {ds : List D} {i : Nat} {v : V} (k : Wk x.z x.F G1 J ds) (s : Same G1 G) (r : Rel x G σ H env ps) (l : i < ds.length) (y : J.yld i H v H') :
    ∃ d G', ds[i]? = some d ∧ Same G G' ∧ Rel x G' σ H' env (ps ++ [(v, .v false d)]) := by
  obtain ⟨d, e, h⟩ := k.yld i G H v H' s r.gs r.fs l y
  rcases h with ⟨rfl, t⟩ | ⟨p, us, es, hp, rfl, rfl, rfl, t⟩
  · exact ⟨d, G, e, fun _ _ e => e, r.push t⟩
  · rw [← List.append_nil ps] at r
    obtain ⟨sg, r2⟩ := Rel.allocT (vs := us) (d := .tup es) (f := false) (qs := []) r hp fun C2 c2 => by
      cases c2
      have sg : Same G (upd G p (.tup us)) := Same.alloc (fun _ _ e => e) (r.gs.free hp)
      exact ⟨.tup (.inl (.inl upd_same)) (t.mono sg fun a m => by cases m), fun _ => rfl⟩
    exact ⟨.tup es, _, e, sg, r2⟩
def PostI (x : Fx) (G : Hp) (σ : St) (ps : List (V × O)) (W : WX) (R : It → Hp → Prop) : RI → Prop
  | .ok ds env => ∀ J G' H', Same G G' → Rel x G' σ H' env ps → Wk x.z x.F G' J ds → R J H'
  | .ex c fs env => ∀ cls dd G' H', Same G G' → Rel x G' σ H' env [] → ExR x.z G' H' cls dd c fs → W cls dd σ H'
  | .bad => False
def tI (z : Z) (W : WX) (m : EnvD → RI) : TI := fun σ H R => ∃ x G env ps, x.z = z ∧ Rel x G σ H env ps ∧ PostI x G σ ps W R (m env)
section
variable {X : Cx} {tg : Expr} {z : Z} {W : WX} {Γ : Cf} {pos : Pos}
theorem _root_.L2.PI.to {e : Expr} {t t' : TI} (h : PI X tg e t) (k : ∀ σ H Q, t' σ H Q → t σ H Q) : PI X tg e t' := ⟨fun pins s σ H Q I q => h.run pins s σ H Q I (k σ H Q q)⟩
theorem _root_.L2.PI.or {e : Expr} {t t' : TI} (h : PI X tg e t) (h' : PI X tg e t') : PI X tg e (fun σ H R => t σ H R ∨ t' σ H R) := ⟨fun pins s σ H Q I q => q.elim (h.run pins s σ H Q I) (h'.run pins s σ H Q I)⟩
theorem PostI.up {x : Fx} {G G' : Hp} {σ : St} {ps : List (V × O)} {R : It → Hp → Prop} {r : RI} (s : Same G G') (h : PostI x G σ ps W R r) : PostI x G' σ ps W R r := by
  cases r with
  | ok o env => exact fun J G2 H2 s2 r2 => h J G2 H2 (Same.tr s s2) r2
  | ex c fs env => exact fun cls dd G2 H2 s2 r2 e => h cls dd G2 H2 (Same.tr s s2) r2 e
  | bad => exact h
/-- one operand ahead of the walk -/
theorem PostI.step {x : Fx} {G : Hp} {σ : St} {H : Hp} {env : EnvD} {ps qs : List (V × O)} {R' : It → Hp → Prop} {Q' : VK} {r : R} {k : O → EnvD → RI} {m : EnvD → R} (e : m env = r) (rl : Rel x G σ H env qs)
    (h : PostI x G σ ps W R' (match r with
      | .ok o env1 => k o env1
      | .ex c fs env1 => .ex c fs env1
      | .bad => .bad))
    (go : ∀ o env1 v G1 H1, Same G G1 → Rel x G1 σ H1 env1 (qs ++ [(v, o)]) → PostI x G1 σ ps W R' (k o env1) → Q' v H1) : tE x.z W m σ H Q' := by
  refine ⟨x, G, env, qs, rfl, rl, ?_⟩
  rw [e]
  cases r with
  | ok o env1 => exact fun v G1 H1 s r1 => go o env1 v G1 H1 s r1 (PostI.up s h)
  | ex c fs env1 => exact h
  | bad => exact h
/-- the top settled, told -/
theorem Rel.topS {x : Fx} {G : Hp} {σ : St} {H : Hp} {env : EnvD} {ps : List (V × O)} {v : V} {f : Bool} {d : D} (r : Rel x G σ H env (ps ++ [(v, .v f d)])) : ∃ G', Same G G' ∧ T x.z G' H v (stl (f, d)) [] ∧ Rel x G' σ H env (ps ++ [(v, .v false (stl (f, d)))]) := by
  obtain ⟨G', s, r'⟩ := r.settle
  exact ⟨G', s, Rel.top (ps := ps) r', r'⟩
theorem T.lst_inv {z : Z} {G H : Hp} {v : V} {f : Bool} {ds : List D} (h : T z G H v (.lst f ds) []) : ∃ a vs, v = .ref a ∧ SqL z.K G a vs ∧ Ts z G H vs ds [] := by
  generalize hA : ([] : List Addr) = A at h
  cases h with
  | lst hs ht => exact ⟨_, _, rfl, hs, hA ▸ ht⟩
  | lstF hs ht => cases hA
theorem T.tup_inv {z : Z} {G H : Hp} {v : V} {ds : List D} (h : T z G H v (.tup ds) []) : ∃ a vs, v = .ref a ∧ SqT z.K G a vs ∧ Ts z G H vs ds [] := by
  generalize hA : ([] : List Addr) = A at h
  cases h with
  | tup hs ht => exact ⟨_, _, rfl, hs, hA ▸ ht⟩
theorem Ts.any {z : Z} {G G' H H' : Hp} {vs : List V} {ds : List D} (h : Ts z G H vs ds []) (s : Same G G') : Ts z G' H' vs ds [] := h.mono s fun a m => by cases m
theorem T.any {z : Z} {G G' H H' : Hp} {v : V} {d : D} (h : T z G H v d []) (s : Same G G') : T z G' H' v d [] := h.mono s fun a m => by cases m
theorem Ts.at {z : Z} {G H : Hp} {vs : List V} {ds : List D} (h : Ts z G H vs ds []) {i : Nat} {v : V} (e : vs[i]? = some v) : ∃ d, ds[i]? = some d ∧ T z G H v d [] := by
  have l := h.length
  have li : i < vs.length := (List.getElem?_eq_some_iff.mp e).1
  obtain ⟨w, e1, t⟩ := h.get i (d := ds[i]'(by omega)) (by simp)
  rw [e] at e1
  cases e1
  exact ⟨_, by simp, t⟩
theorem wk_list {F G H : Hp} {a : Addr} {vs : List V} {ds : List D} (hs : SqL z.K G a vs) (ht : Ts z G H vs ds []) : Wk z F G (Itl z.K a) ds where
  stop := fun G' H s g _ => ⟨vs, g.sqL (s.seq hs), by rw [ht.length]; exact Nat.le_refl _⟩
  go := fun i G' H s g _ l => ⟨vs, vs[i]'(by rw [ht.length]; exact l), g.sqL (s.seq hs), by simp⟩
  yld := fun i G' H x H' s g _ l y => by
    obtain ⟨rfl, y⟩ := y
    obtain ⟨d, e, t⟩ := ht.at (y vs (g.sqL (s.seq hs)))
    exact ⟨d, e, .inl ⟨rfl, t.any s⟩⟩
theorem wk_tup {F G H : Hp} {a : Addr} {vs : List V} {ds : List D} (hs : SqT z.K G a vs) (ht : Ts z G H vs ds []) : Wk z F G (Itt z.K a) ds where
  stop := fun G' H s g _ => ⟨vs, g.sqT (Same.seqT s hs), by rw [ht.length]; exact Nat.le_refl _⟩
  go := fun i G' H s g _ l => ⟨vs, vs[i]'(by rw [ht.length]; exact l), g.sqT (Same.seqT s hs), by simp⟩
  yld := fun i G' H x H' s g _ l y => by
    obtain ⟨rfl, y⟩ := y
    obtain ⟨d, e, t⟩ := ht.at (y vs (g.sqT (Same.seqT s hs)))
    exact ⟨d, e, .inl ⟨rfl, t.any s⟩⟩
theorem wk_range {F G : Hp} (lo : Int) (n : Nat) : Wk z F G (Itr lo n) ((List.range n).map fun (k : Nat) => D.int (lo + (k : Int))) where
  stop := fun G' H s g _ => by simp [Itr]
  go := fun i G' H s g _ l => by simpa [Itr] using l
  yld := fun i G' H x H' s g _ l y => by
    obtain ⟨rfl, rfl⟩ := y
    have l' : i < n := by simpa using l
    exact ⟨.int (lo + i), by simp [l'], .inl ⟨rfl, .int _⟩⟩
theorem wk_rev {F G H : Hp} {a : Addr} {vs : List V} {ds : List D} (hs : SqL z.K G a vs) (ht : Ts z G H vs ds []) : Wk z F G (Itv z.K a vs.length) ds.reverse where
  stop := fun G' H s g _ => by
    show vs.length ≤ ds.reverse.length
    rw [ht.length, List.length_reverse]
    exact Nat.le_refl _
  go := fun i G' H s g _ l => by
    have l1 := ht.length
    have l' : i < ds.length := by simpa using l
    exact ⟨by omega, vs, vs[vs.length - 1 - i]'(by omega), g.sqL (s.seq hs), by simp⟩
  yld := fun i G' H x H' s g _ l y => by
    have l1 := ht.length
    have l' : i < ds.length := by simpa using l
    obtain ⟨rfl, y⟩ := y
    obtain ⟨d, e, t⟩ := ht.at (y vs (g.sqL (s.seq hs)))
    refine ⟨d, ?_, .inl ⟨rfl, t.any s⟩⟩
    rw [List.getElem?_reverse l', ← l1]
    exact e
theorem wk_enum {F G H : Hp} {a : Addr} {vs : List V} {ds : List D} (hs : SqL z.K G a vs) (ht : Ts z G H vs ds []) : Wk z F G (Ite z.K a) (ds.zipIdx.map fun p => .tup [.int p.2, p.1]) where
  stop := fun G' H s g _ => ⟨vs, g.sqL (s.seq hs), by rw [ht.length]; simp⟩
  go := fun i G' H s g _ l => by
    have l' : i < ds.length := by simpa using l
    exact ⟨vs, vs[i]'(by rw [ht.length]; exact l'), g.sqL (s.seq hs), by simp⟩
  yld := fun i G' H x H' s g _ l y => by
    obtain ⟨p, v, rfl, hp, rfl, y⟩ := y
    obtain ⟨d, e, t⟩ := ht.at (y vs (g.sqL (s.seq hs)))
    refine ⟨.tup [.int i, d], ?_, .inr ⟨p, _, _, hp, rfl, rfl, rfl, .con (.int _) (.con (t.any s) .nil)⟩⟩
    rw [List.getElem?_map, List.getElem?_zipIdx, e]
    simp
theorem wk_zip {F G H : Hp} {a b : Addr} {vs us : List V} {ds es : List D} (hs : SqL z.K G a vs) (ht : Ts z G H vs ds []) (hs2 : SqL z.K G b us) (ht2 : Ts z G H us es []) : Wk z F G (Itz z.K a b) ((ds.zip es).map fun p => .tup [p.1, p.2]) where
  stop := fun G' H s g _ => ⟨vs, us, g.sqL (s.seq hs), g.sqL (s.seq hs2), by
    have l1 := ht.length
    have l2 := ht2.length
    simp only [List.length_map, List.length_zip]
    omega⟩
  go := fun i G' H s g _ l => by
    have l1 := ht.length
    have l2 := ht2.length
    have l' : i < ds.length ∧ i < es.length := by
      simp only [List.length_map, List.length_zip] at l
      omega
    exact ⟨vs, us, vs[i]'(by omega), us[i]'(by omega), g.sqL (s.seq hs), g.sqL (s.seq hs2), by simp, by simp⟩
  yld := fun i G' H x H' s g _ l y => by
    obtain ⟨p, v, u, rfl, hp, rfl, y1, y2⟩ := y
    obtain ⟨d, e, t⟩ := ht.at (y1 vs (g.sqL (s.seq hs)))
    obtain ⟨d2, e2, t2⟩ := ht2.at (y2 us (g.sqL (s.seq hs2)))
    refine ⟨.tup [d, d2], ?_, .inr ⟨p, _, _, hp, rfl, rfl, rfl, .con (t.any s) (.con (t2.any s) .nil)⟩⟩
    have q : (ds.zip es)[i]? = some (d, d2) := List.getElem?_zip_eq_some.mpr ⟨e, e2⟩
    rw [List.getElem?_map, q]
    rfl
theorem si_seq {e : Expr} {ee : E} (hK : X.K = z.K) (he : PE X e (tE z W (evE Γ ee))) : PI X tg e (tI z W (evI Γ (.seq ee))) := by
  refine ((pi_list he).or (pi_tup he)).to fun σ H R ⟨x, G, env, ps, ez, r, h⟩ => ?_
  subst ez
  unfold evI at h
  cases c : evE Γ ee env with
  | bad => rw [c] at h; exact h.elim
  | ex _ _ _ =>
    rw [c] at h
    exact .inl ⟨x, G, env, ps, rfl, r, by rw [c]; exact h⟩
  | ok o env1 =>
    rw [c] at h
    cases o with
    | p i => exact h.elim
    | v f d =>
      dsimp only at h
      cases c2 : stl (f, d) with
      | lst g xs =>
        rw [c2] at h
        refine .inl ⟨x, G, env, ps, rfl, r, ?_⟩
        rw [c]
        intro v G1 H1 s1 r1
        obtain ⟨G2, s2, t, r2⟩ := Rel.topS r1
        rw [c2] at t
        obtain ⟨a, vs, rfl, hs, ht⟩ := t.lst_inv
        refine ⟨a, rfl, ⟨vs, by rw [hK]; exact r2.gs.sqL hs⟩, ?_⟩
        rw [hK]
        exact h _ G2 H1 (Same.tr s1 s2) r2.pop (wk_list hs ht)
      | tup xs =>
        rw [c2] at h
        refine .inr ⟨x, G, env, ps, rfl, r, ?_⟩
        rw [c]
        intro v G1 H1 s1 r1
        obtain ⟨G2, s2, t, r2⟩ := Rel.topS r1
        rw [c2] at t
        obtain ⟨a, vs, rfl, hs, ht⟩ := t.tup_inv
        refine ⟨a, rfl, ⟨vs, by rw [hK]; exact r2.gs.sqT hs⟩, ?_⟩
        rw [hK]
        exact h _ G2 H1 (Same.tr s1 s2) r2.pop (wk_tup hs ht)
      | _ => rw [c2] at h; exact h.elim
theorem si_rng1 {e : Expr} {ee : E} {p : Pos} (hg : Gl X "range") (hm : X.mg "range" = none) (hs : noStar e = true) (he : PE X e (tE z W (evE Γ ee))) : PI X tg (.Call (.Name "range" p) [e] [] pos) (tI z W (evI Γ (.rng1 ee))) := by
  refine (pi_range1 hg hm (pa_cons he pa_nil (star_of hs)) (star_of hs)).to fun σ H R ⟨x, G, env, ps, ez, r, h⟩ => ?_
  subst ez
  unfold evI at h
  refine ⟨x, G, env, ps, rfl, r, ?_⟩
  cases c : evE Γ ee env with
  | bad => rw [c] at h; exact h.elim
  | ex _ _ _ => rw [c] at h; exact h
  | ok o env1 =>
    rw [c] at h
    cases o with
    | p i => exact h.elim
    | v f d =>
      cases d with
      | int j =>
        dsimp only at h
        split at h
        · rename_i hz
          intro v G1 H1 s1 r1
          refine ⟨j, by rw [r1.topInt], (rngOk_of hz).1, (rngOk_of hz).2, ?_⟩
          have q := h (Itr 0 j.toNat) G1 H1 s1 r1.pop
          have w := wk_range (z := x.z) (F := x.F) (G := G1) 0 j.toNat
          refine q ?_
          unfold range1
          simpa using w
        · exact h.elim
      | _ => exact h.elim
theorem si_rng2 {e e2 : Expr} {ee ee2 : E} {p : Pos} (hg : Gl X "range") (hm : X.mg "range" = none) (hs : noStar e = true) (hs2 : noStar e2 = true) (he : PE X e (tE z W (evE Γ ee))) (he2 : PE X e2 (tE z W (evE Γ ee2))) :
    PI X tg (.Call (.Name "range" p) [e, e2] [] pos) (tI z W (evI Γ (.rng2 ee ee2))) := by
  refine (pi_range2 hg hm (pa_cons he (pa_cons he2 pa_nil (star_of hs2)) (star_of hs)) ((star_of hs).trans (by rw [star_of hs2]; rfl)) (star_of hs2)).to fun σ H R ⟨x, G, env, ps, ez, r, h⟩ => ?_
  subst ez
  unfold evI at h
  refine ⟨x, G, env, ps, rfl, r, ?_⟩
  cases c : evE Γ ee env with
  | bad => rw [c] at h; exact h.elim
  | ex _ _ _ => rw [c] at h; exact h
  | ok o env1 =>
    rw [c] at h
    cases o with
    | p i => exact h.elim
    | v f d =>
      cases d with
      | int i =>
        dsimp only at h
        intro v G1 H1 s1 r1
        refine ⟨x, G1, env1, _, rfl, r1, ?_⟩
        have h := PostI.up s1 h
        cases c2 : evE Γ ee2 env1 with
        | bad => rw [c2] at h; exact h.elim
        | ex _ _ _ => rw [c2] at h; exact h
        | ok o2 env2 =>
          rw [c2] at h
          cases o2 with
          | p i => exact h.elim
          | v f2 d2 =>
            cases d2 with
            | int j =>
              dsimp only at h
              split at h
              · rename_i hz1 hz
                intro v2 G2 H2 s2 r2
                have hi := rngOk_of hz1
                have hj := rngOk_of hz
                refine ⟨i, j, by rw [r1.topInt, r2.topInt], ⟨hi.1, hi.2, hj.1, hj.2⟩, ?_⟩
                exact h _ G2 H2 s2 r2.pop.pop (wk_range i (j - i).toNat)
              · exact h.elim
            | _ => exact h.elim
      | _ => exact h.elim
theorem si_enum {e : Expr} {ee : E} {p tp : Pos} {elts : List Expr} {kk : Nat} (hK : X.K = z.K) (hg : Gl X "enumerate") (hm : X.mg "enumerate" = none) (hs : noStar e = true) (he : PE X e (tE z W (evE Γ ee))) : PI X (.Tuple elts kk tp) (.Call (.Name "enumerate" p) [e] [] pos) (tI z W (evI Γ (.enum ee))) := by
  refine (pi_enum hg hm (pa_cons he pa_nil (star_of hs)) (star_of hs)).to fun σ H R ⟨x, G, env, ps, ez, r, h⟩ => ?_
  subst ez
  unfold evI at h
  refine ⟨x, G, env, ps, rfl, r, ?_⟩
  cases c : evE Γ ee env with
  | bad => rw [c] at h; exact h.elim
  | ex _ _ _ => rw [c] at h; exact h
  | ok o env1 =>
    rw [c] at h
    cases o with
    | p i => exact h.elim
    | v f d =>
      dsimp only at h
      cases c2 : stl (f, d) with
      | lst g xs =>
        rw [c2] at h
        intro v G1 H1 s1 r1
        obtain ⟨G2, s2, t, r2⟩ := Rel.topS r1
        rw [c2] at t
        obtain ⟨a, vs, rfl, hs, ht⟩ := t.lst_inv
        refine ⟨a, vs, rfl, by rw [hK]; exact r2.gs.sqL hs, ?_⟩
        rw [hK]
        exact h _ G2 H1 (Same.tr s1 s2) r2.pop (wk_enum hs ht)
      | _ => rw [c2] at h; exact h.elim
theorem si_rev {e : Expr} {ee : E} {p : Pos} (hK : X.K = z.K) (hg : Gl X "reversed") (hm : X.mg "reversed" = none) (hs : noStar e = true) (he : PE X e (tE z W (evE Γ ee))) : PI X tg (.Call (.Name "reversed" p) [e] [] pos) (tI z W (evI Γ (.rev ee))) := by
  refine (pi_reversed hg hm (pa_cons he pa_nil (star_of hs)) (star_of hs)).to fun σ H R ⟨x, G, env, ps, ez, r, h⟩ => ?_
  subst ez
  unfold evI at h
  refine ⟨x, G, env, ps, rfl, r, ?_⟩
  cases c : evE Γ ee env with
  | bad => rw [c] at h; exact h.elim
  | ex _ _ _ => rw [c] at h; exact h
  | ok o env1 =>
    rw [c] at h
    cases o with
    | p i => exact h.elim
    | v f d =>
      dsimp only at h
      cases c2 : stl (f, d) with
      | lst g xs =>
        rw [c2] at h
        intro v G1 H1 s1 r1
        obtain ⟨G2, s2, t, r2⟩ := Rel.topS r1
        rw [c2] at t
        obtain ⟨a, vs, rfl, hs, ht⟩ := t.lst_inv
        refine ⟨a, vs, rfl, by rw [hK]; exact r2.gs.sqL hs, ?_⟩
        rw [hK]
        exact h _ G2 H1 (Same.tr s1 s2) r2.pop (wk_rev hs ht)
      | _ => rw [c2] at h; exact h.elim
theorem si_zip {e e2 : Expr} {ee ee2 : E} {p tp : Pos} {elts : List Expr} {kk : Nat} (hK : X.K = z.K) (hg : Gl X "zip") (hm : X.mg "zip" = none) (hs : noStar e = true) (hs2 : noStar e2 = true) (he : PE X e (tE z W (evE Γ ee))) (he2 : PE X e2 (tE z W (evE Γ ee2))) :
    PI X (.Tuple elts kk tp) (.Call (.Name "zip" p) [e, e2] [] pos) (tI z W (evI Γ (.zip ee ee2))) := by
  refine (pi_zip hg hm (pa_cons he (pa_cons he2 pa_nil (star_of hs2)) (star_of hs)) (star_of hs) (stars_of (by simp [hs2]))).to fun σ H R ⟨x, G, env, ps, ez, r, h⟩ => ?_
  subst ez
  unfold evI at h
  refine ⟨x, G, env, ps, rfl, r, ?_⟩
  cases c : evE Γ ee env with
  | bad => rw [c] at h; exact h.elim
  | ex _ _ _ => rw [c] at h; exact h
  | ok o env1 =>
    rw [c] at h
    cases o with
    | p i => exact h.elim
    | v f d =>
      dsimp only at h
      intro v G1 H1 s1 r1
      have h := PostI.up s1 h
      obtain ⟨G2, s2, t, r2⟩ := Rel.topS r1
      have h := PostI.up s2 h
      refine ⟨x, G2, env1, _, rfl, r2, ?_⟩
      cases c2 : evE Γ ee2 env1 with
      | bad => rw [c2] at h; exact h.elim
      | ex _ _ _ => rw [c2] at h; exact h
      | ok o2 env2 =>
        rw [c2] at h
        cases o2 with
        | p i => exact h.elim
        | v f2 d2 =>
          dsimp only at h
          intro u G3 H3 s3 r3
          have h := PostI.up s3 h
          obtain ⟨G4, s4, t2, r4⟩ := Rel.topS r3
          have h := PostI.up s4 h
          have t1 := t.any (H' := H3) (Same.tr s3 s4)
          cases c3 : stl (f, d) with
          | lst g xs =>
            rw [c3] at h t1
            cases c4 : stl (f2, d2) with
            | lst g2 ys =>
              rw [c4] at h t2
              obtain ⟨a, vs, rfl, hs, ht⟩ := t1.lst_inv
              obtain ⟨b, us, rfl, hs2, ht2⟩ := t2.lst_inv
              refine ⟨a, b, vs, us, rfl, by rw [hK]; exact r4.gs.sqL hs, by rw [hK]; exact r4.gs.sqL hs2, ?_⟩
              rw [hK]
              exact h _ G4 H3 (fun _ _ e => e) r4.pop.pop (wk_zip hs ht hs2 ht2)
            | _ => rw [c4] at h; exact h.elim
          | _ => rw [c3] at h; exact h.elim
end
end Vm
/-! Vm: statements. -/
namespace Vm
open PySem L2
open PyProof.Rows hiding St
def PostS (x : Fx) (G : Hp) (W : WX) (D : Ends) : SR → Prop
  | .next env => ∀ σ' G' H', Same G G' → Rel x G' σ' H' env [] → D.nx σ' H'
  | .brk env => ∀ σ' G' H', Same G G' → Rel x G' σ' H' env [] → D.bk σ' H'
  | .cnt env => ∀ σ' G' H', Same G G' → Rel x G' σ' H' env [] → D.ct σ' H'
  | .ret f d env => ∀ v σ' G' H', Same G G' → Rel x G' σ' H' env [(v, .v f d)] → D.rt v H'
  | .ex c fs env => ∀ cls dd σ' G' H', Same G G' → Rel x G' σ' H' env [] → ExR x.z G' H' cls dd c fs → W cls dd σ' H'
  | .bad => False
/-- the slots that are not stored to are named -/
def PinOk (x : Fx) (io : List Nat) : Prop := ∀ p ∈ x.pin, io.contains p.1 = true
def tS (z : Z) (io : List Nat) (W : WX) (m : EnvD → SR) : TS := fun D σ H => ∃ x G env, x.z = z ∧ PinOk x io ∧ Rel x G σ H env [] ∧ PostS x G W D (m env)
section
variable {x : Fx} {G G' : Hp} {σ : St} {H H' : Hp} {env : EnvD} {W : WX} {D : Ends}
theorem PostS.up {r : SR} (s : Same G G') (h : PostS x G W D r) : PostS x G' W D r := by
  cases r with
  | next env => exact fun σ' G2 H2 s2 r2 => h σ' G2 H2 (Same.tr s s2) r2
  | brk env => exact fun σ' G2 H2 s2 r2 => h σ' G2 H2 (Same.tr s s2) r2
  | cnt env => exact fun σ' G2 H2 s2 r2 => h σ' G2 H2 (Same.tr s s2) r2
  | ret f d env => exact fun v σ' G2 H2 s2 r2 => h v σ' G2 H2 (Same.tr s s2) r2
  | ex c fs env => exact fun cls dd σ' G2 H2 s2 r2 e => h cls dd σ' G2 H2 (Same.tr s s2) r2 e
  | bad => exact h
/-- an expression ahead of the rest of a statement -/
theorem PostS.step {m : EnvD → R} {k : O → EnvD → SR} {Q' : VK} (r : Rel x G σ H env []) (h : PostS x G W D ((m env).bindS k))
    (go : ∀ o env1 v G1 H1, Same G G1 → Rel x G1 σ H1 env1 [(v, o)] → PostS x G1 W D (k o env1) → Q' v H1) : tE x.z W m σ H Q' := by
  refine ⟨x, G, env, [], rfl, r, ?_⟩
  cases e : m env with
  | ok o env1 =>
    rw [e] at h
    exact fun v G1 H1 s r1 => go o env1 v G1 H1 s r1 (PostS.up s h)
  | ex c fs env1 =>
    rw [e] at h
    exact fun cls dd G1 H1 s r1 e1 => h cls dd σ G1 H1 s r1 e1
  | bad =>
    rw [e] at h
    exact h
theorem PostS.steps {m : EnvD → Rs} {k : List O → EnvD → SR} {Q' : List V → Hp → Prop} (r : Rel x G σ H env []) (h : PostS x G W D ((m env).bindS k))
    (go : ∀ os env1 vs G1 H1, vs.length = os.length → Same G G1 → Rel x G1 σ H1 env1 (vs.zip os) → PostS x G1 W D (k os env1) → Q' vs H1) : tEs x.z W m σ H Q' := by
  refine ⟨x, G, env, [], rfl, r, ?_⟩
  cases e : m env with
  | ok o env1 =>
    rw [e] at h
    exact fun v G1 H1 l s r1 => go o env1 v G1 H1 l s r1 (PostS.up s h)
  | ex c fs env1 =>
    rw [e] at h
    exact fun cls dd G1 H1 s r1 e1 => h cls dd σ G1 H1 s r1 e1
  | bad =>
    rw [e] at h
    exact h
theorem PostS.stepT {m : EnvD → R} {k : O → EnvD → SR} {Q' : Bool → Hp → Prop} (r : Rel x G σ H env []) (h : PostS x G W D ((m env).bindS k)) (hk : ∀ o env1, (∀ f b, o ≠ .v f (.bl b)) → k o env1 = .bad)
    (go : ∀ f b env1 G1 H1, Same G G1 → Rel x G1 σ H1 env1 [] → PostS x G1 W D (k (.v f (.bl b)) env1) → Q' b H1) : tT x.z W m σ H Q' := by
  refine ⟨x, G, env, [], rfl, r, ?_⟩
  cases e : m env with
  | bad => rw [e] at h; exact h.elim
  | ex c fs env1 =>
    rw [e] at h
    exact fun cls dd G1 H1 s r1 e1 => h cls dd σ G1 H1 s r1 e1
  | ok o env1 =>
    rw [e] at h
    have h' : PostS x G W D (k o env1) := h
    cases o with
    | p i =>
      rw [hk _ _ (fun f b q => by cases q)] at h'
      exact h'.elim
    | v f d =>
      cases d with
      | bl b => exact fun G' H' s r' => go f b env1 G' H' s r' (PostS.up s h')
      | _ =>
        rw [hk _ _ (fun f b q => by cases q)] at h'
        exact h'.elim
/-- settled data into a slot, below a stack that looks at no slot -/
def noP (ps : List (V × O)) : Prop := ∀ p ∈ ps, ∀ i, p.2 ≠ .p i
theorem noP_nil : noP [] := fun p m => by cases m
theorem TPs.slots {z : Z} {σ σ' : St} : ∀ {ps : List (V × O)} {C : List Addr}, TPs z G H σ ps C → noP ps → TPs z G H σ' ps C
  | _, _, .nil, _ => .nil
  | _, _, .cons h t, n => by
    refine .cons ?_ (TPs.slots t fun p m => n p (List.mem_cons_of_mem _ m))
    cases h with
    | v h f => exact .v h f
    | p h => exact absurd rfl (n _ (List.mem_cons_self ..) _)
theorem Rel.put {ps : List (V × O)} {i : Nat} {v : V} {d : Vm.D} (r : Rel x G σ H env ps) (t1 : T x.z G H v d []) (l : i < env.length) (np : ∀ p ∈ x.pin, p.1 ≠ i) (n0 : noP ps) : Rel x G (σ.set i (some v)) H (env.set i (some (false, d))) ps := by
  obtain ⟨A, C, t, s, n, o⟩ := r.ex
  obtain ⟨v0, d', B, C', e2, e3, t2, p1, th, k⟩ := t.focus i l
  obtain ⟨A', t', p'⟩ := k (G2 := G) (H2 := H) (fun _ _ e => e) (fun _ _ => rfl) (TO.some (f := false) t1 fun _ => rfl)
  have pp : (A ++ C).Perm ((A' ++ C) ++ B) := by
    refine (perm_mid p1).trans ?_
    rw [← List.append_assoc]
    exact ((p'.symm).append_right C).append_right B
  have n' := pp.nodup_iff.mp n
  refine .intro t' (s.slots n0) (List.nodup_append.mp n').1 (fun a m => o a (pp.mem_iff.mpr (List.mem_append_left _ m))) r.gs r.fs r.g0 r.gf fun p m => ?_
  rw [List.getElem?_set_ne (np p m).symm]
  exact r.pn p m
end
/-! ### targets -/
mutual
def tgSlots : Tg → List Nat
  | .nm i => [i]
  | .tup ts => tgsSlots ts
def tgsSlots : List Tg → List Nat
  | [] => []
  | t :: ts => tgSlots t ++ tgsSlots ts
end
def Off (σ σ' : St) (vs : List Nat) : Prop := σ'.length = σ.length ∧ ∀ i, i ∉ vs → σ'[i]? = σ[i]?
def gT (z : Z) (io : List Nat) (tg : Tg) : TG := fun v σ H Q => ∃ x G env ps d env', x.z = z ∧ PinOk x io ∧ noP ps ∧ Rel x G σ H env ps ∧ T z G H v d [] ∧ tgSet io tg d env = some env' ∧ ∀ σ', Off σ σ' (tgSlots tg) → Rel x G σ' H env' ps → Q σ' H
def gTs (z : Z) (io : List Nat) (tg : List Tg) : TGs := fun vs σ H Q => ∃ x G env ps ds env', x.z = z ∧ PinOk x io ∧ noP ps ∧ Rel x G σ H env ps ∧ Ts z G H vs ds [] ∧ tgSet.tgs io tg ds env = some env' ∧ ∀ σ', Off σ σ' (tgsSlots tg) → Rel x G σ' H env' ps → Q σ' H
section
variable {X : Cx} {z : Z} {io : List Nat} {pos : Pos}
theorem _root_.L2.PG.to {e : Expr} {t t' : TG} (h : PG X e t) (k : ∀ v σ H Q, t' v σ H Q → t v σ H Q) : PG X e t' := ⟨fun pins s σ H v u Q I r q => h.run pins s σ H v u Q I r (k v σ H Q q)⟩
theorem _root_.L2.PGs.to {e : List Expr} {t t' : TGs} (h : PGs X e t) (k : ∀ v σ H Q, t' v σ H Q → t v σ H Q) : PGs X e t' := ⟨fun pins s σ H v u Q I r q => h.run pins s σ H v u Q I r (k v σ H Q q)⟩
theorem sg_nm {i : Nat} {y : Str} (hN : X.N.Nodup) (hi : X.N[i]? = some y) (hx : Loc X.env.scope y) (hf : X.fn y = true ∨ X.env.scope.names.lookup y = some .local) : PG X (.Name y pos) (gT z io (.nm i)) := by
  refine (pg_name hN hi hx hf).to fun v σ H Q ⟨x, G, env, ps, d, env', ez, po, n0, r, t, e, k⟩ => ?_
  subst ez
  unfold tgSet at e
  split at e
  · cases e
  · rename_i hc
    split at e
    · rename_i l
      cases e
      refine k _ ⟨List.length_set, fun j hj => ?_⟩ (r.put t l (fun p m ep => hc (ep ▸ po p m)) n0)
      have ne : i ≠ j := fun q => hj (by rw [q]; exact List.mem_singleton.mpr rfl)
      rw [List.getElem?_set_ne ne]
    · cases e
theorem sg_nil : PGs X [] (gTs z io []) := by
  refine pgs_nil.to fun v σ H Q ⟨x, G, env, ps, d, env', ez, po, n0, r, t, e, k⟩ => ?_
  cases d with
  | nil =>
    have l := t.length
    cases v with
    | nil =>
      cases e
      exact ⟨rfl, k σ ⟨rfl, fun _ _ => rfl⟩ r⟩
    | cons _ _ => simp at l
  | cons _ _ => cases e
theorem sg_cons {e : Expr} {es : List Expr} {t : Tg} {ts : List Tg} (hs : (assignEach (e :: es) X.env).map (·.2) = assign e X.env :: (assignEach es X.env).map (·.2)) (h1 : PG X e (gT z io t)) (h2 : PGs X es (gTs z io ts)) : PGs X (e :: es) (gTs z io (t :: ts)) := by
  refine (pgs_cons h1 h2 hs).to fun v σ H Q ⟨x, G, env, ps, d, env', ez, po, n0, r, tt, e, k⟩ => ?_
  cases d with
  | nil => cases e
  | cons d ds =>
    have l := tt.length
    cases v with
    | nil => simp at l
    | cons v vs =>
      obtain ⟨t1, t2⟩ := tt.nil_inv
      have e' : (tgSet io t d env).bind (tgSet.tgs io ts ds) = some env' := e
      obtain ⟨env1, e1, e2⟩ := Option.bind_eq_some_iff.mp e'
      refine ⟨v, vs, rfl, x, G, env, ps, d, env1, ez, po, n0, r, t1, e1, fun σ1 o1 r1 => ?_⟩
      refine ⟨x, G, env1, ps, ds, env', ez, po, n0, r1, t2, e2, fun σ2 o2 r2 => k σ2 ⟨o2.1.trans o1.1, fun j hj => ?_⟩ r2⟩
      have hj' : j ∉ tgSlots t ∧ j ∉ tgsSlots ts := by
        unfold tgsSlots at hj
        simpa using hj
      rw [o2.2 j hj'.2, o1.2 j hj'.1]
theorem sg_tup {es : List Expr} {kk : Nat} {ts : List Tg} {n : Nat} (hK : X.K = z.K) (hc : X.calm = true) (hl : es.length = n) (h2 : ts.length = n) (hn : (assignEach es X.env).length = n) (hst : (assignEach es X.env).findIdx? (·.1) = none) (h : PGs X es (gTs z io ts)) : PG X (.Tuple es kk pos) (gT z io (.tup ts)) := by
  have tl : ∀ {ts : List Tg} {ds : List Vm.D} {env env' : EnvD}, tgSet.tgs io ts ds env = some env' → ds.length = ts.length := by
    intro ts
    induction ts with
    | nil =>
      intro ds env env' e
      cases ds with
      | nil => rfl
      | cons _ _ => cases e
    | cons t ts ih =>
      intro ds env env' e
      cases ds with
      | nil => cases e
      | cons d ds =>
        obtain ⟨env1, e1, e2⟩ := Option.bind_eq_some_iff.mp (show (tgSet io t d env).bind (tgSet.tgs io ts ds) = some env' from e)
        rw [List.length_cons, List.length_cons, ih e2]
  refine ⟨fun pins s σ H v u Q I ru q => ?_⟩
  obtain ⟨x, G, env, ps, d, env', ez, po, n0, r, t, e, k⟩ := q
  subst ez
  cases d with
  | tup ds =>
    obtain ⟨a, vs, rfl, hs, ht⟩ := t.tup_inv
    exact (pg_tup hc h hn hst).run pins s σ H _ u Q I ru ⟨a, vs, rfl, by rw [hK]; exact r.gs.sqT hs, by rw [ht.length, tl e, h2], x, G, env, ps, ds, env', rfl, po, n0, r, ht, e, k⟩
  | lst f ds =>
    obtain ⟨a, vs, rfl, hs, ht⟩ := t.lst_inv
    exact (pg_lst hc h hn hst).run pins s σ H _ u Q I ru ⟨a, vs, rfl, by rw [hK]; exact r.gs.sqL hs, by rw [ht.length, tl e, h2], x, G, env, ps, ds, env', rfl, po, n0, r, ht, e, k⟩
  | _ => cases e
/-! ### statements -/
variable {W : WX} {Γ : Cf}
theorem _root_.L2.PS.to {e : Stmt} {t t' : TS} (h : PS X e t) (k : ∀ D σ H, t' D σ H → t D σ H) : PS X e t' := ⟨fun pins s σ H D I q => h.run pins s σ H D I (k D σ H q)⟩
theorem _root_.L2.PSs.to {e : List Stmt} {t t' : TS} (h : PSs X e t) (k : ∀ D σ H, t' D σ H → t D σ H) : PSs X e t' := ⟨fun pins s σ H D I q => h.run pins s σ H D I (k D σ H q)⟩
theorem ss_nil : PSs X [] (tS z io W (evSs Γ .nil)) := by
  refine pss_nil.to fun D σ H ⟨x, G, env, ez, po, r, h⟩ => ?_
  unfold evSs at h
  exact h σ G H (fun _ _ e => e) r
theorem ss_cons {s : Stmt} {l : List Stmt} {es : S} {el : Ss} (h1 : PS X s (tS z io W (evS Γ es))) (h2 : PSs X l (tS z io W (evSs Γ el))) : PSs X (s :: l) (tS z io W (evSs Γ (.cons es el))) := by
  refine (pss_cons h1 h2).to fun D σ H ⟨x, G, env, ez, po, r, h⟩ => ?_
  unfold evSs at h
  refine ⟨x, G, env, ez, po, r, ?_⟩
  cases c : evS Γ es env with
  | next env1 =>
    rw [c] at h
    exact fun σ' G' H' s' r' => ⟨x, G', env1, ez, po, r', PostS.up s' h⟩
  | brk env1 => rw [c] at h; exact h
  | cnt env1 => rw [c] at h; exact h
  | ret f d env1 => rw [c] at h; exact h
  | ex cc fs env1 => rw [c] at h; exact h
  | bad => rw [c] at h; exact h.elim
theorem ss_pas : PS X (.Pass pos) (tS z io W (evS Γ .pas)) := ps_pass.to fun D σ H ⟨x, G, env, ez, po, r, h⟩ => by
  unfold evS at h
  exact h σ G H (fun _ _ e => e) r
theorem ss_brk : PS X (.Break pos) (tS z io W (evS Γ .brk)) := ps_break.to fun D σ H ⟨x, G, env, ez, po, r, h⟩ => by
  unfold evS at h
  exact h σ G H (fun _ _ e => e) r
theorem ss_cnt : PS X (.Continue pos) (tS z io W (evS Γ .cnt)) := ps_continue.to fun D σ H ⟨x, G, env, ez, po, r, h⟩ => by
  unfold evS at h
  exact h σ G H (fun _ _ e => e) r
theorem ss_retN : PS X (.Return none pos) (tS z io W (evS Γ (.ret .none))) := ps_retN.to fun D σ H ⟨x, G, env, ez, po, r, h⟩ => by
  unfold evS at h
  have r' : Rel x G σ H env ([] ++ [(V.non, .v false .non)]) := r.push .non
  exact h .non σ G H (fun _ _ e => e) r'
theorem ss_ret {e : Expr} {ee : E} (he : PE X e (tE z W (evE Γ ee))) : PS X (.Return (some e) pos) (tS z io W (evS Γ (.ret (.some ee)))) := by
  refine (ps_ret he).to fun D σ H ⟨x, G, env, ez, po, r, h⟩ => ?_
  subst ez
  unfold evS at h
  refine PostS.step r h fun o env1 v G1 H1 s1 r1 h1 => ?_
  cases o with
  | p i => exact h1.elim
  | v f d => exact h1 v σ G1 H1 (fun _ _ e => e) r1
theorem ss_ex {e : Expr} {ee : E} (hs : swapsWith e none pos.line X.env = pure false) (he : PE X e (tE z W (evE Γ ee))) : PS X (.Expr e pos) (tS z io W (evS Γ (.ex ee))) := by
  refine (ps_expr he hs).to fun D σ H ⟨x, G, env, ez, po, r, h⟩ => ?_
  subst ez
  unfold evS at h
  refine PostS.step r h fun o env1 v G1 H1 s1 r1 h1 => ?_
  exact h1 σ G1 H1 (fun _ _ e => e) (Rel.pop (ps := []) r1)
theorem ss_ife {c : Expr} {a b : List Stmt} {ec : E} {ea eb : Ss} (hc : PT X c (tT z W (evE Γ ec))) (ha : PSs X a (tS z io W (evSs Γ ea))) (hb : PSs X b (tS z io W (evSs Γ eb))) : PS X (.If c a b pos) (tS z io W (evS Γ (.ife ec ea eb))) := by
  refine (ps_if hc ha hb).to fun D σ H ⟨x, G, env, ez, po, r, h⟩ => ?_
  subst ez
  unfold evS at h
  refine PostS.stepT r h (fun o env1 q => ?_) fun f c env1 G1 H1 s1 r1 h1 => ?_
  · split
    · exact absurd rfl (q _ _)
    · exact absurd rfl (q _ _)
    · rfl
  · cases c with
    | true => exact ⟨x, G1, env1, rfl, po, r1, h1⟩
    | false => exact ⟨x, G1, env1, rfl, po, r1, h1⟩
/-- the reading of name = value -/
theorem asg_rd {i : Nat} {keep : Bool} {ee : E} {D : Ends} {σ : St} {H : Hp} (hio : Γ.io = io) (h : tS z io W (evS Γ (.asg keep i ee)) D σ H) : tAsg (tE z W (evE Γ ee)) (gName i) D σ H := by
  obtain ⟨x, G, env, ez, po, r, h⟩ := h
  subst ez
  unfold evS at h
  refine PostS.step r h fun o env1 v G1 H1 s1 r1 h1 => ?_
  cases o with
  | p i => exact h1.elim
  | v f d =>
    dsimp only [unO] at h1
    split at h1
    · exact h1.elim
    · rename_i hc
      rw [hio] at hc
      have np : ∀ p ∈ x.pin, p.1 ≠ i := fun p m ep => hc (ep ▸ po p m)
      split at h1
      · rename_i l
        cases keep with
        | true =>
          have r2 := Rel.store0 r1 l np
          exact h1 _ G1 H1 (fun _ _ e => e) r2
        | false =>
          obtain ⟨G2, s2, t, r2⟩ := Rel.topS (ps := []) r1
          have r3 := Rel.store0 r2 l np
          exact h1 _ G2 H1 s2 r3
      · exact h1.elim
theorem ss_asg {i : Nat} {y : Str} {keep : Bool} {e : Expr} {ee : E} {p : Pos} (hio : Γ.io = io) (hN : X.N.Nodup) (hi : X.N[i]? = some y) (hx : Loc X.env.scope y) (hf : X.fn y = true ∨ X.env.scope.names.lookup y = some .local) (hs : swapsWith e (some (.Name y p)) pos.line X.env = pure false) (he : PE X e (tE z W (evE Γ ee))) :
    PS X (.Assign [.Name y p] e pos) (tS z io W (evS Γ (.asg keep i ee))) := (ps_set hN hi hx he hs hf).to fun D σ H h => asg_rd hio h
theorem ss_asgt {tg : Expr} {t : Tg} {e : Expr} {ee : E} (hio : Γ.io = io) (hg : PG X tg (gT z io t)) (hs : swapsWithSole [tg] e pos.line X.env = pure false) (hw : swappedStores [tg] e X.env = pure none) (h1 : (assignEach [tg] X.env).map (·.2) = [assign tg X.env])
    (he : PE X e (tE z W (evE Γ ee))) : PS X (.Assign [tg] e pos) (tS z io W (evS Γ (.asgt t ee))) := by
  refine (ps_asg he hg hs hw h1).to fun D σ H ⟨x, G, env, ez, po, r, h⟩ => ?_
  subst ez
  unfold evS at h
  refine PostS.step r h fun o env1 v G1 H1 s1 r1 h1 => ?_
  cases o with
  | p i => exact h1.elim
  | v f d =>
    obtain ⟨G2, s2, t2, r2⟩ := Rel.topS (ps := []) r1
    have h2 := PostS.up s2 h1
    dsimp only [unO] at h2
    cases c : tgSet Γ.io t (stl (f, d)) env1 with
    | none => rw [c] at h2; exact h2.elim
    | some env2 =>
      rw [c] at h2
      rw [hio] at c
      exact ⟨x, G2, env1, [], stl (f, d), env2, rfl, po, noP_nil, Rel.pop (ps := []) r2, t2, c, fun σ' _ r3 => h2 σ' G2 H1 (fun _ _ e => e) r3⟩
/-- the walk of a for -/
theorem for_core {x : Fx} {G1 : Hp} {σ : St} {H1 : Hp} {env1 : EnvD} {ds : List Vm.D} {J : It} {D : Ends} {t : Tg} {b : Ss} {vs : List Nat} (hio : Γ.io = io) (po : PinOk x io) (r1 : Rel x G1 σ H1 env1 []) (wk : Wk x.z x.F G1 J ds) (h1 : PostS x G1 W D (forL (evSs Γ b) (tgSet Γ.io t) vs ds (kill vs env1))) :
    ∃ W' : Nat → Nat → St → Hp → Prop, (∃ m, W' 0 m σ H1) ∧ ∀ i m σ H, W' i m σ H → (J.stop i H ∧ D.nx σ H) ∨ (J.go i H ∧ ∃ N : St → Hp → Prop, (∀ σ' H', N σ' H' → ∃ m', m' < m ∧ W' (i + 1) m' σ' H') ∧ ∀ x0 H', J.yld i H x0 H' → gT x.z io t x0 σ H' fun σ2 H2 => tS x.z io W (evSs Γ b) { D with nx := N, ct := N, bk := D.nx } σ2 H2) := by
  refine ⟨fun i m σ H => m = ds.length - i ∧ i ≤ ds.length ∧ ∃ G2 env2, Same G1 G2 ∧ Rel x G2 σ H env2 [] ∧ PostS x G2 W D (forL (evSs Γ b) (tgSet Γ.io t) vs (ds.drop i) env2), ⟨_, rfl, Nat.zero_le _, G1, _, fun _ _ e => e, r1.kill vs, h1⟩, ?_⟩
  rintro i m σ2 H2 ⟨rfl, hi, G2, env2, s2, r2, h2⟩
  by_cases hlt : i < ds.length
  · refine .inr ⟨wk.go i G2 H2 s2 r2.gs r2.fs hlt, fun σ' H' => ∃ G3 env3, Same G1 G3 ∧ Rel x G3 σ' H' env3 [] ∧ PostS x G3 W D (forL (evSs Γ b) (tgSet Γ.io t) vs (ds.drop (i + 1)) env3), fun σ' H' ⟨G3, env3, s3, r3, h3⟩ => ⟨ds.length - (i + 1), by omega, rfl, hlt, G3, env3, s3, r3, h3⟩, ?_⟩
    intro v H' y
    obtain ⟨d, G3, e3, s3, r3⟩ := wk.item s2 r2 hlt y
    have ed : ds.drop i = d :: ds.drop (i + 1) := by
      rw [List.drop_eq_getElem_cons hlt]
      rw [List.getElem?_eq_getElem hlt] at e3
      cases e3
      rfl
    rw [ed] at h2
    unfold forL at h2
    cases c2 : tgSet Γ.io t d env2 with
    | none => rw [c2] at h2; exact h2.elim
    | some env3 =>
      rw [c2] at h2
      rw [hio] at c2
      refine ⟨x, G3, env2, [], d, env3, rfl, po, noP_nil, Rel.pop (ps := []) r3, Rel.top (ps := []) r3, c2, fun σ3 _ r4 => ?_⟩
      refine ⟨x, G3, env3, rfl, po, r4, ?_⟩
      have h3 := PostS.up s3 h2
      dsimp only at h3
      have s13 : Same G1 G3 := Same.tr s2 s3
      cases c3 : evSs Γ b env3 with
      | next env4 =>
        rw [c3] at h3
        exact fun σ' G4 H4 s4 r5 => ⟨G4, _, Same.tr s13 s4, r5.kill vs, PostS.up s4 h3⟩
      | cnt env4 =>
        rw [c3] at h3
        exact fun σ' G4 H4 s4 r5 => ⟨G4, _, Same.tr s13 s4, r5.kill vs, PostS.up s4 h3⟩
      | brk env4 =>
        rw [c3] at h3
        exact fun σ' G4 H4 s4 r5 => h3 σ' G4 H4 s4 (r5.kill vs)
      | ret f d env4 => rw [c3] at h3; exact h3
      | ex cc fs env4 => rw [c3] at h3; exact h3
      | bad => rw [c3] at h3; exact h3.elim
  · have e : i = ds.length := by omega
    subst e
    rw [List.drop_length] at h2
    exact .inl ⟨wk.stop G2 H2 s2 r2.gs r2.fs, h2 σ2 G2 H2 (fun _ _ e => e) r2⟩
/-- for -/
theorem ss_for {tg iter : Expr} {body : List Stmt} {t : Tg} {it : I} {b : Ss} {vs : List Nat} (hio : Γ.io = io) (hp : PassesOwn (model X.prog X.w) X.A X.env X.xe) (hc : X.calm = true) (hs : ∀ x, foldedSetIterable iter X.env x = pure x) (hi : PI X tg iter (tI z W (evI Γ it))) (hg : PG X tg (gT z io t)) (hb : PSs X body (tS z io W (evSs Γ b))) :
    PS X (.For tg iter body [] pos) (tS z io W (evS Γ (.for t it b vs))) := by
  refine (ps_for hp hc hi hg hb hs).to fun D σ H ⟨x, G, env, ez, po, r, h⟩ => ?_
  subst ez
  unfold evS at h
  refine ⟨x, G, env, [], rfl, r, ?_⟩
  cases c : evI Γ it env with
  | bad => rw [c] at h; exact h.elim
  | ex cc fs env1 =>
    rw [c] at h
    exact fun cls dd G1 H1 s r1 e1 => h cls dd σ G1 H1 s r1 e1
  | ok ds env1 =>
    rw [c] at h
    intro J G1 H1 s1 r1 wk
    have h1 : PostS x G1 W D (forL (evSs Γ b) (tgSet Γ.io t) vs ds (kill vs env1)) := PostS.up s1 h
    exact for_core hio po r1 wk h1
end
end Vm
/-! Vm: lists that are changed in their place. -/
namespace Vm
open PySem L2
open PyProof.Rows hiding St
section
variable {z : Z} {G H : Hp}
/-- one of several, and the others whatever comes for it -/
theorem Ts.focus : ∀ {vs : List V} {ds : List D} {A : List Addr} (i : Nat) {d : D}, Ts z G H vs ds A → ds[i]? = some d →
    ∃ v B C, vs[i]? = some v ∧ T z G H v d B ∧ A.Perm (B ++ C) ∧ (∀ a ∈ C, IsSome H a) ∧ ∀ {G2 H2 : Hp} {d' : D} {B' : List Addr}, Same G G2 → (∀ a ∈ C, H2 a = H a) → T z G2 H2 v d' B' → ∃ A', Ts z G2 H2 vs (ds.set i d') A' ∧ A'.Perm (B' ++ C)
  | _, _, _, i, _, .nil, e => by simp at e
  | v :: vs, d0 :: ds, _, 0, d, .cons (A := A) (B := B) h t, e => by
    simp at e
    subst e
    exact ⟨v, A, B, rfl, h, .rfl, t.there, fun {G2 H2 d' B'} s k h' => ⟨B' ++ B, .cons h' (t.mono s k), .rfl⟩⟩
  | v :: vs, d0 :: ds, _, i + 1, d, .cons (A := A) (B := B) h t, e => by
    obtain ⟨v1, B1, C1, e1, h1, p1, th, k1⟩ := Ts.focus i t (by simpa using e)
    refine ⟨v1, B1, A ++ C1, by simpa using e1, h1, ?_, fun a m => (List.mem_append.mp m).elim (h.there a) (th a), fun {G2 H2 d' B'} s k h' => ?_⟩
    · refine (p1.append_left A).trans ?_
      rw [← List.append_assoc, ← List.append_assoc]
      exact List.perm_append_comm.append_right C1
    · obtain ⟨A', t', p'⟩ := k1 s (fun a m => k a (List.mem_append_right _ m)) h'
      refine ⟨A ++ A', .cons (h.mono s fun a m => k a (List.mem_append_left _ m)) t', ?_⟩
      refine (p'.append_left A).trans ?_
      rw [← List.append_assoc, ← List.append_assoc]
      exact List.perm_append_comm.append_right C1
/-- the address at the end of a path -/
inductive ValAt (z : Z) (G H : Hp) : V → List Int → Addr → Prop
  | nil {l : Addr} : ValAt z G H (.ref l) [] l
  | lst {a : Addr} {vs : List V} {k : Int} {w : V} {p : List Int} {l : Addr} : (SqL z.K G a vs ∨ H a = some (.lst vs)) → atI vs k = some w → ValAt z G H w p l → ValAt z G H (.ref a) (k :: p) l
  | tup {a : Addr} {vs : List V} {k : Int} {w : V} {p : List Int} {l : Addr} : SqT z.K G a vs → atI vs k = some w → ValAt z G H w p l → ValAt z G H (.ref a) (k :: p) l
theorem atI_ix {α : Type} {xs : List α} {k : Int} {j : Nat} {x : α} (h : ixN xs.length k = some j) (e : xs[j]? = some x) : atI xs k = some x := by
  unfold atI
  rw [h]
  exact e
theorem setAt_some {α : Type} {xs ys : List α} {i : Int} {f : α → Option α} (h : setAt xs i f = some ys) : ∃ j x y, ixN xs.length i = some j ∧ xs[j]? = some x ∧ f x = some y ∧ ys = xs.set j y := by
  unfold setAt at h
  split at h
  · rename_i j hj
    split at h
    · rename_i x hx
      obtain ⟨y, e1, e2⟩ := Option.map_eq_some_iff.mp h
      exact ⟨j, x, y, hj, hx, e1, e2.symm⟩
    · cases h
  · cases h
theorem T.path {f : D → Option D} (hf : ∀ d y, f d = some y → ∃ xs, d = .lst true xs) : ∀ (p : List Int) {v : V} {t t' : D} {A : List Addr}, T z G H v t A → mutAt p f t = some t' →
    ∃ l us xs y B C, ValAt z G H v p l ∧ H l = some (.lst us) ∧ Ts z G H us xs B ∧ f (.lst true xs) = some y ∧ A.Perm ((l :: B) ++ C) ∧ (∀ a ∈ C, IsSome H a) ∧
      ∀ {G2 H2 : Hp} {B' : List Addr}, Same G G2 → (∀ a ∈ C, H2 a = H a) → T z G2 H2 (.ref l) y B' → ∃ A', T z G2 H2 v t' A' ∧ A'.Perm (B' ++ C)
  | [], v, t, t', A, h, e => by
    have e' : f t = some t' := by
      cases t <;> exact e
    obtain ⟨xs, rfl⟩ := hf _ _ e'
    cases h with
    | lstF hl ht => exact ⟨_, _, xs, t', _, [], .nil, hl, ht, e', by rw [List.append_nil], fun a m => absurd m List.not_mem_nil, fun {G2 H2 B'} s k h' => ⟨B', h', by rw [List.append_nil]⟩⟩
  | i :: p, v, t, t', A, h, e => by
    cases t with
    | lst g ds =>
      have e' : (setAt ds i (mutAt p f)).map (fun ys => D.lst g ys) = some t' := e
      obtain ⟨ys, e1, e2⟩ := Option.map_eq_some_iff.mp e'
      obtain ⟨j, x, y, hj, hx, e3, e4⟩ := setAt_some e1
      subst e2 e4
      cases h with
      | lst hs ht =>
        obtain ⟨w, B1, C1, ew, h1, p1, th1, k1⟩ := ht.focus j hx
        obtain ⟨l, us, xs, y0, B, C, va, hl, hu, ey, p2, th2, k2⟩ := T.path hf p h1 e3
        refine ⟨l, us, xs, y0, B, C ++ C1, .lst (.inl hs) (atI_ix (by rw [ht.length]; exact hj) ew) va, hl, hu, ey, ?_, fun a m => (List.mem_append.mp m).elim (th2 a) (th1 a), fun {G2 H2 B'} s k h' => ?_⟩
        · rw [← List.append_assoc]
          exact p1.trans (p2.append_right C1)
        · obtain ⟨A2, t2, q2⟩ := k2 s (fun a m => k a (List.mem_append_left _ m)) h'
          obtain ⟨A3, t3, q3⟩ := k1 s (fun a m => k a (List.mem_append_right _ m)) t2
          exact ⟨A3, .lst (s.seq hs) t3, by rw [← List.append_assoc]; exact q3.trans (q2.append_right C1)⟩
      | @lstF a0 vs0 _ A0 hs ht =>
        obtain ⟨w, B1, C1, ew, h1, p1, th1, k1⟩ := ht.focus j hx
        obtain ⟨l, us, xs, y0, B, C, va, hl, hu, ey, p2, th2, k2⟩ := T.path hf p h1 e3
        refine ⟨l, us, xs, y0, B, a0 :: (C ++ C1), .lst (.inr hs) (atI_ix (by rw [ht.length]; exact hj) ew) va, hl, hu, ey, ?_, fun a m => ?_, fun {G2 H2 B'} s k h' => ?_⟩
        · refine List.Perm.trans ?_ List.perm_middle.symm
          refine List.Perm.cons a0 ?_
          rw [← List.append_assoc]
          exact p1.trans (p2.append_right C1)
        · rcases List.mem_cons.mp m with q | m
          · exact ⟨_, q ▸ hs⟩
          · exact (List.mem_append.mp m).elim (th2 a) (th1 a)
        · obtain ⟨A2, t2, q2⟩ := k2 s (fun a m => k a (List.mem_cons_of_mem _ (List.mem_append_left _ m))) h'
          obtain ⟨A3, t3, q3⟩ := k1 s (fun a m => k a (List.mem_cons_of_mem _ (List.mem_append_right _ m))) t2
          refine ⟨a0 :: A3, .lstF (by rw [k a0 (List.mem_cons_self ..)]; exact hs) t3, ?_⟩
          refine List.Perm.trans ?_ List.perm_middle.symm
          refine List.Perm.cons a0 ?_
          rw [← List.append_assoc]
          exact q3.trans (q2.append_right C1)
    | tup ds =>
      have e' : (setAt ds i (mutAt p f)).map (fun ys => D.tup ys) = some t' := e
      obtain ⟨ys, e1, e2⟩ := Option.map_eq_some_iff.mp e'
      obtain ⟨j, x, y, hj, hx, e3, e4⟩ := setAt_some e1
      subst e2 e4
      cases h with
      | tup hs ht =>
        obtain ⟨w, B1, C1, ew, h1, p1, th1, k1⟩ := ht.focus j hx
        obtain ⟨l, us, xs, y0, B, C, va, hl, hu, ey, p2, th2, k2⟩ := T.path hf p h1 e3
        refine ⟨l, us, xs, y0, B, C ++ C1, .tup hs (atI_ix (by rw [ht.length]; exact hj) ew) va, hl, hu, ey, ?_, fun a m => (List.mem_append.mp m).elim (th2 a) (th1 a), fun {G2 H2 B'} s k h' => ?_⟩
        · rw [← List.append_assoc]
          exact p1.trans (p2.append_right C1)
        · obtain ⟨A2, t2, q2⟩ := k2 s (fun a m => k a (List.mem_append_left _ m)) h'
          obtain ⟨A3, t3, q3⟩ := k1 s (fun a m => k a (List.mem_append_right _ m)) t2
          exact ⟨A3, .tup (Same.seqT s hs) t3, by rw [← List.append_assoc]; exact q3.trans (q2.append_right C1)⟩
    | _ => cases e
end
section
variable {x : Fx} {G : Hp} {σ : St} {H : Hp} {env : EnvD}
/-- a list of a slot's data is changed; what lies on the stack goes into it -/
theorem Rel.mutT {i : Nat} {t t' : D} {p : List Int} {f : D → Option D} {qs : List (V × O)} (r : Rel x G σ H env qs) (e : getS env i = some (true, t)) (hf : ∀ d y, f d = some y → ∃ xs, d = .lst true xs) (hm : mutAt p f t = some t') :
    ∃ v l us xs y, σ[i]? = some (some v) ∧ ValAt x.z G H v p l ∧ H l = some (.lst us) ∧ f (.lst true xs) = some y ∧ us.length = xs.length ∧ (∃ B, Ts x.z G H us xs B) ∧
      ∀ o', (∀ B C2 H2, Ts x.z G H us xs B → TPs x.z G H σ qs C2 → H2 l = some o' → (∀ a ∈ B ++ C2, H2 a = H a) → ∃ B' R, T x.z G H2 (.ref l) y B' ∧ ((l :: B) ++ C2).Perm (B' ++ R)) → Rel x G σ (upd H l o') (env.set i (some (true, t'))) [] := by
  obtain ⟨A, C, ts, s, n, o⟩ := r.ex
  obtain ⟨e1, li⟩ := getS_some e
  obtain ⟨v, d', B0, C0, e2, e3, t1, p1, th, k⟩ := ts.focus i li
  rw [e1] at e3
  cases e3
  cases t1 with
  | @some w _ _ _ t1 f1 =>
    obtain ⟨l, us, xs, y, B, C1, va, hl, hu, ey, p2, th2, k2⟩ := T.path hf p t1 hm
    refine ⟨w, l, us, xs, y, e2, va, hl, ey, hu.length, ⟨B, hu⟩, fun o' ho => ?_⟩
    -- all: l, B, C1, C0, C apart
    have pall : (A ++ C).Perm (((l :: B) ++ C) ++ (C1 ++ C0)) := by
      refine (p1.append_right C).trans ((((p2.append_right C0)).append_right C).trans ?_)
      rw [List.append_assoc, List.append_assoc, List.append_assoc]
      refine List.Perm.append_left (l :: B) ?_
      rw [← List.append_assoc]
      exact List.perm_append_comm
    have nall := pall.nodup_iff.mp n
    have apart : ∀ a, a ∈ B ++ C ∨ a ∈ C1 ++ C0 → a ≠ l := fun a m q => by
      subst q
      have n1 : (a :: ((B ++ C) ++ (C1 ++ C0))).Nodup := by simpa using nall
      have n2 := (List.nodup_cons.mp n1).1
      exact n2 (List.mem_append.mpr m)
    have hold : ∀ a, a ∈ B ++ C ∨ a ∈ C1 ++ C0 → upd H l o' a = H a := fun a m => upd_ne (apart a m)
    obtain ⟨B', R, tB, pB⟩ := ho B C (upd H l o') hu s upd_same fun a m => hold a (.inl m)
    obtain ⟨A2, t2, q2⟩ := k2 (G2 := G) (fun _ _ e => e) (fun a m => hold a (.inr (List.mem_append_left _ m))) tB
    obtain ⟨A3, t3, q3⟩ := k (v' := some w) (d' := some (true, t')) (G2 := G) (H2 := upd H l o') (fun _ _ e => e) (fun a m => hold a (.inr (List.mem_append_right _ m))) (.some t2 fun q => by cases q)
    have es : σ.set i (some w) = σ := by
      apply List.ext_getElem?
      intro j
      rw [List.getElem?_set]
      by_cases q : i = j
      · subst q
        rw [if_pos rfl, e2, ts.len, if_pos li]
      · rw [if_neg q]
    rw [es] at t3
    have pf : (A ++ C).Perm (A3 ++ R) := by
      refine pall.trans ((pB.append_right _).trans ?_)
      refine List.Perm.trans ?_ (((q3.trans (q2.append_right C0))).append_right R).symm
      rw [List.append_assoc, List.append_assoc, List.append_assoc]
      refine List.Perm.append_left B' ?_
      refine List.perm_append_comm.trans ?_
      rw [List.append_assoc]
    have ml : l ∈ A ++ C := pall.mem_iff.mpr (by simp)
    have gl := o l ml
    have nf := pf.nodup_iff.mp n
    refine .intro (C := []) t3 .nil (by rw [List.append_nil]; exact (List.nodup_append.mp nf).1) (fun a m => o a (pf.mem_iff.mpr (List.mem_append_left _ (by rw [List.append_nil] at m; exact m)))) ?_ ?_ r.g0 r.gf r.pn
    · intro a u ea
      have ne : a ≠ l := fun q => by rw [q, gl.1] at ea; cases ea
      rw [upd_ne ne]
      exact r.gs a u ea
    · intro a u ea
      have ne : a ≠ l := fun q => by rw [q, gl.2] at ea; cases ea
      rw [upd_ne ne]
      exact r.fs a u ea
theorem Rel.mut {i : Nat} {t t' : D} {p : List Int} {f : D → Option D} {qs : List (V × O)} (r : Rel x G σ H env qs) (e : getS env i = some (true, t)) (hf : ∀ d y, f d = some y → ∃ xs, d = .lst true xs) (hm : mutAt p f t = some t') :
    ∃ v l us xs y, σ[i]? = some (some v) ∧ ValAt x.z G H v p l ∧ H l = some (.lst us) ∧ f (.lst true xs) = some y ∧ us.length = xs.length ∧
      ∀ o', (∀ B C2 H2, Ts x.z G H us xs B → TPs x.z G H σ qs C2 → H2 l = some o' → (∀ a ∈ B ++ C2, H2 a = H a) → ∃ B' R, T x.z G H2 (.ref l) y B' ∧ ((l :: B) ++ C2).Perm (B' ++ R)) → Rel x G σ (upd H l o') (env.set i (some (true, t'))) [] := by
  obtain ⟨v, l, us, xs, y, e1, va, hl, ey, len, _, k⟩ := Rel.mutT r e hf hm
  exact ⟨v, l, us, xs, y, e1, va, hl, ey, len, k⟩
end
section
variable {X : Cx} {z : Z} {io : List Nat} {W : WX} {Γ : Cf} {pos : Pos}
theorem opMut_lst {m : MM} {ds : List (Bool × D)} : ∀ d y, opMut m ds d = some y → ∃ xs, d = .lst true xs := by
  intro d y h
  unfold opMut at h
  split at h <;> first | exact ⟨_, rfl⟩ | cases h
/-- what append does to a list that stands -/
theorem Rel.app {x : Fx} {G : Hp} {σ : St} {H : Hp} {env : EnvD} {i : Nat} {t t' : D} {fd : Bool} {d : D} {u : V} {p : List Int} (r : Rel x G σ H env [(u, .v fd d)]) (e : getS env i = some (true, t)) (hm : mutAt p (opMut .append [(fd, d)]) t = some t') :
    ∃ v l us, σ[i]? = some (some v) ∧ ValAt x.z G H v p l ∧ H l = some (.lst us) ∧ us.length < sizeLine ∧ Rel x G σ (upd H l (.lst (us ++ [u]))) (env.set i (some (true, t'))) [] := by
  obtain ⟨v, l, us, xs, y, e1, va, hl, ey, len, k⟩ := Rel.mut r e opMut_lst hm
  have ey' : (if xs.length < sizeLine then some (D.lst true (xs ++ [d])) else none) = some y := ey
  split at ey'
  · rename_i hz
    cases ey'
    refine ⟨v, l, us, e1, va, hl, by rw [len]; exact hz, k _ fun B C2 H2 hu s h2 kk => ?_⟩
    cases s with
    | cons s1 s2 =>
      cases s2
      cases s1 with
      | v s1 f1 =>
        rename_i A1
        refine ⟨l :: (B ++ (A1 ++ [])), [], .lstF h2 ?_, by simp⟩
        exact (hu.mono (fun _ _ e => e) fun a m => kk a (List.mem_append_left _ m)).append (.cons (s1.mono (fun _ _ e => e) fun a m => kk a (List.mem_append_right _ (List.mem_append_left _ m))) .nil)
  · cases ey'
theorem Rel.clr {x : Fx} {G : Hp} {σ : St} {H : Hp} {env : EnvD} {i : Nat} {t t' : D} {p : List Int} (r : Rel x G σ H env []) (e : getS env i = some (true, t)) (hm : mutAt p (opMut .clear []) t = some t') :
    ∃ v l us, σ[i]? = some (some v) ∧ ValAt x.z G H v p l ∧ H l = some (.lst us) ∧ Rel x G σ (upd H l (.lst [])) (env.set i (some (true, t'))) [] := by
  obtain ⟨v, l, us, xs, y, e1, va, hl, ey, len, k⟩ := Rel.mut r e opMut_lst hm
  have ey' : some (D.lst true []) = some y := ey
  cases ey'
  refine ⟨v, l, us, e1, va, hl, k _ fun B C2 H2 hu s h2 kk => ?_⟩
  cases s
  exact ⟨[l], B, .lstF h2 .nil, by simp⟩
/-- the receiver: a name, items of it -/
def recvT (K : PySem.W.Frag) (i : Nat) : List Int → TE
  | [] => tVar i
  | k :: p => fun σ H Q => recvT K i p σ H fun v H1 => rIx K v (.int k) H1 Q
/-- along the path from the left -/
def pathT (K : PySem.W.Frag) (t : TE) : List Int → TE
  | [] => t
  | k :: p => pathT K (tOp (rIx K) t (tC (.int k))) p
theorem pathT_at {z : Z} {G H : Hp} (g : GS G H) {σ : St} : ∀ {p : List Int} {v : V} {l : Addr} {t : TE} {Q : VK}, ValAt z G H v p l → (∀ Q', Q' v H → t σ H Q') → Q (.ref l) H → pathT z.K t p σ H Q
  | [], _, _, t, Q, .nil, ht, q => ht Q q
  | k :: p, _, _, t, Q, .lst hs e va, ht, q => pathT_at g va (t := tOp (rIx z.K) t (tC (.int k))) (fun Q' q' => ht _ (.inl ⟨_, _, k, _, rfl, rfl, hs.elim g.sqL fun h => .inl (.inl h), e, q'⟩)) q
  | k :: p, _, _, t, Q, .tup hs e va, ht, q => pathT_at g va (t := tOp (rIx z.K) t (tC (.int k))) (fun Q' q' => ht _ (.inr (.inl ⟨_, _, k, _, rfl, rfl, g.sqT hs, e, q'⟩))) q
/-- what a path's end is, as a list -/
theorem T.pathL {z : Z} {G H : Hp} (g : GS G H) : ∀ {p : List Int} {v : V} {t : D} {A : List Addr}, T z G H v t A → Vm.pathL p t = true → ∃ l us, ValAt z G H v p l ∧ H l = some (.lst us)
  | [], v, t, A, h, e => by
    cases t with
    | lst f xs =>
      cases f with
      | true =>
        cases h with
        | lstF hl _ => exact ⟨_, _, .nil, hl⟩
      | false => cases e
    | _ => cases e
  | i :: p, v, t, A, h, e => by
    cases t with
    | lst f xs =>
      unfold Vm.pathL at e
      split at e
      · rename_i j hj
        split at e
        · rename_i x hx
          cases h with
          | lst hs ht =>
            obtain ⟨w, B1, C1, ew, h1, _⟩ := ht.focus j hx
            obtain ⟨l, us, va, hl⟩ := T.pathL g h1 e
            exact ⟨l, us, .lst (.inl hs) (atI_ix (by rw [ht.length]; exact hj) ew) va, hl⟩
          | lstF hs ht =>
            obtain ⟨w, B1, C1, ew, h1, _⟩ := ht.focus j hx
            obtain ⟨l, us, va, hl⟩ := T.pathL g h1 e
            exact ⟨l, us, .lst (.inr hs) (atI_ix (by rw [ht.length]; exact hj) ew) va, hl⟩
        · cases e
      · cases e
    | tup xs =>
      unfold Vm.pathL at e
      split at e
      · rename_i j hj
        split at e
        · rename_i x hx
          cases h with
          | tup hs ht =>
            obtain ⟨w, B1, C1, ew, h1, _⟩ := ht.focus j hx
            obtain ⟨l, us, va, hl⟩ := T.pathL g h1 e
            exact ⟨l, us, .tup hs (atI_ix (by rw [ht.length]; exact hj) ew) va, hl⟩
        · cases e
      · cases e
    | _ => cases e
theorem ty_list {K : PySem.W.Frag} {H : Hp} {l : Addr} {us : List V} (h : H l = some (.lst us)) : tyV K "list" (.ref l) H := .inl ⟨rfl, us, .inl (.inl h)⟩
/-- name.append(e) -/
theorem ss_app {i : Nat} {y : Str} {e : Expr} {ee : E} {p1 apos cpos : Pos} (hK : X.K = z.K) (hN : X.N[i]? = some y) (hv : Vis X.env.scope y) (hd : (y == ("__debug__" : Str)) = false) (hc : (y == ("__classdict__" : Str)) = false) (hl : (apos.endLine == cpos.line) = true) (hs : noStar e = true)
    (hb : attributeBase (.Name y p1) "append" X.env (eval (.Name y p1) X.env) = eval (.Name y p1) X.env) (hsw : swapsWith (.Call (.Attribute (.Name y p1) "append" apos) [e] [] cpos) none pos.line X.env = pure false)
    (hfew : ((backTo cpos (starEach [e] X.env)).all (fun x => !x.1) && (backToKw cpos (keywordEach [] X.env)).all (fun x => x.1.isSome) && decide ([e].length + ([] : List Keyword).length + (if ([] : List Keyword).isEmpty then 0 else 1) < 30)) = true)
    (he : PE X e (tE z W (evE Γ ee))) : PS X (.Expr (.Call (.Attribute (.Name y p1) "append" apos) [e] [] cpos) pos) (tS z io W (evS Γ (.mut .append i [] (.cons ee .nil)))) := by
  refine (ps_expr (pe_bm PySem.F.plainAttrs_list slot_list_append type_list_append mt_append (pe_var hN hv hd hc) (sa_cons (star_of hs) he sa_nil) hb hfew hl (star_of hs) (stars_of rfl)) hsw).to fun D σ H ⟨x, G, env, ez, po, r, h⟩ => ?_
  subst ez
  unfold evS at h
  cases c0 : getS env i with
  | none => rw [c0] at h; exact h.elim
  | some q0 =>
    obtain ⟨f0, t0⟩ := q0
    rw [c0] at h
    cases f0 with
    | false => exact h.elim
    | true =>
      dsimp only at h
      split at h
      · rename_i hp
        simp only [Bool.and_eq_true] at hp
        obtain ⟨v, B, e1, t, _⟩ := r.slot c0
        obtain ⟨l, us, va, hl0⟩ := t.pathL r.gs hp.1
        cases va
        refine ⟨_, e1, ty_list hl0, ?_⟩
        refine PostS.steps r h fun os env1 vs G1 H1 hln s1 r1 h1 => ?_
        cases c1 : unOs os with
        | none => rw [c1] at h1; exact h1.elim
        | some ds =>
          rw [c1] at h1
          cases c2 : getS env1 i with
          | none => rw [c2] at h1; exact h1.elim
          | some q2 =>
            obtain ⟨f2, t2⟩ := q2
            rw [c2] at h1
            cases f2 with
            | false => exact h1.elim
            | true =>
              dsimp only at h1
              cases c3 : mutAt [] (opMut .append ds) t2 with
              | none => rw [c3] at h1; exact h1.elim
              | some t' =>
                rw [c3] at h1
                -- one argument
                have one : ∃ u fd d, vs = [u] ∧ os = [.v fd d] ∧ ds = [(fd, d)] := by
                  cases os with
                  | nil =>
                    cases c1
                    exfalso
                    have z : opMut .append [] t2 = some t' := by cases t2 <;> exact c3
                    unfold opMut at z
                    split at z <;> first | contradiction | cases z
                  | cons o os =>
                    have c1' : (match unO o, unOs os with
                      | some d, some ds => some (d :: ds)
                      | _, _ => none) = some ds := c1
                    cases o with
                    | p j => cases c1'
                    | v fd d =>
                      cases c4 : unOs os with
                      | none => rw [c4] at c1'; cases c1'
                      | some ds' =>
                        rw [c4] at c1'
                        cases c1'
                        cases ds' with
                        | nil =>
                          cases os with
                          | nil =>
                            cases vs with
                            | nil => simp at hln
                            | cons u us =>
                              cases us with
                              | nil => exact ⟨u, fd, d, rfl, rfl, rfl⟩
                              | cons _ _ => simp at hln
                          | cons o2 os2 =>
                            have c5 : (match unO o2, unOs os2 with
                              | some d, some ds => some (d :: ds)
                              | _, _ => none) = some [] := c4
                            split at c5 <;> cases c5
                        | cons p ps =>
                          exfalso
                          have z : opMut .append ((fd, d) :: p :: ps) t2 = some t' := by cases t2 <;> exact c3
                          unfold opMut at z
                          split at z <;> first | contradiction | cases z
                obtain ⟨u, fd, d, rfl, rfl, rfl⟩ := one
                obtain ⟨v', l', us', e2, va', hl', hz, r2⟩ := Rel.app r1 c2 c3
                rw [e1] at e2
                cases e2
                cases va'
                exact ⟨l, us', u, rfl, rfl, hl', hz, h1 σ G1 _ (fun _ _ e => e) r2⟩
      · exact h.elim
/-- recv.append(a constant), recv.clear() -/
theorem ss_appC {i : Nat} {p : List Int} {o e : Expr} {ee : E} {u : V} {d : D} {apos cpos : Pos} (hK : X.K = z.K) (ho : PE X o (pathT X.K (tVar i) p)) (he : PE X e (tC u)) (hd : cstE ee = some d) (ht : ∀ z G H, T z G H u d []) (hev : ∀ env, evE Γ ee env = .ok (.v false d) env) (hl : (apos.endLine == cpos.line) = true) (hs : noStar e = true)
    (hb : attributeBase o "append" X.env (eval o X.env) = eval o X.env) (hsw : swapsWith (.Call (.Attribute o "append" apos) [e] [] cpos) none pos.line X.env = pure false)
    (hfew : ((backTo cpos (starEach [e] X.env)).all (fun x => !x.1) && (backToKw cpos (keywordEach [] X.env)).all (fun x => x.1.isSome) && decide ([e].length + ([] : List Keyword).length + (if ([] : List Keyword).isEmpty then 0 else 1) < 30)) = true) :
    PS X (.Expr (.Call (.Attribute o "append" apos) [e] [] cpos) pos) (tS z io W (evS Γ (.mut .append i p (.cons ee .nil)))) := by
  refine (ps_expr (pe_bm PySem.F.plainAttrs_list slot_list_append type_list_append mt_append ho (pa_cons he pa_nil (star_of hs)) hb hfew hl (star_of hs) (stars_of rfl)) hsw).to fun D σ H ⟨x, G, env, ez, po, r, h⟩ => ?_
  subst ez
  unfold evS at h
  cases c0 : getS env i with
  | none => rw [c0] at h; exact h.elim
  | some q0 =>
    obtain ⟨f0, t0⟩ := q0
    rw [c0] at h
    cases f0 with
    | false => exact h.elim
    | true =>
      dsimp only at h
      split at h
      · have ev : evEs Γ (.cons ee .nil) env = .ok [.v false d] env := by
          unfold evEs
          rw [hev]
          unfold evEs
          rfl
        rw [ev] at h
        have h1 : PostS x G W D (match getS env i with
          | some (true, t) => match mutAt p (opMut .append [(false, d)]) t with
            | some t' => .next (env.set i (some (true, t')))
            | none => .bad
          | _ => .bad) := by
          have h1 := h
          simp only [Rs.bindS, unOs, unO] at h1
          rw [c0] at h1 ⊢
          exact h1
        rw [c0] at h1
        dsimp only at h1
        cases c3 : mutAt p (opMut .append [(false, d)]) t0 with
        | none => rw [c3] at h1; exact h1.elim
        | some t' =>
          rw [c3] at h1
          have r1 : Rel x G σ H env ([] ++ [(u, .v false d)]) := r.push (ht _ _ _)
          obtain ⟨v, l, us, e1, va, hl1, hz, r2⟩ := Rel.app r1 c0 c3
          rw [hK]
          exact pathT_at r.gs va (fun Q' q' => ⟨v, e1, q'⟩) ⟨ty_list hl1, l, us, u, rfl, rfl, hl1, hz, h1 σ G _ (fun _ _ e => e) r2⟩
      · exact h.elim
theorem ss_clr {i : Nat} {p : List Int} {o : Expr} {apos cpos : Pos} (hK : X.K = z.K) (ho : PE X o (pathT X.K (tVar i) p)) (hl : (apos.endLine == cpos.line) = true) (hb : attributeBase o "clear" X.env (eval o X.env) = eval o X.env) (hsw : swapsWith (.Call (.Attribute o "clear" apos) [] [] cpos) none pos.line X.env = pure false) :
    PS X (.Expr (.Call (.Attribute o "clear" apos) [] [] cpos) pos) (tS z io W (evS Γ (.mut .clear i p .nil))) := by
  refine (ps_expr (pe_bm0 PySem.F.plainAttrs_list PySem.F.slot_list_clear PySem.F.type_list_clear mt_clear ho hb hl) hsw).to fun D σ H ⟨x, G, env, ez, po, r, h⟩ => ?_
  subst ez
  unfold evS at h
  cases c0 : getS env i with
  | none => rw [c0] at h; exact h.elim
  | some q0 =>
    obtain ⟨f0, t0⟩ := q0
    rw [c0] at h
    cases f0 with
    | false => exact h.elim
    | true =>
      dsimp only at h
      split at h
      · have ev : evEs Γ .nil env = .ok [] env := by
          unfold evEs
          rfl
        rw [ev] at h
        have h1 : PostS x G W D (match getS env i with
          | some (true, t) => match mutAt p (opMut .clear []) t with
            | some t' => .next (env.set i (some (true, t')))
            | none => .bad
          | _ => .bad) := by
          have h1 := h
          simp only [Rs.bindS, unOs] at h1
          rw [c0] at h1 ⊢
          exact h1
        rw [c0] at h1
        dsimp only at h1
        cases c3 : mutAt p (opMut .clear []) t0 with
        | none => rw [c3] at h1; exact h1.elim
        | some t' =>
          rw [c3] at h1
          obtain ⟨v, l, us, e1, va, hl1, r2⟩ := Rel.clr r c0 c3
          rw [hK]
          exact pathT_at r.gs va (fun Q' q' => ⟨v, e1, q'⟩) ⟨ty_list hl1, l, us, rfl, rfl, hl1, h1 σ G _ (fun _ _ e => e) r2⟩
      · exact h.elim
/-! ### pop(i), insert(i, x), reverse() -/
theorem Ts.erase {z : Z} {G H : Hp} : ∀ {us : List V} {xs : List D} {B : List Addr} (k : Nat), Ts z G H us xs B → ∃ B' R, Ts z G H (us.eraseIdx k) (xs.eraseIdx k) B' ∧ B.Perm (B' ++ R)
  | _, _, _, k, .nil => ⟨[], [], by simpa using Ts.nil, by simp⟩
  | _, _, _, 0, .cons (A := A) (B := B) h t => ⟨B, A, t, List.perm_append_comm⟩
  | _, _, _, k + 1, .cons (A := A) (B := B) h t => by
    obtain ⟨B', R, t', p⟩ := Ts.erase k t
    exact ⟨A ++ B', R, .cons h t', by rw [List.append_assoc]; exact p.append_left A⟩
theorem Ts.cut {z : Z} {G H : Hp} : ∀ {us : List V} {xs : List D} {B : List Addr} (k : Nat), Ts z G H us xs B → ∃ B1 B2, Ts z G H (us.take k) (xs.take k) B1 ∧ Ts z G H (us.drop k) (xs.drop k) B2 ∧ B = B1 ++ B2
  | us, xs, B, 0, t => ⟨[], B, .nil, t, rfl⟩
  | _, _, _, k + 1, .nil => ⟨[], [], .nil, .nil, rfl⟩
  | _, _, _, k + 1, .cons (A := A) h t => by
    obtain ⟨B1, B2, t1, t2, e⟩ := Ts.cut k t
    exact ⟨A ++ B1, B2, .cons h t1, t2, by rw [e, List.append_assoc]⟩
theorem Ts.rev {z : Z} {G H : Hp} : ∀ {us : List V} {xs : List D} {B : List Addr}, Ts z G H us xs B → ∃ B', Ts z G H us.reverse xs.reverse B' ∧ B.Perm B'
  | _, _, _, .nil => ⟨[], .nil, .rfl⟩
  | _, _, _, .cons (A := A) (B := B) h t => by
    obtain ⟨B', t', p⟩ := Ts.rev t
    rw [List.reverse_cons, List.reverse_cons]
    exact ⟨B' ++ (A ++ []), t'.append (.cons h .nil), by rw [List.append_nil]; exact List.perm_append_comm.trans (p.append_right A)⟩
/-- what a change does, told to its rule -/
def MutR (z : Z) (m : MM) (r : V → List V → Hp → VK → Prop) : Prop := ∀ (x : Fx) (G : Hp) (σ : St) (H : Hp) (env : EnvD) (i : Nat) (os : List O) (ds : List (Bool × D)) (t t' : D) (vs : List V) (Q : VK), x.z = z → Rel x G σ H env (vs.zip os) → vs.length = os.length → unOs os = some ds → getS env i = some (true, t) → opMut m ds t = some t' →
  (∀ v H', Rel x G σ H' (env.set i (some (true, t'))) [] → Q v H') → ∃ l, σ[i]? = some (some (.ref l)) ∧ r (.ref l) vs H Q
theorem rev_mut : MutR z .reverse rReverse := by
  intro x G σ H env i os ds t t' vs Q ez r hl u e hm q
  subst ez
  obtain ⟨v, l, us, xs, y, e1, va, hl0, ey, len, k⟩ := Rel.mut (p := []) r e opMut_lst (show mutAt [] (opMut .reverse ds) t = some t' by cases t <;> exact hm)
  cases va
  have ed : ds = [] ∧ y = .lst true xs.reverse := by
    unfold opMut at ey
    split at ey <;> first | contradiction | (cases ey; done) | skip
    rename_i h1 h2 h3 h4
    cases h4
    cases ey
    exact ⟨rfl, rfl⟩
  obtain ⟨rfl, rfl⟩ := ed
  have ev : vs = [] := by
    cases os with
    | nil => exact List.length_eq_zero_iff.mp hl
    | cons o os =>
      have u' : (match unO o, unOs os with
        | some d, some ds => some (d :: ds)
        | _, _ => none) = some [] := u
      split at u' <;> cases u'
  subst ev
  refine ⟨l, e1, l, us, rfl, rfl, hl0, q _ _ (k _ fun B C2 H2 hu s h2 kk => ?_)⟩
  cases s
  have hu2 : Ts x.z G H2 us xs B := hu.mono (fun _ _ e => e) fun a m => kk a (List.mem_append_left _ m)
  obtain ⟨B', t2, p⟩ := hu2.rev
  exact ⟨l :: B', [], .lstF h2 t2, by simpa using p⟩
theorem un_one {os : List O} {p : Bool × D} {vs : List V} (u : unOs os = some [p]) (l : vs.length = os.length) : ∃ v, vs = [v] ∧ os = [.v p.1 p.2] := by
  cases os with
  | nil => cases u
  | cons o os =>
    have u' : (match unO o, unOs os with
      | some d, some ds => some (d :: ds)
      | _, _ => none) = some [p] := u
    cases o with
    | p j => cases u'
    | v f d =>
      cases c : unOs os with
      | none => rw [c] at u'; cases u'
      | some ds =>
        rw [c] at u'
        cases u'
        cases os with
        | nil =>
          cases vs with
          | nil => simp at l
          | cons v vs =>
            cases vs with
            | nil => exact ⟨v, rfl, rfl⟩
            | cons _ _ => simp at l
        | cons o os =>
          have c' : (match unO o, unOs os with
            | some d, some ds => some (d :: ds)
            | _, _ => none) = some [] := c
          split at c' <;> cases c'
theorem un_two {os : List O} {p p2 : Bool × D} {vs : List V} (u : unOs os = some [p, p2]) (l : vs.length = os.length) : ∃ v v2, vs = [v, v2] ∧ os = [.v p.1 p.2, .v p2.1 p2.2] := by
  cases os with
  | nil => cases u
  | cons o os =>
    have u' : (match unO o, unOs os with
      | some d, some ds => some (d :: ds)
      | _, _ => none) = some [p, p2] := u
    cases o with
    | p j => cases u'
    | v f d =>
      cases c : unOs os with
      | none => rw [c] at u'; cases u'
      | some ds =>
        rw [c] at u'
        cases u'
        cases vs with
        | nil => simp at l
        | cons v vs =>
          obtain ⟨v2, rfl, rfl⟩ := un_one (vs := vs) c (by simpa using l)
          exact ⟨v, v2, rfl, rfl⟩
theorem T.intV {z : Z} {G H : Hp} {v : V} {i : Int} {A : List Addr} (h : T z G H v (.int i) A) : v = .int i ∧ A = [] := by
  cases h
  exact ⟨rfl, rfl⟩
theorem pop_mut : MutR z .pop1 rPopAt := by
  intro x G σ H env i os ds t t' vs Q ez r hl u e hm q
  subst ez
  obtain ⟨v, l, us, xs, y, e1, va, hl0, ey, len, k⟩ := Rel.mut (p := []) r e opMut_lst (show mutAt [] (opMut .pop1 ds) t = some t' by cases t <;> exact hm)
  cases va
  have ed : ∃ f j, ds = [(f, .int j)] ∧ 0 ≤ j ∧ j < xs.length ∧ j < 1000000000 ∧ y = .lst true (xs.eraseIdx j.toNat) := by
    unfold opMut at ey
    split at ey <;> first | contradiction | (cases ey; done) | skip
    rename_i f j xs' h4 h5
    cases h4
    cases h5
    split at ey
    · rename_i h
      cases ey
      exact ⟨_, _, rfl, h.1, h.2.1, h.2.2, rfl⟩
    · cases ey
  obtain ⟨f, j, rfl, h0, h1, h2, rfl⟩ := ed
  obtain ⟨w, rfl, rfl⟩ := un_one u hl
  have ew : w = .int j := by
    obtain ⟨A, C, ts, s, n, o⟩ := r.ex
    cases s with
    | cons s1 s2 =>
      cases s1 with
      | v s1 _ => exact s1.intV.1
  subst ew
  have lj : j.toNat < us.length := by rw [len]; omega
  refine ⟨l, e1, l, us, j, j.toNat, us[j.toNat], rfl, rfl, hl0, by omega, by omega, ?_, List.getElem?_eq_getElem lj, q _ _ (k _ fun B C2 H2 hu s h3 kk => ?_)⟩
  · unfold seqIndex?
    have n0 : ¬ j < 0 := by omega
    simp only [n0, if_false]
    rw [if_pos]
    simp only [Bool.and_eq_true, decide_eq_true_eq]
    rw [len]
    exact ⟨h0, h1⟩
  · cases s with
    | cons s1 s2 =>
      cases s2
      cases s1 with
      | v s1 f1 =>
        obtain ⟨_, eA⟩ := s1.intV
        subst eA
        have hu2 : Ts x.z G H2 us xs B := hu.mono (fun _ _ e => e) fun a m => kk a (List.mem_append_left _ m)
        obtain ⟨B', R, t2, p⟩ := hu2.erase j.toNat
        exact ⟨l :: B', R, .lstF h3 t2, by simpa using p⟩
def rInsert : V → List V → Hp → VK → Prop := fun x vs H Q => ∃ (l : Addr) (xs : List V) (i : Int) (y : V), x = .ref l ∧ vs = [.int i, y] ∧ H l = some (.lst xs) ∧ xs.length < sizeLine ∧ 0 ≤ i ∧ i < 2 ^ 63 ∧ Q .non (upd H l (.lst (xs.take i.toNat ++ [y] ++ xs.drop i.toNat)))
theorem ins_mut : MutR z .insert rInsert := by
  intro x G σ H env i os ds t t' vs Q ez r hl u e hm q
  subst ez
  obtain ⟨v, l, us, xs, y, e1, va, hl0, ey, len, k⟩ := Rel.mut (p := []) r e opMut_lst (show mutAt [] (opMut .insert ds) t = some t' by cases t <;> exact hm)
  cases va
  have ed : ∃ f j g d, ds = [(f, .int j), (g, d)] ∧ 0 ≤ j ∧ j < 1000000000 ∧ xs.length < sizeLine ∧ y = .lst true (xs.take j.toNat ++ [d] ++ xs.drop j.toNat) := by
    unfold opMut at ey
    split at ey <;> first | contradiction | (cases ey; done) | skip
    rename_i f j g d xs' h4 h5
    cases h4
    cases h5
    split at ey
    · rename_i h
      cases ey
      exact ⟨_, _, _, _, rfl, h.1, h.2.1, h.2.2, rfl⟩
    · cases ey
  obtain ⟨f, j, g, d, rfl, h0, h1, h2, rfl⟩ := ed
  obtain ⟨w, w2, rfl, rfl⟩ := un_two u hl
  have ew : w = .int j := by
    obtain ⟨A, C, ts, s, n, o⟩ := r.ex
    cases s with
    | cons s1 s2 =>
      cases s1 with
      | v s1 _ => exact s1.intV.1
  subst ew
  refine ⟨l, e1, l, us, j, w2, rfl, rfl, hl0, by rw [len]; exact h2, h0, by omega, q _ _ (k _ fun B C2 H2 hu s h3 kk => ?_)⟩
  cases s with
  | cons s1 s2 =>
    cases s1 with
    | v s1 f1 =>
      obtain ⟨_, eA⟩ := s1.intV
      subst eA
      cases s2 with
      | cons s2 s3 =>
        cases s3
        cases s2 with
        | v s2 f2 =>
          rename_i C3
          have hu2 : Ts x.z G H2 us xs B := hu.mono (fun _ _ e => e) fun a m => kk a (List.mem_append_left _ m)
          have hw2 : T x.z G H2 w2 d C3 := s2.mono (fun _ _ e => e) fun a m => kk a (by simp [m])
          obtain ⟨B1, B2, t1, t2, rfl⟩ := hu2.cut j.toNat
          refine ⟨l :: (B1 ++ (C3 ++ []) ++ B2), [], .lstF h3 ((t1.append (.cons hw2 .nil)).append t2), ?_⟩
          simp only [List.append_nil, List.cons_append, List.nil_append, List.append_assoc]
          exact (List.perm_append_comm.append_left B1).cons l
/-- name.m(..) of these -/
theorem ss_mutG {m : MM} {mn : Str} {id : String} {rr : V → List V → Hp → VK → Prop} {i : Nat} {y : Str} {e : Expr} {l : List Expr} {es : Es} {p1 apos cpos : Pos} (hK : X.K = z.K) (slot : Slot "list" mn id) (hty : typeOf (.builtin id) = pure (.type "method_descriptor")) (hm : MtR X id rr) (mr : MutR z m rr)
    (hN : X.N[i]? = some y) (hv : Vis X.env.scope y) (hd : (y == ("__debug__" : Str)) = false) (hc : (y == ("__classdict__" : Str)) = false) (hl : (apos.endLine == cpos.line) = true) (hs : (e :: l).all noStar = true)
    (hb : attributeBase (.Name y p1) mn X.env (eval (.Name y p1) X.env) = eval (.Name y p1) X.env) (hsw : swapsWith (.Call (.Attribute (.Name y p1) mn apos) (e :: l) [] cpos) none pos.line X.env = pure false)
    (hfew : ((backTo cpos (starEach (e :: l) X.env)).all (fun x => !x.1) && (backToKw cpos (keywordEach [] X.env)).all (fun x => x.1.isSome) && decide ((e :: l).length + ([] : List Keyword).length + (if ([] : List Keyword).isEmpty then 0 else 1) < 30)) = true)
    (ha : PA X (e :: l) (tEs z W (evEs Γ es))) : PS X (.Expr (.Call (.Attribute (.Name y p1) mn apos) (e :: l) [] cpos) pos) (tS z io W (evS Γ (.mut m i [] es))) := by
  simp only [List.all_cons, Bool.and_eq_true] at hs
  refine (ps_expr (pe_bm PySem.F.plainAttrs_list slot hty hm (pe_var hN hv hd hc) ha hb hfew hl (star_of hs.1) (stars_of hs.2)) hsw).to fun D σ H ⟨x, G, env, ez, po, r, h⟩ => ?_
  subst ez
  unfold evS at h
  cases c0 : getS env i with
  | none => rw [c0] at h; exact h.elim
  | some q0 =>
    obtain ⟨f0, t0⟩ := q0
    rw [c0] at h
    cases f0 with
    | false => exact h.elim
    | true =>
      dsimp only at h
      split at h
      · rename_i hp
        simp only [Bool.and_eq_true] at hp
        obtain ⟨v, B, e1, t, _⟩ := r.slot c0
        obtain ⟨l0, us, va, hl0⟩ := t.pathL r.gs hp.1
        cases va
        refine ⟨_, e1, ty_list hl0, ?_⟩
        refine PostS.steps r h fun os env1 vs G1 H1 hln s1 r1 h1 => ?_
        cases c1 : unOs os with
        | none => rw [c1] at h1; exact h1.elim
        | some ds =>
          rw [c1] at h1
          cases c2 : getS env1 i with
          | none => rw [c2] at h1; exact h1.elim
          | some q2 =>
            obtain ⟨f2, t2⟩ := q2
            rw [c2] at h1
            cases f2 with
            | false => exact h1.elim
            | true =>
              dsimp only at h1
              cases c3 : mutAt [] (opMut m ds) t2 with
              | none => rw [c3] at h1; exact h1.elim
              | some t' =>
                rw [c3] at h1
                have c4 : opMut m ds t2 = some t' := by cases t2 <;> exact c3
                obtain ⟨l2, e2, k⟩ := mr x G1 σ H1 env1 i os ds t2 t' vs _ rfl r1 hln c1 c2 c4 fun v H' r2 => h1 σ G1 H' (fun _ _ e => e) r2
                rw [e1] at e2
                cases e2
                exact k
      · exact h.elim
theorem ss_rev {i : Nat} {y : Str} {p1 apos cpos : Pos} (hK : X.K = z.K) (hN : X.N[i]? = some y) (hv : Vis X.env.scope y) (hd : (y == ("__debug__" : Str)) = false) (hc : (y == ("__classdict__" : Str)) = false) (hl : (apos.endLine == cpos.line) = true)
    (hb : attributeBase (.Name y p1) "reverse" X.env (eval (.Name y p1) X.env) = eval (.Name y p1) X.env) (hsw : swapsWith (.Call (.Attribute (.Name y p1) "reverse" apos) [] [] cpos) none pos.line X.env = pure false) : PS X (.Expr (.Call (.Attribute (.Name y p1) "reverse" apos) [] [] cpos) pos) (tS z io W (evS Γ (.mut .reverse i [] .nil))) := by
  refine (ps_expr (pe_bm0 PySem.F.plainAttrs_list PySem.F.slot_list_reverse PySem.F.type_list_reverse mt_reverse (pe_var hN hv hd hc) hb hl) hsw).to fun D σ H ⟨x, G, env, ez, po, r, h⟩ => ?_
  subst ez
  unfold evS at h
  cases c0 : getS env i with
  | none => rw [c0] at h; exact h.elim
  | some q0 =>
    obtain ⟨f0, t0⟩ := q0
    rw [c0] at h
    cases f0 with
    | false => exact h.elim
    | true =>
      dsimp only at h
      split at h
      · rename_i hp
        simp only [Bool.and_eq_true] at hp
        obtain ⟨v, B, e1, t, _⟩ := r.slot c0
        obtain ⟨l0, us, va, hl0⟩ := t.pathL r.gs hp.1
        cases va
        refine ⟨_, e1, ty_list hl0, ?_⟩
        have ev : evEs Γ .nil env = .ok [] env := by
          unfold evEs
          rfl
        rw [ev] at h
        have h1 : PostS x G W D (match getS env i with
          | some (true, t) => match mutAt [] (opMut .reverse []) t with
            | some t' => .next (env.set i (some (true, t')))
            | none => .bad
          | _ => .bad) := by
          have h1 := h
          simp only [Rs.bindS, unOs] at h1
          rw [c0] at h1 ⊢
          exact h1
        rw [c0] at h1
        dsimp only at h1
        cases c3 : mutAt [] (opMut .reverse []) t0 with
        | none => rw [c3] at h1; exact h1.elim
        | some t' =>
          rw [c3] at h1
          have c4 : opMut .reverse [] t0 = some t' := by cases t0 <;> exact c3
          obtain ⟨l2, e2, k⟩ := rev_mut x G σ H env i [] [] t0 t' [] _ rfl (by simpa using r) rfl rfl c0 c4 fun v H' r2 => h1 σ G H' (fun _ _ e => e) r2
          rw [e1] at e2
          cases e2
          exact k
      · exact h.elim
end
end Vm
/-! Vm: slot[k] = value. -/
namespace Vm
open PySem L2
open PyProof.Rows hiding St
section
variable {x : Fx} {G : Hp} {σ : St} {H : Hp} {env : EnvD} {ps : List (V × O)}
/-- the root of a slot of one's own is changed -/
theorem Rel.root {i : Nat} {t : D} (r : Rel x G σ H env ps) (e : getS env i = some (true, t)) : ∃ v B, σ[i]? = some (some v) ∧ T x.z G H v t B ∧ B.Nodup ∧
    ∀ (a : Addr) (o' : HO) (t' : D), v = .ref a → a ∈ B → (∀ H2 : Hp, H2 a = some o' → (∀ b ∈ B, b ≠ a → H2 b = H b) → ∃ B' R, T x.z G H2 (.ref a) t' B' ∧ B.Perm (B' ++ R)) → Rel x G σ (upd H a o') (env.set i (some (true, t'))) ps := by
  obtain ⟨A, C, ts, s, n, o⟩ := r.ex
  obtain ⟨e1, li⟩ := getS_some e
  obtain ⟨v, d', B, C0, e2, e3, t1, p1, th, k⟩ := ts.focus i li
  rw [e1] at e3
  cases e3
  cases t1 with
  | @some w _ _ _ t1 f1 =>
    have pall : (A ++ C).Perm (B ++ (C0 ++ C)) := by
      rw [← List.append_assoc]
      exact p1.append_right C
    have nall := pall.nodup_iff.mp n
    refine ⟨w, B, e2, t1, (List.nodup_append.mp nall).1, fun a o' t' ew ma ho => ?_⟩
    subst ew
    have out : ∀ b, b ∈ C0 ++ C → b ≠ a := fun b m q => (List.nodup_append.mp nall).2.2 a ma b m q.symm
    obtain ⟨B', R, tB, pB⟩ := ho (upd H a o') upd_same fun b _ ne => upd_ne ne
    obtain ⟨A3, t3, p3⟩ := k (v' := some (.ref a)) (d' := some (true, t')) (G2 := G) (H2 := upd H a o') (fun _ _ e => e) (fun b m => upd_ne (out b (List.mem_append_left _ m))) (.some tB fun q => by cases q)
    have es : σ.set i (some (.ref a)) = σ := by
      apply List.ext_getElem?
      intro j
      rw [List.getElem?_set]
      by_cases q : i = j
      · subst q
        rw [if_pos rfl, e2, ts.len, if_pos li]
      · rw [if_neg q]
    rw [es] at t3
    have s3 := s.mono (z := x.z) (G' := G) (H' := upd H a o') (fun _ _ e => e) fun b m => upd_ne (out b (List.mem_append_right _ m))
    have pf : (A ++ C).Perm ((A3 ++ C) ++ R) := by
      refine pall.trans ((pB.append_right _).trans ?_)
      refine List.Perm.trans ?_ ((p3.append_right C).append_right R).symm
      rw [List.append_assoc, List.append_assoc, List.append_assoc]
      refine List.Perm.append_left B' ?_
      refine List.perm_append_comm.trans ?_
      rw [List.append_assoc]
    have ml : a ∈ A ++ C := pall.mem_iff.mpr (List.mem_append_left _ ma)
    have gl := o a ml
    have nf := pf.nodup_iff.mp n
    refine .intro t3 s3 (List.nodup_append.mp nf).1 (fun b m => o b (pf.mem_iff.mpr (List.mem_append_left _ m))) ?_ ?_ r.g0 r.gf r.pn
    · intro b ub eb
      have ne : b ≠ a := fun q => by rw [q, gl.1] at eb; cases eb
      rw [upd_ne ne]
      exact r.gs b ub eb
    · intro b ub eb
      have ne : b ≠ a := fun q => by rw [q, gl.2] at eb; cases eb
      rw [upd_ne ne]
      exact r.fs b ub eb
end
theorem _root_.L2.PG.or {X : Cx} {e : Expr} {t t' : TG} (h : PG X e t) (h' : PG X e t') : PG X e (fun v σ H Q => t v σ H Q ∨ t' v σ H Q) := ⟨fun pins s σ H v u Q I r q => q.elim (h.run pins s σ H v u Q I r) (h'.run pins s σ H v u Q I r)⟩
theorem _root_.L2.PSet.or {X : Cx} {t t' : TSet} (h : PSet X t) (h' : PSet X t') : PSet X (fun o i v H Q => t o i v H Q ∨ t' o i v H Q) := fun pins s σ H o i v ov iv u Q I ro ri rv q => q.elim (h pins s σ H o i v ov iv u Q I ro ri rv) (h' pins s σ H o i v ov iv u Q I ro ri rv)
section
variable {X : Cx} {z : Z} {io : List Nat} {W : WX} {Γ : Cf} {pos : Pos}
theorem se_dsp0 : PE X (.Dict [] [] pos) (tE z W (evE Γ (.dsp .nil))) := by
  refine pe_dnewK.to fun σ H Q ⟨x, G, env, ps, ez, r, h⟩ => ?_
  unfold evE at h
  dsimp only at h
  intro p hp
  rw [← List.append_nil ps] at r
  exact h (.ref p) G _ (fun _ _ e => e) (Rel.alloc (o := .dK []) (d := .dic true []) (qs := []) r hp fun C2 c2 => by
    cases c2
    exact .dicF upd_same rfl .nil)
theorem ss_asgs {i : Nat} {y : Str} {p1 tp : Pos} {e ke : Expr} {ee ek : E} (hu : X.A.units + 1 < cLine) (hN : X.N[i]? = some y) (hv : Vis X.env.scope y) (hd : (y == ("__debug__" : Str)) = false) (hc : (y == ("__classdict__" : Str)) = false)
    (hs : swapsWithSole [.Subscript (.Name y p1) ke tp] e pos.line X.env = pure false) (hw : swappedStores [.Subscript (.Name y p1) ke tp] e X.env = pure none) (he : PE X e (tE z W (evE Γ ee))) (hk : PE X ke (tE z W (evE Γ ek)))
    (ha : ∀ v, assign (.Subscript (.Name y p1) ke tp) X.env v = (do
      let ov ← holding [v] (eval (.Name y p1) X.env)
      let iv ← holding [v, ov] (eval ke X.env)
      standAt tp
      holding [v, ov, iv] (setItem ov iv v)
      release [v, ov, iv] [])) : PS X (.Assign [.Subscript (.Name y p1) ke tp] e pos) (tS z io W (evS Γ (.asgs i ek ee))) := by
  refine (ps_asg he (pg_sub (pe_var hN hv hd hc) hk (set_list.or (set_dict hu)) ha) hs hw rfl).to fun D σ H ⟨x, G, env, ez, po, r, h⟩ => ?_
  subst ez
  unfold evS at h
  refine PostS.step r h fun o env1 v G1 H1 s1 r1 h1 => ?_
  cases c0 : getS env1 i with
  | none => rw [c0] at h1; exact h1.elim
  | some p0 =>
    rw [c0] at h1
    dsimp only at h1
    obtain ⟨f0, d0⟩ := p0
    obtain ⟨w, _, ew, _⟩ := r1.slot c0
    refine ⟨w, ew, x, G1, env1, [(v, o)], rfl, r1, ?_⟩
    cases c1 : evE Γ ek env1 with
    | bad => rw [c1] at h1; exact h1.elim
    | ex cc fs env2 =>
      rw [c1] at h1
      exact fun cls dd G2 H2 s2 r2 e2 => h1 cls dd σ G2 H2 s2 r2 e2
    | ok q env2 =>
      rw [c1] at h1
      intro u G2 H2 s2 r2
      have h2 := PostS.up s2 h1
      dsimp only [R.bindS] at h2
      cases o with
      | p j => exact h2.elim
      | v f d =>
        cases c2 : rsD q env2 with
        | none => rw [c2] at h2; exact h2.elim
        | some kd =>
          cases c3 : getS env2 i with
          | none => rw [c2, c3] at h2; exact h2.elim
          | some p3 =>
            obtain ⟨f3, t⟩ := p3
            rw [c2, c3] at h2
            cases f3 with
            | false => exact h2.elim
            | true =>
              dsimp only [unO] at h2
              obtain ⟨G3, s3, r3, wk⟩ := Rel.views (ds := [kd]) r2 (by
                show (match rsD q env2, rsAll [] env2 with
                  | some d, some ds => some (d :: ds)
                  | _, _ => none) = _
                rw [c2]
                rfl)
              cases wk with
              | cons wk _ =>
                obtain ⟨_, Ak, tk⟩ := wk
                obtain ⟨G4, s4, tv, r4⟩ := Rel.topS (ps := []) r3
                have r5 : Rel x G4 σ H2 env2 [] := Rel.pop (ps := []) r4
                have h3 := PostS.up (Same.tr s3 s4) h2
                obtain ⟨w', B, ew', tw, nd, root⟩ := Rel.root r5 c3
                rw [ew] at ew'
                cases ew'
                cases c4 : opSet kd (stl (f, d)) t with
                | none => rw [c4] at h3; exact h3.elim
                | some t' =>
                  rw [c4] at h3
                  cases t with
                  | lst g xs =>
                    cases g with
                    | false => cases c4
                    | true =>
                      cases tw with
                      | @lstF a us _ B0 hl ht =>
                        cases kd with
                        | int k =>
                          have c5 : (match ixN xs.length k with
                            | some j => some (Vm.D.lst true (xs.set j (stl (f, d))))
                            | none => none) = some t' := c4
                          cases c6 : ixN xs.length k with
                          | none => rw [c6] at c5; cases c5
                          | some j =>
                            rw [c6] at c5
                            cases c5
                            cases tk
                            refine .inl ⟨a, us, k, j, rfl, rfl, hl, by rw [ht.length]; exact c6, h3 σ G4 _ (fun _ _ e => e) (root a _ _ rfl (List.mem_cons_self ..) fun H3 e3 k3 => ?_)⟩
                            have ht2 : Ts x.z G4 H3 us xs B0 := ht.mono (fun _ _ e => e) fun b m => k3 b (List.mem_cons_of_mem _ m) fun q => (List.nodup_cons.mp nd).1 (q ▸ m)
                            obtain ⟨B', R, t2, p⟩ := Ts.setV (tv.any fun _ _ e => e) j ht2
                            exact ⟨a :: B', R, .lstF e3 t2, p.cons a⟩
                        | _ => cases c4
                  | dic g kvs =>
                    cases g with
                    | false => cases c4
                    | true =>
                      cases tw with
                      | @dicF a us _ B0 hl hk0 ht =>
                        have c5 : (match asKey kd with
                          | some q => if kvs.length < sizeLine then some (Vm.D.dic true (Vm.kput kvs q (stl (f, d)))) else none
                          | none => none) = some t' := c4
                        cases c6 : asKey kd with
                        | none => rw [c6] at c5; cases c5
                        | some q =>
                          rw [c6] at c5
                          dsimp only at c5
                          split at c5
                          · rename_i hz
                            cases c5
                            have ek : u = kV q := asKey_kVT tk c6
                            have el : us.length = kvs.length := by
                              have := congrArg List.length hk0
                              simpa using this
                            refine .inr ⟨a, _, rfl, by rw [ek]; exact DPut.k hl (by rw [el]; exact hz), h3 σ G4 _ (fun _ _ e => e) (root a _ _ rfl (List.mem_cons_self ..) fun H3 e3 k3 => ?_)⟩
                            have ht2 : Ts x.z G4 H3 (us.map (·.2)) (kvs.map (·.2)) B0 := ht.mono (fun _ _ e => e) fun b m => k3 b (List.mem_cons_of_mem _ m) fun q => (List.nodup_cons.mp nd).1 (q ▸ m)
                            obtain ⟨k1, B', R, t2, p⟩ := Ts.kput (k := q) (tv.any fun _ _ e => e) hk0 ht2
                            exact ⟨a :: B', R, .dicF e3 k1 t2, p.cons a⟩
                          · cases c5
                  | _ => cases kd <;> cases c4
end
end Vm
/-! Vm: list comprehensions. -/
namespace Vm
open PySem L2
open PyProof.Rows hiding St
/-! ### a stack that looks at no slot -/
def dropP (ps : List (V × O)) : List (V × O) := ps.filter fun p => match p.2 with
  | .v _ _ => true
  | .p _ => false
theorem dropP_no (ps : List (V × O)) : noP (dropP ps) := fun p m i e => by
  have q := (List.mem_filter.mp m).2
  rw [e] at q
  cases q
section
variable {z : Z} {G G' H H' : Hp} {σ σ' : St}
theorem TPs.dropP : ∀ {ps : List (V × O)} {C : List Addr}, TPs z G H σ ps C → TPs z G H σ (dropP ps) C
  | _, _, .nil => .nil
  | _, _, .cons h t => by
    cases h with
    | v h f => exact .cons (.v h f) (TPs.dropP t)
    | p h =>
      have q := TPs.dropP t
      exact q
theorem TPs.redo : ∀ {ps : List (V × O)} {C C2 : List Addr}, TPs z G H σ ps C → TPs z G' H' σ (Vm.dropP ps) C2 → TPs z G' H' σ ps C2
  | _, _, C2, .nil, k => k
  | _, _, C2, .cons h t, k => by
    cases h with
    | v h f =>
      have k' : TPs z G' H' σ ((_, O.v _ _) :: Vm.dropP _) C2 := k
      cases k' with
      | cons k1 k2 => exact .cons k1 (TPs.redo t k2)
    | p h => exact .cons (A := []) (.p h) (TPs.redo t k)
end
/-- without what is fixed -/
def Fx.free (x : Fx) : Fx := { x with pin := [] }
section
variable {x : Fx} {G G' : Hp} {σ σ' : St} {H H' : Hp} {env : EnvD} {ps : List (V × O)}
theorem Rel.free (hz : x.z.xs = none) (r : Rel x G σ H env ps) : Rel x.free G σ H env (dropP ps) := by
  obtain ⟨A, C, t, s, n, o⟩ := r.ex
  exact .intro (x := x.free) t s.dropP n o r.gs r.fs r.g0 r.gf (fun p m => by cases m) (Xz.no hz)
theorem Rel.back {qs : List (V × O)} (r0 : Rel x G σ H env ps) (s0 : Same G G') {env' : EnvD} (r : Rel x.free G' σ H' env' (dropP ps ++ qs)) : Rel x G' σ H' env' (ps ++ qs) := by
  obtain ⟨A0, C0, t0, s1, n0, o0⟩ := r0.ex
  obtain ⟨A, C, t, s, n, o⟩ := r.ex
  obtain ⟨C1, C2, s2, s3, rfl⟩ := s.split
  exact .intro t ((s1.redo s2).append s3) n o r.gs r.fs r.g0 r.gf r0.pn r0.xz
/-- a slot that is not known may hold anything -/
theorem TOs.any {z : Z} : ∀ {vs : St} {ds : EnvD} {A : List Addr} (i : Nat) {w : Option V}, TOs z G H vs ds A → (∀ q, ds[i]? = some q → q = none) → TOs z G H (vs.set i w) ds A
  | _, _, _, _, _, .nil, _ => .nil
  | _, _, _, 0, _, .cons h t, e => by
    have q := e _ rfl
    subst q
    cases h
    exact .cons .none t
  | _, _, _, i + 1, _, .cons h t, e => .cons h (TOs.any i t fun q m => e q m)
theorem Rel.any {i : Nat} {w : Option V} (r : Rel x G σ H env ps) (hx : x.pin = []) (n0 : noP ps) (e : ∀ q, env[i]? = some q → q = none) : Rel x G (σ.set i w) H env ps := by
  obtain ⟨A, C, t, s, n, o⟩ := r.ex
  exact .intro (t.any i e) (s.slots n0) n o r.gs r.fs r.g0 r.gf fun p m => by rw [hx] at m; cases m
theorem kill_get {j : Nat} : ∀ (vs : List Nat) (env : EnvD), (kill vs env)[j]? = if j ∈ vs then (if j < env.length then some none else none) else env[j]?
  | [], env => rfl
  | i :: vs, env => by
    rw [show kill (i :: vs) env = kill vs (env.set i none) from rfl, kill_get vs]
    rw [List.length_set]
    by_cases h1 : j ∈ vs
    · rw [if_pos h1, if_pos (List.mem_cons_of_mem _ h1)]
    · rw [if_neg h1]
      by_cases h2 : j = i
      · subst h2
        rw [if_pos (List.mem_cons_self ..)]
        by_cases h3 : j < env.length
        · rw [if_pos h3, List.getElem?_set_self h3]
        · rw [if_neg h3, List.getElem?_eq_none (by rw [List.length_set]; omega)]
      · rw [if_neg (by simp [h1, h2]), List.getElem?_set_ne (Ne.symm h2)]
theorem kill_none {j : Nat} {vs : List Nat} {env : EnvD} (h : j ∈ vs) : ∀ q, (kill vs env)[j]? = some q → q = none := fun q e => by
  rw [kill_get, if_pos h] at e
  split at e
  · cases e; rfl
  · cases e
theorem kill_len (vs : List Nat) : ∀ (env : EnvD), (kill vs env).length = env.length := by
  induction vs with
  | nil => exact fun env => rfl
  | cons i vs ih => exact fun env => (ih _).trans List.length_set
theorem kill_kill (vs : List Nat) (env : EnvD) : kill vs (kill vs env) = kill vs env := by
  apply List.ext_getElem?
  intro j
  rw [kill_get, kill_len]
  by_cases h : j ∈ vs
  · rw [if_pos h, kill_get, if_pos h]
  · rw [if_neg h]
theorem Rel.wipe (r : Rel x G σ H env ps) (hx : x.pin = []) (n0 : noP ps) : ∀ {vs : List Nat}, (∀ j ∈ vs, ∀ q, env[j]? = some q → q = none) → Rel x G (L2.wipe σ vs) H env ps
  | [], _ => r
  | v :: vs, h => (Rel.wipe r hx n0 fun j m => h j (List.mem_cons_of_mem _ m)).any hx n0 (h v (List.mem_cons_self ..))
/-- what stands again in a slot -/
def resv (old : EnvD) (i : Nat) : SD := match getS old i with
  | some (false, d) => some (false, d)
  | _ => none
theorem restore_eq : ∀ (vs : List Nat) (old env : EnvD), restore vs old env = vs.foldl (fun e i => e.set i (resv old i)) env
  | [], _, _ => rfl
  | i :: vs, old, env => by
    have e1 : restore (i :: vs) old env = restore vs old (env.set i (resv old i)) := by
      unfold restore
      rw [List.foldl_cons]
      congr 1
      unfold resv
      generalize getS old i = q
      rcases q with _ | ⟨_ | _, _⟩ <;> rfl
    rw [e1, restore_eq vs]
    rfl
theorem fold_get {f : Nat → SD} {j : Nat} : ∀ (vs : List Nat) (env : EnvD), (vs.foldl (fun e i => e.set i (f i)) env)[j]? = if j ∈ vs then (if j < env.length then some (f j) else none) else env[j]?
  | [], env => rfl
  | i :: vs, env => by
    rw [List.foldl_cons, fold_get vs, List.length_set]
    by_cases h1 : j ∈ vs
    · rw [if_pos h1, if_pos (List.mem_cons_of_mem _ h1)]
    · rw [if_neg h1]
      by_cases h2 : j = i
      · subst h2
        rw [if_pos (List.mem_cons_self ..)]
        by_cases h3 : j < env.length
        · rw [if_pos h3, List.getElem?_set_self h3]
        · rw [if_neg h3, List.getElem?_eq_none (by rw [List.length_set]; omega)]
      · rw [if_neg (by simp [h1, h2]), List.getElem?_set_ne (Ne.symm h2)]
theorem restore_kill (vs : List Nat) (old env : EnvD) : restore vs old (kill vs env) = restore vs old env := by
  apply List.ext_getElem?
  intro j
  rw [restore_eq, restore_eq, fold_get, fold_get, kill_len, kill_get]
  by_cases h : j ∈ vs
  · rw [if_pos h, if_pos h]
  · rw [if_neg h, if_neg h, if_neg h]
/-- the slots stand again -/
theorem Rel.restore (hx : x.pin = []) (n0 : noP ps) {old : EnvD} {σ0 : St} (hl : env.length = old.length) (h0 : ∀ i d, getS old i = some (false, d) → ∃ v, σ0[i]? = some (some v) ∧ T x.z G H v d []) :
    ∀ {us vs : List Nat} {env : EnvD} {σ : St}, env.length = old.length → σ.length = σ0.length → Rel x G σ H env ps → (∀ j, j ∉ us → σ[j]? = σ0[j]?) →
    Rel x G σ0 H (us.foldl (fun e i => e.set i (resv old i)) env) ps
  | [], _, env, σ, _, l2, r, h => by
    have e : σ = σ0 := List.ext_getElem? fun j => h j List.not_mem_nil
    rw [← e]
    exact r
  | i :: us, vs, env, σ, l1, l2, r, h => by
    rw [List.foldl_cons]
    refine Rel.restore (vs := us) hx n0 hl h0 (σ := match σ0[i]? with
      | some w => σ.set i w
      | none => σ) (by rw [List.length_set]; exact l1) (by split <;> simp [l2]) ?_ fun j hj => ?_
    · unfold resv
      cases c : getS old i with
      | none =>
        have r1 := r.forget (i := i)
        have e : ∀ q, (env.set i none)[i]? = some q → q = none := fun q e => by
          by_cases h3 : i < env.length
          · rw [List.getElem?_set_self h3] at e
            cases e; rfl
          · rw [List.getElem?_eq_none (by rw [List.length_set]; omega)] at e
            cases e
        dsimp only
        split
        · exact r1.any hx n0 e
        · exact r1
      | some p =>
        obtain ⟨f, d⟩ := p
        cases f with
        | false =>
          obtain ⟨v, ev, t⟩ := h0 i d c
          have li : i < env.length := by
            rw [l1]
            exact (getS_some c).2
          dsimp only
          rw [ev]
          exact r.put t li (fun p m => by rw [hx] at m; cases m) n0
        | true =>
          have r1 := r.forget (i := i)
          have e : ∀ q, (env.set i none)[i]? = some q → q = none := fun q e => by
            by_cases h3 : i < env.length
            · rw [List.getElem?_set_self h3] at e
              cases e; rfl
            · rw [List.getElem?_eq_none (by rw [List.length_set]; omega)] at e
              cases e
          dsimp only
          split
          · exact r1.any hx n0 e
          · exact r1
    · by_cases q : j = i
      · subst q
        cases c : σ0[j]? with
        | none =>
          dsimp only
          rw [List.getElem?_eq_none_iff] at c ⊢
          omega
        | some w =>
          dsimp only
          have li : j < σ.length := by
            rw [l2]
            exact (List.getElem?_eq_some_iff.mp c).1
          rw [List.getElem?_set_self li]
      · have hj' : σ[j]? = σ0[j]? := h j (by simp [hj, q])
        split
        · rw [List.getElem?_set_ne (Ne.symm q)]
          exact hj'
        · exact hj'
/-- an item goes to the end of a list on the stack -/
theorem Rel.appS {D : Addr} {acc : List Vm.D} {v : V} {f : Bool} {d : Vm.D} (r : Rel x G σ H env (ps ++ [(.ref D, .v true (.lst true acc))] ++ [(v, .v f d)])) :
    ∃ us, H D = some (.lst us) ∧ us.length = acc.length ∧ Rel x G σ (upd H D (.lst (us ++ [v]))) env (ps ++ [(.ref D, .v true (.lst true (acc ++ [d])))]) := by
  obtain ⟨A, C, t, s, n, o⟩ := r.ex
  obtain ⟨C12, C3, s12, s3, rfl⟩ := s.split
  obtain ⟨C1, C2, s1, s2, rfl⟩ := s12.split
  cases s2 with
  | cons s2 s2' =>
    cases s2'
    cases s2 with
    | v s2 f2 =>
      cases s2 with
      | @lstF _ us _ B hD hs =>
        cases s3 with
        | cons s3 s3' =>
          cases s3'
          cases s3 with
          | v s3 f3 =>
            rename_i A3
            simp only [List.append_nil] at n o
            have pp : (A ++ (C1 ++ D :: B ++ A3)).Perm (D :: (A ++ (C1 ++ (B ++ A3)))) := by
              rw [List.append_assoc, List.cons_append, ← List.append_assoc, ← List.append_assoc]
              exact List.perm_middle
            have nn := List.nodup_cons.mp (pp.nodup_iff.mp n)
            have ap : ∀ a, a ∈ A ++ (C1 ++ (B ++ A3)) → upd H D (.lst (us ++ [v])) a = H a := fun a m => upd_ne fun q => nn.1 (q ▸ m)
            refine ⟨us, hD, hs.length, ?_⟩
            have q1 : T x.z G (upd H D (.lst (us ++ [v]))) (.ref D) (.lst true (acc ++ [d])) (D :: (B ++ (A3 ++ []))) := by
              refine .lstF upd_same (Ts.append ?_ (.cons ?_ .nil))
              · exact hs.mono (fun _ _ e => e) fun a m => ap a (by simp [m])
              · exact s3.mono (fun _ _ e => e) fun a m => ap a (by simp [m])
            refine .intro (C := C1 ++ ((D :: (B ++ (A3 ++ []))) ++ [])) (t.mono (fun _ _ e => e) fun a m => ap a (by simp [m])) ((s1.mono (fun _ _ e => e) fun a m => ap a (by simp [m])).append (.cons (.v q1 fun e => by cases e) .nil)) ?_ ?_ ?_ ?_ r.g0 r.gf r.pn
            · simp only [List.append_nil]
              simpa using n
            · intro a m
              exact o a (by simpa using m)
            · intro a u ea
              have ne : a ≠ D := fun q => by
                have := (o D (by simp)).1
                rw [q, this] at ea; cases ea
              rw [upd_ne ne]
              exact r.gs a u ea
            · intro a u ea
              have ne : a ≠ D := fun q => by
                have := (o D (by simp)).2
                rw [q, this] at ea; cases ea
              rw [upd_ne ne]
              exact r.fs a u ea
/-- a new list on the stack -/
theorem Rel.newS {D : Addr} (r : Rel x G σ H env ps) (hD : H D = none) : Rel x G σ (upd H D (.lst [])) env (ps ++ [(.ref D, .v true (.lst true []))]) := by
  rw [← List.append_nil ps] at r
  have q := Rel.alloc (o := .lst []) (d := .lst true []) (qs := []) r hD fun C2 c2 => by
    cases c2
    exact .lstF upd_same .nil
  exact q
end
/-! ### the rule -/
def WF : WX := fun _ _ _ _ => False
/-- a condition of a clause -/
def tCo (z : Z) (m : EnvD → Option Bool × EnvD) : TT := fun σ H Q => ∃ x G env ps, x.z = z ∧ Rel x G σ H env ps ∧ match m env with
  | (some b, env1) => ∀ G' H', Same G G' → Rel x G' σ H' env1 ps → Q b H'
  | (none, _) => False
section
variable {X : Cx} {z : Z} {io : List Nat} {W : WX} {Γ : Cf} {pos : Pos}
theorem sc_none : PTs X [] (tCo z (evC Γ .none)) := ⟨fun pins s σ H Q I ⟨x, G, env, ps, ez, r, h⟩ => by
  unfold evC at h
  exact pts_nil.run pins s σ H Q I (h G H (fun _ _ e => e) r)⟩
theorem sc_some {c : Expr} {ec : E} (hc : PT X c (tT z WF (evE Γ ec))) : PTs X [c] (tCo z (evC Γ (.some ec))) := ⟨fun pins s σ H Q I ⟨x, G, env, ps, ez, r, h⟩ => by
  refine (pts_one hc).run pins s σ H Q I ⟨x, G, env, ps, ez, r, ?_⟩
  unfold evC at h
  cases c1 : evE Γ ec env with
  | bad => rw [c1] at h; exact h.elim
  | ex cc fs env1 => rw [c1] at h; exact h.elim
  | ok o env1 =>
    rw [c1] at h
    cases o with
    | p i => exact h.elim
    | v f d =>
      cases d with
      | bl b => exact h
      | _ => exact h.elim⟩
theorem wipe_off {σ σ' : St} {us : List Nat} (o : Off σ σ' us) : ∀ {vs : List Nat}, us ⊆ vs → L2.wipe σ' vs = L2.wipe σ vs := by
  intro vs hs
  have gen : ∀ (vs : List Nat) (σ : St) (j : Nat), (L2.wipe σ vs)[j]? = if j ∈ vs then (if j < σ.length then some none else none) else σ[j]? := by
    intro vs
    induction vs with
    | nil => exact fun σ j => rfl
    | cons v vs ih =>
      intro σ j
      unfold L2.wipe
      by_cases h2 : j = v
      · subst h2
        rw [if_pos (List.mem_cons_self ..)]
        by_cases h3 : j < σ.length
        · rw [if_pos h3, List.getElem?_set_self (by rw [wipe_length]; exact h3)]
        · rw [if_neg h3, List.getElem?_eq_none (by rw [List.length_set, wipe_length]; omega)]
      · rw [List.getElem?_set_ne (Ne.symm h2), ih]
        by_cases h1 : j ∈ vs
        · rw [if_pos h1, if_pos (List.mem_cons_of_mem _ h1)]
        · rw [if_neg h1, if_neg (by simp [h1, h2])]
  apply List.ext_getElem?
  intro j
  rw [gen, gen, o.1]
  by_cases h : j ∈ vs
  · rw [if_pos h, if_pos h]
  · rw [if_neg h, if_neg h]
    exact o.2 j fun m => h (hs m)
theorem wipe_wipe (σ : St) (vs : List Nat) : L2.wipe (L2.wipe σ vs) vs = L2.wipe σ vs := by
  apply wipe_off (us := vs) ⟨wipe_length _ _, fun i hi => ?_⟩ (fun _ m => m)
  induction vs with
  | nil => rfl
  | cons v vs ih =>
    unfold L2.wipe
    rw [List.getElem?_set_ne (fun e => hi (by rw [e]; exact List.mem_cons_self ..))]
    exact ih fun m => hi (List.mem_cons_of_mem _ m)
theorem lc_core {x : Fx} {G1 : Hp} {σ : St} {H1 : Hp} {env1 : EnvD} {ps : List (V × O)} {ds : List Vm.D} {J : It} {Q : VK} {ee : E} {t : Tg} {ec : Eo} {vs : List Nat} (hz : x.z.xs = none) (hsub : tgSlots t ⊆ vs) (r1 : Rel x G1 σ H1 env1 ps) (wk : Wk x.z x.F G1 J ds) (D : Addr) (hD : H1 D = none)
    (h1 : PostR x G1 σ ps W Q (lcRun (evE Γ ee) (evC Γ ec) t vs ds env1)) :
    ∃ W' : Nat → Nat → Hp → Prop, (∃ m, W' 0 m (upd H1 D (.lst []))) ∧ ∀ i m H, W' i m H → (J.stop i H ∧ Q (.ref D) H) ∨ (J.go i H ∧ ∃ Nx : Hp → Prop, (∀ H', Nx H' → ∃ m', m' < m ∧ W' (i + 1) m' H') ∧ ∀ x0 H', J.yld i H x0 H' → gT x.z [] t x0 (L2.wipe σ vs) H' fun σ2 H2 => L2.wipe σ2 vs = L2.wipe σ vs ∧ tCo x.z (evC Γ ec) σ2 H2 fun b H3 =>
      if b = true then tE x.z WF (evE Γ ee) σ2 H3 fun y H4 => ∃ acc, H4 D = some (.lst acc) ∧ acc.length < sizeLine ∧ Nx (upd H4 D (.lst (acc ++ [y]))) else Nx H3) := by
  unfold lcRun at h1
  have l1 : env1.length = σ.length := by
    obtain ⟨A, C, tt, _⟩ := r1.ex
    exact tt.len.symm
  have w0 : ∀ {env : EnvD}, ∀ j ∈ vs, ∀ q, (kill vs env)[j]? = some q → q = none := fun j m => kill_none m
  have rn : Rel x.free G1 (L2.wipe σ vs) (upd H1 D (.lst [])) (kill vs env1) (dropP ps ++ [(.ref D, .v true (.lst true []))]) := by
    have q := ((r1.free hz).kill vs).newS hD
    refine q.wipe rfl (fun p m => ?_) w0
    rcases List.mem_append.mp m with m | m
    · exact dropP_no ps p m
    · intro i e
      rw [List.mem_singleton.mp m] at e
      cases e
  have np : ∀ {acc : List Vm.D}, noP (dropP ps ++ [(V.ref D, O.v true (.lst true acc))]) := fun {acc} p m => by
    rcases List.mem_append.mp m with m | m
    · exact dropP_no ps p m
    · intro i e
      rw [List.mem_singleton.mp m] at e
      cases e
  have keyS : ∃ st : Vm.D → EnvD → Option EnvD, st = lcSet t vs := ⟨_, rfl⟩
  obtain ⟨st, est⟩ := keyS
  rw [← est] at h1
  refine ⟨fun i m H => m = ds.length - i ∧ i ≤ ds.length ∧ ∃ G2 env2 acc, Same G1 G2 ∧ env2.length = env1.length ∧ Rel x.free G2 (L2.wipe σ vs) H (kill vs env2) (dropP ps ++ [(.ref D, .v true (.lst true acc))]) ∧
    PostR x G2 σ ps W Q ((lcL (evE Γ ee) (evC Γ ec) st (ds.drop i) acc env2).bind fun o env2 => .ok o (restore vs env1 env2)),
    ⟨_, rfl, Nat.zero_le _, G1, kill vs env1, [], fun _ _ e => e, kill_len _ _, by rw [kill_kill]; exact rn, h1⟩, ?_⟩
  rintro i m H2 ⟨rfl, hi, G2, env2, acc, s2, l2, r2, h2⟩
  by_cases hlt : i < ds.length
  · refine .inr ⟨wk.go i G2 H2 s2 r2.gs r2.fs hlt, fun H' => ∃ G3 env3 acc, Same G1 G3 ∧ env3.length = env1.length ∧ Rel x.free G3 (L2.wipe σ vs) H' (kill vs env3) (dropP ps ++ [(.ref D, .v true (.lst true acc))]) ∧
      PostR x G3 σ ps W Q ((lcL (evE Γ ee) (evC Γ ec) st (ds.drop (i + 1)) acc env3).bind fun o env2 => .ok o (restore vs env1 env2)),
      fun H' ⟨G3, env3, acc3, s3, l3, r3, h3⟩ => ⟨ds.length - (i + 1), by omega, rfl, hlt, G3, env3, acc3, s3, l3, r3, h3⟩, ?_⟩
    intro v H' y
    obtain ⟨d, G3, e3, s3, r3⟩ := wk.item (x := x.free) s2 r2 hlt y
    have ed : ds.drop i = d :: ds.drop (i + 1) := by
      rw [List.drop_eq_getElem_cons hlt]
      rw [List.getElem?_eq_getElem hlt] at e3
      cases e3
      rfl
    rw [ed] at h2
    unfold lcL at h2
    cases c2 : st d env2 with
    | none => rw [c2] at h2; exact h2.elim
    | some env3 =>
      rw [c2] at h2
      dsimp only at h2
      rw [est] at c2
      unfold lcSet at c2
      split at c2
      · refine ⟨x.free, G3, kill vs env2, _, d, env3, rfl, (fun p m => by cases m), np, Rel.pop r3, Rel.top (x := x.free) r3, c2, fun σ3 of r4 => ?_⟩
        have wq : L2.wipe σ3 vs = L2.wipe σ vs := by rw [wipe_off of hsub, wipe_wipe]
        refine ⟨wq, ?_⟩
        have h3 := PostR.up s3 h2
        have s13 : Same G1 G3 := Same.tr s2 s3
        have len3 : ∀ {G H env qs}, Rel x.free G σ3 H env qs → env.length = env1.length := fun {G H env qs} r => by
          obtain ⟨A, C, tt, _⟩ := r.ex
          rw [← tt.len, of.1, wipe_length, l1]
        refine ⟨x.free, G3, env3, _, rfl, r4, ?_⟩
        cases c3 : evC Γ ec env3 with
        | mk b env4 =>
          rw [c3] at h3
          cases b with
          | none => exact h3.elim
          | some b =>
            intro G4 H4 s4 r5
            have h4 := PostR.up s4 h3
            cases b with
            | false =>
              simp only [Bool.false_eq_true, if_false]
              refine ⟨G4, env4, acc, Same.tr s13 s4, len3 r5, ?_, h4⟩
              rw [← wq]
              exact (r5.kill vs).wipe rfl np w0
            | true =>
              simp only [if_true]
              refine ⟨x.free, G4, env4, _, rfl, r5, ?_⟩
              dsimp only at h4
              cases c5 : evE Γ ee env4 with
              | bad => rw [c5] at h4; exact h4.elim
              | ex cc fs env5 => rw [c5] at h4; exact h4.elim
              | ok o env5 =>
                rw [c5] at h4
                intro v5 G5 H5 s5 r6
                have h5 := PostR.up s5 h4
                cases o with
                | p i => exact h5.elim
                | v f5 d5 =>
                  dsimp only [unO] at h5
                  split at h5
                  · rename_i hz
                    obtain ⟨us, eu, lu, r7⟩ := Rel.appS r6
                    refine ⟨us, eu, by rw [lu]; exact hz, G5, env5, acc ++ [d5], Same.tr (Same.tr s13 s4) s5, len3 r6, ?_, h5⟩
                    rw [← wq]
                    exact (r7.kill vs).wipe rfl np w0
                  · exact h5.elim
      · cases c2
  · have e : i = ds.length := by omega
    subst e
    rw [List.drop_length] at h2
    refine .inl ⟨wk.stop G2 H2 s2 r2.gs r2.fs, h2 _ G2 H2 (fun _ _ e => e) ?_⟩
    have q : Rel x.free G2 σ H2 (restore vs env1 (kill vs env2)) (dropP ps ++ [(V.ref D, O.v true (.lst true acc))]) := by
      rw [restore_eq]
      refine Rel.restore (x := x.free) (vs := vs) (env := kill vs env2) (σ := L2.wipe σ vs) rfl np (by rw [kill_len]; exact l2) (fun i d e => ?_) (by rw [kill_len]; exact l2) (wipe_length _ _) r2 fun j hj => ?_
      · obtain ⟨v, B, e1, tv, f1⟩ := r1.slot e
        have eB := f1 rfl
        subst eB
        exact ⟨v, e1, tv.any s2⟩
      · clear h2 r2 rn w0 est h1 hsub
        induction vs with
        | nil => rfl
        | cons u us ih =>
          unfold L2.wipe
          rw [List.getElem?_set_ne (fun e => hj (by rw [e]; exact List.mem_cons_self ..))]
          exact ih fun m => hj (List.mem_cons_of_mem _ m)
    rw [restore_kill] at q
    exact Rel.back r1 s2 q
theorem lc_rd {ee : E} {t : Tg} {it : I} {ec : Eo} {vs : List Nat} {σ : St} {H : Hp} {Q : VK} (hz : z.xs = none) (hsub : tgSlots t ⊆ vs) (h : tE z W (evE Γ (.lc ee t it ec vs)) σ H Q) :
    tLc (tI z W (evI Γ it)) (gT z [] t) (tCo z (evC Γ ec)) (tE z WF (evE Γ ee)) vs σ H Q := by
  obtain ⟨x, G, env, ps, ez, r, h⟩ := h
  subst ez
  unfold evE at h
  refine ⟨x, G, env, ps, rfl, r, ?_⟩
  cases c : evI Γ it env with
  | bad => rw [c] at h; exact h.elim
  | ex cc fs env1 => rw [c] at h; exact h
  | ok ds env1 =>
    rw [c] at h
    intro J G1 H1 s1 r1 wk D hD
    have h1 := PostR.up s1 h
    dsimp only [RI.bind] at h1
    exact lc_core hz hsub r1 wk D hD h1
theorem se_lc {elt tg iter : Expr} {ifs : List Expr} {scope : Scope} {own : List (Str × Nat)} {ee : E} {t : Tg} {it : I} {ec : Eo} (hz : z.xs = none) (hc : X.calm = true) (hN : X.N.Nodup) (hsub : tgSlots t ⊆ own.map (·.2)) (hi : PI X tg iter (tI z W (evI Γ it))) (ok : BlkOk X.N X.env.scope scope own)
    (hg : ∀ (s : Shared) (H : Hp) (C : Addr) (cl : List (Str × Addr)) (fp : List Addr), PG (X.blk s H scope (compEnvC scope cl C X.env) fp) tg (gT z [] t))
    (ht : ∀ (s : Shared) (H : Hp) (C : Addr) (cl : List (Str × Addr)) (fp : List Addr), PTs (X.blk s H scope (compEnvC scope cl C X.env) fp) ifs (tCo z (evC Γ ec)))
    (he : ∀ (s : Shared) (H : Hp) (C : Addr) (cl : List (Str × Addr)) (fp : List Addr), PE (X.blk s H scope (compEnvC scope cl C X.env) fp) elt (tE z WF (evE Γ ee))) (hs : ∀ x, foldedSetIterable iter X.env x = pure x) :
    PE X (.ListComp elt [⟨tg, iter, ifs, 0⟩] scope pos) (tE z W (evE Γ (.lc ee t it ec (own.map (·.2))))) :=
  (pe_lc hc hN hi ok hg ht he hs).to fun σ H Q h => lc_rd hz hsub h
/-- name = [..] on one line -/
theorem ss_asgLc {i : Nat} {y : Str} {py : Pos} {keep : Bool} {elt tg iter : Expr} {ifs : List Expr} {scope : Scope} {own : List (Str × Nat)} {spos : Pos} {ee : E} {t : Tg} {it : I} {ec : Eo} (hio : Γ.io = io) (hz : z.xs = none) (hc : X.calm = true) (hN : X.N.Nodup) (hy : X.N[i]? = some y) (hyl : X.env.scope.names.lookup y = some .local)
    (hsw : swapsWith (.ListComp elt [⟨tg, iter, ifs, 0⟩] scope pos) (some (.Name y py)) spos.line X.env = pure true) (hsub : tgSlots t ⊆ own.map (·.2)) (hi : PI X tg iter (tI z W (evI Γ it))) (ok : BlkOk X.N X.env.scope scope own)
    (hg : ∀ (s : Shared) (H : Hp) (C : Addr) (cl : List (Str × Addr)) (fp : List Addr), PG (X.blk s H scope (compEnvC scope cl C X.env) fp) tg (gT z [] t))
    (ht : ∀ (s : Shared) (H : Hp) (C : Addr) (cl : List (Str × Addr)) (fp : List Addr), PTs (X.blk s H scope (compEnvC scope cl C X.env) fp) ifs (tCo z (evC Γ ec)))
    (he : ∀ (s : Shared) (H : Hp) (C : Addr) (cl : List (Str × Addr)) (fp : List Addr), PE (X.blk s H scope (compEnvC scope cl C X.env) fp) elt (tE z WF (evE Γ ee))) (hs : ∀ x, foldedSetIterable iter X.env x = pure x) :
    PS X (.Assign [.Name y py] (.ListComp elt [⟨tg, iter, ifs, 0⟩] scope pos) spos) (tS z io W (evS Γ (.asg keep i (.lc ee t it ec (own.map (·.2)))))) :=
  (ps_setLc hc hN hy hyl hsw hi ok hg ht he hs).to fun D σ H h => lc_rd hz hsub (asg_rd hio h)
end
end Vm
/-! Vm: dicts that are walked. -/
namespace Vm
open PySem L2
open PyProof.Rows hiding St
section
variable {x : Fx} {G : Hp} {σ : St} {H : Hp} {env : EnvD} {ps : List (V × O)} {d : Addr} {od : Obj} {us : List (Key × V)}
def Fx.lk (x : Fx) (d : Addr) (od : Obj) (us : List (Key × V)) (G : Hp) : Fx := ⟨x.z, fun a => if a = d then some (.frz od (.dK us)) else x.F a, G, x.pin⟩
theorem lk_at {x : Fx} : (x.lk d od us G).F d = some (.frz od (.dK us)) := if_pos rfl
theorem lk_out {x : Fx} {a : Addr} (h : a ≠ d) : (x.lk d od us G).F a = x.F a := if_neg h
/-- the dict at d is locked -/
theorem Rel.lk {H' : Hp} (r : Rel x G σ H env ps) (h' : H' d = some (.frz od (.dK us))) (ho : ∀ a, a ≠ d → H' a = H a) (hd : G d = some (.dK us) ∨ G d = H' d) : Rel (x.lk d od us G) G σ H' env ps := by
  obtain ⟨A, C, t, s, n, o⟩ := r.ex
  have gd : ∃ u, G d = some u := by
    rcases hd with e | e
    · exact ⟨_, e⟩
    · exact ⟨_, e.trans h'⟩
  have nd : ∀ a, a ∈ A ++ C → a ≠ d := fun a m q => by
    obtain ⟨u, e⟩ := gd
    rw [q] at m
    rw [(o d m).1] at e
    cases e
  refine .intro (x := x.lk d od us G) (t.mono (fun _ _ e => e) fun a m => ho a (nd a (List.mem_append_left _ m))) (s.mono (fun _ _ e => e) fun a m => ho a (nd a (List.mem_append_right _ m))) n (fun a m => ⟨(o a m).1, by rw [lk_out (nd a m)]; exact (o a m).2⟩) ?_ ?_ (fun _ _ e => e) (fun _ _ _ e => e) r.pn (fun q e => ⟨(r.xz q e).1, Same.tr (r.xz q e).2.1 r.g0, fun d' ed => r.g0 _ _ ((r.xz q e).2.2 d' ed)⟩)
  · intro a u e
    by_cases q : a = d
    · subst q
      rcases hd with e1 | e1
      · rw [e1] at e
        cases e
        exact .inr ⟨us, od, rfl, h'⟩
      · exact .inl (e1.symm.trans e)
    · rw [ho a q]
      exact r.gs a u e
  · intro a u e
    by_cases q : a = d
    · subst q
      rw [lk_at] at e
      rw [h', e]
    · rw [lk_out q] at e
      rw [ho a q]
      exact r.fs a u e
theorem Rel.unlk {G' H' H2 : Hp} {σ' : St} {env' : EnvD} {qs : List (V × O)} (r : Rel x G σ H env ps) (gd : ∃ u, G d = some u) (s : Same G G') (r' : Rel (x.lk d od us G) G' σ' H' env' qs) (h2 : H2 d = H d) (ho : ∀ a, a ≠ d → H2 a = H' a) : Rel x G' σ' H2 env' qs := by
  obtain ⟨A, C, t, k, n, o⟩ := r'.ex
  obtain ⟨u0, gd⟩ := gd
  have gd' := s _ _ gd
  have nd : ∀ a, a ∈ A ++ C → a ≠ d := fun a m q => by
    rw [q] at m
    rw [(o d m).1] at gd'
    cases gd'
  refine .intro (x := x) (t.mono (z := x.z) (fun _ _ e => e) fun a m => ho a (nd a (List.mem_append_left _ m))) (k.mono (z := x.z) (fun _ _ e => e) fun a m => ho a (nd a (List.mem_append_right _ m))) n (fun a m => ⟨(o a m).1, by
    have q := (o a m).2
    rw [lk_out (nd a m)] at q
    exact q⟩) ?_ ?_ (fun a u e => s a u (r.g0 a u e)) ?_ r'.pn r.xz
  · intro a u e
    by_cases q : a = d
    · subst q
      rw [gd'] at e
      cases e
      rw [h2]
      exact r.gs _ _ gd
    · rw [ho a q]
      exact r'.gs a u e
  · intro a u e
    by_cases q : a = d
    · subst q
      rw [h2]
      exact r.fs _ u e
    · rw [ho a q]
      exact r'.fs a u (by rw [lk_out q]; exact e)
  · intro a u e e0
    have g0 := r.gf a u e e0
    have q : a ≠ d := fun q => by
      subst q
      rw [g0] at gd
      cases gd
    exact r'.gf a u (by rw [lk_out q]; exact e) g0
theorem Rel.dictAt (r : Rel x G σ H env ps) (h : RdD G d us) : (H d = some (.dK us) ∧ G d = some (.dK us)) ∨ ∃ od, H d = some (.frz od (.dK us)) ∧ (G d = some (.dK us) ∨ G d = H d) := by
  rcases h with h | ⟨o, h⟩
  · rcases r.gs d _ h with q | ⟨kvs, ob, e, q⟩
    · exact .inl ⟨q, h⟩
    · cases e
      exact .inr ⟨ob, q, .inl h⟩
  · rcases r.gs d _ h with q | ⟨kvs, ob, e, q⟩
    · exact .inr ⟨o, q, .inr (h.trans q.symm)⟩
    · cases e
/-- a slot, settled -/
theorem Rel.frz1 {i : Nat} {p : Bool × D} (r : Rel x G σ H env ps) (e : getS env i = some p) : ∃ G' v, Same G G' ∧ σ[i]? = some (some v) ∧ T x.z G' H v (stl p) [] ∧ Rel x G' σ H (env.set i (some (false, stl p))) ps := by
  obtain ⟨f, d⟩ := p
  cases f with
  | false =>
    obtain ⟨v, B, e1, t, f1⟩ := r.slot e
    have q := f1 rfl
    subst q
    refine ⟨G, v, fun _ _ e => e, e1, t, ?_⟩
    have ee : env.set i (some (false, d)) = env := by
      apply List.ext_getElem?
      intro j
      rw [List.getElem?_set]
      by_cases q : i = j
      · subst q
        obtain ⟨e2, l⟩ := getS_some e
        rw [if_pos rfl, if_pos l, e2]
      · rw [if_neg q]
    show Rel x G σ H (env.set i (some (false, d))) ps
    rw [ee]
    exact r
  | true =>
    obtain ⟨G', v, s, e1, t, r'⟩ := r.freeze e
    exact ⟨G', v, s, e1, t, r'⟩
theorem T.dic_inv {z : Z} {v : V} {f : Bool} {ds : List (Key × D)} (h : T z G H v (.dic f ds) []) : ∃ a vs, v = .ref a ∧ RdD G a vs ∧ vs.map (·.1) = ds.map (·.1) ∧ Ts z G H (vs.map (·.2)) (ds.map (·.2)) [] := by
  generalize hA : ([] : List Addr) = A at h
  cases h with
  | dic hs hk ht => exact ⟨_, _, rfl, hs, hk, hA ▸ ht⟩
  | dicF hs hk ht => cases hA
def itD : DK → Addr → Obj → List (Key × V) → It
  | .keys => Itk
  | .values => Itd
  | .items => Iti
theorem dItems_len (k : DK) (kvs : List (Key × D)) : (dItems k kvs).length = kvs.length := by cases k <;> simp [dItems]
theorem wk_dict {z : Z} {F : Hp} {k : DK} {kvs : List (Key × D)} (hF : F d = some (.frz od (.dK us))) (hk : us.map (·.1) = kvs.map (·.1)) (ht : Ts z G H (us.map (·.2)) (kvs.map (·.2)) []) : Wk z F G (itD k d od us) (dItems k kvs) := by
  have el : us.length = kvs.length := by
    have := congrArg List.length hk
    simpa using this
  have at1 : ∀ {i : Nat} {q : Key} {v : V}, us[i]? = some (q, v) → ∃ e, kvs[i]? = some (q, e) ∧ T z G H v e [] := fun {i q v} e => by
    have e1 : (us.map (·.2))[i]? = some v := by rw [List.getElem?_map, e]; rfl
    obtain ⟨w, e2, t⟩ := ht.at e1
    rw [List.getElem?_map] at e2
    obtain ⟨p, e3, e4⟩ := Option.map_eq_some_iff.mp e2
    have e5 : (us.map (·.1))[i]? = (kvs.map (·.1))[i]? := by rw [hk]
    rw [List.getElem?_map, List.getElem?_map, e, e3] at e5
    obtain ⟨p1, p2⟩ := p
    cases e5
    cases e4
    exact ⟨p2, e3, t⟩
  have kT : ∀ {G' H' : Hp} (q : Key), T z G' H' (kV q) (keyD q) [] := fun q => by
    cases q with
    | inl i => exact .int i
    | inr s => exact .str s
  constructor
  · intro G' H' s g f
    rw [dItems_len, ← el]
    cases k <;> exact ⟨f _ _ hF, Nat.le_refl _⟩
  · intro i G' H' s g f l
    rw [dItems_len, ← el] at l
    cases k <;> exact ⟨f _ _ hF, l⟩
  · intro i G' H' v H2 s g f l y
    cases k with
    | keys =>
      obtain ⟨rfl, q, w, e, rfl⟩ := y
      obtain ⟨e0, e1, t⟩ := at1 e
      exact ⟨keyD q, by simp [dItems, e1], .inl ⟨rfl, kT q⟩⟩
    | values =>
      obtain ⟨rfl, q, e⟩ := y
      obtain ⟨e0, e1, t⟩ := at1 e
      exact ⟨e0, by simp [dItems, e1], .inl ⟨rfl, t.any s⟩⟩
    | items =>
      obtain ⟨p, q, w, e, rfl, hp, rfl⟩ := y
      obtain ⟨e0, e1, t⟩ := at1 e
      exact ⟨.tup [keyD q, e0], by simp [dItems, e1], .inr ⟨p, _, _, hp, rfl, rfl, rfl, .con (kT q) (.con (t.any s) .nil)⟩⟩
end
section
variable {X : Cx} {z : Z} {io : List Nat} {W : WX} {Γ : Cf} {pos : Pos}
/-- a written walk over the dict of a slot -/
def tDI (k : DK) (i : Nat) : TI := fun σ H R => ∃ a od us, σ[i]? = some (some (.ref a)) ∧ H a = some (.frz od (.dK us)) ∧ R (itD k a od us) H
theorem di_keys {i : Nat} {y : Str} {tg : Expr} (hN : X.N[i]? = some y) (hv : Vis X.env.scope y) (hd : (y == ("__debug__" : Str)) = false) (hc : (y == ("__classdict__" : Str)) = false) : PI X tg (.Name y pos) (tDI .keys i) :=
  (pi_keys (pe_var hN hv hd hc)).to fun σ H R ⟨a, od, us, e1, e2, q⟩ => ⟨_, e1, a, od, rfl, .inl ⟨us, e2, q⟩⟩
theorem di_values {i : Nat} {y : Str} {tg : Expr} {p apos : Pos} (hN : X.N[i]? = some y) (hv : Vis X.env.scope y) (hd : (y == ("__debug__" : Str)) = false) (hc : (y == ("__classdict__" : Str)) = false) (hl : (apos.endLine == pos.line) = true) : PI X tg (.Call (.Attribute (.Name y p) "values" apos) [] [] pos) (tDI .values i) :=
  (pi_values (pe_var hN hv hd hc) rfl hl).to fun σ H R ⟨a, od, us, e1, e2, q⟩ => ⟨_, e1, a, od, us, rfl, e2, q⟩
theorem di_items {i : Nat} {y : Str} {elts : List Expr} {kk : Nat} {tp p apos : Pos} (hN : X.N[i]? = some y) (hv : Vis X.env.scope y) (hd : (y == ("__debug__" : Str)) = false) (hc : (y == ("__classdict__" : Str)) = false) (hl : (apos.endLine == pos.line) = true) : PI X (.Tuple elts kk tp) (.Call (.Attribute (.Name y p) "items" apos) [] [] pos) (tDI .items i) :=
  (pi_items (pe_var hN hv hd hc) rfl hl).to fun σ H R ⟨a, od, us, e1, e2, q⟩ => ⟨_, e1, a, od, us, rfl, e2, q⟩
theorem _root_.L2.PS.or {e : Stmt} {t t' : TS} (h : PS X e t) (h' : PS X e t') : PS X e (fun D σ H => t D σ H ∨ t' D σ H) := ⟨fun pins s σ H D I q => q.elim (h.run pins s σ H D I) (h'.run pins s σ H D I)⟩
theorem _root_.L2.PE.or {e : Expr} {t t' : TE} (h : PE X e t) (h' : PE X e t') : PE X e (fun σ H Q => t σ H Q ∨ t' σ H Q) := ⟨fun pins s σ H Q I q => q.elim (h.run pins s σ H Q I) (h'.run pins s σ H Q I)⟩
def lkD (d : Addr) (od : Obj) (us : List (Key × V)) (D : Ends) : Ends := ⟨fun σ' H' => H' d = some (.frz od (.dK us)) ∧ D.nx σ' (upd H' d (.dK us)), fun v H' => H' d = some (.frz od (.dK us)) ∧ D.rt v (upd H' d (.dK us)), fun σ' H' => H' d = some (.frz od (.dK us)) ∧ D.bk σ' (upd H' d (.dK us)), fun σ' H' => H' d = some (.frz od (.dK us)) ∧ D.ct σ' (upd H' d (.dK us))⟩
/-- what holds of the end, told of the locked state -/
theorem PostS.lk {x : Fx} {G : Hp} {σ : St} {H : Hp} {env : EnvD} {ps : List (V × O)} {d : Addr} {od : Obj} {us : List (Key × V)} {D : Ends} {q : SR} (r : Rel x G σ H env ps) (g : G d = some (.dK us)) (hd : H d = some (.dK us)) (h : PostS x G W D q.noEx) : PostS (x.lk d od us G) G W (lkD d od us D) q := by
  have key : ∀ {σ' : St} {G' H' : Hp} {env' : EnvD} {qs : List (V × O)}, Same G G' → Rel (x.lk d od us G) G' σ' H' env' qs → H' d = some (.frz od (.dK us)) ∧ Rel x G' σ' (upd H' d (.dK us)) env' qs := fun {σ' G' H' env' qs} s r' =>
    ⟨r'.fs _ _ lk_at, r.unlk ⟨_, g⟩ s r' (by rw [upd_same, hd]) fun a ne => upd_ne ne⟩
  cases q with
  | next env => exact fun σ' G' H' s r' => ⟨(key s r').1, h σ' G' _ s (key s r').2⟩
  | brk env => exact fun σ' G' H' s r' => ⟨(key s r').1, h σ' G' _ s (key s r').2⟩
  | cnt env => exact fun σ' G' H' s r' => ⟨(key s r').1, h σ' G' _ s (key s r').2⟩
  | ret f d env => exact fun v σ' G' H' s r' => ⟨(key s r').1, h v σ' G' _ s (key s r').2⟩
  | ex c fs env => exact h.elim
  | bad => exact h
theorem PostS.lk' {x : Fx} {G : Hp} {σ : St} {H : Hp} {env : EnvD} {ps : List (V × O)} {d : Addr} {od : Obj} {us : List (Key × V)} {D : Ends} {q : SR} (r : Rel x G σ H env ps) (g : ∃ u, G d = some u) (hd : H d = some (.frz od (.dK us))) (h : PostS x G W D q.noEx) : PostS (x.lk d od us G) G W D q := by
  have key : ∀ {σ' : St} {G' H' : Hp} {env' : EnvD} {qs : List (V × O)}, Same G G' → Rel (x.lk d od us G) G' σ' H' env' qs → Rel x G' σ' H' env' qs := fun {σ' G' H' env' qs} s r' =>
    r.unlk g s r' (by rw [r'.fs _ _ lk_at, hd]) fun a ne => rfl
  cases q with
  | next env => exact fun σ' G' H' s r' => h σ' G' _ s (key s r')
  | brk env => exact fun σ' G' H' s r' => h σ' G' _ s (key s r')
  | cnt env => exact fun σ' G' H' s r' => h σ' G' _ s (key s r')
  | ret f d env => exact fun v σ' G' H' s r' => h v σ' G' _ s (key s r')
  | ex c fs env => exact h.elim
  | bad => exact h
theorem ss_ford {tg iter : Expr} {body : List Stmt} {t : Tg} {k : DK} {i : Nat} {b : Ss} {vs : List Nat} (hio : Γ.io = io) (hp : PassesOwn (model X.prog X.w) X.A X.env X.xe) (hc : X.calm = true) (hs : ∀ x, foldedSetIterable iter X.env x = pure x) (hi : PI X tg iter (tDI k i)) (hg : PG X tg (gT z io t)) (hb : PSs X body (tS z io W (evSs Γ b))) :
    PS X (.For tg iter body [] pos) (tS z io W (evS Γ (.ford t k i b vs))) := by
  have h0 := ps_for (pos := pos) hp hc hi hg hb hs
  refine ((ps_lock h0).or h0).to fun D σ H ⟨x, G, env, ez, po, r, h⟩ => ?_
  subst ez
  unfold evS at h
  cases c : getS env i with
  | none => rw [c] at h; exact h.elim
  | some p =>
    rw [c] at h
    dsimp only at h
    obtain ⟨G1, v, s1, e1, t1, r1⟩ := r.frz1 c
    generalize stl p = dd at *
    cases dd with
    | dic f kvs =>
      dsimp only at h
      obtain ⟨a, us, rfl, hs, hk, ht⟩ := t1.dic_inv
      have h1 := PostS.up s1 h
      rcases r1.dictAt hs with ⟨q1, q2⟩ | ⟨od, q1, q2⟩
      · refine .inl ⟨a, .dK us, q1, trivial, fun od => ?_⟩
        have r2 : Rel (x.lk a od us G1) G1 σ (upd H a (.frz od (.dK us))) (env.set i (some (false, .dic f kvs))) [] := r1.lk upd_same (fun b ne => upd_ne ne) (.inl q2)
        exact ⟨a, od, us, e1, upd_same, for_core (x := x.lk a od us G1) hio po r2 (wk_dict (G := G1) (H := H) lk_at hk ht) (PostS.lk r1 q2 q1 h1)⟩
      · refine .inr ⟨a, od, us, e1, q1, ?_⟩
        have r2 : Rel (x.lk a od us G1) G1 σ H (env.set i (some (false, .dic f kvs))) [] := r1.lk q1 (fun b ne => rfl) q2
        have g : ∃ u, G1 a = some u := by
          rcases q2 with e | e
          · exact ⟨_, e⟩
          · exact ⟨_, e.trans q1⟩
        exact for_core (x := x.lk a od us G1) hio po r2 (wk_dict (G := G1) (H := H) lk_at hk ht) (PostS.lk' r1 g q1 h1)
    | _ => exact h.elim
theorem PostR.lk {x : Fx} {G : Hp} {σ : St} {H : Hp} {env : EnvD} {ps : List (V × O)} {d : Addr} {od : Obj} {us : List (Key × V)} {Q : VK} {q : R} (r : Rel x G σ H env ps) (g : G d = some (.dK us)) (hd : H d = some (.dK us)) (h : PostR x G σ ps W Q q.noEx) : PostR (x.lk d od us G) G σ ps W (fun v H' => H' d = some (.frz od (.dK us)) ∧ Q v (upd H' d (.dK us))) q := by
  cases q with
  | ok o env => exact fun v G' H' s r' => ⟨r'.fs _ _ lk_at, h v G' _ s (r.unlk ⟨_, g⟩ s r' (by rw [upd_same, hd]) fun a ne => upd_ne ne)⟩
  | ex c fs env => exact h.elim
  | bad => exact h
theorem PostR.lk' {x : Fx} {G : Hp} {σ : St} {H : Hp} {env : EnvD} {ps : List (V × O)} {d : Addr} {od : Obj} {us : List (Key × V)} {Q : VK} {q : R} (r : Rel x G σ H env ps) (g : ∃ u, G d = some u) (hd : H d = some (.frz od (.dK us))) (h : PostR x G σ ps W Q q.noEx) : PostR (x.lk d od us G) G σ ps W Q q := by
  cases q with
  | ok o env => exact fun v G' H' s r' => h v G' _ s (r.unlk g s r' (by rw [r'.fs _ _ lk_at, hd]) fun a ne => rfl)
  | ex c fs env => exact h.elim
  | bad => exact h
theorem lcd_rd {ee : E} {t : Tg} {k : DK} {i : Nat} {ec : Eo} {vs : List Nat} {σ : St} {H : Hp} {Q : VK} (hz : z.xs = none) (hsub : tgSlots t ⊆ vs) (h : tE z W (evE Γ (.lcd ee t k i ec vs)) σ H Q) :
    tLockE (tLc (tDI k i) (gT z [] t) (tCo z (evC Γ ec)) (tE z WF (evE Γ ee)) vs) σ H Q ∨ tLc (tDI k i) (gT z [] t) (tCo z (evC Γ ec)) (tE z WF (evE Γ ee)) vs σ H Q := by
  obtain ⟨x, G, env, ps, ez, r, h⟩ := h
  subst ez
  unfold evE at h
  cases c : getS env i with
  | none => rw [c] at h; exact h.elim
  | some p =>
    rw [c] at h
    dsimp only at h
    obtain ⟨G1, v, s1, e1, t1, r1⟩ := r.frz1 c
    generalize stl p = dd at *
    cases dd with
    | dic f kvs =>
      dsimp only at h
      obtain ⟨a, us, rfl, hs, hk, ht⟩ := t1.dic_inv
      have h1 := PostR.up s1 h
      rcases r1.dictAt hs with ⟨q1, q2⟩ | ⟨od, q1, q2⟩
      · refine .inl ⟨a, .dK us, q1, trivial, fun od => ?_⟩
        have r2 : Rel (x.lk a od us G1) G1 σ (upd H a (.frz od (.dK us))) (env.set i (some (false, .dic f kvs))) ps := r1.lk upd_same (fun b ne => upd_ne ne) (.inl q2)
        exact ⟨a, od, us, e1, upd_same, fun D hD => lc_core (x := x.lk a od us G1) hz hsub r2 (wk_dict (G := G1) (H := H) lk_at hk ht) D hD (PostR.lk r1 q2 q1 h1)⟩
      · refine .inr ⟨a, od, us, e1, q1, fun D hD => ?_⟩
        have r2 : Rel (x.lk a od us G1) G1 σ H (env.set i (some (false, .dic f kvs))) ps := r1.lk q1 (fun b ne => rfl) q2
        have g : ∃ u, G1 a = some u := by
          rcases q2 with e | e
          · exact ⟨_, e⟩
          · exact ⟨_, e.trans q1⟩
        exact lc_core (x := x.lk a od us G1) hz hsub r2 (wk_dict (G := G1) (H := H) lk_at hk ht) D hD (PostR.lk' r1 g q1 h1)
    | _ => exact h.elim
theorem se_lcd {elt tg iter : Expr} {ifs : List Expr} {scope : Scope} {own : List (Str × Nat)} {ee : E} {t : Tg} {k : DK} {i : Nat} {ec : Eo} (hz : z.xs = none) (hc : X.calm = true) (hN : X.N.Nodup) (hsub : tgSlots t ⊆ own.map (·.2)) (hi : PI X tg iter (tDI k i)) (ok : BlkOk X.N X.env.scope scope own)
    (hg : ∀ (s : Shared) (H : Hp) (C : Addr) (cl : List (Str × Addr)) (fp : List Addr), PG (X.blk s H scope (compEnvC scope cl C X.env) fp) tg (gT z [] t))
    (ht : ∀ (s : Shared) (H : Hp) (C : Addr) (cl : List (Str × Addr)) (fp : List Addr), PTs (X.blk s H scope (compEnvC scope cl C X.env) fp) ifs (tCo z (evC Γ ec)))
    (he : ∀ (s : Shared) (H : Hp) (C : Addr) (cl : List (Str × Addr)) (fp : List Addr), PE (X.blk s H scope (compEnvC scope cl C X.env) fp) elt (tE z WF (evE Γ ee))) (hs : ∀ x, foldedSetIterable iter X.env x = pure x) :
    PE X (.ListComp elt [⟨tg, iter, ifs, 0⟩] scope pos) (tE z W (evE Γ (.lcd ee t k i ec (own.map (·.2))))) := by
  have h0 := pe_lc (pos := pos) hc hN hi ok hg ht he hs
  exact ((pe_lock h0).or h0).to fun σ H Q h => lcd_rd hz hsub h
end
end Vm
/-! Vm: list.remove, dict[k] += e, dict.clear. -/
namespace Vm
open PySem L2
open PyProof.Rows hiding St
section
variable {z : Z} {G H : Hp}
theorem flat_nf {d : D} (h : isFlat d = true) : nf d = true := by
  cases d <;> first | rfl | cases h
theorem flats_nfs : ∀ {ds : List D}, ds.all isFlat = true → nfs ds = true
  | [], _ => rfl
  | d :: ds, h => by
    rw [List.all_cons, Bool.and_eq_true] at h
    rw [nfs, flat_nf h.1, flats_nfs h.2]
    rfl
theorem rem_mut : MutR z .remove rRemF := by
  intro x G σ H env i os ds t t' vs Q ez r hl u e hm q
  subst ez
  obtain ⟨v, l, us, xs, y, e1, va, hl0, ey, len, ⟨B0, hu0⟩, k⟩ := Rel.mutT (p := []) r e opMut_lst (show mutAt [] (opMut .remove ds) t = some t' by cases t <;> exact hm)
  cases va
  have ed : ∃ f d j, ds = [(f, d)] ∧ isFlat d = true ∧ xs.all isFlat = true ∧ dfind d xs 0 = some j ∧ y = .lst true (xs.eraseIdx j) := by
    unfold opMut at ey
    split at ey <;> first | contradiction | (cases ey; done) | skip
    rename_i f d xs' h4 h5
    cases h4
    cases h5
    split at ey
    · rename_i h
      rw [Bool.and_eq_true] at h
      cases c : dfind d xs 0 with
      | none => rw [c] at ey; cases ey
      | some j =>
        rw [c] at ey
        cases ey
        exact ⟨_, _, j, rfl, h.1, h.2, c, rfl⟩
    · cases ey
  obtain ⟨f, d, j, rfl, f1, f2, c, rfl⟩ := ed
  obtain ⟨w, rfl, rfl⟩ := un_one u hl
  have ht : T x.z G H w d [] := by
    obtain ⟨A, C, ts, s, n, o⟩ := r.ex
    cases s with
    | cons s1 s2 =>
      cases s1 with
      | v s1 _ => exact nf_nilA s1 (flat_nf f1)
  have eB := hu0.nf_nil (flats_nfs f2)
  subst eB
  obtain ⟨i0, w0, ei, e2, e3, e4⟩ := dfind_at ht f1 hu0 f2 c
  rw [Nat.zero_add] at ei
  subst ei
  refine ⟨l, e1, l, us, w, _, w0, rfl, rfl, hl0, flatV_of ht f1, flats_of hu0 f2, e2, e3, e4, q _ _ (k _ fun B C2 H2 hu s h3 kk => ?_)⟩
  cases s with
  | cons s1 s2 =>
    cases s2
    cases s1 with
    | v s1 f1' =>
      have eA := s1.nf_nil (flat_nf f1)
      subst eA
      have hu2 : Ts x.z G H2 us xs B := hu.mono (fun _ _ e => e) fun a m => kk a (List.mem_append_left _ m)
      obtain ⟨B', R, t2, p⟩ := hu2.erase j
      exact ⟨l :: B', R, .lstF h3 t2, by simpa using p⟩
/-- an int under a key -/
theorem kfind_int {k : Key} {a : Int} : ∀ {vs : List (Key × V)} {ds : List (Key × D)} {B : List Addr}, vs.map (·.1) = ds.map (·.1) → Ts z G H (vs.map (·.2)) (ds.map (·.2)) B → kfind ds k = some (.int a) → valV vs k = some (.int a)
  | [], [], _, _, _, e => by cases e
  | (b, w) :: vs, (b', e) :: ds, B, hk, t, h => by
    simp only [List.map_cons, List.cons.injEq] at hk
    obtain ⟨rfl, hk⟩ := hk
    cases (show Ts z G H (w :: vs.map (·.2)) (e :: ds.map (·.2)) B from t) with
    | cons t1 t2 =>
      by_cases q : b = k
      · have h' : kfind ((b, e) :: ds) k = some e := by simp [kfind, q]
        rw [h'] at h
        cases h
        cases t1
        exact valV_pos q
      · have h' : kfind ((b, e) :: ds) k = kfind ds k := by simp [kfind, q]
        rw [h'] at h
        rw [valV_neg q]
        exact kfind_int hk t2 h
  | [], _ :: _, _, e, _, _ => by simp at e
  | _ :: _, [], _, e, _, _ => by simp at e
end
section
variable {X : Cx} {z : Z} {io : List Nat} {W : WX} {Γ : Cf} {pos : Pos}
theorem get_dict (hu : X.A.units + 1 < cLine) : PGet X (fun o i H Q => ∃ a v, o = .ref a ∧ DGet H a i (some v) ∧ Q v H) := by
  intro pins s σ H o i ov iv Q I ro ri h
  obtain ⟨a, v, rfl, g, q⟩ := h
  cases ro
  exact d_getItem hu I g ri fun w' s' I' r' => ⟨v, H, I', r', q⟩
def noSl : Expr → Bool
  | .Slice .. => false
  | _ => true
theorem aug_store {e : Expr} (h : noSl e = true) : ∀ ov iv new, augStore e ov iv new = (do holding [new, ov, iv] (setItem ov iv new); release [new, ov, iv] []; pure .next) := by
  cases e <;> first | (intros; rfl) | cases h
theorem ss_augs {i : Nat} {y : Str} {p1 tp : Pos} {e ke : Expr} {ee ek : E} {o : B2} (hu : X.A.units + 1 < cLine) (ho : o.aug = true) (hN : X.N[i]? = some y) (hv : Vis X.env.scope y) (hd : (y == ("__debug__" : Str)) = false) (hc : (y == ("__classdict__" : Str)) = false) (hs : noSl ke = true)
    (he : PE X e (tE z W (evE Γ ee))) (hk : PE X ke (tE z W (evE Γ ek))) : PS X (.AugAssign (.Subscript (.Name y p1) ke tp) o.py e pos) (tS z io W (evS Γ (.augs o i ek ee))) := by
  have key : ∀ (f : Int → Int → Int), (∀ (a b : Int) (kvs : List (Key × Vm.D)) (q : Key) (env : EnvD), augK o i a b kvs q env = .next (env.set i (some (true, .dic true (kput kvs q (.int (f a b))))))) → PIp X o.py (ipI f) → PS X (.AugAssign (.Subscript (.Name y p1) ke tp) o.py e pos) (tS z io W (evS Γ (.augs o i ek ee))) := by
    intro f hf hp
    refine (ps_augS (pe_var hN hv hd hc) hk (get_dict hu) he hp (set_dict hu) (aug_store hs)).to fun D σ H ⟨x, G, env, ez, po, r, h⟩ => ?_
    subst ez
    unfold evS at h
    cases c0 : getS env i with
    | none => rw [c0] at h; exact h.elim
    | some p0 =>
      rw [c0] at h
      dsimp only at h
      obtain ⟨f0, d0⟩ := p0
      obtain ⟨w, _, ew, _⟩ := r.slot c0
      refine ⟨w, ew, ?_⟩
      refine PostS.step r h fun q env1 u G1 H1 s1 r1 h1 => ?_
      cases c1 : rsD q env1 with
      | none => rw [c1] at h1; exact h1.elim
      | some kd =>
        cases c2 : getS env1 i with
        | none => rw [c1, c2] at h1; exact h1.elim
        | some p1 =>
          obtain ⟨f1, t1⟩ := p1
          rw [c1, c2] at h1
          cases f1 with
          | false => exact h1.elim
          | true =>
            cases t1 with
            | dic g kvs =>
              cases g with
              | false => exact h1.elim
              | true =>
                dsimp only at h1
                cases c3 : asKey kd with
                | none => rw [c3] at h1; exact h1.elim
                | some key =>
                  rw [c3] at h1
                  dsimp only at h1
                  cases c4 : kfind kvs key with
                  | none => rw [c4] at h1; exact h1.elim
                  | some d4 =>
                    rw [c4] at h1
                    cases d4 with
                    | int a =>
                      dsimp only at h1
                      have r1' : Rel x G1 σ H1 env1 ([] ++ [(u, q)]) := r1
                      obtain ⟨G2, s2, r2, wk⟩ := Rel.views (ds := [kd]) r1' (by
                        show (match rsD q env1, rsAll [] env1 with
                          | some d, some ds => some (d :: ds)
                          | _, _ => none) = _
                        rw [c1]
                        rfl)
                      cases wk with
                      | cons wk _ =>
                        obtain ⟨_, Ak, tk⟩ := wk
                        have eu : u = kV key := asKey_kVT tk c3
                        subst eu
                        obtain ⟨w2, B2, ew2, tw2, _⟩ := Rel.root r2 c2
                        rw [ew] at ew2
                        cases ew2
                        cases tw2 with
                        | @dicF ad us _ B3 hl hk0 ht =>
                          refine ⟨ad, .int a, rfl, ?_, ?_⟩
                          · have := kfind_int hk0 ht c4
                            rw [← this]
                            exact DGet.k hl
                          · refine PostS.step r2 (PostS.up s2 h1) fun o2 env2 u2 G3 H3 s3 r3 h3 => ?_
                            cases c5 : rsD o2 env2 with
                            | none => rw [c5] at h3; exact h3.elim
                            | some d5 =>
                              cases c6 : getS env2 i with
                              | none => rw [c5, c6] at h3; cases d5 <;> exact h3.elim
                              | some p6 =>
                                obtain ⟨f6, t6⟩ := p6
                                rw [c5, c6] at h3
                                cases d5 with
                                | int b =>
                                  cases f6 with
                                  | false => exact h3.elim
                                  | true =>
                                    cases t6 with
                                    | dic g6 kvs2 =>
                                      cases g6 with
                                      | false => exact h3.elim
                                      | true =>
                                        dsimp only at h3
                                        split at h3
                                        · rename_i hz
                                          rw [hf] at h3
                                          have r3' : Rel x G3 σ H3 env2 ([] ++ [(u2, o2)]) := r3
                                          obtain ⟨G4, s4, r4, wb⟩ := Rel.views (ds := [.int b]) r3' (by
                                            show (match rsD o2 env2, rsAll [] env2 with
                                              | some d, some ds => some (d :: ds)
                                              | _, _ => none) = _
                                            rw [c5]
                                            rfl)
                                          cases wb with
                                          | cons wb _ =>
                                            have eu2 := wb.int
                                            obtain ⟨w7, B7, ew7, tw7, nd, root⟩ := Rel.root r4 c6
                                            rw [ew] at ew7
                                            cases ew7
                                            cases tw7 with
                                            | @dicF _ us2 _ B8 hl2 hk2 ht2 =>
                                              have el : us2.length = kvs2.length := by
                                                have := congrArg List.length hk2
                                                simpa using this
                                              refine ⟨a, b, rfl, eu2, ad, _, rfl, DPut.k hl2 (by rw [el]; exact hz), h3 σ G4 _ s4 (root ad _ _ rfl (List.mem_cons_self ..) fun H5 e5 k5 => ?_)⟩
                                              have ht3 : Ts x.z G4 H5 (us2.map (·.2)) (kvs2.map (·.2)) B8 := ht2.mono (fun _ _ e => e) fun b m => k5 b (List.mem_cons_of_mem _ m) fun q => (List.nodup_cons.mp nd).1 (q ▸ m)
                                              obtain ⟨k1, B', R, t2, p⟩ := Ts.kput (k := key) (d := .int (f a b)) (v := .int (f a b)) (.int _) hk2 ht3
                                              exact ⟨ad :: B', R, .dicF e5 k1 t2, p.cons ad⟩
                                        · exact h3.elim
                                    | _ => exact h3.elim
                                | _ => exact h3.elim
                    | _ => exact h1.elim
            | _ => exact h1.elim
  cases o with
  | add => exact key _ (fun _ _ _ _ _ => rfl) ip_add
  | sub => exact key _ (fun _ _ _ _ _ => rfl) ip_sub
  | _ => cases ho
/-! ### clear -/
theorem mt_dclear : MtR X "dict.clear" (fun x xs H Q => ∃ (a : Addr) (kvs : List (Key × V)), x = .ref a ∧ xs = [] ∧ H a = some (.dK kvs) ∧ Q .non (upd H a (.dK []))) := by
  intro pins s σ H x xs v us Q I rx rxs h
  obtain ⟨a, kvs, rfl, rfl, hH, q⟩ := h
  cases rx
  cases rxs
  exact d_clear I hH fun s' I' => ⟨.non, _, I', rfl, q⟩
theorem ss_clrd {i : Nat} {y : Str} {p1 apos cpos : Pos} (hN : X.N[i]? = some y) (hv : Vis X.env.scope y) (hd : (y == ("__debug__" : Str)) = false) (hc : (y == ("__classdict__" : Str)) = false) (hl : (apos.endLine == cpos.line) = true)
    (hsw : swapsWith (.Call (.Attribute (.Name y p1) "clear" apos) [] [] cpos) none pos.line X.env = pure false) : PS X (.Expr (.Call (.Attribute (.Name y p1) "clear" apos) [] [] cpos) pos) (tS z io W (evS Γ (.clrd i))) := by
  refine (ps_expr (pe_bm0 PySem.F.plainAttrs_dict PySem.F.slot_dict_clear PySem.F.type_dict_clear mt_dclear (pe_var hN hv hd hc) rfl hl) hsw).to fun D σ H ⟨x, G, env, ez, po, r, h⟩ => ?_
  subst ez
  unfold evS at h
  cases c0 : getS env i with
  | none => rw [c0] at h; exact h.elim
  | some q0 =>
    obtain ⟨f0, t0⟩ := q0
    rw [c0] at h
    cases f0 with
    | false => exact h.elim
    | true =>
      cases t0 with
      | dic g kvs =>
        cases g with
        | false => exact h.elim
        | true =>
          obtain ⟨w, B, ew, tw, nd, root⟩ := Rel.root r c0
          cases tw with
          | @dicF a us _ B3 hl hk ht =>
            refine ⟨_, ew, .inr (.inr (.inl ⟨rfl, .inl ⟨us, hl⟩⟩)), a, us, rfl, rfl, hl, h σ G _ (fun _ _ e => e) (root a _ _ rfl (List.mem_cons_self ..) fun H3 e3 k3 => ?_)⟩
            exact ⟨[a], B3, .dicF e3 rfl .nil, by simp⟩
      | _ => exact h.elim
end
end Vm
/-! Vm: calls. -/
namespace Vm
open PySem L2
open PyProof.Rows hiding St
@[simp] def bwOf : E → Option Nat
  | .bw i => some i
  | _ => none
def BwOk (σ : St) : Es → List V → Prop
  | .nil, [] => True
  | .cons e es, v :: vs => (∀ i, bwOf e = some i → σ[i]? = some (some v)) ∧ BwOk σ es vs
  | _, _ => False
def stlAs : Es → List O → List O
  | .cons e es, o :: os => (match bwOf e with
    | some _ => o
    | none => stlO o) :: stlAs es os
  | _, os => os
@[simp] theorem giveBack_cons (e : E) (es : Es) (o : SD) (os env : EnvD) : giveBack (.cons e es) (o :: os) env = giveBack es os (match bwOf e with
    | some i => env.set i o
    | none => env) := by cases e <;> rfl
@[simp] theorem argsOf_cons (e : E) (es : Es) (p : Bool × D) (ps : List (Bool × D)) : argsOf (.cons e es) (p :: ps) = (match bwOf e with
    | some i => p
    | none => (false, stl p)) :: argsOf es ps := by cases e <;> rfl
section
variable {x : Fx} {G G' : Hp} {σ σ' : St} {H H' : Hp} {env : EnvD} {ps qs : List (V × O)}
/-- one of the stack is settled -/
theorem Rel.settleAt {v : V} {o : O} (r : Rel x G σ H env (ps ++ (v, o) :: qs)) : ∃ G', Same G G' ∧ Rel x G' σ H env (ps ++ (v, stlO o) :: qs) := by
  obtain ⟨A, C, t, s, n, ou⟩ := r.ex
  obtain ⟨C1, C2, s1, s2, rfl⟩ := s.split
  cases s2 with
  | cons h k =>
    rename_i C3 C4
    have hg : ∀ a ∈ C3, G a = none := fun a m => (ou a (by simp [m])).1
    have sm := adj_same (G := G) (H := H) hg
    have h3 : TPs x.z (adj G H C3) H σ [(v, stlO o)] [] := TPs.stl (qs := [(v, o)]) sm (C := C3 ++ []) (.cons h .nil) fun a m => by simpa using m
    have s3 : TPs x.z (adj G H C3) H σ (ps ++ ([(v, stlO o)] ++ qs)) (C1 ++ ([] ++ C4)) := (s1.mono (H' := H) sm fun _ _ => rfl).append (h3.append (k.mono (H' := H) sm fun _ _ => rfl))
    have pp : (A ++ (C1 ++ (C3 ++ C4))).Perm (C3 ++ (A ++ (C1 ++ C4))) := by
      refine List.Perm.trans ?_ (List.perm_append_comm)
      rw [List.append_assoc]
      refine List.Perm.append_left A ?_
      rw [List.append_assoc]
      exact List.Perm.append_left C1 List.perm_append_comm
    have nn := pp.nodup_iff.mp n
    refine ⟨adj G H C3, sm, .intro (t.mono sm fun _ _ => rfl) s3 (by simpa using (List.nodup_append.mp nn).2.1) (fun a m => ?_) r.gs.adj r.fs (fun a o e => sm a o (r.g0 a o e)) (fun a ob e e0 => ?_) r.pn⟩
    · have m' : a ∈ A ++ (C1 ++ C4) := by simpa using m
      have nm : a ∉ C3 := fun m2 => (List.nodup_append.mp nn).2.2 a m2 a m' rfl
      rw [adj_out nm]
      exact ou a (pp.mem_iff.mpr (List.mem_append_right _ m'))
    · by_cases m : a ∈ C3
      · have q := (ou a (by simp [m])).2
        rw [q] at e; cases e
      · rw [adj_out m]; exact r.gf a ob e e0
theorem Rel.settleAs : ∀ {es : Es} {os : List O} {vs : List V} {ps : List (V × O)} {G : Hp}, vs.length = os.length → Rel x G σ H env (ps ++ vs.zip os) → ∃ G', Same G G' ∧ Rel x G' σ H env (ps ++ vs.zip (stlAs es os))
  | .nil, os, vs, ps, G, _, r => ⟨G, fun _ _ e => e, by cases os <;> exact r⟩
  | .cons e es, [], [], ps, G, _, r => ⟨G, fun _ _ e => e, r⟩
  | .cons e es, [], _ :: _, ps, G, l, r => by simp at l
  | .cons e es, _ :: _, [], ps, G, l, r => by simp at l
  | .cons e es, o :: os, v :: vs, ps, G, l, r => by
    have l' : vs.length = os.length := by simpa using l
    have r0 : Rel x G σ H env (ps ++ (v, o) :: vs.zip os) := r
    have key : ∀ {G1 : Hp} {o1 : O}, Rel x G1 σ H env (ps ++ (v, o1) :: vs.zip os) → ∃ G', Same G1 G' ∧ Rel x G' σ H env (ps ++ (v, o1) :: vs.zip (stlAs es os)) := fun {G1 o1} r1 => by
      have r2 : Rel x G1 σ H env ((ps ++ [(v, o1)]) ++ vs.zip os) := by simpa using r1
      obtain ⟨G2, s2, r3⟩ := Rel.settleAs (es := es) l' r2
      exact ⟨G2, s2, by simpa using r3⟩
    unfold stlAs
    cases bwOf e with
    | some i => exact key r0
    | none =>
      obtain ⟨G1, s1, r1⟩ := Rel.settleAt r0
      obtain ⟨G2, s2, r2⟩ := key r1
      exact ⟨G2, Same.tr s1 s2, r2⟩
theorem un_stlAs {vs : List V} : ∀ {es : Es} {os : List O} {vs : List V} {ds : List (Bool × D)}, vs.length = os.length → BwOk σ es vs → unOs os = some ds → unOs (stlAs es os) = some (argsOf es ds) ∧ (argsOf es ds).length = vs.length
  | .nil, [], [], ds, _, _, e => by cases e; exact ⟨rfl, rfl⟩
  | .nil, _ :: _, [], ds, l, _, e => by simp at l
  | .nil, _, _ :: _, ds, _, b, e => b.elim
  | .cons _ _, _, [], _, _, b, _ => b.elim
  | .cons e es, [], v :: vs, ds, l, _, _ => by simp at l
  | .cons e es, o :: os, v :: vs, ds, l, b, h => by
    have h' : (match unO o, unOs os with
      | some d, some ds => some (d :: ds)
      | _, _ => none) = some ds := h
    cases o with
    | p i => cases h'
    | v f d =>
      cases c : unOs os with
      | none => rw [c] at h'; cases h'
      | some ds' =>
        rw [c] at h'
        cases h'
        obtain ⟨q1, q2⟩ := un_stlAs (vs := vs) (es := es) (by simpa using l) b.2 c
        rw [argsOf_cons]
        unfold stlAs
        refine ⟨?_, by rw [List.length_cons, List.length_cons, q2]⟩
        show (match unO _, unOs (stlAs es os) with
          | some d, some ds => some (d :: ds)
          | _, _ => none) = _
        rw [q1]
        cases bwOf e <;> rfl
theorem TPs.toTOs {z : Z} {m : Nat} : ∀ {vs : List V} {os : List O} {C : List Addr} {ds : List (Bool × D)}, vs.length = os.length → TPs z G H σ (vs.zip os) C → unOs os = some ds → TOs z G H (vs.map some ++ List.replicate m none) (ds.map some ++ List.replicate m none) C
  | [], [], _, ds, _, h, e => by
    cases h
    cases e
    have rep : ∀ m : Nat, TOs z G H (List.replicate m none) (List.replicate m none) [] := fun m => by
      induction m with
      | zero => exact .nil
      | succ m ih => exact .cons (A := []) .none ih
    exact rep m
  | v :: vs, o :: os, C, ds, l, h, e => by
    have h' : (match unO o, unOs os with
      | some d, some ds => some (d :: ds)
      | _, _ => none) = some ds := e
    cases h with
    | cons h t =>
      cases h with
      | p h => cases h'
      | v h f1 =>
        cases c : unOs os with
        | none => rw [c] at h'; cases h'
        | some ds' =>
          rw [c] at h'
          cases h'
          exact .cons (.some h f1) (TPs.toTOs (by simpa using l) t c)
  | [], _ :: _, _, _, l, _, _ => by simp at l
  | _ :: _, [], _, _, l, _, _ => by simp at l
end
/-! ### a look -/
section
variable {x : Fx} {G G' : Hp} {σ σ' : St} {H H' : Hp} {env : EnvD} {ps : List (V × O)}
theorem TOs.look {z : Z} {A0 : List Addr} (s : Same G (adj G H A0)) : ∀ {σ : St} {env : EnvD} {A : List Addr}, TOs z G H σ env A → (∀ a ∈ A, a ∈ A0) → TOs z (adj G H A0) H σ (lookD env) []
  | _, _, _, .nil, _ => .nil
  | _, _, _, .cons h t, k => by
    have t2 := TOs.look s t fun a m => k a (List.mem_append_right _ m)
    cases h with
    | none => exact .cons (A := []) .none t2
    | some h f => exact .cons (A := []) (.some (T.stl h f s fun a m => k a (List.mem_append_left _ m)) fun _ => rfl) t2
theorem T.flat' {z : Z} {G G' H H' : Hp} {v : V} {d : D} {A : List Addr} (h : T z G H v d A) (e : isFlat d = true) : A = [] ∧ T z G' H' v d [] := by
  cases h with
  | non => exact ⟨rfl, .non⟩
  | bl b => exact ⟨rfl, .bl b⟩
  | int b => exact ⟨rfl, .int b⟩
  | str b => exact ⟨rfl, .str b⟩
  | _ => cases e
theorem Ts.flat {z : Z} {G G' H H' : Hp} : ∀ {vs : List V} {ds : List D} {A : List Addr}, Ts z G H vs ds A → ds.all isFlat = true → A = [] ∧ Ts z G' H' vs ds []
  | _, _, _, .nil, _ => ⟨rfl, .nil⟩
  | _, _, _, .cons h t, e => by
    rw [List.all_cons, Bool.and_eq_true] at e
    obtain ⟨e1, e2⟩ := Ts.flat (G' := G') (H' := H') t e.2
    have h2 : _ ∧ T z G' H' _ _ [] := T.flat' h e.1
    refine ⟨by rw [h2.1, e1]; rfl, ?_⟩
    exact .cons (A := []) h2.2 e2
/-- all is seen as settled for a while, then it is as it was -/
theorem Rel.look (r : Rel x G σ H env ps) : ∃ F1 G1, Rel ⟨x.z, F1, G1, x.pin⟩ G1 σ H (lookD env) [] ∧
    (∀ {G2 H2 : Hp} {env2 : EnvD} {qs : List (V × O)}, Rel ⟨x.z, F1, G1, x.pin⟩ G2 σ H2 env2 qs → ∃ G3, Same G G3 ∧ Rel x G3 σ H2 env ps) ∧
    ∀ {G2 H2 : Hp} {env2 : EnvD} {v : V} {ds : List D}, Rel ⟨x.z, F1, G1, x.pin⟩ G2 σ H2 env2 [(v, .v true (.lst true ds))] → ds.all isFlat = true → ∃ G3, Same G G3 ∧ Rel x G3 σ H2 env (ps ++ [(v, .v true (.lst true ds))]) := by
  obtain ⟨A, C, t, s, n, o⟩ := r.ex
  have sm := adj_same (G := G) (H := H) (A := A ++ C) fun a m => (o a m).1
  have xF : ∀ a u, x.F a = some u → a ∉ A ++ C := fun a u e m => by
    rw [(o a m).2] at e; cases e
  have core : ∀ {G2 H2 : Hp} {env2 : EnvD} {qs : List (V × O)}, Rel ⟨x.z, adj x.F H (A ++ C), adj G H (A ++ C), x.pin⟩ G2 σ H2 env2 qs →
      Same G (fun a => if a ∈ A ++ C then none else G2 a) ∧ TOs x.z (fun a => if a ∈ A ++ C then none else G2 a) H2 σ env A ∧ TPs x.z (fun a => if a ∈ A ++ C then none else G2 a) H2 σ ps C ∧ GS (fun a => if a ∈ A ++ C then none else G2 a) H2 ∧ Same x.F H2 ∧ ∀ a u, x.F a = some u → x.G0 a = none → (fun a => if a ∈ A ++ C then none else G2 a) a = none := by
    intro G2 H2 env2 qs r2
    have keep : ∀ a, a ∈ A ++ C → H2 a = H a := fun a m => by
      obtain ⟨u, e⟩ : IsSome H a := (List.mem_append.mp m).elim (t.there a) (s.there a)
      rw [e]
      exact r2.fs a u (show adj x.F H (A ++ C) a = some u by rw [adj_in m]; exact e)
    have sg : Same G (fun a => if a ∈ A ++ C then none else G2 a) := fun a u e => by
      have m : a ∉ A ++ C := fun m => by rw [(o a m).1] at e; cases e
      show (if a ∈ A ++ C then none else G2 a) = some u
      rw [if_neg m]
      exact r2.g0 a u (sm a u e)
    refine ⟨sg, t.mono sg fun a m => keep a (List.mem_append_left _ m), s.mono sg fun a m => keep a (List.mem_append_right _ m), fun a u e => ?_, fun a u e => ?_, fun a u e e0 => ?_⟩
    · have e' : (if a ∈ A ++ C then none else G2 a) = some u := e
      split at e'
      · cases e'
      · exact r2.gs a u e'
    · exact r2.fs a u (show adj x.F H (A ++ C) a = some u by rw [adj_out (xF a u e)]; exact e)
    · have g := r.gf a u e e0
      show (if a ∈ A ++ C then none else G2 a) = none
      rw [if_neg (xF a u e)]
      exact r2.gf a u (show adj x.F H (A ++ C) a = some u by rw [adj_out (xF a u e)]; exact e) (show adj G H (A ++ C) a = none by rw [adj_out (xF a u e)]; exact g)
  refine ⟨adj x.F H (A ++ C), adj G H (A ++ C), .intro (A := []) (C := []) (TOs.look sm t fun a m => List.mem_append_left _ m) .nil List.nodup_nil (fun a m => absurd m List.not_mem_nil) r.gs.adj (fun a u e => ?_) (fun _ _ e => e) (fun _ _ _ e => e) r.pn (fun q e => ⟨(r.xz q e).1, Same.tr (Same.tr (r.xz q e).2.1 r.g0) sm, fun d' ed => sm _ _ (r.g0 _ _ ((r.xz q e).2.2 d' ed))⟩), ?_, ?_⟩
  · have e' : adj x.F H (A ++ C) a = some u := e
    by_cases m : a ∈ A ++ C
    · rw [adj_in m] at e'; exact e'
    · rw [adj_out m] at e'; exact r.fs a u e'
  · intro G2 H2 env2 qs r2
    obtain ⟨c1, c2, c3, c4, c5, c6⟩ := core r2
    exact ⟨_, c1, .intro c2 c3 n (fun a m => ⟨if_pos m, (o a m).2⟩) c4 c5 (fun a u e => c1 a u (r.g0 a u e)) c6 r.pn⟩
  · intro G2 H2 env2 v ds r2 hf
    obtain ⟨c1, c2, c3, c4, c5, c6⟩ := core r2
    obtain ⟨A2, C2, t2, s2, n2, o2⟩ := r2.ex
    cases s2 with
    | cons h k =>
      cases k
      cases h with
      | v h f1 =>
        cases h with
        | lstF hH ts =>
          rename_i a vs A4
          obtain ⟨e4, ts'⟩ := Ts.flat (G' := fun a => if a ∈ A ++ C then none else G2 a) (H' := H2) ts hf
          subst e4
          have oa := o2 a (by simp)
          have nm : a ∉ A ++ C := fun m => by
            obtain ⟨u, e⟩ : IsSome H a := (List.mem_append.mp m).elim (t.there a) (s.there a)
            have q : adj x.F H (A ++ C) a = none := oa.2
            rw [adj_in m, e] at q
            cases q
          have q : adj x.F H (A ++ C) a = none := oa.2
          rw [adj_out nm] at q
          have s' : TPs x.z (fun a => if a ∈ A ++ C then none else G2 a) H2 σ (ps ++ [(.ref a, .v true (.lst true ds))]) (C ++ ([a] ++ [])) := c3.append (.cons (.v (.lstF hH ts') fun e => by cases e) .nil)
          refine ⟨_, c1, .intro c2 s' ?_ (fun b m => ?_) c4 c5 (fun a u e => c1 a u (r.g0 a u e)) c6 r.pn⟩
          · rw [List.append_nil, ← List.append_assoc]
            refine List.nodup_append.mpr ⟨n, List.nodup_cons.mpr ⟨List.not_mem_nil, List.nodup_nil⟩, fun b m1 c m2 e => ?_⟩
            rw [List.mem_singleton.mp m2] at e
            exact nm (e ▸ m1)
          · rw [List.append_nil, ← List.append_assoc] at m
            rcases List.mem_append.mp m with m | m
            · exact ⟨if_pos m, (o b m).2⟩
            · rw [List.mem_singleton.mp m]
              refine ⟨?_, q⟩
              show (if a ∈ A ++ C then none else G2 a) = none
              rw [if_neg nm]
              exact oa.1
theorem T.flat {z : Z} {v : V} {d : D} {A : List Addr} (h : T z G H v d A) (e : isFlat d = true) : T z G' H' v d [] := by
  cases h with
  | non => exact .non
  | bl b => exact .bl b
  | int b => exact .int b
  | str b => exact .str b
  | _ => cases e
end
section
variable {X : Cx} {z : Z} {W : WX} {Γ : Cf}
theorem se_look {e : Expr} {ee : E} (hp : PE X e (tE z W (evE Γ ee))) : PE X e (tE z W (evE Γ (.look ee))) := by
  refine hp.to fun σ H Q ⟨x, G, env, ps, ez, r, h⟩ => ?_
  subst ez
  unfold evE at h
  obtain ⟨F1, G1, r1, back, backL⟩ := r.look
  refine ⟨⟨x.z, F1, G1, x.pin⟩, G1, lookD env, [], rfl, r1, ?_⟩
  cases c : evE Γ ee (lookD env) with
  | bad => rw [c] at h; exact h.elim
  | ex cc fs env1 => rw [c] at h; exact h.elim
  | ok o env1 =>
    rw [c] at h
    cases o with
    | p i => exact h.elim
    | v f d =>
      dsimp only at h
      split at h
      · rename_i hf
        intro v G2 H2 s2 r2
        obtain ⟨A, C, t, s, n, o⟩ := r2.ex
        obtain ⟨G3, s3, r3⟩ := back r2
        cases s with
        | cons s1 s4 =>
          cases s1 with
          | v s1 f1 => exact h v G3 H2 s3 (r3.push (s1.flat hf))
      · split at h
        · rename_i hf
          rw [Bool.and_eq_true] at hf
          obtain ⟨hf1, hf2⟩ := hf
          subst hf1
          intro v G2 H2 s2 r2
          cases d with
          | lst b ds =>
            cases b with
            | false => cases hf2
            | true =>
              obtain ⟨G3, s3, r3⟩ := backL r2 hf2
              exact h v G3 H2 s3 r3
          | _ => cases hf2
        · exact h.elim
theorem st_look {e : Expr} {ee : E} (hp : PT X e (tT z W (evE Γ ee))) : PT X e (tT z W (evE Γ (.look ee))) := by
  refine hp.to fun σ H Q ⟨x, G, env, ps, ez, r, h⟩ => ?_
  subst ez
  unfold evE at h
  obtain ⟨F1, G1, r1, back, backL⟩ := r.look
  refine ⟨⟨x.z, F1, G1, x.pin⟩, G1, lookD env, [], rfl, r1, ?_⟩
  cases c : evE Γ ee (lookD env) with
  | bad => rw [c] at h; exact h.elim
  | ex cc fs env1 => rw [c] at h; exact h.elim
  | ok o env1 =>
    rw [c] at h
    cases o with
    | p i => exact h.elim
    | v f d =>
      cases d with
      | bl b =>
        intro G2 H2 s2 r2
        obtain ⟨G3, s3, r3⟩ := back r2
        exact h G3 H2 s3 r3
      | _ =>
        dsimp only at h
        split at h
        · exact h.elim
        · split at h <;> exact h.elim
end
section
variable {x : Fx} {G G' : Hp} {σ σ' : St} {H H' : Hp} {env : EnvD} {ps qs : List (V × O)}
/-! ### what a callee is told, what it gives -/
def pinsL (io : List Nat) : Nat → List V → List (Nat × V)
  | _, [] => []
  | k, v :: vs => if io.contains k then (k, v) :: pinsL io (k + 1) vs else pinsL io (k + 1) vs
theorem pinsL_mem {io : List Nat} : ∀ {k : Nat} {vs : List V} {p : Nat × V}, p ∈ pinsL io k vs → io.contains p.1 = true ∧ ∃ j, p.1 = k + j ∧ vs[j]? = some p.2
  | _, [], _, m => by cases m
  | k, v :: vs, p, m => by
    unfold pinsL at m
    have tail : p ∈ pinsL io (k + 1) vs → io.contains p.1 = true ∧ ∃ j, p.1 = k + j ∧ (v :: vs)[j]? = some p.2 := fun m => by
      obtain ⟨h1, j, h2, h3⟩ := pinsL_mem m
      exact ⟨h1, j + 1, by omega, by simpa using h3⟩
    split at m
    · rename_i h
      rcases List.mem_cons.mp m with e | m
      · rw [e]
        exact ⟨h, 0, rfl, rfl⟩
      · exact tail m
    · exact tail m
theorem pinsL_has {io : List Nat} : ∀ {k : Nat} {vs : List V} {j : Nat} {v : V}, vs[j]? = some v → io.contains (k + j) = true → (k + j, v) ∈ pinsL io k vs
  | _, [], _, _, e, _ => by simp at e
  | k, w :: vs, 0, v, e, h => by
    simp at e
    subst e
    unfold pinsL
    rw [if_pos (by simpa using h)]
    exact List.mem_cons_self ..
  | k, w :: vs, j + 1, v, e, h => by
    have q := pinsL_has (k := k + 1) (vs := vs) (j := j) (by simpa using e) (by rw [show k + 1 + j = k + (j + 1) by omega]; exact h)
    rw [show k + 1 + j = k + (j + 1) by omega] at q
    unfold pinsL
    split
    · exact List.mem_cons_of_mem _ q
    · exact q
/-- what is given back, by the values -/
def outR (io : List Nat) : Nat → List V → EnvD → EnvD
  | _, [], _ => []
  | k, _ :: vs, [] => none :: outR io (k + 1) vs []
  | k, _ :: vs, e :: env => (if io.contains k then e else none) :: outR io (k + 1) vs env
theorem outR_get {io : List Nat} : ∀ (vs : List V) (k j : Nat) (env : EnvD), (outR io k vs env)[j]? = if j < vs.length then some (if io.contains (k + j) then getS env j else none) else none
  | [], k, j, env => by unfold outR; simp
  | v :: vs, k, 0, [] => by
    unfold outR
    simp [getS]
  | v :: vs, k, 0, e :: env => by
    unfold outR
    simp [getS]
  | v :: vs, k, j + 1, [] => by
    unfold outR
    rw [List.getElem?_cons_succ, outR_get vs (k + 1) j [], show k + 1 + j = k + (j + 1) by omega]
    simp [getS]
  | v :: vs, k, j + 1, e :: env => by
    unfold outR
    rw [List.getElem?_cons_succ, outR_get vs (k + 1) j env, show k + 1 + j = k + (j + 1) by omega]
    simp [getS]
theorem outR_eq {io : List Nat} {vs : List V} {env : EnvD} : outsOf io vs.length env = outR io 0 vs env := by
  apply List.ext_getElem?
  intro j
  rw [outR_get]
  unfold outsOf
  rw [List.getElem?_map]
  by_cases h : j < vs.length
  · rw [if_pos h, List.getElem?_range h, Nat.zero_add]
    rfl
  · rw [if_neg h, List.getElem?_eq_none (by simpa using h)]
    rfl
theorem outR_sel {z : Z} {io : List Nat} : ∀ {us : List V} {σ : St} {env : EnvD} {A : List Addr} {k : Nat}, TOs z G H σ env A → (∀ j v, us[j]? = some v → io.contains (k + j) = true → σ[j]? = some (some v)) →
    ∃ B R, TOs z G H (us.map some) (outR io k us env) B ∧ A.Perm (B ++ R)
  | [], _, _, A, k, t, _ => ⟨[], A, .nil, .rfl⟩
  | u :: us, _, _, _, k, .nil, h => by
    obtain ⟨B, R, t, p⟩ := outR_sel (us := us) (k := k + 1) (σ := []) (env := []) .nil fun j v e c => by
      have q := h (j + 1) v (by simpa using e) (by rw [show k + (j + 1) = k + 1 + j by omega]; exact c)
      simp at q
    exact ⟨[] ++ B, R, .cons .none t, p⟩
  | u :: us, v :: σ, e :: env, _, k, .cons (A := A) (B := A2) h1 t1, h => by
    obtain ⟨B, R, t, p⟩ := outR_sel (us := us) (k := k + 1) t1 fun j v e c => by
      have q := h (j + 1) v (by simpa using e) (by rw [show k + (j + 1) = k + 1 + j by omega]; exact c)
      simpa using q
    unfold outR
    by_cases c : io.contains k = true
    · rw [if_pos c]
      have ev := h 0 u rfl (by simpa using c)
      have ev' : v = some u := by simpa using ev
      subst ev'
      exact ⟨A ++ B, R, .cons h1 t, by rw [List.append_assoc]; exact p.append_left A⟩
    · rw [if_neg c]
      refine ⟨[] ++ B, A ++ R, .cons .none t, ?_⟩
      refine (p.append_left A).trans ?_
      rw [← List.append_assoc, List.nil_append, ← List.append_assoc]
      exact List.perm_append_comm.append_right R
/-- the slots take back what was lent -/
theorem back_sel {z : Z} {σ : St} : ∀ {es : Es} {vs : List V} {outs env : EnvD} {A B : List Addr}, BwOk σ es vs → TOs z G H σ env A → TOs z G H (vs.map some) outs B → ∃ A1 R, TOs z G H σ (giveBack es outs env) A1 ∧ (A ++ B).Perm (A1 ++ R)
  | .nil, [], _, env, A, B, _, t, t2 => by
    cases t2
    exact ⟨A, [], t, by simp⟩
  | .nil, _ :: _, _, _, _, _, b, _, _ => b.elim
  | .cons _ _, [], _, _, _, _, b, _, _ => b.elim
  | .cons e es, v :: vs, _, env, A, _, b, t, .cons (d := o) (ds := os) (A := B1) (B := B2) h1 t2 => by
    rw [giveBack_cons]
    cases c : bwOf e with
    | none =>
      obtain ⟨A1, R, t3, p⟩ := back_sel (es := es) b.2 t t2
      refine ⟨A1, R ++ B1, t3, ?_⟩
      rw [← List.append_assoc A1]
      refine List.Perm.trans ?_ (p.append_right B1)
      rw [List.append_assoc]
      exact List.perm_append_comm.append_left A
    | some i =>
      dsimp only
      have ei := b.1 i c
      have li : i < env.length := by
        rw [← t.len]
        exact (List.getElem?_eq_some_iff.mp ei).1
      obtain ⟨v0, d0, B0, C0, e2, e3, tt, p1, th, k⟩ := t.focus i li
      obtain ⟨A', t', p'⟩ := k (G2 := G) (H2 := H) (fun _ _ e => e) (fun _ _ => rfl) h1
      have es' : σ.set i (some v) = σ := by
        apply List.ext_getElem?
        intro j
        rw [List.getElem?_set]
        by_cases q : i = j
        · subst q
          rw [if_pos rfl, if_pos (by rw [t.len]; exact li), ei]
        · rw [if_neg q]
      rw [es'] at t'
      obtain ⟨A1, R, t3, p⟩ := back_sel (es := es) b.2 t' t2
      refine ⟨A1, R ++ B0, t3, ?_⟩
      rw [← List.append_assoc A1]
      refine List.Perm.trans ?_ (p.append_right B0)
      -- A ++ (B1 ++ B2) ~ (A' ++ B2) ++ B0
      refine (p1.append_right _).trans ?_
      refine List.Perm.trans ?_ ((p'.append_right B2).append_right B0).symm
      -- (B0 ++ C0) ++ (B1 ++ B2) ~ ((B1 ++ C0) ++ B2) ++ B0
      rw [List.append_assoc]
      refine List.perm_append_comm.trans ?_
      refine List.Perm.append_right B0 ?_
      rw [← List.append_assoc]
      exact List.perm_append_comm.append_right B2
end
def startV (fd : Fd) (vs : List V) : St := vs.map some ++ List.replicate (fd.nn - fd.np) none
def env0 (fd : Fd) (args : List (Bool × D)) : EnvD := args.map some ++ List.replicate (fd.nn - fd.np) none
/-- the heap without what goes over -/
def less (H : Hp) (C : List Addr) : Hp := fun a => if a ∈ C then none else H a
theorem less_in {H : Hp} {C : List Addr} {a : Addr} (m : a ∈ C) : less H C a = none := if_pos m
theorem less_out {H : Hp} {C : List Addr} {a : Addr} (m : a ∉ C) : less H C a = H a := if_neg m
section
variable {x : Fx} {G G' : Hp} {σ σ' : St} {H H' : Hp} {env : EnvD} {ps : List (V × O)}
/-- a callee's state, and the caller's behind it -/
theorem Rel.call {fd : Fd} {es : Es} {vs : List V} {os : List O} {ds : List (Bool × D)} (hz : x.z.xs = none) (r : Rel x G σ H env (ps ++ vs.zip os)) (l : vs.length = os.length) (b : BwOk σ es vs) (u : unOs os = some ds) (lp : vs.length = fd.np) :
    ∃ G1 F, Same G G1 ∧ Rel ⟨x.z, F, G1, pinsL fd.io 0 vs⟩ G1 (startV fd vs) H (env0 fd (argsOf es ds)) [] ∧
      ∀ {G2 : Hp} {σ' : St} {H2 : Hp} {env' : EnvD} {qs : List (V × O)}, Same G1 G2 → Rel ⟨x.z, F, G1, pinsL fd.io 0 vs⟩ G2 σ' H2 env' qs → noP qs → Rel x G2 σ H2 (giveBack es (outsOf fd.io fd.np env') env) (ps ++ qs) := by
  obtain ⟨G1, s1, r1⟩ := Rel.settleAs (es := es) l r
  obtain ⟨u1, l1⟩ := un_stlAs (vs := vs) l b u
  obtain ⟨A, C, t, s, n, o⟩ := r1.ex
  obtain ⟨C1, C2, sA, sB, rfl⟩ := s.split
  have l2 : vs.length = (stlAs es os).length := by
    have : ∀ (es : Es) (os : List O), (stlAs es os).length = os.length := fun es => by
      intro os
      induction os generalizing es with
      | nil => cases es <;> rfl
      | cons o os ih =>
        cases es with
        | nil => rfl
        | cons e es =>
          unfold stlAs
          rw [List.length_cons, List.length_cons, ih]
    rw [this, l]
  have n3 : (A ++ C1 ++ C2).Nodup := by rw [List.append_assoc]; exact n
  have out2 : ∀ a, a ∈ A ++ C1 → a ∉ C2 := fun a m m2 => (List.nodup_append.mp n3).2.2 a m a m2 rfl
  have thr : ∀ a, a ∈ A ++ C1 → IsSome H a := fun a m => (List.mem_append.mp m).elim (t.there a) (sA.there a)
  refine ⟨G1, less H C2, s1, ?_, ?_⟩
  · refine .intro (C := []) (TPs.toTOs l2 sB u1) .nil (by rw [List.append_nil]; exact (List.nodup_append.mp n3).2.1) (fun a m => ?_) r1.gs (fun a ob e => ?_) (fun _ _ e => e) (fun _ _ _ e => e) (fun p m => ?_) (Xz.no hz)
    · rw [List.append_nil] at m
      exact ⟨(o a (by simp [m])).1, less_in m⟩
    · have e' : less H C2 a = some ob := e
      by_cases m : a ∈ C2
      · rw [less_in m] at e'; cases e'
      · rw [less_out m] at e'; exact e'
    · obtain ⟨_, j, e1, e2⟩ := pinsL_mem m
      rw [e1, Nat.zero_add]
      unfold startV
      have lj : j < vs.length := (List.getElem?_eq_some_iff.mp e2).1
      rw [List.getElem?_append_left (by simpa using lj), List.getElem?_map, e2]
      rfl
  · intro G2 σ' H2 env' qs s2 r2 nq
    obtain ⟨A', C', t', s', n', o'⟩ := r2.ex
    have keep : ∀ a, a ∈ A ++ C1 → H2 a = H a := fun a m => by
      obtain ⟨ob, e⟩ := thr a m
      have q : less H C2 a = some ob := by rw [less_out (out2 a m)]; exact e
      rw [e]
      exact r2.fs a ob q
    have tA : TOs x.z G2 H2 σ env A := t.mono s2 fun a m => keep a (List.mem_append_left _ m)
    have sA2 : TPs x.z G2 H2 σ ps C1 := sA.mono s2 fun a m => keep a (List.mem_append_right _ m)
    obtain ⟨B, R', tB, pB⟩ := outR_sel (us := vs) (io := fd.io) (k := 0) t' fun j v e c => by
      have q := r2.pn _ (pinsL_has (k := 0) e c)
      simpa using q
    obtain ⟨A1, R, tR, pR⟩ := back_sel (es := es) b tA tB
    rw [← outR_eq, lp] at tR
    -- apart
    have inF : ∀ a, a ∈ A' ++ C' → less H C2 a = none := fun a m => (o' a m).2
    have dis : ∀ a, a ∈ A ++ C1 → a ∉ A' ++ C' := fun a m m2 => by
      obtain ⟨ob, e⟩ := thr a m
      have q := inF a m2
      rw [less_out (out2 a m), e] at q
      cases q
    have pB' : (A' ++ C').Perm ((B ++ C') ++ R') := by
      refine (pB.append_right C').trans ?_
      rw [List.append_assoc, List.append_assoc]
      exact List.perm_append_comm.append_left B
    have nB := (List.nodup_append.mp (pB'.nodup_iff.mp n')).1
    have mB : ∀ a, a ∈ B ++ C' → a ∈ A' ++ C' := fun a m => pB'.mem_iff.mpr (List.mem_append_left _ m)
    have nAll : ((A ++ C1) ++ (B ++ C')).Nodup := List.nodup_append.mpr ⟨(List.nodup_append.mp n3).1, nB, fun a m c m2 e => dis a m (mB a (e ▸ m2))⟩
    have pAll : ((A ++ C1) ++ (B ++ C')).Perm ((A1 ++ (C1 ++ C')) ++ R) := by
      have q1 : ((A ++ C1) ++ (B ++ C')).Perm ((A ++ B) ++ (C1 ++ C')) := by
        rw [List.append_assoc, List.append_assoc]
        refine List.Perm.append_left A ?_
        rw [← List.append_assoc, ← List.append_assoc]
        exact List.perm_append_comm.append_right C'
      refine q1.trans ((pR.append_right _).trans ?_)
      rw [List.append_assoc, List.append_assoc]
      exact List.perm_append_comm.append_left A1
    have xF : ∀ a ob, x.F a = some ob → less H C2 a = some ob := fun a ob e => by
      have nm : a ∉ C2 := fun m => by
        rw [(o a (by simp [m])).2] at e; cases e
      rw [less_out nm]
      exact r1.fs a ob e
    refine .intro tR (sA2.append (s'.slots nq)) (List.nodup_append.mp (pAll.nodup_iff.mp nAll)).1 (fun a m => ?_) r2.gs (fun a ob e => r2.fs a ob (xF a ob e)) (fun a ob e => s2 a ob (r1.g0 a ob e)) (fun a ob e e0 => r2.gf a ob (xF a ob e) (r1.gf a ob e e0)) r.pn
    have m' := pAll.mem_iff.mpr (List.mem_append_left R m)
    rcases List.mem_append.mp m' with m1 | m1
    · have oo := o a (by
        rcases List.mem_append.mp m1 with m1 | m1 <;> simp [m1])
      obtain ⟨ob, e⟩ := thr a m1
      exact ⟨r2.gf a ob (show less H C2 a = some ob by rw [less_out (out2 a m1)]; exact e) oo.1, oo.2⟩
    · refine ⟨(o' a (mB a m1)).1, ?_⟩
      cases e : x.F a with
      | none => rfl
      | some ob =>
        have q := xF a ob e
        rw [inF a (mB a m1)] at q
        cases q
end
/-- what is wanted behind a callee -/
def PostC (x : Fx) (G : Hp) (fd : Fd) (Q : VK) (E : XK) : CR → Prop
  | .ok f d outs => ∀ v σ' G' H' env', Same G G' → Rel x G' σ' H' env' [(v, .v f d)] → outsOf fd.io fd.np env' = outs → Q v H'
  | .ex c fs outs => ∀ cls dd σ' G' H' env', Same G G' → Rel x G' σ' H' env' [] → outsOf fd.io fd.np env' = outs → ExR x.z G' H' cls dd c fs → E cls dd H'
  | .bad => False
/-- a def's promise -/
def spC (z : Z) (fd : Fd) (c : List (Bool × D) → CR) : Sp := fun vs H Q E => vs.length = fd.np ∧ ∃ F G args, args.length = fd.np ∧ Rel ⟨z, F, G, pinsL fd.io 0 vs⟩ G (startV fd vs) H (env0 fd args) [] ∧ PostC ⟨z, F, G, pinsL fd.io 0 vs⟩ G fd Q E (c args)
def PostAs (x : Fx) (G : Hp) (σ : St) (ps : List (V × O)) (W : WX) (es : Es) (Q : List V → Hp → Prop) : Rs → Prop
  | .ok os env => ∀ vs G' H', vs.length = os.length → BwOk σ es vs → Same G G' → Rel x G' σ H' env (ps ++ vs.zip os) → Q vs H'
  | .ex c fs env => ∀ cls dd G' H', Same G G' → Rel x G' σ H' env [] → ExR x.z G' H' cls dd c fs → W cls dd σ H'
  | .bad => False
def tAs (z : Z) (W : WX) (Γ : Cf) (es : Es) : TA := fun σ H Q => ∃ x G env ps, x.z = z ∧ Rel x G σ H env ps ∧ PostAs x G σ ps W es Q (evEs Γ es env)
section
variable {X : Cx} {z : Z} {io : List Nat} {W : WX} {Γ : Cf} {pos : Pos}
theorem sA_nil : PA X [] (tAs z W Γ .nil) := by
  refine pa_nil.to fun σ H Q ⟨x, G, env, ps, ez, r, h⟩ => ?_
  unfold evEs at h
  exact h [] G H rfl trivial (fun _ _ e => e) (by simpa using r)
theorem PostAs.cons {x : Fx} {G G1 : Hp} {σ : St} {H1 : Hp} {env env1 : EnvD} {ps : List (V × O)} {ee : E} {es : Es} {Q : List V → Hp → Prop} {o : O} {v : V} (c1 : evE Γ ee env = .ok o env1) (h : PostAs x G σ ps W (.cons ee es) Q (evEs Γ (.cons ee es) env))
    (hb : ∀ i, bwOf ee = some i → σ[i]? = some (some v)) (s1 : Same G G1) (r1 : Rel x G1 σ H1 env1 (ps ++ [(v, o)])) : tAs x.z W Γ es σ H1 fun vs H2 => Q (v :: vs) H2 := by
  refine ⟨x, G1, env1, _, rfl, r1, ?_⟩
  unfold evEs at h
  rw [c1] at h
  dsimp only at h
  cases c2 : evEs Γ es env1 with
  | bad => rw [c2] at h; exact h.elim
  | ex _ _ _ =>
    rw [c2] at h
    exact fun cls dd G2 H2 s2 r2 e => h cls dd G2 H2 (Same.tr s1 s2) r2 e
  | ok os env2 =>
    rw [c2] at h
    exact fun vs G2 H2 l b s2 r2 => h (v :: vs) G2 H2 (by simp [l]) ⟨hb, b⟩ (Same.tr s1 s2) (by simpa using r2)
theorem sA_cons {e : Expr} {l : List Expr} {ee : E} {es : Es} (hs : starEach (e :: l) X.env = (false, eval e X.env) :: starEach l X.env) (hnb : bwOf ee = none) (hp : PE X e (tE z W (evE Γ ee))) (hl : PA X l (tAs z W Γ es)) : PA X (e :: l) (tAs z W Γ (.cons ee es)) := by
  refine (pa_cons hp hl hs).to fun σ H Q ⟨x, G, env, ps, ez, r, h⟩ => ?_
  subst ez
  refine ⟨x, G, env, ps, rfl, r, ?_⟩
  cases c1 : evE Γ ee env with
  | bad => unfold evEs at h; rw [c1] at h; exact h.elim
  | ex _ _ _ => unfold evEs at h; rw [c1] at h; exact h
  | ok o env1 => exact fun v G1 H1 s1 r1 => h.cons c1 (fun i e => by rw [hnb] at e; cases e) s1 r1
theorem sA_bw {i : Nat} {y : Str} {p : Pos} {l : List Expr} {es : Es} (hN : X.N[i]? = some y) (hv : Vis X.env.scope y) (hd : (y == ("__debug__" : Str)) = false) (hc : (y == ("__classdict__" : Str)) = false) (hs : starEach (.Name y p :: l) X.env = (false, eval (.Name y p) X.env) :: starEach l X.env)
    (hl : PA X l (tAs z W Γ es)) : PA X (.Name y p :: l) (tAs z W Γ (.cons (.bw i) es)) := by
  refine (pa_cons (pe_var hN hv hd hc) hl hs).to fun σ H Q ⟨x, G, env, ps, ez, r, h⟩ => ?_
  subst ez
  cases e : getS env i with
  | none =>
    unfold evEs evE at h
    rw [e] at h
    exact h.elim
  | some q =>
    obtain ⟨f, d⟩ := q
    obtain ⟨v, e1, r'⟩ := r.move e
    refine ⟨v, e1, h.cons (env1 := env.set i none) (o := .v f d) ?_ (fun j ej => ?_) (fun _ _ e => e) r'⟩
    · unfold evE
      rw [e]
    · cases ej
      exact e1
theorem call_rd {fd : Fd} {f : Nat} {es : Es} {σ : St} {H : Hp} {Q : VK} (hz : z.xs = none) (hlen : ∀ vs, BwOk σ es vs → vs.length = fd.np) (h : tE z W (evE Γ (.call f es)) σ H Q) : tCallS (spC z fd (Γ.call f)) (WE W) (tAs z W Γ es) σ H Q := by
  obtain ⟨x, G, env, ps, ez, r, h⟩ := h
  subst ez
  refine ⟨x, G, env, ps, rfl, r, ?_⟩
  unfold evE at h
  cases c : evEs Γ es env with
  | bad => rw [c] at h; exact h.elim
  | ex cc fs env1 => rw [c] at h; exact h
  | ok os env1 =>
    rw [c] at h
    intro vs G1 H1 l b s1 r1
    have h1 := PostR.up s1 h
    dsimp only [Rs.bind] at h1
    cases u : unOs os with
    | none => rw [u] at h1; exact h1.elim
    | some ds =>
      rw [u] at h1
      dsimp only at h1
      have lp := hlen vs b
      obtain ⟨G2, F, s2, r2, back⟩ := Rel.call (fd := fd) (es := es) hz r1 l b u lp
      have la : (argsOf es ds).length = fd.np := by
        rw [← lp]
        exact (un_stlAs (vs := vs) l b u).2
      refine ⟨lp, F, G2, argsOf es ds, la, r2, ?_⟩
      cases c2 : Γ.call f (argsOf es ds) with
      | bad => rw [c2] at h1; exact h1.elim
      | ok fl d outs =>
        rw [c2] at h1
        intro v σ' G3 H3 env' s3 r3 eo
        subst eo
        refine h1 v G3 H3 (Same.tr s2 s3) (back s3 r3 fun p m i e => ?_)
        rw [List.mem_singleton.mp m] at e
        cases e
      | ex cc fs outs =>
        rw [c2] at h1
        intro cls dd σ' G3 H3 env' s3 r3 eo ee
        subst eo
        have q := back s3 r3 noP_nil
        rw [List.append_nil] at q
        exact h1 cls dd G3 H3 (Same.tr s2 s3) (Rel.pop (ps := []) q) ee
def esLen : Es → Nat
  | .nil => 0
  | .cons _ es => esLen es + 1
theorem BwOk.len {σ : St} : ∀ {es : Es} {vs : List V}, BwOk σ es vs → vs.length = esLen es
  | .nil, [], _ => rfl
  | .cons e es, v :: vs, b => by rw [List.length_cons, BwOk.len b.2]; rfl
  | .nil, _ :: _, b => b.elim
  | .cons _ _, [], b => b.elim
/-- a def that may be called by its name -/
structure CallOk (X : Cx) (z : Z) (c : List (Bool × D) → CR) (fd : Fd) (y : Str) : Prop where
  ex : ∃ (k : Nat) (f : Addr) (fdat : FuncData) (pn : List Str), FnOk X.prog X.w X.K X.mg X.base (L2.CX X.prog X.w) k f fdat pn (spC z fd c) ∧ Room k X.A ∧ X.mg y = some (.ref f) ∧ PySem.W.keepIn X.K (.ref f) = true ∧ Binds X.K fdat pn []
theorem se_call {y : Str} {p : Pos} {f : Nat} {fd : Fd} {e : Expr} {l : List Expr} {es : Es} (hz : z.xs = none) (C : CallOk X z (Γ.call f) fd y) (tk : Takes X W) (hg : Gl X y) (hl : esLen es = fd.np) (ha : PA X (e :: l) (tAs z W Γ es)) (hdb : (y == ("__debug__" : Str)) = false)
    (he : starEach (e :: l) X.env = (false, eval e X.env) :: starEach l X.env) (hpl : (backTo pos (starEach l X.env)).any (·.1) = false) : PE X (.Call (.Name y p) (e :: l) [] pos) (tE z W (evE Γ (.call f es))) := by
  obtain ⟨k, fa, fdat, pn, F, hr, hm, hk, hb⟩ := C.ex
  exact (pe_callS (E := WE W) F hr hg hm hk hb (fun σ => passAt tk σ) ha hdb he hpl).to fun σ H Q h => call_rd hz (fun vs b => by rw [b.len, hl]) h
theorem se_call0 {y : Str} {p : Pos} {f : Nat} {fd : Fd} (hz : z.xs = none) (C : CallOk X z (Γ.call f) fd y) (tk : Takes X W) (hg : Gl X y) (hl : 0 = fd.np) (hdb : (y == ("__debug__" : Str)) = false) : PE X (.Call (.Name y p) [] [] pos) (tE z W (evE Γ (.call f .nil))) := by
  obtain ⟨k, fa, fdat, pn, F, hr, hm, hk, hb⟩ := C.ex
  refine ⟨fun pins s σ H Q I h => ?_⟩
  have h' := call_rd (fd := fd) hz (fun vs b => by rw [b.len]; exact hl) h
  refine wpAny_Call_Name_kw (ld_glob I hg hm ?_ hdb)
  obtain ⟨x, G, env, ps, ez, r, q⟩ := h'
  unfold evEs at q
  have q' := q [] G H rfl trivial (fun _ _ e => e) (by simpa using r)
  exact PySem.W.callWith_K0 I.kIn hk (run_fnS (us := []) (E := WE W) F hr hb (passAt tk σ) I .nil q')
/-! ### the last parameter's default, None -/
def snocN : Es → Es
  | .nil => .cons .non .nil
  | .cons e es => .cons e (snocN es)
theorem ev_snocN : ∀ (es : Es) (env : EnvD), evEs Γ (snocN es) env = match evEs Γ es env with
    | .ok os env1 => .ok (os ++ [.v false .non]) env1
    | .ex c fs env1 => .ex c fs env1
    | .bad => .bad
  | .nil, env => by
    unfold snocN evEs evE
    dsimp only
    unfold evEs
    rfl
  | .cons e es, env => by
    unfold snocN evEs
    cases c : evE Γ e env with
    | bad => rfl
    | ex _ _ _ => rfl
    | ok o env1 =>
      dsimp only
      rw [ev_snocN es env1]
      cases evEs Γ es env1 <;> rfl
theorem bw_snocN {σ : St} : ∀ {es : Es} {vs : List V}, BwOk σ es vs → BwOk σ (snocN es) (vs ++ [.non])
  | .nil, [], _ => by
    refine ⟨?_, trivial⟩
    intro i e
    cases e
  | .cons e es, v :: vs, b => ⟨b.1, bw_snocN b.2⟩
  | .nil, _ :: _, b => b.elim
  | .cons _ _, [], b => b.elim
theorem len_snocN : ∀ es : Es, esLen (snocN es) = esLen es + 1
  | .nil => rfl
  | .cons e es => by
    show esLen (snocN es) + 1 = _
    rw [len_snocN es]
    rfl
theorem tAs_snocN {es : Es} {σ : St} {H : Hp} {Q : List V → Hp → Prop} (h : tAs z W Γ (snocN es) σ H Q) : tAs z W Γ es σ H fun vs H1 => Q (vs ++ [.non]) H1 := by
  obtain ⟨x, G, env, ps, ez, r, h⟩ := h
  refine ⟨x, G, env, ps, ez, r, ?_⟩
  rw [ev_snocN] at h
  cases c : evEs Γ es env with
  | bad => rw [c] at h; exact h.elim
  | ex _ _ _ => rw [c] at h; exact h
  | ok os env1 =>
    rw [c] at h
    intro vs G1 H1 l b s1 r1
    refine h (vs ++ [.non]) G1 H1 (by simp [l]) (bw_snocN b) s1 ?_
    have q := Rel.push (f := false) r1 (d := .non) .non
    rw [List.append_assoc] at q
    rw [List.zip_append l]
    exact q
structure CallOk1 (X : Cx) (z : Z) (c : List (Bool × D) → CR) (fd : Fd) (y : Str) : Prop where
  ex : ∃ (k : Nat) (f : Addr) (fdat : FuncData) (pn : List Str), FnOk X.prog X.w X.K X.mg X.base (L2.CX X.prog X.w) k f fdat pn (spC z fd c) ∧ Room k X.A ∧ X.mg y = some (.ref f) ∧ PySem.W.keepIn X.K (.ref f) = true ∧ ∃ ds, Vals [.non] ds ∧ Binds X.K fdat pn ds
theorem se_call1 {y : Str} {p : Pos} {f : Nat} {fd : Fd} {e : Expr} {l : List Expr} {es : Es} (hz : z.xs = none) (C : CallOk1 X z (Γ.call f) fd y) (tk : Takes X W) (hg : Gl X y) (hl : esLen (snocN es) = fd.np) (ha : PA X (e :: l) (tAs z W Γ es)) (hdb : (y == ("__debug__" : Str)) = false)
    (he : starEach (e :: l) X.env = (false, eval e X.env) :: starEach l X.env) (hpl : (backTo pos (starEach l X.env)).any (·.1) = false) : PE X (.Call (.Name y p) (e :: l) [] pos) (tE z W (evE Γ (.call f (snocN es)))) := by
  obtain ⟨k, fa, fdat, pn, F, hr, hm, hk, ds, hd, hb⟩ := C.ex
  exact (pe_callSD (E := WE W) F hr hg hm hk hb hd (fun σ => passAt tk σ) ha hdb he hpl).to fun σ H Q h => tAs_snocN (call_rd hz (fun vs b => by rw [b.len, hl]) h)
/-! ### a def's body keeps its promise -/
theorem fn_body {P : Program} {w : World} {K : PySem.W.Frag} {mg : Str → Option Value} {base : Heap} {x qual : Str} {params : Arguments} {body : List Stmt} {scope : Scope} {dvs : List V} {kws : List (Str × V)} {fa : Addr} {fdat : FuncData} {N pn : List Str} {k : Nat} {z : Z} {fd : Fd} {c : List (Bool × D) → CR} {Γ : Cf}
    (F : FunD K x qual params body scope dvs kws fa fdat) (S : FnScope N pn scope) (l1 : pn.length = fd.np) (l2 : N.length = fd.nn)
    (hb : ∀ (cdv : Value) (A : Around) (outer : List Env) (s : Shared) (H : Hp) (E : XK), Room k (A.deeper (envOfC qual scope s.heap.objs.size fa cdv)) → PSs (cxOf (L2.CX P w) P w K mg base N qual scope fa cdv A outer s H E) body (tS z fd.io (fun cls d _ H => E cls d H) (evSs Γ fd.body)))
    (hc : ∀ args, args.length = fd.np → c args = match evSs Γ fd.body (env0 fd args) with
      | .ret fl d env => .ok fl d (outsOf fd.io fd.np env)
      | .next env => .ok false .non (outsOf fd.io fd.np env)
      | .ex c fs env => .ex c fs (outsOf fd.io fd.np env)
      | _ => .bad) : FnOk P w K mg base (L2.CX P w) (k + 1) fa fdat pn (spC z fd c) := by
  refine F.ok S (fun vs H Q E h => by rw [h.1, l1]) fun cdv A outer s H vs Q E hr ⟨lv, F0, G, args, la, r, h⟩ => ⟨_, hb cdv A outer s H E hr, ?_⟩
  have es : L2.start N vs = startV fd vs := by
    unfold L2.start startV
    rw [l2, lv]
  rw [es]
  refine ⟨_, G, env0 fd args, rfl, fun p m => (pinsL_mem m).1, r, ?_⟩
  rw [hc args la] at h
  cases e : evSs Γ fd.body (env0 fd args) with
  | ret fl d env =>
    rw [e] at h
    exact fun v σ' G' H' s1 r1 => h v σ' G' H' env s1 r1 rfl
  | next env =>
    rw [e] at h
    exact fun σ' G' H' s1 r1 => h .non σ' G' H' env s1 (Rel.push (ps := []) r1 .non) rfl
  | ex cc fs env =>
    rw [e] at h
    exact fun cls dd σ' G' H' s1 r1 ee => h cls dd σ' G' H' env s1 r1 rfl ee
  | brk env => rw [e] at h; exact h.elim
  | cnt env => rw [e] at h; exact h.elim
  | bad => rw [e] at h; exact h.elim
/-- with no fuel left nothing is promised -/
theorem fn_none {P : Program} {w : World} {K : PySem.W.Frag} {mg : Str → Option Value} {base : Heap} {fa : Addr} {fdat : FuncData} {pn : List Str} {k : Nat} {z : Z} {fd : Fd} {c : List (Bool × D) → CR} (l1 : pn.length = fd.np) (hc : ∀ args, c args = .bad) : FnOk P w K mg base (L2.CX P w) k fa fdat pn (spC z fd c) :=
  ⟨fun vs H Q E h => by rw [h.1, l1], fun A outer s H args us vs Q E _ _ _ _ h => by
    obtain ⟨_, F, G, as, _, _, h⟩ := h
    rw [hc] at h
    exact h.elim⟩
end
end Vm
/-! Vm: instances. -/
namespace Vm
open PySem L2
open PyProof.Rows hiding St
/-- the field's name, among all names told apart -/
def FldN (z : Z) (f : Nat) (y : Str) : Prop := ∀ g, z.fn g = y ↔ g = f
section
variable {z : Z} {G H : Hp}
theorem Vw.ins {v : V} {g : Bool} {c : Nat} {ds : List (Nat × D)} (gs : GS G H) (h : Vw z G H v (.ins g c ds)) : ∃ a C dx vs, v = .ref a ∧ H a = some (.ins C dx vs) ∧ z.mg (z.gn c) = some (.ref C) ∧ vs.map (·.1) = ds.map (fun p => z.fn p.1) ∧ Ts z G H (vs.map (·.2)) (ds.map (·.2)) [] := by
  obtain ⟨n, A, t⟩ := h
  have nn : nfs (ds.map (·.2)) = true := by
    have q : nff ds = true := n
    rw [nff_all] at q
    rw [nfs_all, List.all_map]
    exact q
  cases t with
  | ins ha hc he ht =>
    have e := ht.nf_nil nn
    subst e
    rename_i a C dx vs
    refine ⟨a, C, dx, vs, rfl, ?_, hc, he, ht⟩
    rcases gs _ _ ha with q | ⟨kvs, ob, q, _⟩
    · exact q
    · cases q
  | insF ha hc he ht =>
    rename_i a C dx vs A'
    have e := ht.nf_nil nn
    subst e
    exact ⟨a, C, dx, vs, rfl, ha, hc, he, ht⟩
theorem fld_get {f : Nat} {y : Str} (hy : FldN z f y) : ∀ {vs : List (Str × V)} {ds : List (Nat × D)} {d : D}, vs.map (·.1) = ds.map (fun p => z.fn p.1) → Ts z G H (vs.map (·.2)) (ds.map (·.2)) [] → ds.lookup f = some d → ∃ v, vs.lookup y = some v ∧ T z G H v d []
  | [], [], _, _, _, e => by cases e
  | (x, v) :: vs, (g, d0) :: ds, d, e, t, l => by
    simp only [List.map_cons, List.cons.injEq] at e
    obtain ⟨e1, e2⟩ := e
    obtain ⟨t1, t2⟩ := Ts.nil_inv (show Ts z G H (v :: vs.map (·.2)) (d0 :: ds.map (·.2)) [] from t)
    by_cases q : g = f
    · subst q
      have ex : x = y := e1.trans ((hy g).mpr rfl)
      subst ex
      simp only [List.lookup_cons, beq_self_eq_true] at l ⊢
      cases l
      exact ⟨v, rfl, t1⟩
    · have nx : (y == x) = false := beq_eq_false_iff_ne.mpr fun k => q ((hy g).mp (e1.symm.trans k.symm))
      have nf : (f == g) = false := beq_eq_false_iff_ne.mpr fun k => q k.symm
      simp only [List.lookup_cons, nx, nf] at l ⊢
      exact fld_get hy e2 t2 l
  | [], _ :: _, _, e, _, _ => by simp at e
  | _ :: _, [], _, e, _, _ => by simp at e
theorem no_fld {y : Str} (hy : ∀ g, z.fn g ≠ y) : ∀ {vs : List (Str × V)} {ds : List (Nat × D)}, vs.map (·.1) = ds.map (fun p => z.fn p.1) → vs.lookup y = none
  | [], _, _ => rfl
  | (x, v) :: vs, [], e => by simp at e
  | (x, v) :: vs, (g, d) :: ds, e => by
    simp only [List.map_cons, List.cons.injEq] at e
    have nx : (y == x) = false := beq_eq_false_iff_ne.mpr fun k => hy g (e.1.symm.trans k.symm)
    simp only [List.lookup_cons, nx]
    exact no_fld hy e.2
theorem Ts.putF {f : Nat} {y : Str} (hy : FldN z f y) {v : V} {d : D} {C2 : List Addr} (hv : T z G H v d C2) : ∀ {vs : List (Str × V)} {ds : List (Nat × D)} {B : List Addr}, vs.map (·.1) = ds.map (fun p => z.fn p.1) → Ts z G H (vs.map (·.2)) (ds.map (·.2)) B →
    (L2.putF y v vs).map (·.1) = (putD ds f d).map (fun p => z.fn p.1) ∧ ∃ B' R, Ts z G H ((L2.putF y v vs).map (·.2)) ((putD ds f d).map (·.2)) B' ∧ (B ++ C2).Perm (B' ++ R)
  | [], [], _, _, t => by
    cases t
    refine ⟨?_, C2 ++ [], [], .cons hv .nil, by simp⟩
    show [y] = [z.fn f]
    rw [(hy f).mpr rfl]
  | (x, w) :: vs, (g, d0) :: ds, B, e, t => by
    simp only [List.map_cons, List.cons.injEq] at e
    obtain ⟨e1, e2⟩ := e
    cases (show Ts z G H (w :: vs.map (·.2)) (d0 :: ds.map (·.2)) B from t) with
    | cons h1 t2 =>
      rename_i B1 B2
      unfold L2.putF putD
      by_cases q : g = f
      · have ex : x = y := e1.trans ((hy g).mpr q)
        rw [if_pos ex, if_pos q]
        refine ⟨?_, C2 ++ B2, B1, .cons hv t2, ?_⟩
        · show x :: _ = z.fn f :: _
          rw [ex, (hy f).mpr rfl, e2]
        · refine List.perm_append_comm.trans ?_
          rw [List.append_assoc]
          exact List.perm_append_comm.append_left C2
      · have ex : x ≠ y := fun k => q ((hy g).mp (e1.symm.trans k))
        rw [if_neg ex, if_neg q]
        obtain ⟨i1, B', R, i2, p⟩ := Ts.putF hy hv e2 t2
        refine ⟨?_, B1 ++ B', R, .cons h1 i2, ?_⟩
        · show x :: _ = z.fn g :: _
          rw [e1, i1]
        · rw [List.append_assoc, List.append_assoc]
          exact p.append_left B1
  | [], _ :: _, _, e, _ => by simp at e
  | _ :: _, [], _, e, _ => by simp at e
end
section
variable {x : Fx} {G : Hp} {σ : St} {H : Hp} {env : EnvD} {ps : List (V × O)}
/-- an object that nobody looks at -/
theorem Rel.other {p : Addr} {o : HO} (r : Rel x G σ H env ps) (hp : H p = none) : Rel x G σ (upd H p o) env ps := by
  obtain ⟨A, C, t, s, n, ou⟩ := r.ex
  exact .intro (t.mono (fun _ _ e => e) (keep_alloc t.there hp)) (s.mono (fun _ _ e => e) (keep_alloc s.there hp)) n ou (r.gs.alloc hp) (Same.alloc r.fs hp) r.g0 r.gf r.pn
/-- a field of an instance of one's own is set -/
theorem Rel.setf {i c f : Nat} {y : Str} {fs : List (Nat × D)} {u : V} {fd : Bool} {d : D} (hy : FldN x.z f y) (r : Rel x G σ H env [(u, .v fd d)]) (e : getS env i = some (true, .ins true c fs)) :
    ∃ a C dx vs, σ[i]? = some (some (.ref a)) ∧ H a = some (.ins C dx vs) ∧ x.z.mg (x.z.gn c) = some (.ref C) ∧ vs.length = fs.length ∧ Rel x G σ (upd H a (.ins C dx (L2.putF y u vs))) (env.set i (some (true, .ins true c (putD fs f d)))) [] := by
  obtain ⟨A, C, ts, s, n, o⟩ := r.ex
  obtain ⟨e1, li⟩ := getS_some e
  obtain ⟨v, d', B0, C0, e2, e3, t1, p1, th, k⟩ := ts.focus i li
  rw [e1] at e3
  cases e3
  cases t1 with
  | @some w _ _ _ t1 f1 =>
    cases t1 with
    | insF ha hc he ht =>
      rename_i a Cl dx vs B
      cases s with
      | cons s1 s2 =>
        cases s2
        cases s1 with
        | v s1 f2 =>
          rename_i C1
          rw [List.append_nil] at n o
          have pall : (A ++ C1).Perm ((a :: (B ++ C1)) ++ C0) := by
            refine (p1.append_right C1).trans ?_
            simp only [List.cons_append, List.append_assoc]
            exact (List.perm_append_comm.append_left B).cons a
          have nall := pall.nodup_iff.mp n
          have apart : ∀ b, b ∈ B ++ C1 ∨ b ∈ C0 → b ≠ a := fun b m q => by
            subst q
            have n1 : (b :: ((B ++ C1) ++ C0)).Nodup := nall
            exact (List.nodup_cons.mp n1).1 (List.mem_append.mpr m)
          have hold : ∀ b, b ∈ B ++ C1 ∨ b ∈ C0 → upd H a (.ins Cl dx (L2.putF y u vs)) b = H b := fun b m => upd_ne (apart b m)
          have ht2 : Ts x.z G (upd H a (.ins Cl dx (L2.putF y u vs))) (vs.map (·.2)) (fs.map (·.2)) B := ht.mono (fun _ _ e => e) fun b m => hold b (.inl (List.mem_append_left _ m))
          have hu2 : T x.z G (upd H a (.ins Cl dx (L2.putF y u vs))) u d C1 := s1.mono (fun _ _ e => e) fun b m => hold b (.inl (List.mem_append_right _ m))
          obtain ⟨q1, B', R, q2, q3⟩ := Ts.putF hy hu2 he ht2
          obtain ⟨A3, t3, p3⟩ := k (v' := some (.ref a)) (d' := some (true, .ins true c (putD fs f d))) (G2 := G) (H2 := upd H a (.ins Cl dx (L2.putF y u vs))) (fun _ _ e => e) (fun b m => hold b (.inr m)) (.some (.insF upd_same hc q1 q2) fun q => by cases q)
          have es : σ.set i (some (.ref a)) = σ := by
            apply List.ext_getElem?
            intro j
            rw [List.getElem?_set]
            by_cases q : i = j
            · subst q
              rw [if_pos rfl, e2, ts.len, if_pos li]
            · rw [if_neg q]
          rw [es] at t3
          have pf : (A ++ C1).Perm (A3 ++ R) := by
            refine pall.trans ?_
            refine List.Perm.trans ?_ (p3.append_right R).symm
            simp only [List.cons_append, List.append_assoc]
            refine List.Perm.cons a ?_
            rw [← List.append_assoc]
            refine (q3.append_right C0).trans ?_
            rw [List.append_assoc]
            exact List.perm_append_comm.append_left B'
          have ml : a ∈ A ++ C1 := pall.mem_iff.mpr (by simp)
          have gl := o a ml
          have nf := pf.nodup_iff.mp n
          have len : vs.length = fs.length := by
            have := congrArg List.length he
            simpa using this
          refine ⟨a, Cl, dx, vs, e2, ha, hc, len, .intro (C := []) t3 .nil (by rw [List.append_nil]; exact (List.nodup_append.mp nf).1) (fun b m => o b (pf.mem_iff.mpr (List.mem_append_left _ (by rw [List.append_nil] at m; exact m)))) ?_ ?_ r.g0 r.gf r.pn⟩
          · intro b ub eb
            have ne : b ≠ a := fun q => by rw [q, gl.1] at eb; cases eb
            rw [upd_ne ne]
            exact r.gs b ub eb
          · intro b ub eb
            have ne : b ≠ a := fun q => by rw [q, gl.2] at eb; cases eb
            rw [upd_ne ne]
            exact r.fs b ub eb
/-- a callee that takes what lies on the stack; its first parameter comes back -/
theorem Rel.callS {fd : Fd} {vs : List V} {os : List O} {ds : List (Bool × D)} (hz : x.z.xs = none) (r : Rel x G σ H env (ps ++ vs.zip os)) (l : vs.length = os.length) (u : unOs os = some ds) :
    ∃ F, Rel ⟨x.z, F, G, pinsL fd.io 0 vs⟩ G (startV fd vs) H (env0 fd ds) [] ∧
      ∀ {G2 : Hp} {σ' : St} {H2 : Hp} {env' : EnvD} {qs : List (V × O)}, Same G G2 → Rel ⟨x.z, F, G, pinsL fd.io 0 vs⟩ G2 σ' H2 env' qs → noP qs →
        Rel x G2 σ H2 env (ps ++ qs) ∧ ∀ v0 vs' fl d, vs = v0 :: vs' → fd.io.contains 0 = true → getS env' 0 = some (fl, d) → Rel x G2 σ H2 env (ps ++ [(v0, .v fl d)]) := by
  obtain ⟨A, C, t, s, n, o⟩ := r.ex
  obtain ⟨C1, C2, sA, sB, rfl⟩ := s.split
  have n3 : (A ++ C1 ++ C2).Nodup := by rw [List.append_assoc]; exact n
  have out2 : ∀ a, a ∈ A ++ C1 → a ∉ C2 := fun a m m2 => (List.nodup_append.mp n3).2.2 a m a m2 rfl
  have thr : ∀ a, a ∈ A ++ C1 → IsSome H a := fun a m => (List.mem_append.mp m).elim (t.there a) (sA.there a)
  refine ⟨less H C2, ?_, ?_⟩
  · refine .intro (C := []) (TPs.toTOs l sB u) .nil (by rw [List.append_nil]; exact (List.nodup_append.mp n3).2.1) (fun a m => ?_) r.gs (fun a ob e => ?_) (fun _ _ e => e) (fun _ _ _ e => e) (fun p m => ?_) (Xz.no hz)
    · rw [List.append_nil] at m
      exact ⟨(o a (by simp [m])).1, less_in m⟩
    · have e' : less H C2 a = some ob := e
      by_cases m : a ∈ C2
      · rw [less_in m] at e'; cases e'
      · rw [less_out m] at e'; exact e'
    · obtain ⟨_, j, e1, e2⟩ := pinsL_mem m
      rw [e1, Nat.zero_add]
      unfold startV
      have lj : j < vs.length := (List.getElem?_eq_some_iff.mp e2).1
      rw [List.getElem?_append_left (by simpa using lj), List.getElem?_map, e2]
      rfl
  · intro G2 σ' H2 env' qs s2 r2 nq
    obtain ⟨A', C', t', s', n', o'⟩ := r2.ex
    have keep : ∀ a, a ∈ A ++ C1 → H2 a = H a := fun a m => by
      obtain ⟨ob, e⟩ := thr a m
      have q : less H C2 a = some ob := by rw [less_out (out2 a m)]; exact e
      rw [e]
      exact r2.fs a ob q
    have tA : TOs x.z G2 H2 σ env A := t.mono s2 fun a m => keep a (List.mem_append_left _ m)
    have sA2 : TPs x.z G2 H2 σ ps C1 := sA.mono s2 fun a m => keep a (List.mem_append_right _ m)
    have inF : ∀ a, a ∈ A' ++ C' → less H C2 a = none := fun a m => (o' a m).2
    have dis : ∀ a, a ∈ A ++ C1 → a ∉ A' ++ C' := fun a m m2 => by
      obtain ⟨ob, e⟩ := thr a m
      have q := inF a m2
      rw [less_out (out2 a m), e] at q
      cases q
    have xF : ∀ a ob, x.F a = some ob → less H C2 a = some ob := fun a ob e => by
      have nm : a ∉ C2 := fun m => by
        rw [(o a (by simp [m])).2] at e; cases e
      rw [less_out nm]
      exact r.fs a ob e
    have fin : ∀ {B : List Addr} {qs2 : List (V × O)}, TPs x.z G2 H2 σ qs2 B → B.Nodup → (∀ a ∈ B, a ∈ A' ++ C') → Rel x G2 σ H2 env (ps ++ qs2) := fun {B qs2} tB nB mB => by
      have nAll : (A ++ (C1 ++ B)).Nodup := by
        rw [← List.append_assoc]
        exact List.nodup_append.mpr ⟨(List.nodup_append.mp n3).1, nB, fun a m c m2 e => dis a m (mB a (e ▸ m2))⟩
      refine .intro tA (sA2.append tB) nAll (fun a m => ?_) r2.gs (fun a ob e => r2.fs a ob (xF a ob e)) (fun a ob e => s2 a ob (r.g0 a ob e)) (fun a ob e e0 => r2.gf a ob (xF a ob e) (r.gf a ob e e0)) r.pn
      have m' : a ∈ A ++ C1 ∨ a ∈ B := by
        simp only [List.mem_append] at m ⊢
        rcases m with m | m | m
        · exact .inl (.inl m)
        · exact .inl (.inr m)
        · exact .inr m
      rcases m' with m1 | m1
      · have oo := o a (by rcases List.mem_append.mp m1 with m1 | m1 <;> simp [m1])
        obtain ⟨ob, e⟩ := thr a m1
        exact ⟨r2.gf a ob (show less H C2 a = some ob by rw [less_out (out2 a m1)]; exact e) oo.1, oo.2⟩
      · refine ⟨(o' a (mB a m1)).1, ?_⟩
        cases e : x.F a with
        | none => rfl
        | some ob =>
          have q := xF a ob e
          rw [inF a (mB a m1)] at q
          cases q
    refine ⟨fin (s'.slots nq) (List.nodup_append.mp n').2.1 fun a m => List.mem_append_right _ m, fun v0 vs' fl d ev hio eg => ?_⟩
    obtain ⟨v, B, e1, tB, fB, mB⟩ := t'.get 0 (getS_some eg).1
    have pin := r2.pn (0, v0) (pinsL_has (k := 0) (j := 0) (by rw [ev]; rfl) (by simpa using hio))
    have ev0 : v = v0 := by
      have q : σ'[0]? = some (some v0) := pin
      rw [e1] at q
      cases q
      rfl
    subst ev0
    -- the head of the slots
    cases t' with
    | nil => simp [getS] at eg
    | @cons v1 vs1 d1 ds1 A1 A2 h1 h2 =>
      have ed : d1 = some (fl, d) := eg
      subst ed
      have ev1 : v1 = some v := by simpa using e1
      subst ev1
      cases h1 with
      | some h1 f1 =>
        have tp : TPs x.z G2 H2 σ [(v, .v fl d)] (A1 ++ []) := .cons (.v h1 f1) .nil
        rw [List.append_nil] at tp
        refine fin tp ?_ fun a m => by simp [m]
        have nn := (List.nodup_append.mp n').1
        exact (List.nodup_append.mp nn).1
end
theorem pass_no {X : Cx} : Passes (L2.CX X.prog X.w) X (fun _ _ _ => False) := fun pins σ H s e s' I c => by
  obtain ⟨a, B, H', cls, d, _, _, _, _, _, _, _, z⟩ := c
  exact z.elim
section
variable {X : Cx} {z : Z} {io : List Nat} {W : WX} {Γ : Cf} {pos : Pos}
/-- a class that may be made -/
structure MakeOk (X : Cx) (z : Z) (c : List (Bool × D) → CR) (fd : Fd) (y : Str) : Prop where
  ex : ∃ (k : Nat) (f C : Addr) (fdat : FuncData) (pn : List Str), FnOk X.prog X.w X.K X.mg X.base (L2.CX X.prog X.w) k f fdat pn (spC z fd c) ∧ Room (k + 1) X.A ∧ X.mg y = some (.ref C) ∧ Mk X.K C f ∧ Binds X.K fdat pn []
/-- a method -/
structure MethOk (X : Cx) (z : Z) (c : List (Bool × D) → CR) (fd : Fd) (y m : Str) : Prop where
  ex : ∃ (k : Nat) (f C : Addr) (fdat : FuncData) (pn : List Str), FnOk X.prog X.w X.K X.mg X.base (L2.CX X.prog X.w) k f fdat pn (spC z fd c) ∧ Room k X.A ∧ X.mg y = some (.ref C) ∧ Cls X.K C ∧ Meth X.K C m f ∧ Binds X.K fdat pn []
/-- a class's field -/
structure FldOk (X : Cx) (z : Z) (y : Str) (f : Nat) (n : Str) : Prop where
  ex : ∃ C, X.mg y = some (.ref C) ∧ Cls X.K C ∧ NoAttr X.K C n
  nm : FldN z f n
theorem se_fld {c f : Nat} {y n : Str} {e : Expr} {ee : E} (hmg : X.mg = z.mg) (hgn : z.gn c = y) (F : FldOk X z y f n) (hb : attributeBase e n X.env (eval e X.env) = eval e X.env) (he : PE X e (tE z W (evE Γ ee))) : PE X (.Attribute e n pos) (tE z W (evE Γ (.fld c f ee))) := by
  refine (pe_fld he hb).to fun σ H Q ⟨x, G, env, ps, ez, r, h⟩ => ?_
  subst ez
  unfold evE at h
  refine PostR.step r h fun o1 env1 v G1 H1 s1 r1 h1 => ?_
  have h2 : PostR x G1 σ ps W Q (match rsD o1 env1 with
    | some d => (match d with
      | .ins _ c' fs => if c' = c then match fldD fs f with
        | some d => .ok (.v false d) env1
        | none => .bad else .bad
      | _ => .bad)
    | none => .bad) := by
    cases q : rsD o1 env1 with
    | none => rw [q] at h1; exact h1.elim
    | some d =>
      rw [q] at h1
      cases d <;> exact h1
  obtain ⟨d, G2, s2, r2, w, h3⟩ := one_view r1 h2
  cases d with
  | ins g c' fs =>
    dsimp only at h3
    split at h3
    · rename_i ec
      subst ec
      cases l : fldD fs f with
      | none => rw [l] at h3; exact h3.elim
      | some d =>
        rw [l] at h3
        obtain ⟨a, C, dx, vs, rfl, ha, hc, hn, ht⟩ := w.ins r2.gs
        obtain ⟨v, e1, tv⟩ := fld_get F.nm hn ht l
        obtain ⟨C', m, cl, na⟩ := F.ex
        rw [hgn, ← hmg, m] at hc
        cases hc
        exact ⟨a, _, dx, vs, v, rfl, ha, cl, na, e1, h3 v G2 H1 (fun _ _ e => e) (r2.push tv)⟩
    · exact h3.elim
  | _ => exact h3.elim
theorem ss_asgf {c i f : Nat} {y n nm : Str} {e : Expr} {ee : E} {p p2 : Pos} (hmg : X.mg = z.mg) (hgn : z.gn c = y) (F : FldOk X z y f n) (hN : X.N[i]? = some nm) (hv : Vis X.env.scope nm) (hd : (nm == ("__debug__" : Str)) = false) (hc : (nm == ("__classdict__" : Str)) = false)
    (hs : swapsWith e (some (.Attribute (.Name nm p) n p2)) pos.line X.env = pure false) (he : PE X e (tE z W (evE Γ ee))) : PS X (.Assign [.Attribute (.Name nm p) n p2] e pos) (tS z io W (evS Γ (.asgf c i f ee))) := by
  refine (ps_fld (pe_var hN hv hd hc) he hs).to fun D σ H ⟨x, G, env, ez, po, r, h⟩ => ?_
  subst ez
  unfold evS at h
  refine PostS.step r h fun o env1 u G1 H1 s1 r1 h1 => ?_
  cases o with
  | p j => exact h1.elim
  | v fd d =>
    cases c2 : getS env1 i with
    | none => rw [c2] at h1; exact h1.elim
    | some q2 =>
      obtain ⟨f2, t2⟩ := q2
      rw [c2] at h1
      cases f2 with
      | false => exact h1.elim
      | true =>
        cases t2 with
        | ins g c' fs =>
          cases g with
          | false => exact h1.elim
          | true =>
            dsimp only [unO] at h1
            split at h1
            · rename_i hz
              obtain ⟨ec, hz⟩ := hz
              subst ec
              obtain ⟨a, C, dx, vs, e1, ha, hcl, hl, r3⟩ := Rel.setf F.nm r1 c2
              obtain ⟨C', m, cl, na⟩ := F.ex
              rw [hgn, ← hmg, m] at hcl
              cases hcl
              exact ⟨_, e1, a, _, dx, vs, rfl, ha, cl, na, by rw [hl]; omega, h1 σ G1 _ (fun _ _ e => e) r3⟩
            · exact h1.elim
        | _ => exact h1.elim
/-- settled data off the stack, as arguments -/
theorem Rel.args {x : Fx} {G : Hp} {σ : St} {H : Hp} {env : EnvD} {ps : List (V × O)} {vs : List V} {os : List O} {ds : List (Bool × D)} (r : Rel x G σ H env (ps ++ vs.zip os)) (l : vs.length = os.length) (u : unOs os = some ds) :
    ∃ G1, Same G G1 ∧ Rel x G1 σ H env ps ∧ Ts x.z G1 H vs (ds.map stl) [] := by
  obtain ⟨G1, s1, r1⟩ := Rel.settle r
  refine ⟨G1, s1, r1.pop, ?_⟩
  obtain ⟨A, C, t, s, n, o⟩ := r1.ex
  obtain ⟨C1, C2, sA, sB, rfl⟩ := s.split
  clear r r1 t n o sA s
  induction vs generalizing os ds C2 with
  | nil =>
    cases os with
    | nil => cases u; exact .nil
    | cons _ _ => simp at l
  | cons v vs ih =>
    cases os with
    | nil => simp at l
    | cons o os =>
      have u' : (match unO o, unOs os with
        | some d, some ds => some (d :: ds)
        | _, _ => none) = some ds := u
      cases o with
      | p j => cases u'
      | v f d =>
        cases c : unOs os with
        | none => rw [c] at u'; cases u'
        | some ds' =>
          rw [c] at u'
          cases u'
          cases sB with
          | cons h k =>
            have q := ih (by simpa using l) c _ k
            cases h with
            | v h f1 =>
              have e := f1 rfl
              subst e
              exact .con h q
theorem Rel.pushAll {x : Fx} {G : Hp} {σ : St} {H : Hp} {env : EnvD} : ∀ {vs : List V} {ds : List D} {ps : List (V × O)}, Rel x G σ H env ps → Ts x.z G H vs ds [] → Rel x G σ H env (ps ++ vs.zip (ds.map (O.v false)))
  | [], _, ps, r, _ => by
    rw [List.zip_nil_left, List.append_nil]
    exact r
  | v :: vs, [], ps, r, t => by
    have := t.length
    simp at this
  | v :: vs, d :: ds, ps, r, t => by
    obtain ⟨t1, t2⟩ := t.nil_inv
    have q := Rel.pushAll (r.push (f := false) t1) t2
    rw [List.append_assoc] at q
    exact q
theorem unOs_false : ∀ ds : List D, unOs (ds.map (O.v false)) = some (ds.map fun d => (false, d))
  | [] => rfl
  | d :: ds => by
    show (match unO (.v false d), unOs (ds.map (O.v false)) with
      | some d, some ds => some (d :: ds)
      | _, _ => none) = _
    rw [unOs_false ds]
    rfl
theorem evEs_len : ∀ {es : Es} {env env1 : EnvD} {os : List O}, evEs Γ es env = .ok os env1 → os.length = esLen es
  | .nil, env, env1, os, e => by
    unfold evEs at e
    cases e
    rfl
  | .cons e es, env, env1, os, h => by
    unfold evEs at h
    cases c : evE Γ e env with
    | bad => rw [c] at h; cases h
    | ex _ _ _ => rw [c] at h; cases h
    | ok o env2 =>
      rw [c] at h
      dsimp only at h
      cases c2 : evEs Γ es env2 with
      | bad => rw [c2] at h; cases h
      | ex _ _ _ => rw [c2] at h; cases h
      | ok os2 env3 =>
        rw [c2] at h
        cases h
        rw [List.length_cons, evEs_len c2]
        rfl
theorem un_len : ∀ {os : List O} {ds : List (Bool × D)}, unOs os = some ds → ds.length = os.length
  | [], _, e => by cases e; rfl
  | o :: os, ds, e => by
    have e' : (match unO o, unOs os with
      | some d, some ds => some (d :: ds)
      | _, _ => none) = some ds := e
    split at e'
    · rename_i h1 h2
      cases e'
      rw [List.length_cons, List.length_cons, un_len h2]
    · cases e'
theorem mk_rd {fd : Fd} {c f : Nat} {C : Addr} {es : Es} {σ : St} {H : Hp} {Q : VK} (hz : z.xs = none) (hC : z.mg (z.gn c) = some (.ref C)) (hl : fd.np = esLen es + 1) (hio : fd.io.contains 0 = true) (h : tE z W (evE Γ (.mk c f es)) σ H Q) :
    tMake C (spC z fd (Γ.call f)) [] (fun _ _ _ => False) (tEs z W (evEs Γ es)) σ H Q := by
  obtain ⟨x, G, env, ps, ez, r, h⟩ := h
  subst ez
  unfold evE at h
  refine ⟨x, G, env, ps, rfl, r, ?_⟩
  cases c1 : evEs Γ es env with
  | bad => rw [c1] at h; exact h.elim
  | ex cc fs env1 => rw [c1] at h; exact h
  | ok os env1 =>
    rw [c1] at h
    intro vs G1 H1 l s1 r1 xa dx hx hdx ne
    have h1 := PostR.up s1 h
    dsimp only [Rs.bind] at h1
    cases u : unOs os with
    | none => rw [u] at h1; exact h1.elim
    | some ds =>
      rw [u] at h1
      dsimp only at h1
      obtain ⟨G2, s2, r2, ta⟩ := Rel.args r1 l u
      have r3 := r2.other (o := .own xa) hdx
      have hx2 : upd H1 dx (.own xa) xa = none := by rw [upd_ne (Ne.symm ne)]; exact hx
      rw [← List.append_nil ps] at r3
      have r4 := Rel.alloc (o := .ins C dx []) (d := .ins true c []) (qs := []) r3 hx2 fun C2 c2 => by
        cases c2
        exact .insF upd_same hC rfl .nil
      have r5 := Rel.pushAll r4 (ta.any (H' := upd (upd H1 dx (.own xa)) xa (.ins C dx [])) fun _ _ e => e)
      have r6 : Rel x G2 σ (upd (upd H1 dx (.own xa)) xa (.ins C dx [])) env1 (ps ++ (V.ref xa :: vs).zip (O.v true (.ins true c []) :: (ds.map stl).map (O.v false))) := by
        rw [List.append_assoc] at r5
        exact r5
      have ll : (V.ref xa :: vs).length = (O.v true (.ins true c []) :: (ds.map stl).map (O.v false)).length := by
        simp [l, un_len u]
      have uu : unOs (O.v true (.ins true c []) :: (ds.map stl).map (O.v false)) = some ((true, .ins true c []) :: ds.map fun p => (false, stl p)) := by
        show (match unO (O.v true (D.ins true c [])), unOs ((ds.map stl).map (O.v false)) with
          | some d, some ds => some (d :: ds)
          | _, _ => none) = _
        rw [unOs_false, List.map_map]
        rfl
      obtain ⟨F, rc, back⟩ := Rel.callS (fd := fd) hz r6 ll uu
      have np : (V.ref xa :: vs).length = fd.np := by
        rw [hl, List.length_cons, l, evEs_len c1]
      rw [List.append_nil]
      refine ⟨np, F, G2, (true, .ins true c []) :: ds.map fun p => (false, stl p), by rw [← np, List.length_cons, List.length_cons, List.length_map, un_len u, l], rc, ?_⟩
      have h2 := PostR.up s2 h1
      cases c2 : Γ.call f ((true, .ins true c []) :: ds.map fun p => (false, stl p)) with
      | bad => rw [c2] at h2; exact h2.elim
      | ex _ _ _ => rw [c2] at h2; exact h2.elim
      | ok f1 d1 outs =>
        rw [c2] at h2
        cases d1 with
        | non =>
          cases outs with
          | nil => exact h2.elim
          | cons o1 outs =>
            cases o1 with
            | none => exact h2.elim
            | some p1 =>
              obtain ⟨fl, d⟩ := p1
              intro v σ' G3 H3 env' s3 r7 eo
              have ev : v = .non := by
                obtain ⟨A, C0, t, s, _⟩ := r7.ex
                cases s with
                | cons s1 _ =>
                  cases s1 with
                  | v s1 _ => cases s1; rfl
              refine ⟨ev, ?_⟩
              have eg : getS env' 0 = some (fl, d) := by
                have q := congrArg (fun l : EnvD => l[0]?) eo
                unfold outsOf at q
                simp only [List.getElem?_map, List.getElem?_cons_zero] at q
                rw [List.getElem?_range (by omega : 0 < fd.np)] at q
                simp only [Option.map_some, Option.some.injEq] at q
                rw [if_pos hio] at q
                exact q
              exact h2 (.ref xa) G3 H3 s3 ((back s3 r7 fun p m i e => by
                rw [List.mem_singleton.mp m] at e
                cases e).2 _ _ fl d rfl hio eg)
        | _ => exact h2.elim
theorem se_mk {c f : Nat} {fd : Fd} {y : Str} {p : Pos} {e : Expr} {l : List Expr} {es : Es} (hz : z.xs = none) (hmg : X.mg = z.mg) (hgn : z.gn c = y) (M : MakeOk X z (Γ.call f) fd y) (hg : Gl X y) (hl : fd.np = esLen es + 1) (hio : fd.io.contains 0 = true) (ha : PA X (e :: l) (tEs z W (evEs Γ es))) (hdb : (y == ("__debug__" : Str)) = false)
    (he : starEach (e :: l) X.env = (false, eval e X.env) :: starEach l X.env) (hpl : (backTo pos (starEach l X.env)).any (·.1) = false) : PE X (.Call (.Name y p) (e :: l) [] pos) (tE z W (evE Γ (.mk c f es))) := by
  obtain ⟨k, fa, C, fdat, pn, F, hr, hm, hk, hb⟩ := M.ex
  exact (pe_make hk F hr hg hm hb .nil pass_no ha hdb he hpl).to fun σ H Q h => mk_rd hz (by rw [hgn, ← hmg]; exact hm) hl hio h
theorem meth_rd {fd : Fd} {c f : Nat} {C : Addr} {m : Str} {o : E} {es : Es} {σ : St} {H : Hp} {Q : VK} (hz : z.xs = none) (hC : z.mg (z.gn c) = some (.ref C)) (hl : fd.np = esLen es + 1) (hm : ∀ g, z.fn g ≠ m) (h : tE z W (evE Γ (.meth c f o es)) σ H Q) :
    tMeth C m (spC z fd (Γ.call f)) [] (fun _ _ _ => False) (tE z W (evE Γ o)) (tEs z W (evEs Γ es)) σ H Q := by
  obtain ⟨x, G, env, ps, ez, r, h⟩ := h
  subst ez
  unfold evE at h
  refine PostR.step r h fun o1 env1 v G1 H1 s1 r1 h1 => ?_
  cases o1 with
  | p i => exact h1.elim
  | v g d =>
    cases g with
    | true => exact h1.elim
    | false =>
      cases d with
      | ins g2 c' fs =>
        cases g2 with
        | true => exact h1.elim
        | false =>
          dsimp only at h1
          split at h1
          · rename_i ec
            subst ec
            have tv := Rel.top r1
            have tv0 := tv
            cases tv with
            | ins ha hc he ht =>
              rename_i a C' dx us
              rw [hC] at hc
              cases hc
              have hH : H1 a = some (.ins C dx us) := by
                rcases r1.gs _ _ ha with q | ⟨kvs, ob, q, _⟩
                · exact q
                · cases q
              refine ⟨a, dx, us, rfl, hH, no_fld hm he, ?_⟩
              refine ⟨x, G1, env1, ps, rfl, r1.pop, ?_⟩
              cases c1 : evEs Γ es env1 with
              | bad => rw [c1] at h1; exact h1.elim
              | ex cc fs2 env2 => rw [c1] at h1; exact h1
              | ok os env2 =>
                rw [c1] at h1
                intro vs G2 H2 l s2 r2
                have h2 := PostR.up s2 h1
                dsimp only [Rs.bind] at h2
                cases u : unOs os with
                | none => rw [u] at h2; exact h2.elim
                | some ds =>
                  rw [u] at h2
                  dsimp only at h2
                  obtain ⟨G3, s3, r3, ta⟩ := Rel.args r2 l u
                  have r4 := r3.push (f := false) (tv0.any (H' := H2) (Same.tr s2 s3))
                  have r5 := Rel.pushAll r4 ta
                  have r6 : Rel x G3 σ H2 env2 (ps ++ (V.ref a :: vs).zip (O.v false (.ins false c' fs) :: (ds.map stl).map (O.v false))) := by
                    rw [List.append_assoc] at r5
                    exact r5
                  have ll : (V.ref a :: vs).length = (O.v false (.ins false c' fs) :: (ds.map stl).map (O.v false)).length := by
                    simp [l, un_len u]
                  have uu : unOs (O.v false (.ins false c' fs) :: (ds.map stl).map (O.v false)) = some ((false, .ins false c' fs) :: ds.map fun p => (false, stl p)) := by
                    show (match unO (O.v false (D.ins false c' fs)), unOs ((ds.map stl).map (O.v false)) with
                      | some d, some ds => some (d :: ds)
                      | _, _ => none) = _
                    rw [unOs_false, List.map_map]
                    rfl
                  obtain ⟨F, rc, back⟩ := Rel.callS (fd := fd) hz r6 ll uu
                  have np : (V.ref a :: vs).length = fd.np := by
                    rw [hl, List.length_cons, l, evEs_len c1]
                  rw [List.append_nil]
                  refine ⟨np, F, G3, (false, .ins false c' fs) :: ds.map fun p => (false, stl p), by rw [← np, List.length_cons, List.length_cons, List.length_map, un_len u, l], rc, ?_⟩
                  have h3 := PostR.up s3 h2
                  cases c2 : Γ.call f ((false, .ins false c' fs) :: ds.map fun p => (false, stl p)) with
                  | bad => rw [c2] at h3; exact h3.elim
                  | ex _ _ _ => rw [c2] at h3; exact h3.elim
                  | ok fl d outs =>
                    rw [c2] at h3
                    intro v2 σ' G4 H4 env' s4 r7 eo
                    exact h3 v2 G4 H4 s4 (back s4 r7 fun p m i e => by
                      rw [List.mem_singleton.mp m] at e
                      cases e).1
          · exact h1.elim
      | _ => exact h1.elim
theorem call_eq {o : Expr} {m : Str} {apos pos : Pos} {args : List Expr} {env : Env} (hbase : attributeBase o m env (eval o env) = eval o env)
    (hfew : methodCallForm (args.length + ([] : List Keyword).length) (backTo pos (starEach args env)) (backToKw pos (keywordEach [] env)) = true) (hline : (apos.endLine == pos.line) = true) :
    eval (.Call (.Attribute o m apos) args [] pos) env = (do
      let ov ← eval o env
      standAt apos.atName
      let (f, first) ← holding [ov] (getMethod ov m (do return (← importBound o env).getD true))
      callWith pos f first (backTo pos (starEach args env)) (backToKw pos (keywordEach [] env))) := by
  have hpos : methodCallPos true o env apos pos = pure pos := by
    unfold methodCallPos
    simp [hline]
  rw [PySem.arm_eval_Call, hbase]
  unfold methodCall calleeOf
  rw [hfew]
  simp only [hpos, pure_bind, if_true]
theorem se_meth {c f : Nat} {fd : Fd} {y m : Str} {o : Expr} {eo : E} {apos : Pos} {e : Expr} {l : List Expr} {es : Es} (hz : z.xs = none) (hmg : X.mg = z.mg) (hgn : z.gn c = y) (M : MethOk X z (Γ.call f) fd y m) (hl : fd.np = esLen es + 1) (hm : ∀ g, z.fn g ≠ m) (ho : PE X o (tE z W (evE Γ eo))) (ha : PA X (e :: l) (tEs z W (evEs Γ es))) (hbase : attributeBase o m X.env (eval o X.env) = eval o X.env) (hline : (apos.endLine == pos.line) = true)
    (hfew : methodCallForm ((e :: l).length + ([] : List Keyword).length) (backTo pos (starEach (e :: l) X.env)) (backToKw pos (keywordEach [] X.env)) = true)
    (he : starEach (e :: l) X.env = (false, eval e X.env) :: starEach l X.env) (hpl : (backTo pos (starEach l X.env)).any (·.1) = false) : PE X (.Call (.Attribute o m apos) (e :: l) [] pos) (tE z W (evE Γ (.meth c f eo es))) := by
  obtain ⟨k, fa, C, fdat, pn, F, hr, hmC, hc, hk, hb⟩ := M.ex
  exact (pe_meth ho hc hk F hr hb .nil pass_no ha he hpl (call_eq hbase hfew hline)).to fun σ H Q h => meth_rd hz (by rw [hgn, ← hmg]; exact hmC) hl hm h
theorem se_meth0 {c f : Nat} {fd : Fd} {y m : Str} {o : Expr} {eo : E} {apos : Pos} (hz : z.xs = none) (hmg : X.mg = z.mg) (hgn : z.gn c = y) (M : MethOk X z (Γ.call f) fd y m) (hl : fd.np = 1) (hm : ∀ g, z.fn g ≠ m) (ho : PE X o (tE z W (evE Γ eo))) (hbase : attributeBase o m X.env (eval o X.env) = eval o X.env) (hline : (apos.endLine == pos.line) = true) : PE X (.Call (.Attribute o m apos) [] [] pos) (tE z W (evE Γ (.meth c f eo .nil))) := by
  obtain ⟨k, fa, C, fdat, pn, F, hr, hmC, hc, hk, hb⟩ := M.ex
  refine (pe_meth0 ho hc hk F hr hb .nil pass_no (call_eq (args := []) hbase rfl hline)).to fun σ H Q h => ?_
  have q := meth_rd hz (m := m) (fd := fd) (es := .nil) (by rw [hgn, ← hmg]; exact hmC) (by rw [hl]; rfl) hm h
  obtain ⟨x, G, env, ps, ez, r, q⟩ := q
  refine ⟨x, G, env, ps, ez, r, ?_⟩
  cases c1 : evE Γ eo env with
  | bad => rw [c1] at q; exact q.elim
  | ex _ _ _ => rw [c1] at q; exact q
  | ok o1 env1 =>
    rw [c1] at q
    intro v G1 H1 s1 r1
    obtain ⟨a, dx, fs, e1, e2, e3, x2, G2, env2, ps2, ez2, r2, q2⟩ := q v G1 H1 s1 r1
    refine ⟨a, dx, fs, e1, e2, e3, ?_⟩
    unfold evEs at q2
    exact q2 [] G2 H1 rfl (fun _ _ e => e) (by simpa using r2)
end
end Vm
/-! Vm: what is asked of an exception that is handled. -/
namespace Vm
open PySem L2
open PyProof.Rows hiding St
/-- its field n is read -/
def XfRule (X : Cx) (q : Xs) (n : Str) : Prop := ∀ (y : Str) (p p2 : Pos), PE X (.Name y p) (tVar q.i) → PE X (.Attribute (.Name y p) n p2) (fun σ H Q => σ[q.i]? = some (some (.ref q.a)) ∧ (∃ d, q.d = some d ∧ H d = some (.xd q.vfs)) ∧ ∃ v, q.vfs.lookup n = some v ∧ Q v H)
/-- isinstance of it and the class cn: b -/
def XiRule (X : Cx) (q : Xs) (cn : Str) (b : Bool) : Prop := ∃ C, X.mg cn = some (.ref C) ∧ CallR X (.builtin "isinstance") (fun xs H Q => (∀ d, q.d = some d → ∃ vfs, H d = some (.xd vfs)) ∧ xs = [.ref q.a, .ref C] ∧ Q (.bl b) H)
/-- the exception that is handled, and what is known of it -/
def XOk (X : Cx) (z : Z) (Γ : Cf) (i : Nat) (xfs : List (Nat × Str)) (xcs : List (List Nat × Str)) : Prop := ∃ q c fs, z.xs = some q ∧ q.i = i ∧ Γ.ex = some (c, fs) ∧
  (∀ p ∈ xfs, z.fn p.1 = p.2 ∧ XfRule X q p.2) ∧ (∀ f d, fldD fs f = some d → (q.d).isSome = true ∧ ∃ v, q.vfs.lookup (z.fn f) = some v ∧ ∀ H : Hp, T z q.g H v d []) ∧ (∀ p ∈ xcs, XiRule X q p.2 (p.1.contains c))
section
variable {X : Cx} {z : Z} {W : WX} {Γ : Cf} {pos : Pos}
theorem Rel.exc {x : Fx} {G : Hp} {σ : St} {H : Hp} {env : EnvD} {ps : List (V × O)} (r : Rel x G σ H env ps) {q : Xs} (e : x.z.xs = some q) : σ[q.i]? = some (some (.ref q.a)) ∧ Same q.g G ∧ ∀ d, q.d = some d → H d = some (.xd q.vfs) := by
  obtain ⟨h1, h0, h2⟩ := r.xz q e
  refine ⟨r.pn _ h1, Same.tr h0 r.g0, fun d ed => ?_⟩
  rcases r.gs _ _ (r.g0 _ _ (h2 d ed)) with h | ⟨kvs, ob, h, _⟩
  · exact h
  · cases h
theorem se_xf {i f : Nat} {y n : Str} {p : Pos} {xfs : List (Nat × Str)} {xcs : List (List Nat × Str)} (hx : XOk X z Γ i xfs xcs) (hm : (f, n) ∈ xfs) (hN : X.N[i]? = some y) (hv : Vis X.env.scope y) (hd : (y == ("__debug__" : Str)) = false) (hc : (y == ("__classdict__" : Str)) = false) : PE X (.Attribute (.Name y p) n pos) (tE z W (evE Γ (.xf f))) := by
  obtain ⟨q, c, fs, e1, e2, e3, k1, k2, k3⟩ := hx
  obtain ⟨g1, g2⟩ := k1 _ hm
  dsimp only at g1 g2
  refine (g2 y p pos (by rw [e2]; exact pe_var hN hv hd hc)).to fun σ H Q ⟨x, G, env, ps, ez, r, h⟩ => ?_
  subst ez
  unfold evE at h
  rw [e3] at h
  dsimp only at h
  cases ef : fldD fs f with
  | none => rw [ef] at h; exact h.elim
  | some d =>
    rw [ef] at h
    obtain ⟨s1, s0, s2⟩ := r.exc e1
    obtain ⟨sd, v, l, t⟩ := k2 f d ef
    obtain ⟨dd, ed⟩ := Option.isSome_iff_exists.mp sd
    rw [g1] at l
    exact ⟨s1, ⟨dd, ed, s2 dd ed⟩, v, l, PostR.val (f := false) (d := d) r h ((t H).any s0)⟩
theorem se_xis {i : Nat} {cs : List Nat} {y cn : Str} {p p1 p2 : Pos} {xfs : List (Nat × Str)} {xcs : List (List Nat × Str)} (hx : XOk X z Γ i xfs xcs) (hm : (cs, cn) ∈ xcs) (hN : X.N[i]? = some y) (hv : Vis X.env.scope y) (hd : (y == ("__debug__" : Str)) = false) (hc : (y == ("__classdict__" : Str)) = false)
    (hg : Gl X "isinstance") (hb : X.mg "isinstance" = none) (hg2 : Gl X cn) (hd2 : (cn == ("__debug__" : Str)) = false) : PE X (.Call (.Name "isinstance" p) [.Name y p1, .Name cn p2] [] pos) (tE z W (evE Γ (.xis cs))) := by
  obtain ⟨q, c, fs, e1, e2, e3, k1, k2, k3⟩ := hx
  obtain ⟨C, g1, g2⟩ := k3 _ hm
  refine (pe_callB g2 hg hb isi_boot (pa_cons (pe_var hN hv hd hc) (pa_cons (pe_glob (v := .ref C) hg2 g1 rfl hd2) pa_nil rfl) rfl) (by decide) (by decide) rfl rfl).to fun σ H Q ⟨x, G, env, ps, ez, r, h⟩ => ?_
  subst ez
  unfold evE at h
  rw [e3] at h
  obtain ⟨s1, _, s2⟩ := r.exc e1
  rw [e2] at s1
  exact ⟨_, s1, fun d ed => ⟨_, s2 d ed⟩, rfl, PostR.val (f := false) (d := .bl (cs.contains c)) r h (.bl _)⟩
end
end Vm
/-! Vm: own exceptions with a field name (after the worked proof of an own error). -/
namespace PySem
namespace OwnN
open PySem.W PySem.Calls PyProof.Rows PySem.HandSPX
def iA (p1 p2 : Pos) : Arguments := { posonlyargs := [], args := [{ arg := "self", annotation := none, pos := p1 }, { arg := "name", annotation := none, pos := p2 }], vararg := none, kwonlyargs := [], kw_defaults := [], kwarg := none, defaults := [] }
def iB (q1 q2 q3 q4 : Pos) : List Stmt := [.Assign [.Attribute (.Name "self" q1) "name" q2] (.Name "name" q3) q4]
def iS : Scope := { kind := .function, names := [(PySem.Str.ofString "self", .local), (PySem.Str.ofString "name", .local)], isGenerator := false, isCoroutine := false, more := [] }
/-- an own class of exceptions with one field, name -/
structure OwnTxt (K : Frag) (mg : Str → Option Value) (cx qn : Str) (C fI : Addr) : Prop where
  gC : mg cx = some (.ref C)
  cls : ∃ nm q N bs bm sn sub ab col dd k0 k1 k2 k3 k5, K.lookup C = some (excClassObj nm q C N bs bm true sn sub ab col dd k0 k1 k2 k3 k5 "ValueError.__new__") ∧ refsVE bm = true
  sa : findIn K (.ref C) "__setattr__" = some (some (.builtin "object.__setattr__"))
  ga : findIn K (.ref C) "__getattribute__" = some (some (.builtin "BaseException.__getattribute__"))
  gg : findIn K (.ref C) "__getattr__" = some none
  noN : findIn K (.ref C) "name" = some none
  iC : findIn K (.ref C) "__init__" = some (some (.ref fI))
  tC : typeIn K (.ref fI) = some (.type "function")
  kC : keepIn K (.ref C) = true
  exC : subIn K (.ref C) (.type "BaseException") = some true
  tyC : typeIn K (.ref C) = some (.type "type")
  hdC : hasDictIn K C = true
  te : exmOne K (.ref C) (.ref C) = some true
  fn : ∃ (oc : Value) (od : Option Addr) (kV doc pm : Value) (an : Option Addr) (cdv ct : Value) (osl : Array (Option Value)) (p1 p2 q1 q2 q3 q4 : Pos),
    K.lookup fI = some ⟨oc, od, .func (fnOf "__init__" qn (iA p1 p2) (iB q1 q2 q3 q4) iS .none kV doc pm an cdv ct), osl⟩ ∧ codeIn K cdv qn = true
theorem one_size (v : Value) : [v].length ≤ sizeLine := by
  rw [sizeLine_eq]
  exact (by decide : 1 ≤ 16777216)
theorem kept_but {K : Frag} {h h' : Heap} {x : Addr} (X : K.In h) (hx : K.lookup x = none) (k : ∀ b o, b ≠ x → h.get? b = some o → h'.get? b = some o) : K.In h' := fun a o e =>
  k a o (fun z => by rw [z, hx] at e; cases e) (X a o e)
theorem ldC {M : Model} {s : Shared} {name : Str} {scope : Scope} {L a : Addr} {cd : Value} {m : Str → Option Value} {x : Str} {pos : Pos} {v : Value} {Q : Value → Shared → Prop} {A : Around} {E : Value → Shared → Prop} (hn : s.heap.Ns L m) (hv : m x = some v) (h : Q v s)
    (hk : scope.kind = .function := by rfl) (hl : (envOfC name scope L a cd).kindOf x = some .local := by rfl) (hd : (x == ("__debug__" : Str)) = false := by decide) :
    wpAny M A (eval (.Name x pos) (envOfC name scope L a cd)) Q E s := wpAny_Name (wpAny_loadName_local hk hl hn hv h) hd
/-- what __init__ leaves of a fresh exception at x -/
structure InitEnd (h h' : Heap) (x C dx t1 : Addr) (v : Value) : Prop where
  keep : ∀ b o, b ≠ x → h.get? b = some o → h'.get? b = some o
  obj : h'.get? x = some { cls := .ref C, dict := some dx, data := .fields #[.ref t1, .none, .none, .none, .bool false, .none] }
  dbig : h.objs.size ≤ dx
  dne : dx ≠ x
  ns : h'.Ns1 dx (fun y => if y = "name" then some v else none)
/-- a made Own -/
structure OwnMade (h h' : Heap) (e C d : Addr) (v : Value) : Prop where
  keep : ∀ b o, h.get? b = some o → h'.get? b = some o
  new : h.objs.size ≤ e
  obj : ∃ oe vs, h'.get? e = some oe ∧ oe.cls = .ref C ∧ oe.dict = some d ∧ oe.data = .fields vs ∧ vs[1]? = some .none
  dbig : h.objs.size ≤ d
  dne : d ≠ e
  ns : h'.Ns1 d (fun y => if y = "name" then some v else none)
section
variable {prog : Program} {w : World} {A : Around} {E : Value → Shared → Prop} {R : Result → Shared → Prop} {s : Shared} {K : Frag} {mg : Str → Option Value} {cx qn : Str} {C fI : Addr}
theorem own_init (T : OwnTxt K mg cx qn C fI) {x t0 : Addr} {v : Value} (X : K.In s.heap) (hlim : s.heap.NoLimit) (hx : s.heap.get? x = some (excO C t0)) (hnx : K.lookup x = none) (hroom : A.depth < recursionLimit)
    (hq : ∀ h' tk dx, InitEnd s.heap h' x C dx t0 v → R (.ok (.ret .none)) { s with heap := h', toks := tk }) :
    codeAny (model prog w) A (.call (.ref fI) ⟨[.ref x, v], []⟩) R s := by
  obtain ⟨oc, od, kV, doc, pm, an, cdv, ct, osl, p1, p2, q1, q2, q3, q4, ho, hcd⟩ := T.fn
  obtain ⟨nm, q, N, bs, bm, sn, sub, ab, col, dd, k0, k1, k2, k3, k5, hC, hbm⟩ := T.cls
  have hcl : clsIn K C = some { name := nm, bases := bs, mro := .ref C :: bm, ns := N, qualname := q, hasDict := true, slotNames := sn, subclasses := sub, abstract := ab, collection := col, hasDel := false } := by unfold clsIn; rw [hC] <;> rfl
  refine Att.call_fn (binds := [("self", .ref x), ("name", v)]) X hlim ho hcd hroom (BindsTo.of_eq (by first | rfl | with_unfolding_all rfl)) (by first | rfl | decide | with_unfolding_all rfl) (fun s₁ IC => ?_) rfl rfl rfl
  obtain ⟨h₁, tk₁, rfl⟩ := IC.toInCall.same
  have k : ∀ b o, s.heap.get? b = some o → h₁.get? b = some o := IC.toInCall.keep
  have hn := IC.toInCall.ns
  have hxL : s.heap.objs.size ≠ x := Nat.ne_of_gt (Heap.lt_size hx)
  have X₁ : K.In h₁ := X.keeps k
  have hx₁ := k _ _ hx
  -- self.by = by
  show wpAny _ _ (execs _ _) _ _ _
  refine wpAny_execs_cons (plainObj_wpAny_Assign_Attribute ?_)
  refine ldC (v := v) hn (by first | rfl | with_unfolding_all rfl | kernel_rfl) (ldC (v := .ref x) hn (by first | rfl | with_unfolding_all rfl | kernel_rfl) ?_)
  refine set_plain X₁ (ox := excO C t0) (od := none) ⟨hx₁, rfl, rfl, trivial⟩ T.sa ?_
  refine exc_osa X₁ hx₁ hcl (show refsVE (.ref C :: bm) = true from hbm) rfl T.noN (fun h₃ tk₃ dx k₃ dn dne hx₃ hn₃ => ?_)
  show wpAny _ _ (execs _ _) _ _ _
  have z : s.heap.objs.size < h₁.objs.size := hn.lt
  exact wpAny_execs_nil (hq h₃ tk₃ dx ⟨fun b o hb e => k₃ b o hb (k b o e), hx₃, Nat.le_of_lt (Nat.lt_of_lt_of_le z dn), dne, hn₃⟩)
theorem own_made (T : OwnTxt K mg cx qn C fI) {v : Value} (X : K.In s.heap) (hlim : s.heap.NoLimit) (hroom : A.depth + 1 < recursionLimit)
    (hq : ∀ h' tk e d, OwnMade s.heap h' e C d v → R (.ok (.ret (.ref e))) { s with heap := h', toks := tk }) :
    codeAny (model prog w) A (.call (.ref C) ⟨[v], []⟩) R s := by
  obtain ⟨nm, q, N, bs, bm, sn, sub, ab, col, dd, k0, k1, k2, k3, k5, hC, hbm⟩ := T.cls
  obtain ⟨hp, g, dr, tk, os⟩ := s
  have k : ∀ b o, hp.get? b = some o → ((hp.push (kdv_tup [v])).push (excO C hp.objs.size)).get? b = some o := fun b o e => Heap.get?_push_of_some _ (Heap.get?_push_of_some _ e)
  have hget : ((hp.push (kdv_tup [v])).push (excO C hp.objs.size)).get? (hp.objs.size + 1) = some (excO C hp.objs.size) := by heap_get
  have hnx : K.lookup (hp.objs.size + 1) = none := by
    cases e : K.lookup (hp.objs.size + 1) with
    | none => rfl
    | some o =>
      have z : hp.get? (hp.objs.size + 1) = some o := X _ _ e
      exact absurd (Nat.lt_of_succ_lt (Heap.lt_size z)) (Nat.lt_irrefl _)
  refine call_own F.excBase_ValueError (fun X => refsVE_contains X bm hbm) (X _ _ hC) (looks_findIn X T.iC) (fun self => bind_fn X self T.tC) (one_size v) ?_
  refine own_init (s := ⟨(hp.push (kdv_tup [v])).push (excO C hp.objs.size), g, dr, tk, os⟩) T (X.keeps k) (hlim.keeps k) hget hnx ?_ fun h' tk' dx ⟨k', hx, dn, dne, hns⟩ => ?_
  · show A.depth + 1 < recursionLimit
    exact hroom
  · have old : ∀ b o, hp.get? b = some o → h'.get? b = some o := fun b o e => k' b o (Nat.ne_of_lt (Nat.lt_succ_of_lt (Heap.lt_size e))) (k b o e)
    have z : hp.objs.size + 1 + 1 ≤ dx := by
      first
        | (simpa only [Heap.size_push] using dn)
        | exact dn
        | (have q := dn; rw [Heap.size_push, Heap.size_push] at q; exact q)
    exact ⟨rfl, hq h' tk' (hp.objs.size + 1) dx ⟨old, Nat.le_succ _, ⟨_, _, hx, rfl, rfl, rfl, rfl⟩, Nat.le_trans (Nat.le_trans (Nat.le_succ _) (Nat.le_succ _)) z, dne, hns⟩⟩
end
end OwnN
end PySem
namespace L2
open PySem PySem.Spec PyProof.Rows
theorem relO_own {v : V} {v' : Value} (r : RelV v v') (f : Str) : RelO (List.lookup f [(("name" : Str), v)]) (if f = "name" then some v' else none) := by
  by_cases hw : f = "name"
  · subst hw
    rw [if_pos rfl]
    have q : List.lookup ("name" : Str) [(("name" : Str), v)] = some v := by simp [List.lookup]
    rw [q]
    exact r
  · rw [if_neg hw]
    have qw : (f == ("name" : Str)) = false := by simpa using hw
    have q2 : List.lookup f [(("name" : Str), v)] = none := by simp [List.lookup, qw]
    rw [q2]
    trivial
section
variable {X : Cx} {cx qn : Str} {C fI : Addr}
/-- Own(e) -/
def tMkOwn (C : Addr) (ta : TA) : St → Hp → XK → Prop := fun σ H Q => ta σ H fun vs H1 => ∃ v, vs = [v] ∧ ∀ d, H1 d = none → Q (.ref C) (some d) (upd H1 d (.xd [(("name" : Str), v)]))
theorem pmk_own_n {a : Expr} {ta : TA} {p pos : Pos} {k : Nat} (T : PySem.OwnN.OwnTxt X.K X.mg cx qn C fI) (hr : Room k X.A) (ha : PA X [a] ta) (hg : Gl X cx) (hdb : (cx == ("__debug__" : Str)) = false)
    (he : starEach (a :: []) X.env = (false, eval a X.env) :: starEach [] X.env := by rfl) (hpl : (backTo pos (starEach [] X.env)).any (·.1) = false := by rfl) :
    PMk X (.Call (.Name cx p) [a] [] pos) (tMkOwn C ta) := by
  intro pins s σ H Q I h
  refine wpAny_Call_Name_kw (ld_glob I hg T.gC ?_ hdb)
  refine PySem.W.callWith_K (h₀ := X.base) I.ok.mod.kin T.kC (thn (ha.run pos pins s σ H _ I h) fun us s1 hh => ?_) he hpl
  obtain ⟨vs, H1, I1, r1, v, ev, q1⟩ := hh
  subst ev
  refine ⟨I1.kIn, ?_⟩
  cases r1 with
  | cons rv rn =>
    rename_i v' us'
    cases rn
    show wpAny _ _ (call (.ref C) [v']) _ _ _
    have hlim := I1.nolimit
    obtain ⟨hp, g, dr, tk, os⟩ := s1
    refine wpAny_call (PySem.OwnN.own_made T I1.kIn hlim (by have := hr.dp; omega) fun h' tk' e d M => ?_)
    show MkP X pins σ Q (.ref e) ⟨h', g, dr, tk', os⟩
    obtain ⟨oe, fv, hoe, hc, hd, hdat, h1⟩ := M.obj
    have hns := M.ns
    obtain ⟨G', g1, g2⟩ := restrict h' fun b => decide (b ≠ e)
    have gk : ∀ b, b ≠ e → G'.get? b = h'.get? b := fun b hb => g1 b (decide_eq_true hb)
    have ge : G'.get? e = none := g2 e (by simp)
    have old : ∀ b o, hp.get? b = some o → G'.get? b = some o := fun b o q => (gk b (Nat.ne_of_lt (Nat.lt_of_lt_of_le (Heap.lt_size q) M.new))).trans (M.keep b o q)
    have ob : ObjOk X.prog X.w (upd H1 d (.xd [(("name" : Str), v)])) G' d (.xd [(("name" : Str), v)]) :=
      ⟨_, hns.at (fun o q => (gk d M.dne).trans q), fun f => relO_own rv f⟩
    have J : Inv X pins σ (upd H1 d (.xd [(("name" : Str), v)])) ⟨G', g, dr, tk', os⟩ := I1.laid (t' := tk') old M.dbig ob
    refine ⟨e, oe, fv, ⟨G', g, dr, tk', os⟩, _, .ref C, some d, rfl, J, fun b o q => ?_, ge, hoe, ⟨hc, hd⟩, hdat, h1, ?_, rfl, I1.bare, raises_own T.exC T.tyC, q1 d (I1.hok.fresh M.dbig)⟩
    · by_cases hb : b = e
      · have q' : G'.get? b = some o := q
        rw [hb, ge] at q'; cases q'
      · exact (gk b hb).symm.trans q
    · rw [upd_ne (Ne.symm M.dne)]
      exact I1.hok.fresh M.new
/-- low.by, low the exception that the suite holds (at a; its class cls, its dict d) -/
def tByOwn (C : Addr) (a : Addr) (cls : Value) (d : Option Addr) (te : TE) : TE := fun σ H Q => te σ H fun x H1 => x = .ref a ∧ cls = .ref C ∧ ∃ (dd : Addr) (v : V), d = some dd ∧ H1 dd = some (.xd [(("name" : Str), v)]) ∧ Q v H1
theorem pe_byOwn {a : Addr} {oe : Obj} {cls : Value} {d : Option Addr} {pn : List (Addr × Obj)} {e : Expr} {te : TE} {pos : Pos} (T : PySem.OwnN.OwnTxt X.K X.mg cx qn C fI) (hz : Zc cls d oe) (hf : ∃ vs, oe.data = .fields vs) (he : PE (X.suite a ((a, oe) :: pn)) e te)
    (hb : attributeBase e "name" X.env (eval e X.env) = eval e X.env := by rfl) :
    PE (X.suite a ((a, oe) :: pn)) (.Attribute e "name" pos) (tByOwn C a cls d te) := by
  refine ⟨fun pins s σ H Q I h => ?_⟩
  refine attr_of hb (thn (he.run pins s σ H _ I h) fun u s1 hh => ?_)
  obtain ⟨x, H1, I1, rx, ex, ec, dd, v, ed, ea, q⟩ := hh
  subst ex
  obtain rfl : u = Value.ref a := rx
  subst ec
  subst ed
  obtain ⟨ha, _⟩ := I1.pin (a, oe) (List.mem_append_left _ List.mem_cons_self)
  obtain ⟨vs, hd⟩ := hf
  have hx : ObjOk X.prog X.w H1 s1.heap dd (.xd [(("name" : Str), v)]) := I1.hok dd _ ea
  obtain ⟨mA, hns, hr⟩ := hx
  obtain ⟨od, ho, hl⟩ := lookIn_ns hns
  have l : List.lookup ("name" : Str) [(("name" : Str), v)] = some v := by simp [List.lookup]
  obtain ⟨u, hu, ru⟩ := RelO.some_of (v := v) (o := mA "name") (by rw [← l]; exact hr "name")
  have J : PySem.W.InstAt s1.heap a oe C (some od) := ⟨ha, hz.1, by unfold PySem.W.notCls; rw [hd] <;> rfl, by rw [hz.2]; exact ho⟩
  exact HandSPX.exc_get I1.kIn J T.ga T.gg T.exC (PySem.W.findObj_own T.hdC T.noN rfl (by rw [hl, hu])) (handed_of ru) ⟨v, H1, I1.tok _, ru, q⟩
end
end L2
/-! Vm: isinstance of a caught exception that may have fields. -/
namespace OwnN
open PySem PySem.W PySem.Spec PySem.Calls PyProof.Rows
section
variable {prog : Program} {w : World} {A : Around} {E : Value → Shared → Prop} {s : Shared} {K : Frag} {x D : Addr} {ox : Obj} {od : Option Obj}
theorem findObj_dataO {C : Addr} {od : Option Obj} {name : Str} {a g : Value} (hc : (clsIn K C).isSome = true) (ha : findIn K (.ref C) name = some (some a)) (hg : specialIn K a "__get__" = some (some g)) (ht : takesIn K a = some true) : findObj K C od name = some (.bind g a) := by
  obtain ⟨cd, hc⟩ := Option.isSome_iff_exists.mp hc
  unfold findObj
  rw [hc, Option.bind_some, ha, Option.bind_some]
  simp [hg, ht]
theorem kin_classO {Q : Option Value → Shared → Prop} (hga : findIn K (.ref D) "__getattribute__" = some (some (.builtin "BaseException.__getattribute__"))) (hgt : findIn K (.ref D) "__getattr__" = some none) (hsub : subIn K (.ref D) (.type "BaseException") = some true)
    (hdct : hasDictIn K D = true) (ha : findIn K (.ref D) "__class__" = some (some (.builtin "object.__class__")))
    (hn : specialIn K (.builtin "object.__class__") "__get__" = some (some (.builtin "getset_descriptor.__get__"))) (htk : takesIn K (.builtin "object.__class__") = some true) (hm : mroIn K D (.type "object") = some true)
    (X : K.In s.heap) (I : InstAt s.heap x ox D od) (h : Q (some (.ref D)) { s with toks := s.toks + 1 }) : wpAny (model prog w) A (getAttr? (.ref x) "__class__") Q E s := by
  have hf : findObj K D od "__class__" = some (.bind (.builtin "getset_descriptor.__get__") (.builtin "object.__class__")) := findObj_dataO (by obtain ⟨cd, hc, _⟩ := any_some hdct; rw [hc]; rfl) ha hn htk
  obtain ⟨hp, g, d, t, os⟩ := s
  have L0 := I.type (M := model prog w)
  have L1 := looks_findIn (M := model prog w) X hga
  have L2 := looks_findIn (M := model prog w) X hgt
  have L3 := looks_find (M := model prog w) X I hf
  have sub : Looks (model prog w) hp (isInstance (.ref x) (.type "BaseException")) true := L0.andThen (looks_subIn X hsub)
  have hx0 : (false && onTheHeap (Value.builtin "BaseException.__getattribute__")) = false := rfl
  have hx2 : (Value.builtin "BaseException.__getattribute__" == Value.builtin "object.__getattribute__") = false := by decide +kernel
  have hx1 : (onTheHeap (Value.ref D) && Value.builtin "BaseException.__getattribute__" == Value.builtin "object.__getattribute__") = false := by rw [hx2]; rfl
  unfold getAttr? getAttrBy? getAttrBy
  refine wpAny_bind (wpAny_mkText (wpAny_bind (wpAny_attempt (wpAny_holding (wpAny_bind (L0.at (wpAny_bind (L1.at ?_))))))))
  show wpAny _ _ (if (onTheHeap (Value.ref D) && Value.builtin "BaseException.__getattribute__" == Value.builtin "object.__getattribute__") = true then _ else _) _ _ _
  rw [hx1, if_neg Bool.false_ne_true]
  unfold getAttrByItsOwn hookBefore
  refine wpAny_bind ?_
  rw [if_pos (show onTheHeap (Value.ref D) = true from rfl)]
  refine L2.at ?_
  refine wpAny_bind (wpAny_attempt (wpAny_holding ?_))
  unfold callGetattribute
  rw [hx0, if_neg Bool.false_ne_true]
  unfold boundAndCalled
  rw [PySem.F.excAttr_ValueError.ga.bind (.ref x)]
  refine wpAny_bind (wpAny_pure ?_)
  show wpAny _ _ (call (.builtin "BaseException.__getattribute__") [.ref x, .str "__class__" t]) _ _ _
  refine wpAny_call (codeAny_call_builtin PySem.F.excAttr_ValueError.ga.plain PySem.F.entry_bexc_ga ?_)
  refine @check_slot (model prog w) _ _ ⟨hp, g, d, t + 1, os⟩ "BaseException.__getattribute__" "BaseException" "__getattribute__" (.ref x) [.str "__class__" t] [] _ (by decide +kernel) (by decide +kernel) sub (PySem.F.args_bexc_ga (.ref x) (.str "__class__" t)) ?_
  unfold Builtin.«object.__getattribute__»
  refine wpAny_bind (wpAny_of_eq (a := ((Value.ref x : Value), [Value.str "__class__" t])) (by first | rfl | (simp only [slotArgs]; rfl)) ?_)
  refine wpAny_bind (wpAny_pure (wpAny_bind (L0.at (wpAny_bind (L3.at ?_)))))
  show wpAny _ _ (holding [Value.builtin "object.__class__"] (call (.builtin "getset_descriptor.__get__") [.builtin "object.__class__", .ref x, .ref D]) >>= ret) _ _ _
  refine wpAny_bind (wpAny_holding (wpAny_call (class_get (s := ⟨hp, g, d, t + 1, os⟩) (ox := ox) (od := od) X I hm ?_)))
  refine wpAny_pure ?_
  show wpAny _ _ (handedOut (.ref D)) _ _ _
  rw [handedOut_of (v := .ref D) rfl]
  first
    | exact wpAny_pure (wpAny_pure h)
    | exact wpAny_pure h
    | exact wpAny_pure (wpAny_bind (wpAny_pure (wpAny_pure h)))
theorem kitx_excO (hga : findIn K (.ref D) "__getattribute__" = some (some (.builtin "BaseException.__getattribute__"))) (hgt : findIn K (.ref D) "__getattr__" = some none) (hsub : subIn K (.ref D) (.type "BaseException") = some true) (hdct : hasDictIn K D = true) (ha : findIn K (.ref D) "__class__" = some (some (.builtin "object.__class__")))
    (hn : specialIn K (.builtin "object.__class__") "__get__" = some (some (.builtin "getset_descriptor.__get__"))) (htk : takesIn K (.builtin "object.__class__") = some true) (hm : mroIn K D (.type "object") = some true) :
    KitX K (.ref x) (.ref D) (fun h => InstAt h x ox D od) where
  ty := fun _ _ _ I => I.type
  it := fun _ _ X _ => by
    obtain ⟨cdD, hcD, _⟩ := any_some hdct
    unfold clsIn at hcD
    split at hcD
    · rename_i c' d' cd' sl' ho
      intro A' Q' E' s' k q
      unfold isType loadHead
      exact wpAny_bind (wpAny_loadPart (k _ _ (X _ _ ho)) (wpAny_pure q))
    · cases hcD
  ne := fun h tp dd its n sl X htp => by
    obtain ⟨cdD, hcD, _⟩ := any_some hdct
    refine Bool.eq_false_iff.mpr fun q => ?_
    have e : D = tp := Value.ref.inj (beq_iff_eq.mp q)
    subst e
    unfold clsIn at hcD
    split at hcD
    · rename_i c' d' cd' sl' ho
      have z := (X _ _ ho).symm.trans htp
      cases z
    · cases hcD
  ca := fun X I k => kin_classO hga hgt hsub hdct ha hn htk hm X I k
end
end OwnN
namespace L2
open PySem PySem.Spec PyProof.Rows
/-- isinstance(e, c), e the exception that the suite holds, with fields or without -/
def rIsO (K : PySem.W.Frag) (D a : Addr) (dd : Option Addr) : List V → Hp → VK → Prop := fun xs H Q => (∀ d, dd = some d → ∃ vfs, H d = some (.xd vfs)) ∧ ∃ (c : V) (cv : Value) (b : Bool), xs = [.ref a, c] ∧ (∀ u, RelV c u → u = cv) ∧ PySem.W.kitOne K (.ref D) cv = some b ∧ Q (.bl b) H
theorem call_isO {X : Cx} {a D : Addr} {dd : Option Addr} {oe : Obj} {pn : List (Addr × Obj)} (C : ExcC X.K D) (hz : Zc (.ref D) dd oe) (hf : ∃ vs, oe.data = .fields vs) : CallR (X.suite a ((a, oe) :: pn)) (.builtin "isinstance") (rIsO X.K D a dd) := by
  intro pins s σ H xs us Q I r h
  obtain ⟨hd, c, cv, b, rfl, hcv, e, q⟩ := h
  cases r with
  | cons rx rr =>
    cases rr with
    | cons rt rr =>
      cases rr
      cases rx
      have ec := hcv _ rt
      subst ec
      obtain ⟨hget, _⟩ := I.pin (a, oe) (List.mem_append.mpr (.inl List.mem_cons_self))
      obtain ⟨vs, hv⟩ := hf
      have J : ∃ od, PySem.W.InstAt s.heap a oe D od := by
        obtain ⟨oc, od, oda, osl⟩ := oe
        obtain ⟨h1, h2⟩ := hz
        dsimp only at h1 h2 hv
        subst h1 h2 hv
        cases od with
        | none => exact ⟨none, hget, rfl, rfl, trivial⟩
        | some d =>
          obtain ⟨vfs, ed⟩ := hd d rfl
          have hx : ObjOk X.prog X.w H s.heap d (.xd vfs) := I.hok d _ ed
          obtain ⟨mA, hns, hr⟩ := hx
          obtain ⟨od, ho, hl⟩ := lookIn_ns hns
          exact ⟨some od, hget, rfl, rfl, ho⟩
      obtain ⟨od, J⟩ := J
      exact PySem.W.kia_one (OwnN.kitx_excO C.hg C.hk C.hs C.hd C.ha C.hn C.ht C.hm) I.kIn J e (fun z => nomatch z) fun tk => ⟨.bl b, H, I.kept (t' := tk) fun _ _ z => z, rfl, q⟩
end L2
/-! Vm: what is known of a class of exceptions. -/
namespace Vm
open PySem L2
open PyProof.Rows hiding St
/-- what the module says of the class number c of exceptions -/
structure ExS (X : Cx) (z : Z) (xfs : List (Nat × Str)) (xcs : List (List Nat × Str)) (c : Nat) (C : Addr) : Prop where
  ref : z.mg (z.gn c) = some (.ref C)
  xf : XfC X.K C
  no : ∀ p ∈ xfs, z.fn p.1 = p.2 ∧ PySem.W.findIn X.K (.ref C) p.2 = some none
  ec : ExcC X.K C
  cs : ∀ p ∈ xcs, ∃ Y, X.mg p.2 = some (.ref Y) ∧ PySem.W.kitOne X.K (.ref C) (.ref Y) = some (p.1.contains c) ∧ PySem.W.exmOne X.K (.ref C) (.ref Y) = some (p.1.contains c)
/-- an own class of exceptions with one field that can be raised -/
def RaiseOk (X : Cx) (z : Z) (c f : Nat) (y : Str) : Prop := z.gn c = y ∧ z.fn f = ("name" : Str) ∧ ∃ qn C fI k, PySem.OwnN.OwnTxt X.K X.mg y qn C fI ∧ Room k X.A
end Vm
/-! Vm: whether a written expression is a given one of the small language. -/
namespace Vm
open PySem L2
open PyProof.Rows hiding St
/-- what is known of a place in the program: the slots' names, the scope, whether it is a def's own body, the defs, the numbers and texts of the module, its classes -/
structure Mx where
  N : List Str
  sc : Scope
  top : Bool
  fns : List (Str × Nat)
  /-- the last parameter's default is None -/
  dfl : List Bool
  gi : List (Str × Int)
  gs : List (Str × Str)
  gl : List (Nat × Str)
  nb : List Str
  /-- classes that are made: number, its __init__'s number, name, how many parameters -/
  mks : List (Nat × Nat × Str × Nat)
  /-- methods: the class's number, the def's, the class's name, the method's, how many parameters -/
  mts : List (Nat × Nat × Str × Str × Nat)
  /-- fields: the class's number and name, the field's -/
  cfs : List (Nat × Str × Nat × Str)
  /-- no exception is handled here -/
  calm : Bool
  /-- the slot of the one that is handled; the fields of exceptions; their classes, with those below -/
  xi : Option Nat
  xfs : List (Nat × Str)
  xcs : List (List Nat × Str)
  /-- the classes that may be handled; those that are raised, with their field -/
  xl : List Nat
  xrs : List (Nat × Nat × Str)
def kd (m : Mx) (y : Str) : Option NameKind := m.sc.names.lookup y
def visB (m : Mx) (i : Nat) (y : Str) : Bool := decide (m.N[i]? = some y) && (match kd m y with
  | some .local => true
  | some .cell => true
  | some .free => true
  | _ => false) && !(y == ("__debug__" : Str)) && !(y == ("__classdict__" : Str))
def locB (m : Mx) (i : Nat) (y : Str) : Bool := decide (m.N[i]? = some y) && (match kd m y with
  | some .local => true
  | some .cell => m.top
  | _ => false)
def glbB (m : Mx) (y : Str) : Bool := (match kd m y with
  | some .globalImplicit => true
  | _ => false) && !(y == ("__debug__" : Str))
def bltB (m : Mx) (y : Str) : Bool := glbB m y && m.nb.contains y
/-- not a call: the base of a method's name -/
def noCall : Expr → Bool
  | .Call .. => false
  | _ => true
def noIf : Expr → Bool
  | .IfExp .. => false
  | _ => true
def noComp : Expr → Bool
  | .ListComp .. => false
  | .SetComp .. => false
  | .DictComp .. => false
  | _ => true
def noSet : Expr → Bool
  | .Set .. => false
  | _ => true
def noTup : Expr → Bool
  | .Tuple .. => false
  | _ => true
def noSlice : Expr → Bool
  | .Slice .. => false
  | _ => true
def ownOf (m : Mx) (vs : List Nat) : List (Str × Nat) := vs.map fun i => ((m.N[i]?).getD ⟨#[]⟩, i)
def blkM (m : Mx) (scope : Scope) : Mx := { m with sc := relS scope m.sc, top := false }
mutual
def mtG (m : Mx) : Tg → Expr → Bool
  | .nm i, x => match x with
    | .Name y _ => locB m i y
    | _ => false
  | .tup ts, x => match x with
    | .Tuple l _ _ => m.calm && mtGs m ts l
    | _ => false
def mtGs (m : Mx) : List Tg → List Expr → Bool
  | [], l => match l with
    | [] => true
    | _ => false
  | t :: ts, l => match l with
    | x :: l => noStar x && mtG m t x && mtGs m ts l
    | _ => false
end
/-- a dict in a slot, walked -/
def mtD (m : Mx) (k : DK) (i : Nat) (tg x : Expr) : Bool := match k with
  | .keys => match x with
    | .Name y _ => visB m i y
    | _ => false
  | .values => match x with
    | .Call (.Attribute (.Name y _) a ap) [] [] p => decide (a = ("values" : Str)) && (ap.endLine == p.line) && visB m i y
    | _ => false
  | .items => match tg with
    | .Tuple _ _ _ => match x with
      | .Call (.Attribute (.Name y _) a ap) [] [] p => decide (a = ("items" : Str)) && (ap.endLine == p.line) && visB m i y
      | _ => false
    | _ => false
mutual
def mtE (m : Mx) : E → Expr → Bool
  | .non, x => match x with
    | .Constant .none _ _ => true
    | _ => false
  | .bl b, x => match x with
    | .Constant (.bool c) _ _ => b == c
    | _ => false
  | .int i, x => match x with
    | .Constant (.int c) _ _ => decide (i = c)
    | _ => false
  | .str i, x => match x with
    | .Constant (.str c) _ _ => decide (i = c)
    | _ => false
  | .var i, x => match x with
    | .Name y _ => visB m i y
    | _ => false
  | .mv i, x => match x with
    | .Name y _ => visB m i y
    | _ => false
  | .pk i, x => match x with
    | .Name y _ => visB m i y
    | _ => false
  | .bw i, x => match x with
    | .Name y _ => visB m i y
    | _ => false
  | .gint y i, x => match x with
    | .Name y' _ => decide (y = y') && glbB m y && m.gi.contains (y, i)
    | _ => false
  | .gstr y i, x => match x with
    | .Name y' _ => decide (y = y') && glbB m y && m.gs.contains (y, i)
    | _ => false
  | .gl c, x => match x with
    | .Name y _ => glbB m y && m.gl.contains (c, y)
    | _ => false
  | .bin o a b, x => match x with
    | .BinOp a' o' b' _ => decide (o' = o.py) && mtE m a a' && mtE m b b'
    | _ => false
  | .neg a, x => match x with
    | .UnaryOp .USub a' _ => mtE m a a'
    | _ => false
  | .not a, x => match x with
    | .UnaryOp .Not a' _ => mtE m a a' && noIf a'
    | _ => false
  | .cmp o a b, x => match x with
    | .Compare a' [o'] [b'] _ => decide (o' = o.py) && noSet b' && mtE m a a' && mtE m b b'
    | _ => false
  | .isN a, x => match x with
    | .Compare a' [.Is] [.Constant .none _ _] _ => mtE m a a'
    | _ => false
  | .notN a, x => match x with
    | .Compare a' [.IsNot] [.Constant .none _ _] _ => mtE m a a'
    | _ => false
  | .isB a b, x => match x with
    | .Compare a' [.Is] [.Constant (.bool c) _ _] _ => (b == c) && mtE m a a'
    | _ => false
  | .notB a b, x => match x with
    | .Compare a' [.IsNot] [.Constant (.bool c) _ _] _ => (b == c) && mtE m a a'
    | _ => false
  | .chain o o2 a b c, x => match x with
    | .Compare a' [o', o2'] [b', c'] _ => decide (o' = o.py) && decide (o2' = o2.py) && noSet b' && noSet c' && mtE m a a' && mtE m b b' && mtE m c c'
    | _ => false
  | .and es, x => match x with
    | .BoolOp .And l _ => mtBs m es l
    | _ => false
  | .or es, x => match x with
    | .BoolOp .Or l _ => mtBs m es l
    | _ => false
  | .ite c a b, x => match x with
    | .IfExp c' a' b' _ => noIf c' && mtE m c c' && mtE m a a' && mtE m b b'
    | _ => false
  | .idx a b, x => match x with
    | .Subscript a' b' _ => noSlice b' && mtE m a a' && mtE m b b'
    | _ => false
  | .slc a lo hi, x => match x with
    | .Subscript a' (.Slice lo' hi' none _) _ => mtE m a a' && mtO m lo lo' && mtO m hi hi'
    | _ => false
  | .lst es, x => match x with
    | .List l _ => mtEs m es l
    | _ => false
  | .tup es, x => match x with
    | .Tuple l _ _ => mtEs m es l
    | _ => false
  | .call f es, x => match x with
    | .Call (.Name y _) l [] _ => m.calm && (decide (m.fns[f]? = some (y, esLen es)) && !(y == ⟨#[]⟩) && glbB m y && (mtAs m es l || ((m.dfl[f]?).getD false && !l.isEmpty && mtA1 m es l)))
    | _ => false
  | .mk c f es, x => match x with
    | .Call (.Name y _) (x1 :: l) [] _ => m.calm && (m.mks.contains (c, f, y, esLen es + 1) && glbB m y && mtEs m es (x1 :: l))
    | _ => false
  | .meth c f o es, x => match x with
    | .Call (.Attribute o' a ap) l [] p => m.calm && (m.mts.any (fun q => q.1 == c && q.2.1 == f && q.2.2.2.1 == a && q.2.2.2.2 == esLen es + 1) && noCall o' && (ap.endLine == p.line) && decide (l.length < 30) && mtE m o o' && mtEs m es l)
    | _ => false
  | .bcall b es, x => match x with
    | .Call (.Name y _) (x1 :: l) [] _ => m.calm && (decide (y = b.py) && bltB m y && mtEs m es (x1 :: l))
    | _ => false
  | .bmeth b o es, x => match b, es with
    | .join, .cons e es' => match x, es' with
      | .Call (.Attribute o' a ap) [e'] [] p, .nil => decide (a = ("join" : Str)) && (ap.endLine == p.line) && noCall o' && noStar e' && mtE m o o' && mtE m e e'
      | _, _ => false
    | .index, .cons e es' => match x with
      | .Call (.Attribute o' a ap) (x1 :: l) [] p => decide (a = ("index" : Str)) && (ap.endLine == p.line) && noCall o' && decide (l.length < 28) && mtE m o o' && mtEs m (.cons e es') (x1 :: l)
      | _ => false
    | .count, .cons e es' => match x with
      | .Call (.Attribute o' a ap) (x1 :: l) [] p => decide (a = ("count" : Str)) && (ap.endLine == p.line) && noCall o' && decide (l.length < 28) && mtE m o o' && mtEs m (.cons e es') (x1 :: l)
      | _ => false
    | .get2, .cons e es' => match es' with
      | .cons f es2 => match es2 with
        | .nil => match x with
          | .Call (.Attribute o' a ap) [e', f'] [] p => decide (a = ("get" : Str)) && (ap.endLine == p.line) && noCall o' && noStar e' && noStar f' && mtE m o o' && mtE m e e' && mtE m f f'
          | _ => false
        | _ => false
      | _ => false
    | .items, .nil => match x with
      | .Call (.Name y _) [.Call (.Attribute o' a ap) [] [] p] [] _ => m.calm && (decide (y = ("list" : Str)) && bltB m y && decide (a = ("items" : Str)) && (ap.endLine == p.line) && noCall o' && mtE m o o')
      | _ => false
    | .values, .nil => match x with
      | .Call (.Name y _) [.Call (.Attribute o' a ap) [] [] p] [] _ => m.calm && (decide (y = ("list" : Str)) && bltB m y && decide (a = ("values" : Str)) && (ap.endLine == p.line) && noCall o' && mtE m o o')
      | _ => false
    | .rev, .nil => match x with
      | .Call (.Name y _) [.Call (.Name y2 _) [o'] [] _] [] _ => m.calm && (decide (y = ("list" : Str)) && bltB m y && decide (y2 = ("reversed" : Str)) && bltB m y2 && noStar o' && mtE m o o')
      | _ => false
    | _, _ => false
  | .isi t a, x => match x with
    | .Call (.Name y _) [a', .Name y2 _] [] _ => decide (y = ("isinstance" : Str)) && bltB m y && decide (y2 = t.py) && bltB m y2 && noStar a' && mtE m a a'
    | _ => false
  | .fld c f o, x => match x with
    | .Attribute o' a _ => m.cfs.any (fun q => q.1 == c && q.2.2.1 == f && q.2.2.2 == a) && noCall o' && mtE m o o'
    | _ => false
  | .lc ee t it ec vs, x => match x with
    | .ListComp elt [⟨tg, iter, ifs, k⟩] scope _ => m.calm && (decide (k = 0) && noSet iter && (tgSlots t).all (fun i => vs.contains i) && blkC m.N m.sc scope (ownOf m vs) && mtI m it tg iter && mtG (blkM m scope) t tg && mtCs (blkM m scope) ec ifs && mtE (blkM m scope) ee elt)
    | _ => false
  | .lcd ee t k i ec vs, x => match x with
    | .ListComp elt [⟨tg, iter, ifs, kk⟩] scope _ => m.calm && (decide (kk = 0) && noSet iter && (tgSlots t).all (fun i => vs.contains i) && blkC m.N m.sc scope (ownOf m vs) && mtD m k i tg iter && mtG (blkM m scope) t tg && mtCs (blkM m scope) ec ifs && mtE (blkM m scope) ee elt)
    | _ => false
  | .dsp es, x => match es with
    | .nil => match x with
      | .Dict [] [] _ => true
      | _ => false
    | _ => false
  | .rep es k, x => match x with
    | .BinOp (.List l _) .Mult k' _ => mtEs m es l && mtE m k k'
    | _ => false
  | .look a, x => mtE m a x
  | .xf f, x => match x with
    | .Attribute (.Name y _) a _ => (match m.xi with
      | some i => visB m i y
      | none => false) && m.xfs.contains (f, a)
    | _ => false
  | .xis cs, x => match x with
    | .Call (.Name y _) [.Name y1 _, .Name y2 _] [] _ => decide (y = ("isinstance" : Str)) && bltB m y && (match m.xi with
      | some i => visB m i y1
      | none => false) && glbB m y2 && m.xcs.contains (cs, y2)
    | _ => false
  | .dead, _ => true
def mtO (m : Mx) : Eo → Option Expr → Bool
  | .none, x => match x with
    | none => true
    | _ => false
  | .some e, x => match x with
    | some x => mtE m e x
    | _ => false
def mtCs (m : Mx) : Eo → List Expr → Bool
  | .none, x => match x with
    | [] => true
    | _ => false
  | .some e, x => match x with
    | [x] => noIf x && mtE m e x
    | _ => false
def mtEs (m : Mx) : Es → List Expr → Bool
  | .nil, l => match l with
    | [] => true
    | _ => false
  | .cons e es, l => match l with
    | x :: l => noStar x && mtE m e x && mtEs m es l
    | _ => false
/-- handed over -/
def mtAs (m : Mx) : Es → List Expr → Bool
  | .nil, l => match l with
    | [] => true
    | _ => false
  | .cons e es, l => match l with
    | x :: l => noStar x && mtE m e x && mtAs m es l
    | _ => false
/-- the last one by default -/
def mtA1 (m : Mx) : Es → List Expr → Bool
  | .nil, _ => false
  | .cons e es, l => match es with
    | .nil => match l with
      | [] => match e with
        | .non => true
        | _ => false
      | _ => false
    | .cons e2 es2 => match l with
      | x :: l => noStar x && mtE m e x && mtA1 m (.cons e2 es2) l
      | _ => false
/-- under and, or -/
def mtBs (m : Mx) : Es → List Expr → Bool
  | .nil, _ => false
  | .cons e es, l => match es with
    | .nil => match l with
      | [x] => noIf x && mtE m e x
      | _ => false
    | .cons e2 es2 => match l with
      | x :: x2 :: l => noIf x && mtE m e x && mtBs m (.cons e2 es2) (x2 :: l)
      | _ => false
def mtI (m : Mx) : I → Expr → Expr → Bool
  | .seq e, _, x => mtE m e x
  | .rng1 e, _, x => match x with
    | .Call (.Name y _) [e'] [] _ => decide (y = ("range" : Str)) && bltB m y && noStar e' && mtE m e e'
    | _ => false
  | .rng2 e e2, _, x => match x with
    | .Call (.Name y _) [e', e2'] [] _ => decide (y = ("range" : Str)) && bltB m y && noStar e' && noStar e2' && mtE m e e' && mtE m e2 e2'
    | _ => false
  | .enum e, tg, x => match tg, x with
    | .Tuple _ _ _, .Call (.Name y _) [e'] [] _ => decide (y = ("enumerate" : Str)) && bltB m y && noStar e' && mtE m e e'
    | _, _ => false
  | .zip e e2, tg, x => match tg, x with
    | .Tuple _ _ _, .Call (.Name y _) [e', e2'] [] _ => decide (y = ("zip" : Str)) && bltB m y && noStar e' && noStar e2' && mtE m e e' && mtE m e2 e2'
    | _, _ => false
  | .rev e, _, x => match x with
    | .Call (.Name y _) [e'] [] _ => decide (y = ("reversed" : Str)) && bltB m y && noStar e' && mtE m e e'
    | _ => false
  | .items _, _, _ => false
  | .values _, _, _ => false
  | .keys _, _, _ => false
end
/-- the context is as the place says -/
structure MxOk (X : Cx) (z : Z) (Γ : Cf) (W : WX) (m : Mx) : Prop where
  N : X.N = m.N
  nd : m.N.Nodup
  sc : X.env.scope = m.sc
  fn : m.top = true → ∀ y, X.fn y = true
  calm : m.calm = true → X.calm = true
  xs : m.calm = true → z.xs = none
  xin : m.calm = true → m.xi = none
  xok : ∀ i, m.xi = some i → XOk X z Γ i m.xfs m.xcs
  K : X.K = z.K
  mg : X.mg = z.mg
  units : X.A.units + 64 < cLine
  tk : m.calm = true → Takes X W
  gi : ∀ p ∈ m.gi, ∃ t, X.mg p.1 = some (.int p.2 t)
  gs : ∀ p ∈ m.gs, ∃ t, X.mg p.1 = some (.str p.2 t)
  gl : ∀ p ∈ m.gl, z.gn p.1 = p.2 ∧ ∃ a, X.mg p.2 = some (.ref a)
  nb : ∀ y ∈ m.nb, X.mg y = none
  fns : ∀ f y n, m.fns[f]? = some (y, n) → (y == ⟨#[]⟩) = false → ∃ fd : Fd, fd.np = n ∧ CallOk X z (Γ.call f) fd y
  dfl : ∀ f y n, m.dfl[f]? = some true → m.fns[f]? = some (y, n) → (y == ⟨#[]⟩) = false → ∃ fd : Fd, fd.np = n ∧ CallOk1 X z (Γ.call f) fd y
  mks : ∀ q ∈ m.mks, z.gn q.1 = q.2.2.1 ∧ ∃ fd : Fd, fd.np = q.2.2.2 ∧ fd.io.contains 0 = true ∧ MakeOk X z (Γ.call q.2.1) fd q.2.2.1
  mts : ∀ q ∈ m.mts, z.gn q.1 = q.2.2.1 ∧ (∀ g, z.fn g ≠ q.2.2.2.1) ∧ ∃ fd : Fd, fd.np = q.2.2.2.2 ∧ MethOk X z (Γ.call q.2.1) fd q.2.2.1 q.2.2.2.1
  cfs : ∀ q ∈ m.cfs, z.gn q.1 = q.2.1 ∧ FldOk X z q.2.1 q.2.2.1 q.2.2.2
  stk : m.top = true → X.stack = X.env :: X.outer ∧ X.env.frame = some X.env.locals
  exs : ∀ c ∈ m.xl, ∃ C, ExS X z m.xfs m.xcs c C
  xcm : ∀ p ∈ m.xcs, ∃ Y, X.mg p.2 = some (.ref Y)
  xrs : ∀ q ∈ m.xrs, RaiseOk X z q.1 q.2.1 q.2.2
section
variable {X : Cx} {z : Z} {Γ : Cf} {W : WX} {m : Mx} {io : List Nat}
theorem MxOk.vis (M : MxOk X z Γ W m) {i : Nat} {y : Str} (h : visB m i y = true) : X.N[i]? = some y ∧ Vis X.env.scope y ∧ (y == ("__debug__" : Str)) = false ∧ (y == ("__classdict__" : Str)) = false := by
  unfold visB at h
  simp only [Bool.and_eq_true, decide_eq_true_eq, Bool.not_eq_true'] at h
  obtain ⟨⟨⟨h1, h2⟩, h3⟩, h4⟩ := h
  refine ⟨by rw [M.N]; exact h1, ?_, h3, h4⟩
  rw [M.sc]
  unfold kd at h2
  split at h2 <;> rename_i e
  · exact .inl e
  · exact .inr (.inl e)
  · exact .inr (.inr e)
  · cases h2
theorem MxOk.loc (M : MxOk X z Γ W m) {i : Nat} {y : Str} (h : locB m i y = true) : X.N.Nodup ∧ X.N[i]? = some y ∧ Loc X.env.scope y ∧ (X.fn y = true ∨ X.env.scope.names.lookup y = some .local) := by
  unfold locB at h
  simp only [Bool.and_eq_true, decide_eq_true_eq] at h
  obtain ⟨h1, h2⟩ := h
  refine ⟨by rw [M.N]; exact M.nd, by rw [M.N]; exact h1, ?_⟩
  rw [M.sc]
  unfold kd at h2
  split at h2 <;> rename_i e
  · exact ⟨.inl e, .inr e⟩
  · exact ⟨.inr e, .inl (M.fn h2 y)⟩
  · cases h2
theorem MxOk.glb (M : MxOk X z Γ W m) {y : Str} (h : glbB m y = true) : Gl X y ∧ (y == ("__debug__" : Str)) = false := by
  unfold glbB at h
  simp only [Bool.and_eq_true, Bool.not_eq_true'] at h
  obtain ⟨h1, h2⟩ := h
  refine ⟨?_, h2⟩
  unfold kd at h1
  split at h1 <;> rename_i e
  · show X.env.scope.names.lookup y = _
    rw [M.sc]
    exact e
  · cases h1
theorem MxOk.blt (M : MxOk X z Γ W m) {y : Str} (h : bltB m y = true) : Gl X y ∧ X.mg y = none := by
  unfold bltB at h
  simp only [Bool.and_eq_true, List.contains_iff_mem] at h
  exact ⟨(M.glb h.1).1, M.nb y h.2⟩
/-- in a comprehension's block -/
theorem MxOk.blk (M : MxOk X z Γ W m) (hx : m.xi = none) {s : Shared} {H : Hp} {scope : Scope} {C : Addr} {cl : List (Str × Addr)} {fp : List Addr} : MxOk (X.blk s H scope (compEnvC scope cl C X.env) fp) z Γ WF (blkM m scope) where
  N := M.N
  nd := M.nd
  sc := by
    show relS scope X.env.scope = relS scope m.sc
    rw [M.sc]
  fn := fun h => by cases h
  calm := M.calm
  xs := M.xs
  xin := M.xin
  xok := fun i e => by
    have e' : m.xi = some i := e
    rw [hx] at e'
    cases e'
  K := M.K
  mg := M.mg
  units := M.units
  tk := fun _ u s' h => by
    obtain ⟨a, B, sI, pins, σ, H, cls, d, _, _, _, _, _, _, _, _, w⟩ := h
    exact w.elim
  gi := M.gi
  gs := M.gs
  gl := M.gl
  nb := M.nb
  fns := fun f y n e e0 => by
    obtain ⟨fd, e1, c⟩ := M.fns f y n e e0
    exact ⟨fd, e1, ⟨c.ex⟩⟩
  dfl := fun f y n e1 e e0 => by
    obtain ⟨fd, e2, c⟩ := M.dfl f y n e1 e e0
    exact ⟨fd, e2, ⟨c.ex⟩⟩
  mks := fun q m => by
    obtain ⟨e1, fd, e2, e3, c⟩ := M.mks q m
    exact ⟨e1, fd, e2, e3, ⟨c.ex⟩⟩
  mts := fun q m => by
    obtain ⟨e1, e0, fd, e2, c⟩ := M.mts q m
    exact ⟨e1, e0, fd, e2, ⟨c.ex⟩⟩
  cfs := fun q m => by
    obtain ⟨e1, c⟩ := M.cfs q m
    exact ⟨e1, ⟨c.ex, c.nm⟩⟩
  stk := fun h => by cases h
  exs := fun c e => by
    obtain ⟨C, S⟩ := M.exs c e
    exact ⟨C, ⟨S.ref, S.xf, S.no, S.ec, S.cs⟩⟩
  xcm := M.xcm
  xrs := M.xrs
/-- a try's body -/
theorem MxOk.tr (M : MxOk X z Γ W m) (hx : m.calm = true) {W' : WX} {pn : List (Addr × Obj)} {xe : Value → Shared → Prop} (tk : Takes (X.tr pn xe) W') : MxOk (X.tr pn xe) z Γ W' m where
  N := M.N
  nd := M.nd
  sc := M.sc
  fn := M.fn
  calm := M.calm
  xs := M.xs
  xin := M.xin
  xok := fun i e => by
    have := M.xin hx
    rw [this] at e
    cases e
  K := M.K
  mg := M.mg
  units := M.units
  tk := fun _ => tk
  gi := M.gi
  gs := M.gs
  gl := M.gl
  nb := M.nb
  fns := fun f y n e e0 => by
    obtain ⟨fd, e1, c⟩ := M.fns f y n e e0
    exact ⟨fd, e1, ⟨c.ex⟩⟩
  dfl := fun f y n e1 e e0 => by
    obtain ⟨fd, e2, c⟩ := M.dfl f y n e1 e e0
    exact ⟨fd, e2, ⟨c.ex⟩⟩
  mks := fun q m => by
    obtain ⟨e1, fd, e2, e3, c⟩ := M.mks q m
    exact ⟨e1, fd, e2, e3, ⟨c.ex⟩⟩
  mts := fun q m => by
    obtain ⟨e1, e0, fd, e2, c⟩ := M.mts q m
    exact ⟨e1, e0, fd, e2, ⟨c.ex⟩⟩
  cfs := fun q m => by
    obtain ⟨e1, c⟩ := M.cfs q m
    exact ⟨e1, ⟨c.ex, c.nm⟩⟩
  stk := M.stk
  exs := fun c e => by
    obtain ⟨C, S⟩ := M.exs c e
    exact ⟨C, ⟨S.ref, S.xf, S.no, S.ec, S.cs⟩⟩
  xcm := M.xcm
  xrs := M.xrs
/-- a handler's suite -/
def suiM (m : Mx) (i : Option Nat) : Mx := { m with fns := [], dfl := [], mks := [], mts := [], calm := false, xi := i, xrs := [] }
theorem MxOk.sui (M : MxOk X z Γ W m) {s : Option Xs} {Γ' : Cf} {i : Option Nat} {a : Addr} {pn : List (Addr × Obj)} (hx : ∀ j, i = some j → XOk (X.suite a pn) { z with xs := s } Γ' j m.xfs m.xcs) : MxOk (X.suite a pn) { z with xs := s } Γ' WF (suiM m i) where
  N := M.N
  nd := M.nd
  sc := M.sc
  fn := M.fn
  calm := fun e => by cases e
  xs := fun e => by cases e
  xin := fun e => by cases e
  xok := hx
  K := M.K
  mg := M.mg
  units := M.units
  tk := fun e => by cases e
  gi := M.gi
  gs := M.gs
  gl := M.gl
  nb := M.nb
  fns := fun f y n e e0 => by cases e
  dfl := fun f y n e1 e e0 => by cases e
  mks := fun q m => nomatch m
  mts := fun q m => nomatch m
  cfs := fun q m => by
    obtain ⟨e1, c⟩ := M.cfs q m
    exact ⟨e1, ⟨c.ex, c.nm⟩⟩
  stk := M.stk
  exs := fun c e => by
    obtain ⟨C, S⟩ := M.exs c e
    exact ⟨C, ⟨S.ref, S.xf, S.no, S.ec, S.cs⟩⟩
  xcm := M.xcm
  xrs := fun q m => nomatch m
theorem few_of {l : List Expr} {env : Env} {p : Pos} (h : l.all noStar = true) (hl : l.length < 30) : methodCallForm (l.length + ([] : List Keyword).length) (backTo p (starEach l env)) (backToKw p (keywordEach [] env)) = true := by
  have q := stars_of (env := env) (pos := p) h
  unfold methodCallForm
  have e : (backTo p (starEach l env)).all (fun x => !x.1) = true := by
    rw [List.any_eq_false] at q
    exact List.all_eq_true.mpr fun x m => by
      have := q x m
      simpa using this
  rw [e]
  have k : (backToKw p (keywordEach [] env)) = [] := rfl
  rw [k]
  simpa using hl
theorem few_all {l : List Expr} {env : Env} {p : Pos} (h : l.all noStar = true) (hl : l.length < 29) : ((backTo p (starEach l env)).all (fun x => !x.1) && (backToKw p (keywordEach [] env)).all (fun x => x.1.isSome) && decide (l.length + ([] : List Keyword).length + (if ([] : List Keyword).isEmpty then 0 else 1) < 30)) = true := by
  have q := few_of (env := env) (p := p) h (by omega)
  unfold methodCallForm at q
  exact q
theorem attr_base {o : Expr} {a : Str} {env : Env} {w : Sem Value} (h : noCall o = true) : attributeBase o a env w = w := by
  cases o <;> first | rfl | contradiction
theorem folded {e : Expr} {env : Env} (h : noSet e = true) : ∀ x, foldedSetIterable e env x = pure x := fun x => by
  cases e <;> first | rfl | contradiction
theorem plain_ix {e : Expr} (h : noSlice e = true) : PlainIx e := fun o i => by
  cases e <;> first | rfl | contradiction
theorem no_marks {o : CmpOp} {e : Expr} (h : noSet e = true) : behindInMarks o e = false := by
  cases e <;> first | rfl | contradiction
theorem no_swap {e : Expr} {t : Option Expr} {l : Nat} {env : Env} (h : noComp e = true) : swapsWith e t l env = pure false := by
  cases e <;> first | rfl | contradiction
theorem no_stores {l : List Expr} {k : Nat} {p : Pos} {e : Expr} {env : Env} (h : noTup e = true) : swappedStores [.Tuple l k p] e env = pure none := by
  cases e <;> first | rfl | contradiction
theorem mtD_ok (M : MxOk X z Γ W m) {k : DK} {i : Nat} {tg x : Expr} (h : mtD m k i tg x = true) : PI X tg x (tDI k i) := by
  unfold mtD at h
  cases k with
  | keys =>
    dsimp only at h
    split at h
    · obtain ⟨h1, h2, h3, h4⟩ := M.vis h
      exact di_keys h1 h2 h3 h4
    · cases h
  | values =>
    dsimp only at h
    split at h
    · simp only [Bool.and_eq_true, decide_eq_true_eq] at h
      obtain ⟨⟨rfl, h5⟩, h6⟩ := h
      obtain ⟨h1, h2, h3, h4⟩ := M.vis h6
      exact di_values h1 h2 h3 h4 h5
    · cases h
  | items =>
    dsimp only at h
    split at h
    · split at h
      · simp only [Bool.and_eq_true, decide_eq_true_eq] at h
        obtain ⟨⟨rfl, h5⟩, h6⟩ := h
        obtain ⟨h1, h2, h3, h4⟩ := M.vis h6
        exact di_items h1 h2 h3 h4 h5
      · cases h
    · cases h
/-! ### targets -/
theorem assign_each {l : List Expr} {env : Env} : l.all noStar = true → (assignEach l env).length = l.length ∧ (assignEach l env).findIdx? (·.1) = none := by
  induction l with
  | nil => exact fun _ => ⟨rfl, rfl⟩
  | cons e l ih =>
    intro h
    simp only [List.all_cons, Bool.and_eq_true] at h
    obtain ⟨i1, i2⟩ := ih h.2
    have q : assignEach (e :: l) env = (false, assign e env) :: assignEach l env := by
      cases e <;> first | rfl | (cases h.1; done)
    rw [q]
    refine ⟨by rw [List.length_cons, List.length_cons, i1], ?_⟩
    rw [List.findIdx?_cons]
    simp [i2]
mutual
theorem mtG_ok (M : MxOk X z Γ W m) : ∀ (t : Tg) (x : Expr), mtG m t x = true → PG X x (gT z io t)
  | .nm i, x, h => by
    unfold mtG at h
    split at h
    · obtain ⟨h1, h2, h3, h4⟩ := M.loc h
      exact sg_nm h1 h2 h3 h4
    · cases h
  | .tup ts, x, h => by
    unfold mtG at h
    split at h
    · rename_i l kk pos
      rw [Bool.and_eq_true] at h
      obtain ⟨hcm, h⟩ := h
      obtain ⟨h1, h2, h3⟩ := mtGs_ok M ts l h
      obtain ⟨a1, a2⟩ := assign_each (env := X.env) h2
      exact sg_tup M.K (M.calm hcm) rfl h1 a1 a2 h3
    · cases h
theorem mtGs_ok (M : MxOk X z Γ W m) : ∀ (ts : List Tg) (l : List Expr), mtGs m ts l = true → ts.length = l.length ∧ l.all noStar = true ∧ PGs X l (gTs z io ts)
  | [], l, h => by
    unfold mtGs at h
    split at h
    · exact ⟨rfl, rfl, sg_nil⟩
    · cases h
  | t :: ts, l, h => by
    unfold mtGs at h
    split at h
    · rename_i x l
      simp only [Bool.and_eq_true] at h
      obtain ⟨⟨h1, h2⟩, h3⟩ := h
      obtain ⟨i1, i2, i3⟩ := mtGs_ok M ts l h3
      refine ⟨by rw [List.length_cons, List.length_cons, i1], by rw [List.all_cons, h1, i2]; rfl, sg_cons ?_ (mtG_ok M t x h2) i3⟩
      cases x <;> first | rfl | contradiction
    · cases h
end
end
end Vm
/-! Vm: what matches behaves so: expressions. -/
namespace Vm
open PySem L2
open PyProof.Rows hiding St
/-- as a value, and as a test -/
def Both (X : Cx) (z : Z) (W : WX) (x : Expr) (f : EnvD → R) : Prop := PE X x (tE z W f) ∧ (noIf x = true → PT X x (tT z W f))
section
variable {X : Cx} {z : Z} {Γ : Cf} {W : WX} {m : Mx}
theorem Both.of {x : Expr} {f : EnvD → R} (h : PE X x (tE z W f)) (he : ∀ whole, isTrue x X.env whole = (do let v ← whole; standAt x.pos; holding [v] (truthy v))) : Both X z W x f := ⟨h, fun _ => st_val h he⟩
theorem ev_and (es : Es) : evE Γ (.and es) = evAnd Γ es := funext fun env => by rw [evE]
theorem ev_or (es : Es) : evE Γ (.or es) = evOr Γ es := funext fun env => by rw [evE]
theorem no_last {o o2 : CmpOp} {a b : Expr} (h2 : noSet b = true) : lastMarks [o, o2] [a, b] = false := by
  show behindInMarks o2 b = false
  exact no_marks h2
mutual
theorem mtE_ok (e : E) {X : Cx} {W : WX} {m : Mx} (M : MxOk X z Γ W m) : ∀ (x : Expr), mtE m e x = true → Both X z W x (evE Γ e) := by
  intro x h
  cases e with
  | non => unfold mtE at h; split at h <;> first | cases h; done | exact .of se_non fun _ => rfl
  | bl b =>
    unfold mtE at h
    split at h
    · rw [beq_iff_eq.mp h]
      exact .of se_bl fun _ => rfl
    · cases h
  | int i =>
    unfold mtE at h
    split at h
    · rw [of_decide_eq_true h]
      exact .of se_int fun _ => rfl
    · cases h
  | str i =>
    unfold mtE at h
    split at h
    · rw [of_decide_eq_true h]
      exact .of se_str fun _ => rfl
    · cases h
  | var i =>
    unfold mtE at h
    split at h
    · obtain ⟨h1, h2, h3, h4⟩ := M.vis h
      exact .of (se_var h1 h2 h3 h4) fun _ => rfl
    · cases h
  | mv i =>
    unfold mtE at h
    split at h
    · obtain ⟨h1, h2, h3, h4⟩ := M.vis h
      exact .of (se_mv h1 h2 h3 h4) fun _ => rfl
    · cases h
  | pk i =>
    unfold mtE at h
    split at h
    · obtain ⟨h1, h2, h3, h4⟩ := M.vis h
      exact .of (se_pk h1 h2 h3 h4) fun _ => rfl
    · cases h
  | bw i =>
    unfold mtE at h
    split at h
    · obtain ⟨h1, h2, h3, h4⟩ := M.vis h
      exact .of (se_bw h1 h2 h3 h4) fun _ => rfl
    · cases h
  | gint y i =>
    unfold mtE at h
    split at h
    · simp only [Bool.and_eq_true, decide_eq_true_eq, List.contains_iff_mem] at h
      obtain ⟨⟨rfl, h2⟩, h3⟩ := h
      obtain ⟨g1, g2⟩ := M.glb h2
      obtain ⟨t, e⟩ := M.gi _ h3
      exact .of (se_gint g1 e g2) fun _ => rfl
    · cases h
  | gstr y i =>
    unfold mtE at h
    split at h
    · simp only [Bool.and_eq_true, decide_eq_true_eq, List.contains_iff_mem] at h
      obtain ⟨⟨rfl, h2⟩, h3⟩ := h
      obtain ⟨g1, g2⟩ := M.glb h2
      obtain ⟨t, e⟩ := M.gs _ h3
      exact .of (se_gstr g1 e g2) fun _ => rfl
    · cases h
  | gl c =>
    unfold mtE at h
    split at h
    · simp only [Bool.and_eq_true, List.contains_iff_mem] at h
      obtain ⟨g1, g2⟩ := M.glb h.1
      obtain ⟨e1, a, e2⟩ := M.gl _ h.2
      dsimp only at e1 e2
      subst e1
      exact .of (se_gl M.mg g1 e2 g2) fun _ => rfl
    · cases h
  | bin o a b =>
    unfold mtE at h
    split at h
    · simp only [Bool.and_eq_true, decide_eq_true_eq] at h
      obtain ⟨⟨rfl, h2⟩, h3⟩ := h
      exact .of (se_bin M.K (mtE_ok a M _ h2).1 (mtE_ok b M _ h3).1) fun _ => rfl
    · cases h
  | neg a =>
    unfold mtE at h
    split at h
    · exact .of (se_neg (mtE_ok a M _ h).1) fun _ => rfl
    · cases h
  | not a =>
    unfold mtE at h
    split at h
    · simp only [Bool.and_eq_true] at h
      have q := mtE_ok a M _ h.1
      exact ⟨se_not q.1, fun _ => st_not (q.2 h.2)⟩
    · cases h
  | cmp o a b =>
    unfold mtE at h
    split at h
    · simp only [Bool.and_eq_true, decide_eq_true_eq] at h
      obtain ⟨⟨⟨rfl, h2⟩, h3⟩, h4⟩ := h
      have qa := (mtE_ok a M _ h3).1
      have qb := (mtE_ok b M _ h4).1
      exact ⟨se_cmp M.K M.units (no_marks h2) qa qb, fun _ => st_cmp M.K M.units (no_marks h2) qa qb⟩
    · cases h
  | isN a =>
    unfold mtE at h
    split at h
    · have q := (mtE_ok a M _ h).1
      exact ⟨se_isN q, fun _ => st_isN q⟩
    · cases h
  | notN a =>
    unfold mtE at h
    split at h
    · have q := (mtE_ok a M _ h).1
      exact ⟨se_notN q, fun _ => st_notN q⟩
    · cases h
  | isB a b =>
    unfold mtE at h
    split at h
    · simp only [Bool.and_eq_true, beq_iff_eq] at h
      obtain ⟨rfl, h⟩ := h
      have q := (mtE_ok a M _ h).1
      exact ⟨se_isB q, fun _ => st_isB q⟩
    · cases h
  | notB a b =>
    unfold mtE at h
    split at h
    · simp only [Bool.and_eq_true, beq_iff_eq] at h
      obtain ⟨rfl, h⟩ := h
      have q := (mtE_ok a M _ h).1
      exact ⟨se_notB q, fun _ => st_notB q⟩
    · cases h
  | chain o o2 a b c =>
    unfold mtE at h
    split at h
    · simp only [Bool.and_eq_true, decide_eq_true_eq] at h
      obtain ⟨⟨⟨⟨⟨⟨rfl, rfl⟩, h2⟩, h3⟩, h4⟩, h5⟩, h6⟩ := h
      have qa := (mtE_ok a M _ h4).1
      have qb := (mtE_ok b M _ h5).1
      have qc := (mtE_ok c M _ h6).1
      exact ⟨se_chain M.K M.units (no_last h3) qa qb qc, fun _ => st_chain M.K M.units (no_last h3) qa qb qc⟩
    · cases h
  | and es =>
    unfold mtE at h
    split at h
    · rw [ev_and]
      have q := mtBs_ok es M _ h
      exact ⟨q.1 _, fun _ => (q.2.1 _).pt⟩
    · cases h
  | or es =>
    unfold mtE at h
    split at h
    · rw [ev_or]
      have q := mtBs_ok es M _ h
      exact ⟨q.2.2.1 _, fun _ => (q.2.2.2 _).pt⟩
    · cases h
  | ite c a b =>
    unfold mtE at h
    split at h
    · simp only [Bool.and_eq_true] at h
      obtain ⟨⟨⟨h1, h2⟩, h3⟩, h4⟩ := h
      exact ⟨se_ite ((mtE_ok c M _ h2).2 h1) (mtE_ok a M _ h3).1 (mtE_ok b M _ h4).1, fun q => by cases q⟩
    · cases h
  | idx a b =>
    unfold mtE at h
    split at h
    · simp only [Bool.and_eq_true] at h
      obtain ⟨⟨h1, h2⟩, h3⟩ := h
      exact .of (se_idx M.K M.units (plain_ix h1) (mtE_ok a M _ h2).1 (mtE_ok b M _ h3).1) fun _ => rfl
    · cases h
  | slc a lo hi =>
    unfold mtE at h
    split at h
    · simp only [Bool.and_eq_true] at h
      obtain ⟨⟨h1, h2⟩, h3⟩ := h
      exact .of (se_slc M.K (mtE_ok a M _ h1).1 (mtO_ok lo M _ h2) (mtO_ok hi M _ h3)) fun _ => rfl
    · cases h
  | lst es =>
    unfold mtE at h
    split at h
    · exact .of (se_lst (mtEs_ok es M _ h).2) fun _ => rfl
    · cases h
  | tup es =>
    unfold mtE at h
    split at h
    · exact .of (se_tup (mtEs_ok es M _ h).2) fun _ => rfl
    · cases h
  | call f es =>
    unfold mtE at h
    split at h
    · simp only [Bool.and_eq_true, Bool.or_eq_true, decide_eq_true_eq, Bool.not_eq_true'] at h
      obtain ⟨hcm, h⟩ := h
      obtain ⟨⟨⟨h1, h0⟩, h2⟩, h3⟩ := h
      obtain ⟨g1, g2⟩ := M.glb h2
      rename_i y p l pos
      rcases h3 with h3 | ⟨⟨h4, h6⟩, h3⟩
      · obtain ⟨fd, e1, C⟩ := M.fns f _ _ h1 h0
        obtain ⟨a1, a2⟩ := mtAs_ok es M _ h3
        cases l with
        | nil =>
          have e0 : es = .nil := by
            cases es with
            | nil => rfl
            | cons _ _ =>
              unfold mtAs at h3
              cases h3
          subst e0
          exact .of (se_call0 (M.xs hcm) C (M.tk hcm) g1 e1.symm g2) fun _ => rfl
        | cons x1 l =>
          have a1' := a1
          simp only [List.all_cons, Bool.and_eq_true] at a1'
          exact .of (se_call (M.xs hcm) C (M.tk hcm) g1 e1.symm a2 g2 (star_of a1'.1) (stars_of a1'.2)) fun _ => rfl
      · have h5 : m.dfl[f]? = some true := by
          cases q : m.dfl[f]? with
          | none => rw [q] at h4; cases h4
          | some b =>
            rw [q] at h4
            have : b = true := h4
            rw [this]
        obtain ⟨fd, e1, C⟩ := M.dfl f _ _ h5 h1 h0
        obtain ⟨es', e0, a1, a2⟩ := mtA1_ok es M _ h3
        subst e0
        cases l with
        | nil => cases h6
        | cons x1 l =>
          have a1' := a1
          simp only [List.all_cons, Bool.and_eq_true] at a1'
          exact .of (se_call1 (M.xs hcm) C (M.tk hcm) g1 e1.symm a2 g2 (star_of a1'.1) (stars_of a1'.2)) fun _ => rfl
    · cases h
  | mk c f es =>
    unfold mtE at h
    split at h
    · simp only [Bool.and_eq_true, List.contains_iff_mem] at h
      obtain ⟨hcm, h⟩ := h
      obtain ⟨⟨h1, h2⟩, h3⟩ := h
      obtain ⟨e1, fd, e2, e3, C⟩ := M.mks _ h1
      obtain ⟨g1, g2⟩ := M.glb h2
      obtain ⟨a1, a2⟩ := mtEs_ok es M _ h3
      simp only [List.all_cons, Bool.and_eq_true] at a1
      exact .of (se_mk (M.xs hcm) M.mg e1 C g1 e2 e3 a2 g2 (star_of a1.1) (stars_of a1.2)) fun _ => rfl
    · cases h
  | meth c f o es =>
    unfold mtE at h
    split at h
    · rename_i o' a ap l p
      simp only [Bool.and_eq_true, decide_eq_true_eq, List.any_eq_true, beq_iff_eq] at h
      obtain ⟨hcm, h⟩ := h
      obtain ⟨⟨⟨⟨⟨⟨⟨c', f', y, a', n⟩, hq, ⟨⟨k1, k2⟩, k3⟩, k4⟩, h2⟩, h3⟩, h4⟩, h5⟩, h6⟩ := h
      dsimp only at k1 k2 k3 k4
      subst k1 k2 k3 k4
      obtain ⟨e1, e0, fd, e2, C⟩ := M.mts _ hq
      obtain ⟨a1, a2⟩ := mtEs_ok es M _ h6
      cases l with
      | nil =>
        have en : es = .nil := by
          cases es with
          | nil => rfl
          | cons _ _ =>
            unfold mtEs at h6
            cases h6
        subst en
        exact .of (se_meth0 (M.xs hcm) M.mg e1 C e2 e0 (mtE_ok o M _ h5).1 (attr_base h2) (beq_iff_eq.mpr h3)) fun _ => rfl
      | cons x1 l =>
        have a1' := a1
        simp only [List.all_cons, Bool.and_eq_true] at a1'
        exact .of (se_meth (M.xs hcm) M.mg e1 C e2 e0 (mtE_ok o M _ h5).1 a2 (attr_base h2) (beq_iff_eq.mpr h3) (few_of a1 h4) (star_of a1'.1) (stars_of a1'.2)) fun _ => rfl
    · cases h
  | bcall b es =>
    unfold mtE at h
    split at h
    · simp only [Bool.and_eq_true, decide_eq_true_eq] at h
      obtain ⟨hcm, h⟩ := h
      obtain ⟨⟨rfl, h2⟩, h3⟩ := h
      obtain ⟨g1, g2⟩ := M.blt h2
      obtain ⟨a1, a2⟩ := mtEs_ok es M _ h3
      exact .of (se_bcall M.K (M.calm hcm) g1 g2 a1 a2) fun _ => rfl
    · cases h
  | bmeth b o es =>
    cases es with
    | nil =>
      cases b with
      | items =>
        unfold mtE at h
        dsimp only at h
        split at h
        · simp only [Bool.and_eq_true, decide_eq_true_eq] at h
          obtain ⟨hcm, h⟩ := h
          obtain ⟨⟨⟨⟨⟨rfl, h2⟩, rfl⟩, h4⟩, h5⟩, h6⟩ := h
          obtain ⟨g1, g2⟩ := M.blt h2
          exact .of (se_litems M.K (M.calm hcm) g1 g2 (attr_base h5) h4 (mtE_ok o M _ h6).1) fun _ => rfl
        · cases h
      | values =>
        unfold mtE at h
        dsimp only at h
        split at h
        · simp only [Bool.and_eq_true, decide_eq_true_eq] at h
          obtain ⟨hcm, h⟩ := h
          obtain ⟨⟨⟨⟨⟨rfl, h2⟩, rfl⟩, h4⟩, h5⟩, h6⟩ := h
          obtain ⟨g1, g2⟩ := M.blt h2
          exact .of (se_lvalues M.K (M.calm hcm) g1 g2 (attr_base h5) h4 (mtE_ok o M _ h6).1) fun _ => rfl
        · cases h
      | rev =>
        unfold mtE at h
        dsimp only at h
        split at h
        · simp only [Bool.and_eq_true, decide_eq_true_eq] at h
          obtain ⟨hcm, h⟩ := h
          obtain ⟨⟨⟨⟨⟨rfl, h2⟩, rfl⟩, h4⟩, h5⟩, h6⟩ := h
          obtain ⟨g1, g2⟩ := M.blt h2
          obtain ⟨g3, g4⟩ := M.blt h4
          exact .of (se_lrev M.K (M.calm hcm) g1 g2 g3 g4 (mtE_ok o M _ h6).1 (star_of h5)) fun _ => rfl
        · cases h
      | _ => unfold mtE at h; cases h
    | cons ee es' =>
      cases b with
      | join =>
        unfold mtE at h
        dsimp only at h
        split at h
        · simp only [Bool.and_eq_true, decide_eq_true_eq] at h
          obtain ⟨⟨⟨⟨⟨rfl, h2⟩, h3⟩, h4⟩, h5⟩, h6⟩ := h
          exact .of (se_join M.K (attr_base h3) h2 h4 (mtE_ok o M _ h5).1 (mtE_ok ee M _ h6).1) fun _ => rfl
        · cases h
      | index =>
        unfold mtE at h
        dsimp only at h
        split at h
        · simp only [Bool.and_eq_true, decide_eq_true_eq] at h
          obtain ⟨⟨⟨⟨⟨rfl, h2⟩, h3⟩, h4⟩, h5⟩, h6⟩ := h
          obtain ⟨b1, b2⟩ := mtEs_ok (.cons ee es') M _ h6
          exact .of (se_index M.K (attr_base h3) h2 b1 (few_all b1 (by rw [List.length_cons]; omega)) (mtE_ok o M _ h5).1 b2) fun _ => rfl
        · cases h
      | count =>
        unfold mtE at h
        dsimp only at h
        split at h
        · simp only [Bool.and_eq_true, decide_eq_true_eq] at h
          obtain ⟨⟨⟨⟨⟨rfl, h2⟩, h3⟩, h4⟩, h5⟩, h6⟩ := h
          obtain ⟨b1, b2⟩ := mtEs_ok (.cons ee es') M _ h6
          exact .of (se_count M.K (attr_base h3) h2 b1 (few_all b1 (by rw [List.length_cons]; omega)) (mtE_ok o M _ h5).1 b2) fun _ => rfl
        · cases h
      | get2 =>
        cases es' with
        | nil => unfold mtE at h; cases h
        | cons ef es2 =>
          cases es2 with
          | cons _ _ => unfold mtE at h; cases h
          | nil =>
            unfold mtE at h
            dsimp only at h
            split at h
            · simp only [Bool.and_eq_true, decide_eq_true_eq] at h
              obtain ⟨⟨⟨⟨⟨⟨⟨rfl, h2⟩, h3⟩, h4⟩, h5⟩, h6⟩, h7⟩, h8⟩ := h
              exact .of (se_get2 M.units (attr_base h3) h2 h4 h5 (mtE_ok o M _ h6).1 (mtE_ok ee M _ h7).1 (mtE_ok ef M _ h8).1) fun _ => rfl
            · cases h
      | _ => unfold mtE at h; cases h
  | isi t a =>
    unfold mtE at h
    split at h
    · simp only [Bool.and_eq_true, decide_eq_true_eq] at h
      obtain ⟨⟨⟨⟨⟨rfl, h2⟩, rfl⟩, h4⟩, h5⟩, h6⟩ := h
      obtain ⟨g1, g2⟩ := M.blt h2
      obtain ⟨g3, g4⟩ := M.blt h4
      exact .of (se_isi M.K g1 g2 g3 g4 h5 (mtE_ok a M _ h6).1) fun _ => rfl
    · cases h
  | fld c f o =>
    unfold mtE at h
    split at h
    · simp only [Bool.and_eq_true, List.any_eq_true, beq_iff_eq] at h
      obtain ⟨⟨⟨⟨c', y, f', a'⟩, hq, ⟨k1, k2⟩, k3⟩, h2⟩, h3⟩ := h
      dsimp only at k1 k2 k3
      subst k1 k2 k3
      obtain ⟨e1, C⟩ := M.cfs _ hq
      exact .of (se_fld M.mg e1 C (attr_base h2) (mtE_ok o M _ h3).1) fun _ => rfl
    · cases h
  | lc ee t it ec vs =>
    unfold mtE at h
    split at h
    · rename_i elt tg iter ifs k scope pos
      simp only [Bool.and_eq_true, decide_eq_true_eq] at h
      obtain ⟨hcm, h⟩ := h
      obtain ⟨⟨⟨⟨⟨⟨⟨rfl, h2⟩, h3⟩, h4⟩, h5⟩, h6⟩, h7⟩, h8⟩ := h
      have ev : (ownOf m vs).map (·.2) = vs := by
        unfold ownOf
        rw [List.map_map]
        exact List.map_id _
      have ok : BlkOk X.N X.env.scope scope (ownOf m vs) := by
        rw [M.N, M.sc]
        exact blkOk_by h4
      have q := se_lc (pos := pos) (W := W) (ee := ee) (t := t) (it := it) (ec := ec) (M.xs hcm) (M.calm hcm) (by rw [M.N]; exact M.nd) (by
        rw [ev]
        intro i hi
        have q := List.all_eq_true.mp h3 i hi
        simpa using q) (mtI_ok it M _ _ h5) ok (fun s H C cl fp => mtG_ok (M.blk (M.xin hcm) (s := s) (H := H) (scope := scope) (C := C) (cl := cl) (fp := fp)) t _ h6) (fun s H C cl fp => mtCs_ok ec (M.blk (M.xin hcm) (s := s) (H := H) (scope := scope) (C := C) (cl := cl) (fp := fp)) _ h7) (fun s H C cl fp => (mtE_ok ee (M.blk (M.xin hcm) (s := s) (H := H) (scope := scope) (C := C) (cl := cl) (fp := fp)) _ h8).1) (folded h2)
      rw [ev] at q
      exact .of q fun _ => rfl
    · cases h
  | lcd ee t k i ec vs =>
    unfold mtE at h
    split at h
    · rename_i elt tg iter ifs kk scope pos
      simp only [Bool.and_eq_true, decide_eq_true_eq] at h
      obtain ⟨hcm, h⟩ := h
      obtain ⟨⟨⟨⟨⟨⟨⟨rfl, h2⟩, h3⟩, h4⟩, h5⟩, h6⟩, h7⟩, h8⟩ := h
      have ev : (ownOf m vs).map (·.2) = vs := by
        unfold ownOf
        rw [List.map_map]
        exact List.map_id _
      have ok : BlkOk X.N X.env.scope scope (ownOf m vs) := by
        rw [M.N, M.sc]
        exact blkOk_by h4
      have q := se_lcd (pos := pos) (W := W) (ee := ee) (t := t) (k := k) (i := i) (ec := ec) (M.xs hcm) (M.calm hcm) (by rw [M.N]; exact M.nd) (by
        rw [ev]
        intro i hi
        have q := List.all_eq_true.mp h3 i hi
        simpa using q) (mtD_ok M h5) ok (fun s H C cl fp => mtG_ok (M.blk (M.xin hcm) (s := s) (H := H) (scope := scope) (C := C) (cl := cl) (fp := fp)) t _ h6) (fun s H C cl fp => mtCs_ok ec (M.blk (M.xin hcm) (s := s) (H := H) (scope := scope) (C := C) (cl := cl) (fp := fp)) _ h7) (fun s H C cl fp => (mtE_ok ee (M.blk (M.xin hcm) (s := s) (H := H) (scope := scope) (C := C) (cl := cl) (fp := fp)) _ h8).1) (folded h2)
      rw [ev] at q
      exact .of q fun _ => rfl
    · cases h
  | dsp es =>
    cases es with
    | cons _ _ => unfold mtE at h; cases h
    | nil =>
      unfold mtE at h
      dsimp only at h
      split at h
      · exact .of se_dsp0 fun _ => rfl
      · cases h
  | rep es k =>
    unfold mtE at h
    split at h
    · simp only [Bool.and_eq_true] at h
      exact .of (se_rep (se_lst (mtEs_ok es M _ h.1).2) (mtE_ok k M _ h.2).1) fun _ => rfl
    · cases h
  | xf f =>
    unfold mtE at h
    split at h
    · simp only [Bool.and_eq_true, List.contains_iff_mem] at h
      obtain ⟨h1, h2⟩ := h
      cases c : m.xi with
      | none => rw [c] at h1; cases h1
      | some i =>
        rw [c] at h1
        obtain ⟨g1, g2, g3, g4⟩ := M.vis h1
        exact .of (se_xf (M.xok i c) h2 g1 g2 g3 g4) fun _ => rfl
    · cases h
  | xis cs =>
    unfold mtE at h
    split at h
    · simp only [Bool.and_eq_true, List.contains_iff_mem, decide_eq_true_eq] at h
      obtain ⟨⟨⟨⟨rfl, h2⟩, h3⟩, h4⟩, h5⟩ := h
      cases c : m.xi with
      | none => rw [c] at h3; cases h3
      | some i =>
        rw [c] at h3
        obtain ⟨g1, g2, g3, g4⟩ := M.vis h3
        obtain ⟨b1, b2⟩ := M.blt h2
        obtain ⟨d1, d2⟩ := M.glb h4
        exact .of (se_xis (M.xok i c) h5 g1 g2 g3 g4 b1 b2 d1 d2) fun _ => rfl
    · cases h
  | dead => exact ⟨⟨fun pins s σ H Q I ⟨x, G, env, ps, ez, r, q⟩ => by unfold evE at q; exact q.elim⟩, fun _ => ⟨fun pins s σ H Q I ⟨x, G, env, ps, ez, r, q⟩ => by unfold evE at q; exact q.elim⟩⟩
  | look a =>
    unfold mtE at h
    have q := mtE_ok a M _ h
    exact ⟨se_look q.1, fun n => st_look (q.2 n)⟩
theorem mtO_ok (e : Eo) {X : Cx} {W : WX} {m : Mx} (M : MxOk X z Γ W m) : ∀ (x : Option Expr), mtO m e x = true → PO X x (tOI z W (evO Γ e)) := by
  intro x h
  cases e with
  | none => unfold mtO at h; split at h <;> first | cases h; done | exact so_none
  | some e =>
    unfold mtO at h
    split at h
    · exact so_some (mtE_ok e M _ h).1
    · cases h
theorem mtCs_ok (e : Eo) {X : Cx} {m : Mx} (M : MxOk X z Γ WF m) : ∀ (x : List Expr), mtCs m e x = true → PTs X x (tCo z (evC Γ e)) := by
  intro x h
  cases e with
  | none => unfold mtCs at h; split at h <;> first | cases h; done | exact sc_none
  | some e =>
    unfold mtCs at h
    split at h
    · simp only [Bool.and_eq_true] at h
      exact sc_some ((mtE_ok e M _ h.2).2 h.1)
    · cases h
theorem mtEs_ok (e : Es) {X : Cx} {W : WX} {m : Mx} (M : MxOk X z Γ W m) : ∀ (x : List Expr), mtEs m e x = true → x.all noStar = true ∧ PA X x (tEs z W (evEs Γ e)) := by
  intro x h
  cases e with
  | nil => unfold mtEs at h; split at h <;> first | cases h; done | exact ⟨rfl, sa_nil⟩
  | cons e es =>
    unfold mtEs at h
    split at h
    · simp only [Bool.and_eq_true] at h
      obtain ⟨i1, i2⟩ := mtEs_ok es M _ h.2
      exact ⟨by rw [List.all_cons, h.1.1, i1]; rfl, sa_cons (star_of h.1.1) (mtE_ok e M _ h.1.2).1 i2⟩
    · cases h
theorem mtAs_ok (e : Es) {X : Cx} {W : WX} {m : Mx} (M : MxOk X z Γ W m) : ∀ (x : List Expr), mtAs m e x = true → x.all noStar = true ∧ PA X x (tAs z W Γ e) := by
  intro x h
  cases e with
  | nil => unfold mtAs at h; split at h <;> first | cases h; done | exact ⟨rfl, sA_nil⟩
  | cons e es =>
    unfold mtAs at h
    split at h
    · simp only [Bool.and_eq_true] at h
      obtain ⟨i1, i2⟩ := mtAs_ok es M _ h.2
      refine ⟨by rw [List.all_cons, h.1.1, i1]; rfl, ?_⟩
      cases c : bwOf e with
      | none => exact sA_cons (star_of h.1.1) c (mtE_ok e M _ h.1.2).1 i2
      | some i =>
        cases e with
        | bw j =>
          have h2 := h.1.2
          unfold mtE at h2
          split at h2
          · obtain ⟨h1, h2, h3, h4⟩ := M.vis h2
            exact sA_bw h1 h2 h3 h4 (star_of h.1.1) i2
          · cases h2
        | _ => cases c
    · cases h
theorem mtA1_ok (e : Es) {X : Cx} {W : WX} {m : Mx} (M : MxOk X z Γ W m) : ∀ (x : List Expr), mtA1 m e x = true → ∃ es', e = snocN es' ∧ x.all noStar = true ∧ PA X x (tAs z W Γ es') := by
  intro x h
  cases e with
  | nil => unfold mtA1 at h; cases h
  | cons e es =>
    cases es with
    | nil =>
      unfold mtA1 at h
      dsimp only at h
      split at h
      · split at h
        · exact ⟨.nil, rfl, rfl, sA_nil⟩
        · cases h
      · cases h
    | cons e2 es2 =>
      unfold mtA1 at h
      dsimp only at h
      split at h
      · simp only [Bool.and_eq_true] at h
        obtain ⟨es', e0, i1, i2⟩ := mtA1_ok (.cons e2 es2) M _ h.2
        refine ⟨.cons e es', by rw [e0]; rfl, by rw [List.all_cons, h.1.1, i1]; rfl, ?_⟩
        cases c : bwOf e with
        | none => exact sA_cons (star_of h.1.1) c (mtE_ok e M _ h.1.2).1 i2
        | some i =>
          cases e with
          | bw j =>
            have h2 := h.1.2
            unfold mtE at h2
            split at h2
            · obtain ⟨h1, h2, h3, h4⟩ := M.vis h2
              exact sA_bw h1 h2 h3 h4 (star_of h.1.1) i2
            · cases h2
          | _ => cases c
      · cases h
theorem mtBs_ok (e : Es) {X : Cx} {W : WX} {m : Mx} (M : MxOk X z Γ W m) : ∀ (x : List Expr), mtBs m e x = true →
    (∀ pos, PE X (.BoolOp .And x pos) (tE z W (evAnd Γ e))) ∧ (∀ pos, PW X (.BoolOp .And x pos) (tT z W (evAnd Γ e))) ∧ (∀ pos, PE X (.BoolOp .Or x pos) (tE z W (evOr Γ e))) ∧ (∀ pos, PW X (.BoolOp .Or x pos) (tT z W (evOr Γ e))) := by
  intro x h
  cases e with
  | nil => unfold mtBs at h; cases h
  | cons e es =>
    cases es with
    | nil =>
      unfold mtBs at h
      dsimp only at h
      split at h
      · simp only [Bool.and_eq_true] at h
        have q := mtE_ok e M _ h.2
        exact ⟨fun _ => se_and1 q.1, fun _ => sw_and1 (q.2 h.1), fun _ => se_or1 q.1, fun _ => sw_or1 (q.2 h.1)⟩
      · cases h
    | cons e2 es2 =>
      unfold mtBs at h
      dsimp only at h
      split at h
      · simp only [Bool.and_eq_true] at h
        have q := mtE_ok e M _ h.1.2
        obtain ⟨i1, i2, i3, i4⟩ := mtBs_ok (.cons e2 es2) M _ h.2
        exact ⟨fun _ => se_and q.1 (i1 _), fun _ => sw_and (q.2 h.1.1) (i2 _), fun _ => se_or q.1 (i3 _), fun _ => sw_or (q.2 h.1.1) (i4 _)⟩
      · cases h
theorem mtI_ok (i : I) {X : Cx} {W : WX} {m : Mx} (M : MxOk X z Γ W m) : ∀ (tg x : Expr), mtI m i tg x = true → PI X tg x (tI z W (evI Γ i)) := by
  intro tg x h
  cases i with
  | seq e =>
    unfold mtI at h
    exact si_seq M.K (mtE_ok e M _ h).1
  | rng1 e =>
    unfold mtI at h
    split at h
    · simp only [Bool.and_eq_true, decide_eq_true_eq] at h
      obtain ⟨⟨⟨rfl, h2⟩, h3⟩, h4⟩ := h
      obtain ⟨g1, g2⟩ := M.blt h2
      exact si_rng1 g1 g2 h3 (mtE_ok e M _ h4).1
    · cases h
  | rng2 e e2 =>
    unfold mtI at h
    split at h
    · simp only [Bool.and_eq_true, decide_eq_true_eq] at h
      obtain ⟨⟨⟨⟨⟨rfl, h2⟩, h3⟩, h4⟩, h5⟩, h6⟩ := h
      obtain ⟨g1, g2⟩ := M.blt h2
      exact si_rng2 g1 g2 h3 h4 (mtE_ok e M _ h5).1 (mtE_ok e2 M _ h6).1
    · cases h
  | enum e =>
    unfold mtI at h
    split at h
    · simp only [Bool.and_eq_true, decide_eq_true_eq] at h
      obtain ⟨⟨⟨rfl, h2⟩, h3⟩, h4⟩ := h
      obtain ⟨g1, g2⟩ := M.blt h2
      exact si_enum M.K g1 g2 h3 (mtE_ok e M _ h4).1
    · cases h
  | zip e e2 =>
    unfold mtI at h
    split at h
    · simp only [Bool.and_eq_true, decide_eq_true_eq] at h
      obtain ⟨⟨⟨⟨⟨rfl, h2⟩, h3⟩, h4⟩, h5⟩, h6⟩ := h
      obtain ⟨g1, g2⟩ := M.blt h2
      exact si_zip M.K g1 g2 h3 h4 (mtE_ok e M _ h5).1 (mtE_ok e2 M _ h6).1
    · cases h
  | rev e =>
    unfold mtI at h
    split at h
    · simp only [Bool.and_eq_true, decide_eq_true_eq] at h
      obtain ⟨⟨⟨rfl, h2⟩, h3⟩, h4⟩ := h
      obtain ⟨g1, g2⟩ := M.blt h2
      exact si_rev M.K g1 g2 h3 (mtE_ok e M _ h4).1
    · cases h
  | items e => unfold mtI at h; cases h
  | values e => unfold mtI at h; cases h
  | keys e => unfold mtI at h; cases h
end
end
end Vm
/-! Vm: try. -/
namespace Vm
open PySem L2
open PyProof.Rows hiding St
/-! ### data do not depend on the exception that is handled -/
def Z.zx (z : Z) (s : Option Xs) : Z := { z with xs := s }
section
variable {z : Z} {s : Option Xs} {G H : Hp}
mutual
theorem T.zx : ∀ {v : V} {d : D} {A : List Addr}, T z G H v d A → T (z.zx s) G H v d A
  | _, _, _, .non => .non
  | _, _, _, .bl b => .bl b
  | _, _, _, .int i => .int i
  | _, _, _, .str x => .str x
  | _, _, _, .lst h t => .lst h (Ts.zx t)
  | _, _, _, .lstF h t => .lstF h (Ts.zx t)
  | _, _, _, .tup h t => .tup h (Ts.zx t)
  | _, _, _, .dic h e t => .dic h e (Ts.zx t)
  | _, _, _, .dicF h e t => .dicF h e (Ts.zx t)
  | _, _, _, .ins h e k t => .ins h e k (Ts.zx t)
  | _, _, _, .insF h e k t => .insF h e k (Ts.zx t)
  | _, _, _, .gl e => .gl e
theorem Ts.zx : ∀ {vs : List V} {ds : List D} {A : List Addr}, Ts z G H vs ds A → Ts (z.zx s) G H vs ds A
  | _, _, _, .nil => .nil
  | _, _, _, .cons h t => .cons (T.zx h) (Ts.zx t)
end
theorem TO.zx {v : Option V} {d : SD} {A : List Addr} (h : TO z G H v d A) : TO (z.zx s) G H v d A := by
  cases h with
  | none => exact .none
  | some t f => exact .some t.zx f
theorem TOs.zx : ∀ {vs : St} {ds : EnvD} {A : List Addr}, TOs z G H vs ds A → TOs (z.zx s) G H vs ds A
  | _, _, _, .nil => .nil
  | _, _, _, .cons h t => .cons h.zx (TOs.zx t)
end
section
variable {x : Fx} {G G' : Hp} {σ σ' : St} {H H' : Hp} {env : EnvD} {ps : List (V × O)}
/-- in an except suite -/
def Fx.sui (x : Fx) (G : Hp) (q : Xs) : Fx := ⟨x.z.zx (some q), x.F, G, (q.i, .ref q.a) :: x.pin⟩
theorem Rel.sui (r : Rel x G σ H env []) (q : Xs) (hl : q.i < env.length) (np : ∀ p ∈ x.pin, p.1 ≠ q.i) (hg : Same q.g G) (hd : ∀ d, q.d = some d → G d = some (.xd q.vfs)) : Rel (x.sui G q) G (σ.set q.i (some (.ref q.a))) H (env.set q.i none) [] := by
  have r1 := r.forget (i := q.i)
  obtain ⟨A, C, t, s, n, o⟩ := r1.ex
  cases s
  have tl := t.len
  rw [List.length_set] at tl
  refine .intro (x := x.sui G q) (A := A) (C := []) ((t.any q.i fun d e => ?_).zx) .nil n o r1.gs r1.fs (fun _ _ e => e) (fun _ _ _ e => e) (fun p m => ?_) (fun q' e => ?_)
  · rw [List.getElem?_set_self hl] at e
    cases e
    rfl
  · rcases List.mem_cons.mp m with m | m
    · subst m
      exact List.getElem?_set_self (by omega)
    · rw [List.getElem?_set_ne (np p m).symm]
      exact r1.pn p m
  · have e' : some q = some q' := e
    cases e'
    exact ⟨List.mem_cons_self .., hg, fun d ed => hd d ed⟩
theorem Rel.unsui (r : Rel x G σ H env ps) (hz : x.z.xs = none) {q : Xs} (np : ∀ p ∈ x.pin, p.1 ≠ q.i) {G2 : Hp} {σ2 : St} {H2 : Hp} {env2 : EnvD} (s : Same G G2) (r2 : Rel (x.sui G q) G2 σ2 H2 env2 []) : Rel x G2 (σ2.set q.i none) H2 (env2.set q.i none) [] := by
  have r1 := r2.forget (i := q.i)
  obtain ⟨A, C, t, k, n, o⟩ := r1.ex
  cases k
  have t' : TOs x.z G2 H2 σ2 (env2.set q.i none) A := by
    have e : (x.sui G q).z.zx x.z.xs = x.z := rfl
    rw [← e]
    exact TOs.zx t
  refine .intro (x := x) (A := A) (C := []) (t'.any q.i fun d e => ?_) .nil n o r1.gs r1.fs (fun a u e => s a u (r.g0 a u e)) (fun a u e e0 => r1.gf a u e (r.gf a u e e0)) (fun p m => ?_) (Xz.no hz)
  · rw [List.getElem?_set] at e
    split at e
    · split at e
      · cases e; rfl
      · cases e
    · rename_i h
      exact absurd rfl h
  · rw [List.getElem?_set_ne (np p m).symm]
    exact r1.pn p (List.mem_cons_of_mem _ m)
end
theorem xok_sui {X : Cx} {z : Z} {Γ : Cf} {xfs : List (Nat × Str)} {xcs : List (List Nat × Str)} {q : Xs} {C : Addr} {c : Nat} {fs : List (Nat × D)} {oe : Obj} {pn : List (Addr × Obj)} (S : ExS X z xfs xcs c C) (hq : q.cls = .ref C) (hz : Zc q.cls q.d oe) (hf : ∃ vs, oe.data = .fields vs) (hx : Γ.ex = some (c, fs))
    (hfs : ∀ f d, fldD fs f = some d → (q.d).isSome = true ∧ ∃ v, q.vfs.lookup (z.fn f) = some v ∧ ∀ H : Hp, T z q.g H v d []) : XOk (X.suite q.a ((q.a, oe) :: pn)) (z.zx (some q)) Γ q.i xfs xcs := by
  refine ⟨q, c, fs, rfl, rfl, hx, fun p m => ⟨(S.no p m).1, fun y p1 p2 he => ?_⟩, fun f d e => ?_, fun p m => ?_⟩
  · rw [hq] at hz
    refine (pe_xf S.xf (S.no p m).2 hz hf he rfl).to fun σ H Q h => ?_
    obtain ⟨h1, ⟨d, h2, h3⟩, v, h4, h5⟩ := h
    exact ⟨_, h1, rfl, rfl, d, _, v, h2, h3, h4, h5⟩
  · obtain ⟨h1, v, h2, h3⟩ := hfs f d e
    exact ⟨h1, v, h2, fun H => (h3 H).zx⟩
  · obtain ⟨Y, g1, g2, g3⟩ := S.cs p m
    refine ⟨Y, g1, fun pins s σ H xs us Q I r h => ?_⟩
    rw [hq] at hz
    obtain ⟨h1, h2, h3⟩ := h
    exact call_isO S.ec hz hf pins s σ H xs us Q I r ⟨h1, .ref Y, .ref Y, _, h2, fun u ru => by cases ru; rfl, g2, h3⟩
theorem fld_mem {fs : List (Nat × D)} {f : Nat} {d : D} (h : fldD fs f = some d) : (f, d) ∈ fs := by
  unfold fldD at h
  induction fs with
  | nil => cases h
  | cons p fs ih =>
    obtain ⟨g, e⟩ := p
    rw [List.lookup_cons] at h
    split at h
    · rename_i q
      have q' : f = g := by simpa using q
      cases h
      rw [q']
      exact List.mem_cons_self ..
    · exact List.mem_cons_of_mem _ (ih h)
section
variable {X : Cx} {z : Z} {Γ : Cf} {W : WX} {io : List Nat} {xfs : List (Nat × Str)} {xcs : List (List Nat × Str)} {cn : Str} {ks cs : List Nat} {b h : Ss} {body suite : List Stmt} {b₀ : Stmt} {np pos pos' : Pos}
/-- what is known of the fields of an exception that is caught -/
theorem exc_fields {x : Fx} {G H : Hp} {cls : Value} {dd : Option Addr} {c : Nat} {fs : List (Nat × D)} (er : ExR x.z G H cls dd c fs) : ∃ vfs, (∀ d, dd = some d → G d = some (.xd vfs)) ∧ ∀ f d, fldD fs f = some d → dd.isSome = true ∧ ∃ v, vfs.lookup (x.z.fn f) = some v ∧ ∀ H : Hp, T x.z G H v d [] := by
  obtain ⟨C, _, _, k⟩ := er
  rcases k with ⟨k1, k2⟩ | ⟨d, vfs, k1, k2, k3⟩
  · subst k1 k2
    exact ⟨[], (fun d e => by cases e), fun f d e => by cases e⟩
  · subst k1
    refine ⟨vfs, (fun d' e => by cases e; exact k2), fun f d' e => ⟨rfl, ?_⟩⟩
    have m := fld_mem e
    obtain ⟨v, l, t⟩ := k3 _ m
    exact ⟨v, l, fun H' => t.any fun _ _ e => e⟩
theorem ss_try_as {i : Nat} {n : Str} {Y : Addr} (hio : Γ.io = io) (hz : z.xs = none) (hs : X.stack = X.env :: X.outer) (hfr : X.env.frame = some X.env.locals) (hN : X.N.Nodup) (hi : X.N[i]? = some n) (hln : X.env.kindOf n = some .local)
    (hg : Gl X cn) (hdb : (cn == ("__debug__" : Str)) = false) (hmg : X.mg cn = some (.ref Y)) (tk : Takes X W) (hcs : (cs, cn) ∈ xcs) (hks : ∀ c ∈ ks, ∃ C, ExS X z xfs xcs c C)
    (hb : ∀ (W' : WX) (pn : List (Addr × Obj)) (xe : Value → Shared → Prop), Takes (X.tr pn xe) W' → PassesOwn (model X.prog X.w) X.A X.env xe → PSs (X.tr pn xe) body (tS z io W' (evSs Γ b)))
    (hsu : ∀ (q : Xs) (c : Nat) (fs : List (Nat × D)) (oe : Obj) (pn : List (Addr × Obj)), q.i = i → XOk (X.suite q.a ((q.a, oe) :: pn)) (z.zx (some q)) ⟨Γ.call, Γ.meth, Γ.wf, i :: io, some (c, fs)⟩ i xfs xcs → PSs (X.suite q.a ((q.a, oe) :: pn)) (b₀ :: suite) (tS (z.zx (some q)) (i :: io) WF (evSs ⟨Γ.call, Γ.meth, Γ.wf, i :: io, some (c, fs)⟩ h))) :
    PS X (.Try body [.ExceptHandler (some (.Name cn np)) (some n) (b₀ :: suite) pos'] [] [] pos) (tS z io W (evS Γ (.try1 b ks cs (some i) h))) := by
  refine (ps_try_as (i := i) (c := .ref Y) (ts := fun a cls d D σ H => ∃ (q : Xs) (c : Nat) (fs : List (Nat × Vm.D)), (q.i = i ∧ q.a = a ∧ q.cls = cls ∧ q.d = d ∧ (∃ C, ExS X z xfs xcs c C ∧ cls = .ref C) ∧ ∀ f d, fldD fs f = some d → (q.d).isSome = true ∧ ∃ v, q.vfs.lookup (z.fn f) = some v ∧ ∀ H : Hp, T z q.g H v d []) ∧
      tS (z.zx (some q)) (i :: io) WF (evSs ⟨Γ.call, Γ.meth, Γ.wf, i :: io, some (c, fs)⟩ h) D σ H) hs hfr hN hi hln ⟨hg, hdb, .inl hmg⟩ tk hb fun a oe cls d pn hzc hdt => ?_).to fun D σ H hh => ?_
  · refine ⟨fun pins s σ H D I hh => ?_⟩
    obtain ⟨q, c, fs, ⟨e1, e2, e3, e4, ⟨C, S, eC⟩, hfs⟩, ht⟩ := hh
    subst e2 e3 e4
    refine (hsu q c fs oe pn e1 ?_).run pins s σ H D I ht
    rw [← e1]
    exact xok_sui S eC hzc hdt rfl hfs
  · obtain ⟨x, G, env, ez, po, r, hq⟩ := hh
    subst ez
    refine ⟨x, G, env, rfl, po, r, ?_⟩
    unfold evS at hq
    cases cc : evSs Γ b env with
    | bad => rw [cc] at hq; exact hq.elim
    | next e => rw [cc] at hq; exact hq
    | brk e => rw [cc] at hq; exact hq
    | cnt e => rw [cc] at hq; exact hq
    | ret f d e => rw [cc] at hq; exact hq
    | ex c fs env1 =>
      rw [cc] at hq
      dsimp only at hq
      intro cls dd σ' G' H' s' r' er
      split at hq
      · rename_i hk
        obtain ⟨C, S⟩ := hks c (by simpa using hk)
        obtain ⟨Y', y1, y2, y3⟩ := S.cs _ hcs
        have eY : Y' = Y := by
          have := y1.symm.trans hmg
          cases this
          rfl
        subst eY
        have eC : cls = .ref C := by
          obtain ⟨C', c1, c2, _⟩ := id er
          have := S.ref.symm.trans c2
          cases this
          exact c1
        dsimp only at y3
        split at hq
        · rename_i hcc
          rw [hcc] at y3
          split at hq
          · rename_i hsl
            unfold slo at hsl
            simp only [Bool.and_eq_true, Bool.not_eq_true', decide_eq_true_eq] at hsl
            obtain ⟨sl1, sl2⟩ := hsl
            rw [hio] at sl1
            have np : ∀ p ∈ x.pin, p.1 ≠ i := fun p m e => by
              have := po p m
              rw [e, sl1] at this
              cases this
            obtain ⟨vfs, v1, v2⟩ := exc_fields er
            refine ⟨true, by rw [eC]; exact y3, fun _ a na => ⟨⟨i, a, cls, dd, vfs, G'⟩, c, fs, ⟨rfl, rfl, rfl, rfl, ⟨C, S, eC⟩, v2⟩, x.sui G' ⟨i, a, cls, dd, vfs, G'⟩, G', env1.set i none, rfl, fun p m => ?_, r'.sui ⟨i, a, cls, dd, vfs, G'⟩ sl2 np (fun _ _ e => e) v1, ?_⟩, (fun e => by cases e)⟩
            · rcases List.mem_cons.mp m with m | m
              · rw [m]
                simp
              · have := po p m
                simp only [List.contains_cons, Bool.or_eq_true]
                exact .inr this
            · have hio' : iox (some i) Γ.io = i :: io := by rw [hio]; rfl
              rw [hio'] at hq
              have hq' : PostS x G W D ((evSs ⟨Γ.call, Γ.meth, Γ.wf, i :: io, some (c, fs)⟩ h (env1.set i none)).out (some i)) := hq
              cases c2 : evSs ⟨Γ.call, Γ.meth, Γ.wf, i :: io, some (c, fs)⟩ h (env1.set i none) with
              | bad => rw [c2] at hq'; exact hq'.elim
              | ret _ _ _ => rw [c2] at hq'; exact hq'.elim
              | ex _ _ _ => rw [c2] at hq'; exact hq'.elim
              | next e2 =>
                rw [c2] at hq'
                exact fun σ2 G2 H2 s2 r2 => hq' _ G2 H2 (Same.tr s' s2) (r'.unsui hz (q := ⟨i, a, cls, dd, vfs, G'⟩) np s2 r2)
              | brk e2 =>
                rw [c2] at hq'
                exact fun σ2 G2 H2 s2 r2 => hq' _ G2 H2 (Same.tr s' s2) (r'.unsui hz (q := ⟨i, a, cls, dd, vfs, G'⟩) np s2 r2)
              | cnt e2 =>
                rw [c2] at hq'
                exact fun σ2 G2 H2 s2 r2 => hq' _ G2 H2 (Same.tr s' s2) (r'.unsui hz (q := ⟨i, a, cls, dd, vfs, G'⟩) np s2 r2)
          · exact hq.elim
        · rename_i hcc
          rw [Bool.not_eq_true] at hcc
          rw [hcc] at y3
          exact ⟨false, by rw [eC]; exact y3, (fun e => by cases e), fun _ => hq cls dd σ' G' H' s' r' er⟩
      · exact hq.elim
end
end Vm
/-! Vm: raise. -/
namespace Vm
open PySem L2
open PyProof.Rows hiding St
section
variable {X : Cx} {z : Z} {Γ : Cf} {W : WX} {io : List Nat} {pos : Pos}
theorem ss_rse1 {cx qn : Str} {C fI : Addr} {c f k : Nat} {a : Expr} {ea : E} {p p2 : Pos} (hc : X.calm = true) (TT : PySem.OwnN.OwnTxt X.K X.mg cx qn C fI) (hr : Room k X.A) (tk : Takes X W) (hmg : X.mg = z.mg) (hgn : z.gn c = cx) (hfn : z.fn f = ("name" : Str)) (hg : Gl X cx) (hdb : (cx == ("__debug__" : Str)) = false)
    (ha : PA X [a] (tEs z W (evEs Γ (.cons ea .nil)))) (he : starEach (a :: []) X.env = (false, eval a X.env) :: starEach [] X.env) : PS X (.Raise (some (.Call (.Name cx p) [a] [] pos)) none p2) (tS z io W (evS Γ (.rse c [f] (.cons ea .nil)))) := by
  refine (ps_raise hc tk (pmk_own_n TT hr ha hg hdb he rfl)).to fun D σ H ⟨x, G, env, ez, po, r, h⟩ => ?_
  subst ez
  unfold evS at h
  refine ⟨x, G, env, [], rfl, r, ?_⟩
  cases ce : evEs Γ (.cons ea .nil) env with
  | bad => rw [ce] at h; exact h.elim
  | ex cc fs env1 =>
    rw [ce] at h
    exact fun cls dd G2 H2 s2 r2 er => h cls dd σ G2 H2 s2 r2 er
  | ok os env1 =>
    rw [ce] at h
    intro vs G1 H1 hl s1 r1
    dsimp only [Rs.bindS] at h
    obtain ⟨o, rfl⟩ : ∃ o, os = [o] := by
      unfold evEs at ce
      cases c1 : evE Γ ea env with
      | bad => rw [c1] at ce; cases ce
      | ex _ _ _ => rw [c1] at ce; cases ce
      | ok o e2 =>
        rw [c1] at ce
        unfold evEs at ce
        cases ce
        exact ⟨o, rfl⟩
    obtain ⟨v, rfl⟩ : ∃ v, vs = [v] := by
      cases vs with
      | nil => cases hl
      | cons v us => cases us with
        | nil => exact ⟨v, rfl⟩
        | cons _ _ => cases hl
    cases o with
    | p _ => exact h.elim
    | v f0 d0 =>
      refine ⟨v, rfl, fun d hd => ?_⟩
      obtain ⟨G2, s2, r2⟩ := Rel.settleAt (ps := []) (qs := []) (v := v) (o := .v f0 d0) r1
      obtain ⟨A, C', t, st, n, ou⟩ := r2.ex
      have tv : T x.z G2 H1 v (stl (f0, d0)) [] := by
        cases st with
        | cons h1 h2 =>
          cases h2
          cases h1 with
          | v t1 t2 =>
            cases f0 <;> (cases t2 rfl; exact t1)
      have r3 := Rel.pop (ps := []) r2
      obtain ⟨s4, r4⟩ := Rel.growT (ts := [d]) (H' := upd H1 d (.xd [(("name" : Str), v)])) r3 (fun b o e => by
        rw [upd_ne fun q => by rw [q, hd] at e; cases e]
        exact e) (fun t m => by
        cases List.mem_singleton.mp m
        exact hd)
      refine h (.ref C) (some d) σ _ _ (Same.tr s1 (Same.tr s2 s4)) r4 ⟨C, rfl, ?_, .inr ⟨d, [(("name" : Str), v)], rfl, ?_, fun p m => ?_⟩⟩
      · rw [hgn, ← hmg]
        exact TT.gC
      · rw [adj_in (List.mem_singleton.mpr rfl), upd_same]
      · have ep : p = (f, stl (f0, d0)) := by simpa using m
        subst ep
        refine ⟨v, ?_, ?_⟩
        · show List.lookup (x.z.fn f) _ = _
          rw [hfn]
          rfl
        · exact (tv.mono s4 fun a m => nomatch m)
end
end Vm
/-! Vm: statements that match. -/
namespace Vm
open PySem L2
open PyProof.Rows hiding St
section
variable {X : Cx} {z : Z} {io : List Nat} {W : WX} {Γ : Cf} {pos : Pos}
def augR (o : B2) (i : Nat) (k j : Int) (env : EnvD) : SR := match o with
  | .add => .next (env.set i (some (false, .int (k + j))))
  | .sub => .next (env.set i (some (false, .int (k - j))))
  | _ => .bad
/-- name += e -/
theorem ss_aug {i : Nat} {y : Str} {e : Expr} {ee : E} {o : B2} {p : Pos} (hK : X.K = z.K) (hio : Γ.io = io) (hN : X.N.Nodup) (hi : X.N[i]? = some y) (hx : Loc X.env.scope y) (hf : X.fn y = true ∨ X.env.scope.names.lookup y = some .local) (he : PE X e (tE z W (evE Γ ee))) (ho : o.aug = true) :
    PS X (.AugAssign (.Name y p) o.py e pos) (tS z io W (evS Γ (.aug o i ee))) := by
  have key : ∀ (f : Int → Int → Int), (∀ (k j : Int) (env : EnvD), augR o i k j env = SR.next (env.set i (some (false, .int (f k j))))) → PIp X o.py (ipI f) → PS X (.AugAssign (.Name y p) o.py e pos) (tS z io W (evS Γ (.aug o i ee))) := by
    intro f hf2 hp
    refine (ps_aug hN hi hx he hp hf).to fun D σ H ⟨x, G, env, ez, po, r, h⟩ => ?_
    subst ez
    unfold evS at h
    cases c0 : getS env i with
    | none => rw [c0] at h; exact h.elim
    | some q0 =>
      obtain ⟨f0, t0⟩ := q0
      rw [c0] at h
      cases f0 with
      | true => exact h.elim
      | false =>
        dsimp only at h
        obtain ⟨v, B, e1, t, fB⟩ := r.slot c0
        have eB := fB rfl
        subst eB
        refine ⟨v, e1, ?_⟩
        refine PostS.step r h fun o1 env1 u G1 H1 s1 r1 h1 => ?_
        cases c1 : rsD o1 env1 with
        | none => rw [c1] at h1; exact h1.elim
        | some d1 =>
          rw [c1] at h1
          cases d1 with
          | int j =>
            cases t0 with
            | int k =>
              dsimp only at h1
              split at h1
              · exact h1.elim
              · rename_i hc
                rw [hio] at hc
                have np : ∀ p ∈ x.pin, p.1 ≠ i := fun p m ep => hc (ep ▸ po p m)
                have h1 : PostS x G1 W D (augR o i k j env1) := h1
                rw [hf2] at h1
                cases t
                have r1' : Rel x G1 σ H1 env1 ([] ++ [(u, o1)]) := r1
                obtain ⟨G2, s2, r2, w⟩ := Rel.views (ds := [.int j]) r1' (by
                  show (match rsD o1 env1, rsAll [] env1 with
                    | some d, some ds => some (d :: ds)
                    | _, _ => none) = _
                  rw [c1]
                  rfl)
                cases w with
                | cons w1 w2 =>
                  have eu := w1.int
                  subst eu
                  have li : i < env1.length := by
                    obtain ⟨A, C, tt, _⟩ := r1.ex
                    rw [← tt.len]
                    exact (List.getElem?_eq_some_iff.mp e1).1
                  exact ⟨k, j, rfl, rfl, h1 _ G2 H1 s2 (Rel.put (ps := []) r2 (.int _) li np noP_nil)⟩
            | _ => exact h1.elim
          | _ => cases t0 <;> exact h1.elim
  cases o with
  | add => exact key _ (fun _ _ _ => rfl) ip_add
  | sub => exact key _ (fun _ _ _ => rfl) ip_sub
  | _ => cases ho
/-- while -/
theorem ss_whl {c : Expr} {body : List Stmt} {ec : E} {b : Ss} {vs : List Nat} (hp : PassesOwn (model X.prog X.w) X.A X.env X.xe) (hc : PT X c (tT z W (evE Γ ec))) (hb : PSs X body (tS z io W (evSs Γ b))) : PS X (.While c body [] pos) (tS z io W (evS Γ (.whl ec b vs))) := by
  refine (ps_while hp hc hb).to fun D σ H ⟨x, G, env, ez, po, r, h⟩ => ?_
  subst ez
  unfold evS at h
  refine ⟨fun n σ H => ∃ G2 env2, Same G G2 ∧ Rel x G2 σ H env2 [] ∧ PostS x G2 W D (whlL (evE Γ ec) (evSs Γ b) vs n env2), ⟨_, G, kill vs env, fun _ _ e => e, r.kill vs, h⟩, ?_⟩
  rintro n σ2 H2 ⟨G2, env2, s2, r2, h2⟩
  cases n with
  | zero => exact h2.elim
  | succ n =>
    unfold whlL at h2
    refine ⟨x, G2, env2, [], rfl, r2, ?_⟩
    cases c1 : evE Γ ec env2 with
    | bad => rw [c1] at h2; exact h2.elim
    | ex cc fs env3 =>
      rw [c1] at h2
      exact fun cls dd G3 H3 s3 r3 e3 => h2 cls dd σ2 G3 H3 s3 r3 e3
    | ok o env3 =>
      rw [c1] at h2
      cases o with
      | p i => exact h2.elim
      | v f d =>
        cases d with
        | bl bb =>
          intro G3 H3 s3 r3
          cases bb with
          | true =>
            rw [if_pos rfl]
            refine ⟨fun σ H => ∃ G4 env4, Same G G4 ∧ Rel x G4 σ H env4 [] ∧ PostS x G4 W D (whlL (evE Γ ec) (evSs Γ b) vs n env4), fun σ' H' k => ⟨n, Nat.lt_succ_self n, k⟩, ?_⟩
            refine ⟨x, G3, env3, rfl, po, r3, ?_⟩
            have h3 := PostS.up s3 h2
            dsimp only at h3
            have s13 : Same G G3 := Same.tr s2 s3
            cases c3 : evSs Γ b env3 with
            | next env4 =>
              rw [c3] at h3
              exact fun σ' G4 H4 s4 r5 => ⟨G4, _, Same.tr s13 s4, r5.kill vs, PostS.up s4 h3⟩
            | cnt env4 =>
              rw [c3] at h3
              exact fun σ' G4 H4 s4 r5 => ⟨G4, _, Same.tr s13 s4, r5.kill vs, PostS.up s4 h3⟩
            | brk env4 =>
              rw [c3] at h3
              exact fun σ' G4 H4 s4 r5 => h3 σ' G4 H4 s4 (r5.kill vs)
            | ret f d env4 => rw [c3] at h3; exact h3
            | ex cc fs env4 => rw [c3] at h3; exact h3
            | bad => rw [c3] at h3; exact h3.elim
          | false =>
            rw [if_neg (by decide)]
            exact h2 σ2 G3 H3 s3 r3
        | _ => exact h2.elim
end
/-! ### the matcher -/
/-- the receiver of a change, the path from its end -/
def mtP (m : Mx) (i : Nat) : List Int → Expr → Bool
  | [], x => match x with
    | .Name y _ => visB m i y
    | _ => false
  | k :: p, x => match x with
    | .Subscript o (.Constant (.int c) _ _) _ => decide (k = c) && mtP m i p o
    | _ => false
def cstV : E → Option V
  | .non => some .non
  | .bl b => some (.bl b)
  | .int i => some (.int i)
  | .str s => some (.str s)
  | _ => none
def isLc : E → Bool
  | .lc _ _ _ _ _ => true
  | _ => false
/-- a list comprehension whose value goes to a name on its line -/
def swB (m : Mx) (y : Str) (py : Pos) (x : Expr) : Bool := match x with
  | .ListComp _ _ scope p => (match m.sc.kind with
    | .function => true
    | _ => false) && decide (kd m y = some .local) && (py.line == p.line) && !(scope.names.any fun (n, k) => n == y && (k == .local || k == .cell))
  | _ => false
/-- one that does not -/
def nswB (m : Mx) (y : Str) (py : Pos) (x : Expr) : Bool := match x with
  | .ListComp _ _ scope p => !(decide (kd m y = some .local)) || !(py.line == p.line) || (scope.names.any fun (n, k) => n == y && (k == .local || k == .cell))
  | _ => noComp x
mutual
def mtS (m : Mx) : S → Stmt → Bool
  | .asg _ i e, s => match s with
    | .Assign [.Name y py] x _ => locB m i y && mtE m e x && (nswB m y py x || (isLc e && swB m y py x))
    | _ => false
  | .asgt t e, s => match s with
    | .Assign [.Tuple l k p] x _ => mtG m t (.Tuple l k p) && noComp x && noTup x && mtE m e x
    | _ => false
  | .asgs i k e, s => match s with
    | .Assign [.Subscript (.Name y _) k' _] x _ => noSl k' && visB m i y && noComp x && mtE m e x && mtE m k k'
    | _ => false
  | .asgl _ _ _ _, _ => false
  | .asgf c i f e, s => match s with
    | .Assign [.Attribute (.Name nm _) a _] x _ => m.cfs.any (fun q => q.1 == c && q.2.2.1 == f && q.2.2.2 == a) && visB m i nm && noComp x && mtE m e x
    | _ => false
  | .aug o i e, s => match s with
    | .AugAssign (.Name y _) o' x _ => locB m i y && decide (o' = o.py) && o.aug && mtE m e x
    | _ => false
  | .augs o i k e, s => match s with
    | .AugAssign (.Subscript (.Name y _) k' _) o' x _ => noSl k' && visB m i y && decide (o' = o.py) && o.aug && mtE m e x && mtE m k k'
    | _ => false
  | .clrd i, s => match s with
    | .Expr (.Call (.Attribute (.Name y _) a ap) [] [] cp) _ => decide (a = ("clear" : Str)) && (ap.endLine == cp.line) && visB m i y
    | _ => false
  | .mut f i p es, s => match f, es with
    | .append, .cons e es' => match es', s with
      | .nil, .Expr (.Call (.Attribute o a ap) [x] [] cp) _ => decide (a = ("append" : Str)) && (ap.endLine == cp.line) && noStar x && mtE m e x && noCall o && mtP m i p.reverse o && (p.isEmpty || (cstV e).isSome)
      | _, _ => false
    | .clear, .nil => match s with
      | .Expr (.Call (.Attribute o a ap) [] [] cp) _ => decide (a = ("clear" : Str)) && (ap.endLine == cp.line) && noCall o && mtP m i p.reverse o
      | _ => false
    | .reverse, .nil => match s with
      | .Expr (.Call (.Attribute (.Name y _) a ap) [] [] cp) _ => decide (a = ("reverse" : Str)) && (ap.endLine == cp.line) && visB m i y && p.isEmpty
      | _ => false
    | .pop1, es => match s with
      | .Expr (.Call (.Attribute (.Name y _) a ap) (x :: l) [] cp) _ => decide (a = ("pop" : Str)) && (ap.endLine == cp.line) && visB m i y && p.isEmpty && decide (l.length < 28) && mtEs m es (x :: l)
      | _ => false
    | .insert, es => match s with
      | .Expr (.Call (.Attribute (.Name y _) a ap) (x :: l) [] cp) _ => decide (a = ("insert" : Str)) && (ap.endLine == cp.line) && visB m i y && p.isEmpty && decide (l.length < 28) && mtEs m es (x :: l)
      | _ => false
    | .remove, es => match s with
      | .Expr (.Call (.Attribute (.Name y _) a ap) (x :: l) [] cp) _ => decide (a = ("remove" : Str)) && (ap.endLine == cp.line) && visB m i y && p.isEmpty && decide (l.length < 28) && mtEs m es (x :: l)
      | _ => false
    | _, _ => false
  | .ex e, s => match s with
    | .Expr x _ => noComp x && mtE m e x
    | _ => false
  | .ife c a b, s => match s with
    | .If c' a' b' _ => noIf c' && mtE m c c' && mtSs m a a' && mtSs m b b'
    | _ => false
  | .whl c b _, s => match s with
    | .While c' b' [] _ => noIf c' && mtE m c c' && mtSs m b b'
    | _ => false
  | .for t it b _, s => match s with
    | .For tg iter body [] _ => m.calm && (noSet iter && mtI m it tg iter && mtG m t tg && mtSs m b body)
    | _ => false
  | .ford t k i b _, s => match s with
    | .For tg iter body [] _ => m.calm && (noSet iter && mtD m k i tg iter && mtG m t tg && mtSs m b body)
    | _ => false
  | .ret e, s => match e with
    | .none => match s with
      | .Return none _ => true
      | _ => false
    | .some e => match s with
      | .Return (some x) _ => mtE m e x
      | _ => false
  | .brk, s => match s with
    | .Break _ => true
    | _ => false
  | .cnt, s => match s with
    | .Continue _ => true
    | _ => false
  | .pas, s => match s with
    | .Pass _ => true
    | _ => false
  | .rse c fs es, s => match fs, es with
    | [f], .cons e .nil => match s with
      | .Raise (some (.Call (.Name y _) [x] [] _)) none _ => m.calm && decide ((c, f, y) ∈ m.xrs) && glbB m y && noStar x && mtE m e x
      | _ => false
    | _, _ => false
  | .try1 b ks cs ao h, s => match ao with
    | some i => match s with
      | .Try body [.ExceptHandler (some (.Name y _)) (some n) (b0 :: suite) _] [] [] _ => m.calm && m.top && decide (m.N[i]? = some n) && decide (kd m n = some .local) && glbB m y && decide ((cs, y) ∈ m.xcs) && ks.all (fun k => m.xl.contains k) && mtSs m b body && mtSs (suiM m (some i)) h (b0 :: suite)
      | _ => false
    | none => false
  | .dead, _ => true
def mtSs (m : Mx) : Ss → List Stmt → Bool
  | .nil, l => match l with
    | [] => true
    | _ => false
  | .cons s ss, l => match l with
    | x :: l => mtS m s x && mtSs m ss l
    | _ => false
end
section
variable {X : Cx} {z : Z} {Γ : Cf} {W : WX} {m : Mx} {io : List Nat}
theorem pathT_snoc {K : PySem.W.Frag} {k : Int} : ∀ (p : List Int) (t : TE), pathT K t (p ++ [k]) = tOp (rIx K) (pathT K t p) (tC (.int k))
  | [], t => rfl
  | q :: p, t => by
    show pathT K (tOp (rIx K) t (tC (.int q))) (p ++ [k]) = _
    rw [pathT_snoc p]
    rfl
theorem mtP_ok (M : MxOk X z Γ W m) {i : Nat} : ∀ (p : List Int) (x : Expr), mtP m i p x = true → PE X x (pathT X.K (tVar i) p.reverse)
  | [], x, h => by
    unfold mtP at h
    split at h
    · obtain ⟨h1, h2, h3, h4⟩ := M.vis h
      exact pe_var h1 h2 h3 h4
    · cases h
  | k :: p, x, h => by
    unfold mtP at h
    split at h
    · simp only [Bool.and_eq_true, decide_eq_true_eq] at h
      obtain ⟨rfl, h2⟩ := h
      rw [List.reverse_cons, pathT_snoc]
      exact pe_ix ix_seq (mtP_ok M p _ h2) pe_int fun _ _ => rfl
    · cases h
theorem cst_ok (M : MxOk X z Γ W m) {e : E} {x : Expr} {u : V} (h : mtE m e x = true) (hv : cstV e = some u) : ∃ d, cstE e = some d ∧ PE X x (tC u) ∧ (∀ z G H, T z G H u d []) ∧ ∀ env, evE Γ e env = .ok (.v false d) env := by
  cases e with
  | non =>
    cases hv
    unfold mtE at h
    split at h
    · exact ⟨.non, rfl, pe_non, fun _ _ _ => .non, fun env => by rw [evE]⟩
    · cases h
  | bl b =>
    cases hv
    unfold mtE at h
    split at h
    · rw [beq_iff_eq.mp h]
      exact ⟨.bl _, rfl, pe_bl, fun _ _ _ => .bl _, fun env => by rw [evE]⟩
    · cases h
  | int b =>
    cases hv
    unfold mtE at h
    split at h
    · rw [of_decide_eq_true h]
      exact ⟨.int _, rfl, pe_int, fun _ _ _ => .int _, fun env => by rw [evE]⟩
    · cases h
  | str b =>
    cases hv
    unfold mtE at h
    split at h
    · rw [of_decide_eq_true h]
      exact ⟨.str _, rfl, pe_str, fun _ _ _ => .str _, fun env => by rw [evE]⟩
    · cases h
  | _ => cases hv
theorem asg_sub {y : Str} {p1 tp : Pos} {ke : Expr} {env : Env} (h : noSl ke = true) : ∀ v, assign (.Subscript (.Name y p1) ke tp) env v = (do
      let ov ← holding [v] (eval (.Name y p1) env)
      let iv ← holding [v, ov] (eval ke env)
      standAt tp
      holding [v, ov, iv] (setItem ov iv v)
      release [v, ov, iv] []) := by
  cases ke <;> first | (intros; rfl) | cases h
theorem few_one {cpos : Pos} {env : Env} {x : Expr} (h : noStar x = true) : ((backTo cpos (starEach [x] env)).all (fun x => !x.1) && (backToKw cpos (keywordEach [] env)).all (fun x => x.1.isSome) && decide ([x].length + ([] : List Keyword).length + (if ([] : List Keyword).isEmpty then 0 else 1) < 30)) = true := by
  rw [star_of h]
  rfl
/-- a list comprehension that matches, in its parts -/
theorem asgLc_ok (M : MxOk X z Γ W m) (hio : Γ.io = io) {keep : Bool} {i : Nat} {y : Str} {py spos : Pos} {e : E} {x : Expr} (h1 : locB m i y = true) (h2 : mtE m e x = true) (h3 : (isLc e && swB m y py x) = true) : PS X (.Assign [.Name y py] x spos) (tS z io W (evS Γ (.asg keep i e))) := by
  rw [Bool.and_eq_true] at h3
  obtain ⟨h0, h3⟩ := h3
  unfold swB at h3
  split at h3
  · rename_i elt gens scope pos
    simp only [Bool.and_eq_true, decide_eq_true_eq, Bool.not_eq_true'] at h3
    obtain ⟨⟨⟨k1, k2⟩, k3⟩, k4⟩ := h3
    cases e with
    | lc ee t it ec vs =>
      unfold mtE at h2
      split at h2
      · rename_i heq
        cases heq
        simp only [Bool.and_eq_true, decide_eq_true_eq] at h2
        obtain ⟨hcm, ⟨⟨⟨⟨⟨⟨rfl, h2⟩, h3⟩, h4⟩, h5⟩, h6⟩, h7⟩, h8⟩ := h2
        have ev : (ownOf m vs).map (·.2) = vs := by
          unfold ownOf
          rw [List.map_map]
          exact List.map_id _
        have ok : BlkOk X.N X.env.scope scope (ownOf m vs) := by
          rw [M.N, M.sc]
          exact blkOk_by h4
        obtain ⟨a1, a2, a3, a4⟩ := M.loc h1
        have yl : X.env.scope.names.lookup y = some .local := by
          rw [M.sc]
          exact k2
        have kf : X.env.scope.kind = .function := by
          rw [M.sc]
          split at k1
          · assumption
          · cases k1
        have q := ss_asgLc (pos := pos) (W := W) (io := io) (keep := keep) (i := i) (spos := spos) (py := py) (ee := ee) (t := t) (it := it) (ec := ec) hio (M.xs hcm) (M.calm hcm) a1 a2 yl (sw_true kf yl k3 k4) (by
          rw [ev]
          intro i hi
          have q := List.all_eq_true.mp h3 i hi
          simpa using q) (mtI_ok it M _ _ h5) ok (fun s H C cl fp => mtG_ok (M.blk (M.xin hcm) (s := s) (H := H) (scope := scope) (C := C) (cl := cl) (fp := fp)) t _ h6) (fun s H C cl fp => mtCs_ok ec (M.blk (M.xin hcm) (s := s) (H := H) (scope := scope) (C := C) (cl := cl) (fp := fp)) _ h7) (fun s H C cl fp => (mtE_ok ee (M.blk (M.xin hcm) (s := s) (H := H) (scope := scope) (C := C) (cl := cl) (fp := fp)) _ h8).1) (folded h2)
        rw [ev] at q
        exact q
      · cases h2
    | _ => cases h0
  · cases h3
theorem nsw_ok (M : MxOk X z Γ W m) {y : Str} {py : Pos} {x : Expr} {l : Nat} (h : nswB m y py x = true) : swapsWith x (some (.Name y py)) l X.env = pure false := by
  unfold nswB at h
  split at h
  · rename_i elt gens scope p
    have e : (X.env.blockKind == .function && X.env.kindOf y == some .local && py.line == p.line && !(scope.names.any fun (n, k) => n == y && (k == .local || k == .cell))) = false := by
      have ky : X.env.kindOf y = kd m y := by
        show X.env.scope.names.lookup y = _
        rw [M.sc]
        rfl
      rw [ky]
      simp only [Bool.or_eq_true, Bool.not_eq_true', decide_eq_false_iff_not] at h
      rcases h with (h | h) | h
      · have : (kd m y == some .local) = false := by simpa using h
        rw [this]
        simp
      · rw [h]
        simp
      · rw [h]
        simp
    unfold swapsWith
    dsimp only [Expr.pos]
    rw [e]
  · exact no_swap h
mutual
theorem mtS_ok (s : S) {X : Cx} {z : Z} {Γ : Cf} {W : WX} {m : Mx} {io : List Nat} (M : MxOk X z Γ W m) (hio : Γ.io = io) (hp : PassesOwn (model X.prog X.w) X.A X.env X.xe) : ∀ (x : Stmt), mtS m s x = true → PS X x (tS z io W (evS Γ s)) := by
  intro x h
  cases s with
  | asg keep i e =>
    unfold mtS at h
    split at h
    · simp only [Bool.and_eq_true, Bool.or_eq_true] at h
      obtain ⟨⟨h1, h2⟩, h3⟩ := h
      rcases h3 with h3 | h3
      · obtain ⟨a1, a2, a3, a4⟩ := M.loc h1
        exact ss_asg hio a1 a2 a3 a4 (nsw_ok M h3) (mtE_ok e M _ h2).1
      · exact asgLc_ok M hio h1 h2 (by rw [Bool.and_eq_true]; exact h3)
    · cases h
  | asgt t e =>
    unfold mtS at h
    split at h
    · simp only [Bool.and_eq_true] at h
      obtain ⟨⟨⟨h1, h2⟩, h3⟩, h4⟩ := h
      refine ss_asgt hio (mtG_ok M t _ h1) ?_ (no_stores h3) rfl (mtE_ok e M _ h4).1
      unfold swapsWithSole
      exact no_swap h2
    · cases h
  | asgs i k e =>
    unfold mtS at h
    split at h
    · simp only [Bool.and_eq_true] at h
      obtain ⟨⟨⟨⟨h1, h2⟩, h3⟩, h4⟩, h5⟩ := h
      obtain ⟨a1, a2, a3, a4⟩ := M.vis h2
      refine ss_asgs (by have := M.units; omega) a1 a2 a3 a4 ?_ rfl (mtE_ok e M _ h4).1 (mtE_ok k M _ h5).1 (asg_sub h1)
      unfold swapsWithSole
      exact no_swap h3
    · cases h
  | asgl i a b e => unfold mtS at h; cases h
  | asgf c i f e =>
    unfold mtS at h
    split at h
    · simp only [Bool.and_eq_true, List.any_eq_true, beq_iff_eq] at h
      obtain ⟨⟨⟨⟨⟨c', y, f', a'⟩, hq, ⟨k1, k2⟩, k3⟩, h2⟩, h3⟩, h4⟩ := h
      dsimp only at k1 k2 k3
      subst k1 k2 k3
      obtain ⟨e1, C⟩ := M.cfs _ hq
      obtain ⟨a1, a2, a3, a4⟩ := M.vis h2
      exact ss_asgf M.mg e1 C a1 a2 a3 a4 (no_swap h3) (mtE_ok e M _ h4).1
    · cases h
  | aug o i e =>
    unfold mtS at h
    split at h
    · simp only [Bool.and_eq_true, decide_eq_true_eq] at h
      obtain ⟨⟨⟨h1, rfl⟩, h3⟩, h4⟩ := h
      obtain ⟨a1, a2, a3, a4⟩ := M.loc h1
      exact ss_aug M.K hio a1 a2 a3 a4 (mtE_ok e M _ h4).1 h3
    · cases h
  | augs o i k e =>
    unfold mtS at h
    split at h
    · simp only [Bool.and_eq_true, decide_eq_true_eq] at h
      obtain ⟨⟨⟨⟨⟨h1, h2⟩, rfl⟩, h4⟩, h5⟩, h6⟩ := h
      obtain ⟨a1, a2, a3, a4⟩ := M.vis h2
      exact ss_augs (by have := M.units; omega) h4 a1 a2 a3 a4 h1 (mtE_ok e M _ h5).1 (mtE_ok k M _ h6).1
    · cases h
  | clrd i =>
    unfold mtS at h
    split at h
    · simp only [Bool.and_eq_true, decide_eq_true_eq] at h
      obtain ⟨⟨rfl, h2⟩, h3⟩ := h
      obtain ⟨a1, a2, a3, a4⟩ := M.vis h3
      exact ss_clrd a1 a2 a3 a4 h2 (no_swap rfl)
    · cases h
  | «mut» f i p es =>
    cases f with
    | append =>
      cases es with
      | nil => unfold mtS at h; cases h
      | cons e es' =>
        unfold mtS at h
        dsimp only at h
        split at h
        · simp only [Bool.and_eq_true, Bool.or_eq_true, decide_eq_true_eq] at h
          obtain ⟨⟨⟨⟨⟨⟨rfl, h2⟩, h3⟩, h4⟩, h5⟩, h6⟩, h7⟩ := h
          cases c : cstV e with
          | some u =>
            obtain ⟨d, c1, c2, c3, c4⟩ := cst_ok M h4 c
            have q := mtP_ok M _ _ h6
            rw [List.reverse_reverse] at q
            exact ss_appC M.K q c2 c1 c3 c4 h2 h3 (attr_base h5) (no_swap rfl) (few_one h3)
          | none =>
            rw [c] at h7
            cases p with
            | cons _ _ => simp at h7
            | nil =>
              have h6' : mtP m i [] _ = true := h6
              unfold mtP at h6'
              split at h6'
              · obtain ⟨a1, a2, a3, a4⟩ := M.vis h6'
                exact ss_app M.K a1 a2 a3 a4 h2 h3 (attr_base rfl) (no_swap rfl) (few_one h3) (mtE_ok e M _ h4).1
              · cases h6'
        · cases h
    | clear =>
      cases es with
      | cons _ _ => unfold mtS at h; cases h
      | nil =>
        unfold mtS at h
        dsimp only at h
        split at h
        · simp only [Bool.and_eq_true, decide_eq_true_eq] at h
          obtain ⟨⟨⟨rfl, h2⟩, h3⟩, h4⟩ := h
          have q := mtP_ok M _ _ h4
          rw [List.reverse_reverse] at q
          exact ss_clr M.K q h2 (attr_base h3) (no_swap rfl)
        · cases h
    | reverse =>
      cases es with
      | cons _ _ => unfold mtS at h; cases h
      | nil =>
        unfold mtS at h
        dsimp only at h
        split at h
        · simp only [Bool.and_eq_true, decide_eq_true_eq, List.isEmpty_iff] at h
          obtain ⟨⟨⟨rfl, h2⟩, h3⟩, rfl⟩ := h
          obtain ⟨a1, a2, a3, a4⟩ := M.vis h3
          exact ss_rev M.K a1 a2 a3 a4 h2 (attr_base rfl) (no_swap rfl)
        · cases h
    | pop1 =>
      unfold mtS at h
      dsimp only at h
      split at h
      · simp only [Bool.and_eq_true, decide_eq_true_eq, List.isEmpty_iff] at h
        obtain ⟨⟨⟨⟨⟨rfl, h2⟩, h3⟩, rfl⟩, h5⟩, h6⟩ := h
        obtain ⟨a1, a2, a3, a4⟩ := M.vis h3
        obtain ⟨b1, b2⟩ := mtEs_ok es M _ h6
        exact ss_mutG M.K PySem.F.slot_list_pop PySem.F.type_list_pop mt_popAt pop_mut a1 a2 a3 a4 h2 b1 (attr_base rfl) (no_swap rfl) (few_all b1 (by rw [List.length_cons]; omega)) b2
      · cases h
    | insert =>
      unfold mtS at h
      dsimp only at h
      split at h
      · simp only [Bool.and_eq_true, decide_eq_true_eq, List.isEmpty_iff] at h
        obtain ⟨⟨⟨⟨⟨rfl, h2⟩, h3⟩, rfl⟩, h5⟩, h6⟩ := h
        obtain ⟨a1, a2, a3, a4⟩ := M.vis h3
        obtain ⟨b1, b2⟩ := mtEs_ok es M _ h6
        exact ss_mutG M.K PySem.F.slot_list_insert PySem.F.type_list_insert mt_insert ins_mut a1 a2 a3 a4 h2 b1 (attr_base rfl) (no_swap rfl) (few_all b1 (by rw [List.length_cons]; omega)) b2
      · cases h
    | remove =>
      unfold mtS at h
      dsimp only at h
      split at h
      · simp only [Bool.and_eq_true, decide_eq_true_eq, List.isEmpty_iff] at h
        obtain ⟨⟨⟨⟨⟨rfl, h2⟩, h3⟩, rfl⟩, h5⟩, h6⟩ := h
        obtain ⟨a1, a2, a3, a4⟩ := M.vis h3
        obtain ⟨b1, b2⟩ := mtEs_ok es M _ h6
        exact ss_mutG M.K PySem.F.slot_list_remove PySem.F.type_list_remove mt_removeF rem_mut a1 a2 a3 a4 h2 b1 (attr_base rfl) (no_swap rfl) (few_all b1 (by rw [List.length_cons]; omega)) b2
      · cases h
    | _ => cases es <;> unfold mtS at h <;> cases h
  | ex e =>
    unfold mtS at h
    split at h
    · simp only [Bool.and_eq_true] at h
      exact ss_ex (no_swap h.1) (mtE_ok e M _ h.2).1
    · cases h
  | ife c a b =>
    unfold mtS at h
    split at h
    · simp only [Bool.and_eq_true] at h
      obtain ⟨⟨⟨h1, h2⟩, h3⟩, h4⟩ := h
      exact ss_ife ((mtE_ok c M _ h2).2 h1) (mtSs_ok a M hio hp _ h3) (mtSs_ok b M hio hp _ h4)
    · cases h
  | whl c b vs =>
    unfold mtS at h
    split at h
    · simp only [Bool.and_eq_true] at h
      obtain ⟨⟨h1, h2⟩, h3⟩ := h
      exact ss_whl hp ((mtE_ok c M _ h2).2 h1) (mtSs_ok b M hio hp _ h3)
    · cases h
  | «for» t it b vs =>
    unfold mtS at h
    split at h
    · simp only [Bool.and_eq_true] at h
      obtain ⟨hcm, ⟨⟨h1, h2⟩, h3⟩, h4⟩ := h
      exact ss_for hio hp (M.calm hcm) (folded h1) (mtI_ok it M _ _ h2) (mtG_ok M t _ h3) (mtSs_ok b M hio hp _ h4)
    · cases h
  | ford t k i b vs =>
    unfold mtS at h
    split at h
    · simp only [Bool.and_eq_true] at h
      obtain ⟨hcm, ⟨⟨h1, h2⟩, h3⟩, h4⟩ := h
      exact ss_ford hio hp (M.calm hcm) (folded h1) (mtD_ok M h2) (mtG_ok M t _ h3) (mtSs_ok b M hio hp _ h4)
    · cases h
  | ret e =>
    cases e with
    | none => unfold mtS at h; dsimp only at h; split at h <;> first | (cases h; done) | exact ss_retN
    | some e =>
      unfold mtS at h
      dsimp only at h
      split at h
      · exact ss_ret (mtE_ok e M _ h).1
      · cases h
  | brk => unfold mtS at h; split at h <;> first | (cases h; done) | exact ss_brk
  | cnt => unfold mtS at h; split at h <;> first | (cases h; done) | exact ss_cnt
  | pas => unfold mtS at h; split at h <;> first | (cases h; done) | exact ss_pas
  | rse c fs es =>
    unfold mtS at h
    split at h
    · split at h
      · simp only [Bool.and_eq_true, decide_eq_true_eq] at h
        obtain ⟨⟨⟨⟨h0, h1⟩, h2⟩, h3⟩, h4⟩ := h
        obtain ⟨e1, e2, qn, C, fI, k, T, r⟩ := M.xrs _ h1
        obtain ⟨g1, g2⟩ := M.glb h2
        rename_i e _ y _ x _ _
        exact ss_rse1 (M.calm h0) T r (M.tk h0) M.mg e1 e2 g1 g2 (sa_cons (star_of h3) (mtE_ok e M _ h4).1 sa_nil) (star_of h3)
      · cases h
    · cases h
  | try1 b ks cs ao h0 =>
    unfold mtS at h
    split at h
    · split at h
      · simp only [Bool.and_eq_true, decide_eq_true_eq, List.all_eq_true, List.contains_iff_mem] at h
        obtain ⟨⟨⟨⟨⟨⟨⟨⟨k0, k1⟩, k2⟩, k3⟩, k4⟩, k5⟩, k6⟩, k7⟩, k8⟩ := h
        obtain ⟨g1, g2⟩ := M.glb k4
        obtain ⟨Y, y1⟩ := M.xcm _ k5
        obtain ⟨s1, s2⟩ := M.stk k1
        refine ss_try_as hio (M.xs k0) s1 s2 (by rw [M.N]; exact M.nd) (by rw [M.N]; exact k2) ?_ g1 g2 y1 (M.tk k0) k5 (fun c mc => M.exs c (k6 c mc)) (fun W' pn xe tk' hp' => ?_) fun q c fs oe pn ei hx => ?_
        · show X.env.scope.names.lookup _ = _
          rw [M.sc]
          exact k3
        · exact mtSs_ok b (M.tr k0 tk') hio hp' _ k7
        · exact mtSs_ok (W := WF) h0 (M.sui (s := some q) (i := some _) fun j e => by cases e; exact hx) rfl PassesOwn.never _ k8
      · cases h
    · cases h
  | dead => exact ⟨fun pins s σ H D I ⟨x, G, env, ez, po, r, q⟩ => by unfold evS at q; exact q.elim⟩
theorem mtSs_ok (s : Ss) {X : Cx} {z : Z} {Γ : Cf} {W : WX} {m : Mx} {io : List Nat} (M : MxOk X z Γ W m) (hio : Γ.io = io) (hp : PassesOwn (model X.prog X.w) X.A X.env X.xe) : ∀ (x : List Stmt), mtSs m s x = true → PSs X x (tS z io W (evSs Γ s)) := by
  intro x h
  cases s with
  | nil => unfold mtSs at h; split at h <;> first | (cases h; done) | exact ss_nil
  | cons s ss =>
    unfold mtSs at h
    split at h
    · simp only [Bool.and_eq_true] at h
      exact ss_cons (mtS_ok s M hio hp _ h.1) (mtSs_ok ss M hio hp _ h.2)
    · cases h
end
end
end Vm
/-! Vm: a program's defs, a law's walk. -/
namespace Vm
open PySem L2
open PyProof.Rows hiding St
/-- its last parameter has the default None -/
def _root_.L2.He.DefD.d1 (d : He.DefD) : Bool := match d.dfl with
  | [.non] => true
  | _ => false
/-- a def of the program and its small form -/
structure Df where
  fd : Fd
  N : List Str
  pn : List Str
  d : He.DefD
/-- a statement of a class's body -/
def inCls (s : Stmt) (k : Nat) : Stmt := match s with
  | .ClassDef _ _ _ body _ _ _ _ _ _ _ => body.getD k (.Pass ⟨0, 0, 0, 0⟩)
  | _ => .Pass ⟨0, 0, 0, 0⟩
def fnScB (N P : List Str) (sc : Scope) : Bool :=
  (match sc.kind with
  | .function => true
  | _ => false) && !sc.isCoroutine && !sc.isGenerator && decide N.Nodup && decide (N.take P.length = P) && (P.all fun x => match sc.names.lookup x with
    | some .local => true
    | some .cell => true
    | _ => false) && (sc.names.all fun y => match y.2 with
    | .free => false
    | _ => true)
theorem fnSc_ok {N P : List Str} {sc : Scope} (h : fnScB N P sc = true) : FnScope N P sc := by
  unfold fnScB at h
  simp only [Bool.and_eq_true, decide_eq_true_eq, Bool.not_eq_true', List.all_eq_true] at h
  obtain ⟨⟨⟨⟨⟨⟨h1, h2⟩, h3⟩, h4⟩, h5⟩, h6⟩, h7⟩ := h
  refine ⟨?_, h2, h3, h4, h5, fun x m => ?_, fun y m e => ?_⟩
  · split at h1
    · assumption
    · cases h1
  · have q := h6 x m
    split at q <;> rename_i e
    · exact .inl e
    · exact .inr e
    · cases q
  · have q := h7 y m
    rw [e] at q
    cases q
/-- a program: its defs, numbers and texts of the module, classes by number, built-in names, what is made, methods, fields, the classes' and the fields' names -/
structure Pg where
  tbl : List Df
  gi : List (Str × Int) := []
  gs : List (Str × Str) := []
  gl : List (Nat × Str) := []
  nb : List Str := []
  mks : List (Nat × Nat × Str × Nat) := []
  mts : List (Nat × Nat × Str × Str × Nat) := []
  cfs : List (Nat × Str × Nat × Str) := []
  cls : List Str := []
  fds : List Str := []
  /-- classes of exceptions: number and name; their fields; which are below a name; which are raised (class, field, name); their __init__s -/
  xl : List (Nat × Str) := []
  xfs : List (Nat × Str) := []
  xcs : List (List Nat × Str) := []
  xrs : List (Nat × Nat × Str) := []
  ini : List He.DefD := []
def Pg.dfs (p : Pg) : List He.DefD := p.tbl.map (·.d) ++ p.ini
def nmOf (l : List Str) (i : Nat) : Str := (l[i]?).getD ⟨#[]⟩
def Pg.P (p : Pg) : List Fd := p.tbl.map (·.fd)
def fnsOf (tbl : List Df) : List (Str × Nat) := tbl.map fun t => (t.d.name, t.fd.np)
/-- the place of a def's body -/
def mxD (p : Pg) (t : Df) : Mx := ⟨t.N, t.d.scope, true, p.tbl.map fun t => (match t.d.at_.2 with
  | none => t.d.name
  | some _ => ⟨#[]⟩, t.fd.np), p.tbl.map fun t => t.d.d1, p.gi, p.gs, p.gl, p.nb, p.mks, p.mts, p.cfs, true, none, p.xfs, p.xcs, p.xl.map (·.1), p.xrs⟩
def okD (p : Pg) (t : Df) : Bool :=
  t.d.kwd.isEmpty && (match t.d.at_.2 with
  | none => decide (t.d.at_.1 = t.d.name)
  | some _ => true) && decide (t.pn.length = t.fd.np) && (t.d.dfl.isEmpty || decide (0 < t.fd.np)) && decide (t.N.length = t.fd.nn) && fnScB t.N t.pn t.d.scope && mtSs (mxD p t) t.fd.body t.d.body
/-- a name told apart from all others -/
def fldB (p : Pg) (f : Nat) (n : Str) : Bool := decide (p.fds[f]? = some n) && !(n == ⟨#[]⟩) && decide p.fds.Nodup
/-- an __init__ that keeps its one argument as name -/
def iniB (d : He.DefD) : Bool := decide (d.name = ("__init__" : Str)) && d.dfl.isEmpty && decide (d.scope = PySem.OwnN.iS) &&
  (match d.params with
  | ⟨[], [⟨a, none, _⟩, ⟨b, none, _⟩], none, [], [], none, []⟩ => decide (a = ("self" : Str)) && decide (b = ("name" : Str))
  | _ => false) && (match d.body with
  | [.Assign [.Attribute (.Name a _) b _] (.Name c _) _] => decide (a = ("self" : Str)) && decide (b = ("name" : Str)) && decide (c = ("name" : Str))
  | _ => false)
def okX (p : Pg) : Bool := (p.xl.all fun q => decide (nmOf p.cls q.1 = q.2)) && (p.xfs.all fun q => decide (nmOf p.fds q.1 = q.2)) &&
  (p.xrs.all fun q => decide (nmOf p.cls q.1 = q.2.2) && decide (nmOf p.fds q.2.1 = ("name" : Str)) && p.ini.any fun d => decide (d.at_ = (q.2.2, some ("__init__" : Str))) && iniB d)
def okP0 (p : Pg) : Bool := p.tbl.all (okD p) && (p.gl.all fun q => decide (nmOf p.cls q.1 = q.2)) &&
  (p.mks.all fun q => decide (nmOf p.cls q.1 = q.2.2.1) && (match p.tbl[q.2.1]? with
    | some t => decide (t.d.at_ = (q.2.2.1, some ("__init__" : Str))) && decide (t.fd.np = q.2.2.2) && t.fd.io.contains 0
    | none => false)) &&
  (p.mts.all fun q => decide (nmOf p.cls q.1 = q.2.2.1) && !(p.fds.contains q.2.2.2.1) && !(q.2.2.2.1 == ⟨#[]⟩) && (match p.tbl[q.2.1]? with
    | some t => decide (t.d.at_ = (q.2.2.1, some q.2.2.2.1)) && decide (t.fd.np = q.2.2.2.2)
    | none => false)) &&
  (p.cfs.all fun q => decide (nmOf p.cls q.1 = q.2.1) && fldB p q.2.2.1 q.2.2.2)
def okP (p : Pg) : Bool := okP0 p && okX p
def Bnd (t : Df) : Prop := ∀ (kV doc pm : Value) (an : Option Addr) (cdv ct : Value) (us : List Value), us.length = t.pn.length → bindArgs (PySem.W.fnOf t.d.name t.d.qual t.d.params t.d.body t.d.scope .none kV doc pm an cdv ct) ⟨us, []⟩ = pure (t.pn.zip us)
/-- the same of a def whose last parameter has the default None -/
def Bnd1 (t : Df) : Prop := ∀ (j : Bool) (T : Addr) (kV doc pm : Value) (an : Option Addr) (cdv ct : Value) (us its : List Value), us.length + (if j then 0 else 1) = t.pn.length → its.length = 1 →
  ∃ k, bindArgs (PySem.W.fnOf t.d.name t.d.qual t.d.params t.d.body t.d.scope (.ref T) kV doc pm an cdv ct) ⟨us, []⟩ = seqItems? (.ref T) >>= k ∧ k (some its.toArray) = pure (t.pn.zip (us ++ its.drop (if j then 1 else 0)))
inductive AllB : List Df → Prop
  | nil : AllB []
  | cons {t : Df} {l : List Df} (b : Bnd t) (bs : AllB l) (e : t.d.dfl = [] := by rfl) : AllB (t :: l)
  | cons1 {t : Df} {l : List Df} (b : Bnd1 t) (bs : AllB l) (e : t.d.dfl = [.non] := by rfl) : AllB (t :: l)
theorem AllB.get : ∀ {l : List Df} {i : Nat} {t : Df}, AllB l → l[i]? = some t → (t.d.dfl = [] ∧ Bnd t) ∨ (t.d.dfl = [.non] ∧ Bnd1 t)
  | _, _, _, .nil, e => by simp at e
  | _, 0, _, .cons b _ h, e => by
    simp at e
    subst e
    exact .inl ⟨h, b⟩
  | _, 0, _, .cons1 b _ h, e => by
    simp at e
    subst e
    exact .inr ⟨h, b⟩
  | _, i + 1, _, .cons _ bs _, e => AllB.get bs (i := i) (by simpa using e)
  | _, i + 1, _, .cons1 _ bs _, e => AllB.get bs (i := i) (by simpa using e)
theorem binds_ok {K : PySem.W.Frag} {t : Df} {fa : Addr} {fdat : FuncData} (F : FunD K t.d.name t.d.qual t.d.params t.d.body t.d.scope (t.d.dvs K) [] fa fdat) (h : (t.d.dfl = [] ∧ Bnd t) ∨ (t.d.dfl = [.non] ∧ Bnd1 t)) (hp : 0 < t.pn.length ∨ t.d.dfl = []) :
    Binds K fdat t.pn [] ∧ (t.d.d1 = true → ∃ ds, Vals [.non] ds ∧ Binds K fdat t.pn ds) := by
  rcases h with ⟨e, b⟩ | ⟨e, b⟩
  · have ed : t.d.dvs K = [] := by
      unfold He.DefD.dvs
      rw [e]
      rfl
    rw [ed] at F
    refine ⟨F.bindsN b, fun h => ?_⟩
    unfold He.DefD.d1 at h
    rw [e] at h
    cases h
  · have ed : t.d.dvs K = [.non] := by
      unfold He.DefD.dvs
      rw [e]
      rfl
    rw [ed] at F
    have lp : 0 < t.pn.length := hp.elim id fun q => by rw [e] at q; cases q
    constructor
    · obtain ⟨ds, h1, h2⟩ := F.binds1 t.pn.length 1 (by simp) (by simp) fun T kV doc pm an cdv ct us its l1 l2 => b true T kV doc pm an cdv ct us its (by simpa using l1) l2
      cases h1
      exact h2
    · intro _
      exact F.binds1 (t.pn.length - 1) 0 (by simp) (by simp; omega) fun T kV doc pm an cdv ct us its l1 l2 => b false T kV doc pm an cdv ct us its (by simp; omega) l2
/-- what the module has -/
theorem okP_dl {p : Pg} {i : Nat} {t : Df} (hok : okP0 p = true) (e : p.tbl[i]? = some t) : 0 < t.pn.length ∨ t.d.dfl = [] := by
  unfold okP0 at hok
  simp only [Bool.and_eq_true] at hok
  have q := List.all_eq_true.mp hok.1.1.1.1 t (List.mem_of_getElem? e)
  unfold okD at q
  simp only [Bool.and_eq_true, Bool.or_eq_true, decide_eq_true_eq, List.isEmpty_iff] at q
  rw [q.1.1.1.1.2]
  exact q.1.1.1.2.symm
structure Has (K : PySem.W.Frag) (mg : Str → Option Value) (p : Pg) : Prop where
  f : ∀ (i : Nat) (t : Df), p.tbl[i]? = some t → ∃ fdat, FunD K t.d.name t.d.qual t.d.params t.d.body t.d.scope (t.d.dvs K) [] (He.fAd K t.d.at_) fdat ∧ (t.d.at_.2 = none → mg t.d.name = some (.ref (He.fAd K t.d.at_)))
  gi : ∀ q ∈ p.gi, ∃ t, mg q.1 = some (.int q.2 t)
  gs : ∀ q ∈ p.gs, ∃ t, mg q.1 = some (.str q.2 t)
  gl : ∀ q ∈ p.gl, ∃ a, mg q.2 = some (.ref a)
  nb : ∀ y ∈ p.nb, mg y = none
  mks : ∀ q ∈ p.mks, mg q.2.2.1 = some (.ref (He.ga K q.2.2.1)) ∧ Mk K (He.ga K q.2.2.1) (He.ma K (He.ga K q.2.2.1) "__init__")
  mts : ∀ q ∈ p.mts, mg q.2.2.1 = some (.ref (He.ga K q.2.2.1)) ∧ Cls K (He.ga K q.2.2.1) ∧ Meth K (He.ga K q.2.2.1) q.2.2.2.1 (He.ma K (He.ga K q.2.2.1) q.2.2.2.1)
  cfs : ∀ q ∈ p.cfs, mg q.2.1 = some (.ref (He.ga K q.2.1)) ∧ Cls K (He.ga K q.2.1) ∧ NoAttr K (He.ga K q.2.1) q.2.2.2
  xl : ∀ q ∈ p.xl, nmOf p.cls q.1 = q.2 ∧ mg q.2 = some (.ref (He.ga K q.2)) ∧ XfC K (He.ga K q.2) ∧ (∀ f ∈ p.xfs, nmOf p.fds f.1 = f.2 ∧ PySem.W.findIn K (.ref (He.ga K q.2)) f.2 = some none) ∧ ExcC K (He.ga K q.2) ∧
    ∀ r ∈ p.xcs, ∃ Y, mg r.2 = some (.ref Y) ∧ PySem.W.kitOne K (.ref (He.ga K q.2)) (.ref Y) = some (r.1.contains q.1) ∧ PySem.W.exmOne K (.ref (He.ga K q.2)) (.ref Y) = some (r.1.contains q.1)
  xcm : ∀ r ∈ p.xcs, ∃ Y, mg r.2 = some (.ref Y)
  xrs : ∀ q ∈ p.xrs, nmOf p.cls q.1 = q.2.2 ∧ nmOf p.fds q.2.1 = ("name" : Str) ∧ ∃ qn C fI, PySem.OwnN.OwnTxt K mg q.2.2 qn C fI
theorem nodup_at {l : List Str} {i j : Nat} {y : Str} (h : l.Nodup) (h1 : l[i]? = some y) (h2 : l[j]? = some y) : i = j := by
  exact nodup_ix h h1 h2
theorem fldB_ok {p : Pg} {z : Z} {f : Nat} {n : Str} (hz : z.fn = nmOf p.fds) (h : fldB p f n = true) : FldN z f n := by
  unfold fldB at h
  simp only [Bool.and_eq_true, decide_eq_true_eq, Bool.not_eq_true', beq_eq_false_iff_ne] at h
  obtain ⟨⟨h1, h2⟩, h3⟩ := h
  intro g
  rw [hz]
  unfold nmOf
  constructor
  · intro e
    cases q : p.fds[g]? with
    | none =>
      rw [q] at e
      exact absurd e.symm h2
    | some m =>
      rw [q] at e
      have e : m = n := e
      subst e
      exact nodup_at h3 q h1
  · rintro rfl
    rw [h1]
    rfl
theorem no_name {p : Pg} {z : Z} {n : Str} (hz : z.fn = nmOf p.fds) (h1 : p.fds.contains n = false) (h2 : (n == ⟨#[]⟩) = false) : ∀ g, z.fn g ≠ n := by
  intro g
  rw [hz]
  unfold nmOf
  intro e
  cases q : p.fds[g]? with
  | none =>
    rw [q] at e
    exact (beq_eq_false_iff_ne.mp h2) e.symm
  | some m =>
    rw [q] at e
    have e : m = n := e
    subst e
    have := List.mem_of_getElem? q
    rw [← List.contains_iff_mem, h1] at this
    cases this
section
variable {P : Program} {w : World} {K : PySem.W.Frag} {mg : Str → Option Value} {base : Heap} {z : Z} {p : Pg} {ms : Nat → Nat → Option Nat} {wf : Nat}
theorem vm_fn (hxs : z.xs = none) (hK : z.K = K) (hm : z.mg = mg) (hg : z.gn = nmOf p.cls) (hf : z.fn = nmOf p.fds) (hok : okP0 p = true) (hb : AllB p.tbl) (A0 : Has K mg p) :
    ∀ (n i : Nat) (t : Df) (fdat : FuncData), p.tbl[i]? = some t → FunD K t.d.name t.d.qual t.d.params t.d.body t.d.scope (t.d.dvs K) [] (He.fAd K t.d.at_) fdat →
      FnOk P w K mg base (L2.CX P w) (2 * n) (He.fAd K t.d.at_) fdat t.pn (spC z t.fd (callF p.P ms wf n i))
  | 0, i, t, fdat, e, F => by
    unfold okP0 at hok
    simp only [Bool.and_eq_true] at hok
    have q := List.all_eq_true.mp hok.1.1.1.1 t (List.mem_of_getElem? e)
    unfold okD at q
    simp only [Bool.and_eq_true, decide_eq_true_eq] at q
    exact fn_none q.1.1.1.1.2 fun args => rfl
  | n + 1, i, t, fdat, e, F => by
    have hok' := hok
    unfold okP0 at hok'
    simp only [Bool.and_eq_true] at hok'
    obtain ⟨⟨⟨⟨hok1, hok2⟩, hok3⟩, hok4⟩, hok5⟩ := hok'
    have q := List.all_eq_true.mp hok1 t (List.mem_of_getElem? e)
    unfold okD at q
    simp only [Bool.and_eq_true, decide_eq_true_eq] at q
    obtain ⟨⟨⟨⟨⟨⟨_, _⟩, l1⟩, _⟩, l2⟩, sc⟩, mt⟩ := q
    refine FnOk.mono (j := (2 * n + 1) + 1) (fn_body (Γ := ⟨callF p.P ms wf n, ms, wf, t.fd.io, none⟩) F (fnSc_ok sc) l1 l2 (fun cdv A outer s H E hr => ?_) fun args la => ?_) (by omega)
    · refine mtSs_ok (m := mxD p t) (z := z) (Γ := ⟨callF p.P ms wf n, ms, wf, t.fd.io, none⟩) (W := fun cls d _ H => E cls d H) (io := t.fd.io) t.fd.body ?_ rfl (passes_of (X := cxOf (L2.CX P w) P w K mg base t.N t.d.qual t.d.scope (He.fAd K t.d.at_) cdv A outer s H E) (K := L2.CX P w outer H s E) (E₁ := L2.CX P w outer H s E) rfl) _ mt
      have hr2 : Room (2 * n) (A.deeper (envOfC t.d.qual t.d.scope s.heap.objs.size (He.fAd K t.d.at_) cdv)) := hr.mono (by omega)
      exact {
        N := rfl
        nd := (fnSc_ok sc).nd
        sc := rfl
        fn := fun _ _ => rfl
        calm := fun _ => rfl
        xs := fun _ => hxs
        xin := fun _ => rfl
        xok := fun i e => by cases e
        K := hK.symm
        mg := hm.symm
        units := by
          have := hr.un
          show (A.deeper _).units + 64 < cLine
          omega
        tk := fun _ => takes_of rfl rfl rfl rfl
        gi := A0.gi
        gs := A0.gs
        gl := fun q m => by
          have e := of_decide_eq_true (List.all_eq_true.mp hok2 q m)
          exact ⟨by rw [hg]; exact e, A0.gl q m⟩
        nb := A0.nb
        fns := fun f y k ef ey => by
          have ef' : (p.tbl.map fun t => (match t.d.at_.2 with
            | none => t.d.name
            | some _ => (⟨#[]⟩ : Str), t.fd.np))[f]? = some (y, k) := ef
          rw [List.getElem?_map] at ef'
          obtain ⟨t', e1, e2⟩ := Option.map_eq_some_iff.mp ef'
          obtain ⟨fdat', F', m'⟩ := A0.f f t' e1
          cases c : t'.d.at_.2 with
          | none =>
            rw [c] at e2
            cases e2
            exact ⟨t'.fd, rfl, ⟨2 * n, _, fdat', t'.pn, vm_fn hxs hK hm hg hf hok hb A0 n f t' fdat' e1 F', hr2, m' c, F'.kp, (binds_ok F' (hb.get e1) (okP_dl hok e1)).1⟩⟩
          | some mm =>
            rw [c] at e2
            cases e2
            cases ey
        dfl := fun f y k e1 ef ey => by
          have ef' : (p.tbl.map fun t => (match t.d.at_.2 with
            | none => t.d.name
            | some _ => (⟨#[]⟩ : Str), t.fd.np))[f]? = some (y, k) := ef
          have e1' : (p.tbl.map fun t => t.d.d1)[f]? = some true := e1
          rw [List.getElem?_map] at ef' e1'
          obtain ⟨t', e2, e3⟩ := Option.map_eq_some_iff.mp ef'
          rw [e2] at e1'
          have hd : t'.d.d1 = true := by simpa using e1'
          obtain ⟨fdat', F', m'⟩ := A0.f f t' e2
          cases c : t'.d.at_.2 with
          | none =>
            rw [c] at e3
            cases e3
            exact ⟨t'.fd, rfl, ⟨2 * n, _, fdat', t'.pn, vm_fn hxs hK hm hg hf hok hb A0 n f t' fdat' e2 F', hr2, m' c, F'.kp, (binds_ok F' (hb.get e2) (okP_dl hok e2)).2 hd⟩⟩
          | some mm =>
            rw [c] at e3
            cases e3
            cases ey
        mks := fun q m => by
          have e := List.all_eq_true.mp hok3 q m
          simp only [Bool.and_eq_true, decide_eq_true_eq] at e
          obtain ⟨e1, e2⟩ := e
          split at e2
          · rename_i t' et
            simp only [Bool.and_eq_true, decide_eq_true_eq] at e2
            obtain ⟨⟨e3, e4⟩, e5⟩ := e2
            obtain ⟨fdat', F', _⟩ := A0.f _ t' et
            obtain ⟨m1, m2⟩ := A0.mks q m
            have ok := vm_fn hxs hK hm hg hf hok hb A0 n _ t' fdat' et F'
            rw [e3] at ok
            exact ⟨by rw [hg]; exact e1, t'.fd, e4, e5, ⟨2 * n, _, _, fdat', t'.pn, ok, hr, m1, m2, (binds_ok F' (hb.get et) (okP_dl hok et)).1⟩⟩
          · cases e2
        mts := fun q m => by
          have e := List.all_eq_true.mp hok4 q m
          simp only [Bool.and_eq_true, decide_eq_true_eq, Bool.not_eq_true'] at e
          obtain ⟨⟨⟨e1, e6⟩, e7⟩, e2⟩ := e
          split at e2
          · rename_i t' et
            simp only [Bool.and_eq_true, decide_eq_true_eq] at e2
            obtain ⟨e3, e4⟩ := e2
            obtain ⟨fdat', F', _⟩ := A0.f _ t' et
            obtain ⟨m1, m2, m3⟩ := A0.mts q m
            have ok := vm_fn hxs hK hm hg hf hok hb A0 n _ t' fdat' et F'
            rw [e3] at ok
            exact ⟨by rw [hg]; exact e1, no_name hf e6 e7, t'.fd, e4, ⟨2 * n, _, _, fdat', t'.pn, ok, hr2, m1, m2, m3, (binds_ok F' (hb.get et) (okP_dl hok et)).1⟩⟩
          · cases e2
        cfs := fun q m => by
          have e := List.all_eq_true.mp hok5 q m
          simp only [Bool.and_eq_true, decide_eq_true_eq] at e
          obtain ⟨m1, m2, m3⟩ := A0.cfs q m
          exact ⟨by rw [hg]; exact e.1, ⟨_, m1, m2, m3⟩, fldB_ok hf e.2⟩
        stk := fun _ => ⟨rfl, rfl⟩
        exs := fun c m => by
          obtain ⟨q, m', rfl⟩ := List.mem_map.mp (show c ∈ p.xl.map (·.1) from m)
          obtain ⟨h1, h2, h3, h4, h5, h6⟩ := A0.xl q m'
          exact ⟨_, ⟨by rw [hm, hg, h1]; exact h2, h3, fun f fm => ⟨by rw [hf]; exact (h4 f fm).1, (h4 f fm).2⟩, h5, h6⟩⟩
        xcm := A0.xcm
        xrs := fun q m => by
          obtain ⟨h1, h2, qn, C, fI, T⟩ := A0.xrs q m
          exact ⟨by rw [hg]; exact h1, by rw [hf]; exact h2, qn, C, fI, _, T, hr2⟩ }
    · show callF p.P ms wf (n + 1) i args = _
      unfold callF Pg.P
      rw [List.getElem?_map, e]
      dsimp only [Option.map]
      rw [if_pos la]
      rfl
end
/-! ### a law -/
def faOf (p : Pg) : List He.Fa := (p.tbl.filter fun t => match t.d.at_.2 with
  | none => true
  | some _ => false).map (fun t => .glo t.d.name) ++ (p.gi.map (fun q => .int q.1 q.2) ++ (p.gs.map (fun q => .str q.1 q.2) ++ (p.gl.map (fun q => .glo q.2) ++ (p.nb.map .free ++
  ((p.mks.map fun q => [He.Fa.glo q.2.2.1, .mkr q.2.2.1]).flatten ++ ((p.mts.map fun q => [He.Fa.glo q.2.2.1, .cls q.2.2.1, .meth q.2.2.1 q.2.2.2.1]).flatten ++ ((p.cfs.map fun q => [He.Fa.glo q.2.1, .cls q.2.1, .noat q.2.1 q.2.2.2]).flatten ++ ((p.xl.map fun q => He.Fa.glo q.2) ++ ((p.xcs.map fun q => He.Fa.glo q.2) ++ (p.xrs.map fun q => He.Fa.glo q.2.2))))))))))
/-! ### what the module says of its exceptions -/
def excB (K : PySem.W.Frag) (C : Addr) : Bool := decide (PySem.W.findIn K (.ref C) "__getattribute__" = some (some (.builtin "BaseException.__getattribute__"))) && decide (PySem.W.findIn K (.ref C) "__getattr__" = some none) && decide (PySem.W.subIn K (.ref C) (.type "BaseException") = some true) &&
  PySem.W.hasDictIn K C && decide (PySem.W.findIn K (.ref C) "__class__" = some (some (.builtin "object.__class__"))) && decide (PySem.W.specialIn K (.builtin "object.__class__") "__get__" = some (some (.builtin "getset_descriptor.__get__"))) &&
  decide (PySem.W.takesIn K (.builtin "object.__class__") = some true) && decide (PySem.W.mroIn K C (.type "object") = some true)
theorem excB_ok {K : PySem.W.Frag} {C : Addr} (h : excB K C = true) : ExcC K C := by
  unfold excB at h
  simp only [Bool.and_eq_true, decide_eq_true_eq] at h
  obtain ⟨⟨⟨⟨⟨⟨⟨h1, h2⟩, h3⟩, h4⟩, h5⟩, h6⟩, h7⟩, h8⟩ := h
  exact ⟨h1, h2, h3, h4, h5, h6, h7, h8⟩
def ownB (K : PySem.W.Frag) (C fI : Addr) : Bool := (match K.lookup C with
  | some ⟨.type "type", _, .cls cd, sl⟩ => (match cd.mro, sl.toList with
    | .ref C' :: bm, [_, _, _, _, some (.builtin n), _] => C' == C && n == "ValueError.__new__" && !cd.hasDel && cd.hasDict && PySem.HandSPX.refsVE bm
    | _, _ => false)
  | _ => false) && decide (PySem.W.findIn K (.ref C) "__setattr__" = some (some (.builtin "object.__setattr__"))) && decide (PySem.W.findIn K (.ref C) "__getattribute__" = some (some (.builtin "BaseException.__getattribute__"))) && decide (PySem.W.findIn K (.ref C) "__getattr__" = some none) &&
  decide (PySem.W.findIn K (.ref C) "name" = some none) && decide (PySem.W.findIn K (.ref C) "__init__" = some (some (.ref fI))) && decide (PySem.W.typeIn K (.ref fI) = some (.type "function")) && PySem.W.keepIn K (.ref C) && decide (PySem.W.subIn K (.ref C) (.type "BaseException") = some true) &&
  decide (PySem.W.typeIn K (.ref C) = some (.type "type")) && PySem.W.hasDictIn K C && decide (PySem.W.exmOne K (.ref C) (.ref C) = some true)
theorem iniB_ok {K : PySem.W.Frag} {d : He.DefD} {f : Addr} {fd : FuncData} (h : iniB d = true) (F : FunD K d.name d.qual d.params d.body d.scope (d.dvs K) (d.kws K) f fd) :
    ∃ (oc : Value) (od : Option Addr) (kV doc pm : Value) (an : Option Addr) (cdv ct : Value) (osl : Array (Option Value)) (p1 p2 q1 q2 q3 q4 : Pos),
    K.lookup f = some ⟨oc, od, .func (PySem.W.fnOf "__init__" d.qual (PySem.OwnN.iA p1 p2) (PySem.OwnN.iB q1 q2 q3 q4) PySem.OwnN.iS .none kV doc pm an cdv ct), osl⟩ ∧ PySem.W.codeIn K cdv d.qual = true := by
  obtain ⟨at_, name, qual, params, body, scope, dfl, kwd⟩ := d
  unfold iniB at h
  simp only [Bool.and_eq_true, decide_eq_true_eq, List.isEmpty_iff] at h
  obtain ⟨⟨⟨⟨h1, h2⟩, h3⟩, h4⟩, h5⟩ := h
  subst h1 h2 h3
  obtain ⟨oc, od, dV, kV, doc, pm, an, cdv, ct, osl, rfl, lk, hcd, hd, hkw⟩ := F.ex
  have ed : dV = .none := by
    rcases hd with ⟨_, e⟩ | ⟨e, _⟩
    · exact e
    · exact absurd rfl e
  subst ed
  split at h4
  · rename_i a p1 b p2
    simp only [Bool.and_eq_true, decide_eq_true_eq] at h4
    obtain ⟨rfl, rfl⟩ := h4
    split at h5
    · rename_i a q1 b q2 c q3 q4
      simp only [Bool.and_eq_true, decide_eq_true_eq] at h5
      obtain ⟨⟨rfl, rfl⟩, rfl⟩ := h5
      exact ⟨oc, od, kV, doc, pm, an, cdv, ct, osl, p1, p2, q1, q2, q3, q4, lk, hcd⟩
    · cases h5
  · cases h4
theorem ownB_ok {K : PySem.W.Frag} {mg : Str → Option Value} {y : Str} {d : He.DefD} {C fI : Addr} {fd : FuncData} (g : mg y = some (.ref C)) (h : ownB K C fI = true) (hi : iniB d = true) (F : FunD K d.name d.qual d.params d.body d.scope (d.dvs K) (d.kws K) fI fd) : PySem.OwnN.OwnTxt K mg y d.qual C fI := by
  unfold ownB at h
  simp only [Bool.and_eq_true, decide_eq_true_eq] at h
  obtain ⟨⟨⟨⟨⟨⟨⟨⟨⟨⟨⟨h1, h2⟩, h3⟩, h4⟩, h5⟩, h6⟩, h7⟩, h8⟩, h9⟩, h10⟩, h11⟩, h12⟩ := h
  refine ⟨g, ?_, h2, h3, h4, h5, h6, h7, h8, h9, h10, h11, h12, iniB_ok hi F⟩
  split at h1
  · rename_i dd cd sl ho
    split at h1
    · rename_i C' bm k0 k1 k2 k3 n k5 hm hs
      simp only [Bool.and_eq_true, beq_iff_eq, Bool.not_eq_true'] at h1
      obtain ⟨⟨⟨⟨rfl, rfl⟩, hdel⟩, hdict⟩, ht⟩ := h1
      obtain ⟨nm, bs, mro, ns, qn, hd, sn, sub, ab, col, del⟩ := cd
      dsimp only at hm hdel hdict
      subst hm hdel hdict
      have hsl : sl = #[k0, k1, k2, k3, some (.builtin "ValueError.__new__"), k5] := by
        obtain ⟨l⟩ := sl
        simp only at hs
        rw [hs]
      subst hsl
      exact ⟨nm, qn, ns, bs, bm, sn, sub, ab, col, dd, k0, k1, k2, k3, k5, ho, ht⟩
    · cases h1
  · cases h1
def exB (p : Pg) (K : PySem.W.Frag) : Bool := (p.xl.all fun q => xfB K (He.ga K q.2) && excB K (He.ga K q.2) && (p.xfs.all fun f => decide (PySem.W.findIn K (.ref (He.ga K q.2)) f.2 = some none)) &&
    p.xcs.all fun r => decide (PySem.W.kitOne K (.ref (He.ga K q.2)) (.ref (He.ga K r.2)) = some (r.1.contains q.1)) && decide (PySem.W.exmOne K (.ref (He.ga K q.2)) (.ref (He.ga K r.2)) = some (r.1.contains q.1))) &&
  p.xrs.all fun q => ownB K (He.ga K q.2.2) (He.ma K (He.ga K q.2.2) "__init__")
/-- the kit's hook, and exB -/
def SaysE (p : Pg) (K : PySem.W.Frag) : Prop := He.SaysD (faOf p) p.dfs K ∧ exB p K = true
def obE (p : Pg) (K : PySem.W.Frag) : He.AlD := ((He.obsD (faOf p) p.dfs K).1 && exB p K, (He.obsD (faOf p) p.dfs K).2)
def obsE (n : Nat) (p : Pg) (g : Addr → Option Obj) : He.AlD := obE p (He.frG g (He.asD g n))
theorem saysE_of {p : Pg} {K : PySem.W.Frag} (e : obE p K = He.valD p.dfs) : SaysE p K := by
  have e1 : ((He.obsD (faOf p) p.dfs K).1 && exB p K) = true := congrArg (fun z : He.AlD => z.1) e
  have e2 : (obE p K).2 = (He.valD p.dfs).2 := congrArg (fun z : He.AlD => z.2) e
  obtain ⟨h1, h2⟩ := Bool.and_eq_true_iff.mp e1
  exact ⟨Prod.ext h1 e2, h2⟩
def hookE (n : Nat) (p : Pg) : PySem.W.Hook where
  α := He.AlD
  obs := fun s => obsE n p s.heap.get?
  val := fun _ => He.valD p.dfs
  says := fun _ h => ∃ K : PySem.W.Frag, K.In h ∧ SaysE p K
  of := fun _ _ e => ⟨_, He.frG_in, saysE_of e⟩
  keeps := fun _ _ _ ⟨K, hK, c⟩ k => ⟨K, PySem.W.Frag.In.keeps hK k, c⟩
theorem obsE_eq {n : Nat} {p : Pg} {g : Addr → Option Obj} {s : Shared} (h : ∀ a, g a = s.heap.get? a) : obsE n p g = (hookE n p).obs s := by
  have e : g = s.heap.get? := funext h
  rw [e] <;> rfl
theorem mem_flat {α β : Type} {l : List α} {f : α → List β} {a : α} {b : β} (h : a ∈ l) (h2 : b ∈ f a) : b ∈ (l.map f).flatten := List.mem_flatten.mpr ⟨f a, List.mem_map.mpr ⟨a, h, rfl⟩, h2⟩
theorem has_of {K : PySem.W.Frag} {h : Heap} {mg : Str → Option Value} {p : Pg} (hok : okP p = true) (X : K.In h) (G : h.Ns mainGlobals mg) (cc : SaysE p K) : Has K mg p := by
  obtain ⟨c, cx⟩ := cc
  obtain ⟨hok, hox⟩ := Bool.and_eq_true_iff.mp hok
  unfold exB at cx
  unfold okX at hox
  simp only [Bool.and_eq_true, List.all_eq_true, decide_eq_true_eq] at cx hox
  obtain ⟨cx1, cx2⟩ := cx
  obtain ⟨⟨ho1, ho2⟩, ho3⟩ := hox
  have t1 : ∀ f ∈ p.gi.map (fun q => He.Fa.int q.1 q.2), f ∈ faOf p := fun f m => List.mem_append_right _ (List.mem_append_left _ m)
  have t2 : ∀ f ∈ p.gs.map (fun q => He.Fa.str q.1 q.2), f ∈ faOf p := fun f m => List.mem_append_right _ (List.mem_append_right _ (List.mem_append_left _ m))
  have t3 : ∀ f ∈ p.gl.map (fun q => He.Fa.glo q.2), f ∈ faOf p := fun f m => List.mem_append_right _ (List.mem_append_right _ (List.mem_append_right _ (List.mem_append_left _ m)))
  have t4 : ∀ f ∈ p.nb.map He.Fa.free, f ∈ faOf p := fun f m => List.mem_append_right _ (List.mem_append_right _ (List.mem_append_right _ (List.mem_append_right _ (List.mem_append_left _ m))))
  have t5 : ∀ f ∈ (p.mks.map fun q => [He.Fa.glo q.2.2.1, .mkr q.2.2.1]).flatten, f ∈ faOf p := fun f m => List.mem_append_right _ (List.mem_append_right _ (List.mem_append_right _ (List.mem_append_right _ (List.mem_append_right _ (List.mem_append_left _ m)))))
  have t6 : ∀ f ∈ (p.mts.map fun q => [He.Fa.glo q.2.2.1, .cls q.2.2.1, .meth q.2.2.1 q.2.2.2.1]).flatten, f ∈ faOf p := fun f m => List.mem_append_right _ (List.mem_append_right _ (List.mem_append_right _ (List.mem_append_right _ (List.mem_append_right _ (List.mem_append_right _ (List.mem_append_left _ m))))))
  have t7 : ∀ f ∈ (p.cfs.map fun q => [He.Fa.glo q.2.1, .cls q.2.1, .noat q.2.1 q.2.2.2]).flatten, f ∈ faOf p := fun f m => List.mem_append_right _ (List.mem_append_right _ (List.mem_append_right _ (List.mem_append_right _ (List.mem_append_right _ (List.mem_append_right _ (List.mem_append_right _ (List.mem_append_left _ m)))))))
  have t8 : ∀ f ∈ p.xl.map (fun q => He.Fa.glo q.2), f ∈ faOf p := fun f m => List.mem_append_right _ (List.mem_append_right _ (List.mem_append_right _ (List.mem_append_right _ (List.mem_append_right _ (List.mem_append_right _ (List.mem_append_right _ (List.mem_append_right _ (List.mem_append_left _ m))))))))
  have t9 : ∀ f ∈ p.xcs.map (fun q => He.Fa.glo q.2), f ∈ faOf p := fun f m => List.mem_append_right _ (List.mem_append_right _ (List.mem_append_right _ (List.mem_append_right _ (List.mem_append_right _ (List.mem_append_right _ (List.mem_append_right _ (List.mem_append_right _ (List.mem_append_right _ (List.mem_append_left _ m)))))))))
  have t10 : ∀ f ∈ p.xrs.map (fun q => He.Fa.glo q.2.2), f ∈ faOf p := fun f m => List.mem_append_right _ (List.mem_append_right _ (List.mem_append_right _ (List.mem_append_right _ (List.mem_append_right _ (List.mem_append_right _ (List.mem_append_right _ (List.mem_append_right _ (List.mem_append_right _ (List.mem_append_right _ m)))))))))
  have g9 : ∀ r ∈ p.xcs, mg r.2 = some (.ref (He.ga K r.2)) := fun r m => He.glo_ok X G (c.facts (t9 _ (List.mem_map.mpr ⟨r, m, rfl⟩)))
  refine ⟨fun i t e => ?_, fun q m => He.int_ok X G (c.facts (t1 _ (List.mem_map.mpr ⟨q, m, rfl⟩))), fun q m => He.str_ok X G (c.facts (t2 _ (List.mem_map.mpr ⟨q, m, rfl⟩))), fun q m => ⟨_, He.glo_ok X G (c.facts (t3 _ (List.mem_map.mpr ⟨q, m, rfl⟩)))⟩,
    fun y m => He.free_ok X G (c.facts (t4 _ (List.mem_map.mpr ⟨y, m, rfl⟩))), fun q m => ⟨He.glo_ok X G (c.facts (t5 _ (mem_flat m (by simp)))), He.mkr_ok (c.facts (t5 _ (mem_flat m (by simp))))⟩,
    fun q m => ⟨He.glo_ok X G (c.facts (t6 _ (mem_flat m (by simp)))), He.cls_ok (c.facts (t6 _ (mem_flat m (by simp)))), He.meth_ok (c.facts (t6 _ (mem_flat m (by simp))))⟩,
    fun q m => ⟨He.glo_ok X G (c.facts (t7 _ (mem_flat m (by simp)))), He.cls_ok (c.facts (t7 _ (mem_flat m (by simp)))), He.noat_ok (c.facts (t7 _ (mem_flat m (by simp))))⟩,
    fun q m => ⟨ho1 q m, He.glo_ok X G (c.facts (t8 _ (List.mem_map.mpr ⟨q, m, rfl⟩))), xfB_ok (cx1 q m).1.1.1, fun f fm => ⟨ho2 f fm, (cx1 q m).1.2 f fm⟩, excB_ok (cx1 q m).1.1.2, fun r rm => ⟨_, g9 r rm, ((cx1 q m).2 r rm).1, ((cx1 q m).2 r rm).2⟩⟩,
    fun r m => ⟨_, g9 r m⟩, fun q m => ?_⟩
  rotate_left
  · obtain ⟨⟨k1, k2⟩, k3⟩ := ho3 q m
    obtain ⟨d, dm, k4⟩ := List.any_eq_true.mp k3
    simp only [Bool.and_eq_true, decide_eq_true_eq] at k4
    obtain ⟨k4, k5⟩ := k4
    obtain ⟨fdat, F⟩ := c.defs (d := d) (List.mem_append_right _ dm)
    refine ⟨k1, k2, d.qual, _, _, ownB_ok (fd := fdat) (He.glo_ok X G (c.facts (t10 _ (List.mem_map.mpr ⟨q, m, rfl⟩)))) (cx2 q m) k5 ?_⟩
    rw [k4] at F
    exact F
  have m := List.mem_of_getElem? e
  unfold okP0 at hok
  simp only [Bool.and_eq_true] at hok
  have q := List.all_eq_true.mp hok.1.1.1.1 t m
  unfold okD at q
  simp only [Bool.and_eq_true, decide_eq_true_eq, List.isEmpty_iff] at q
  obtain ⟨⟨⟨⟨⟨⟨q2, q3⟩, l1⟩, _⟩, l2⟩, sc⟩, mt⟩ := q
  obtain ⟨fdat, F⟩ := c.defs (d := t.d) (List.mem_append_left _ (List.mem_map.mpr ⟨t, m, rfl⟩))
  refine ⟨fdat, ?_, fun e0 => ?_⟩
  · unfold He.DefD.kws at F
    rw [q2] at F
    exact F
  · rw [e0] at q3
    have e1 : t.d.at_.1 = t.d.name := of_decide_eq_true q3
    have e2 : He.fAd K t.d.at_ = He.ga K t.d.name := by
      unfold He.fAd
      rw [e0, e1]
    rw [e2]
    exact He.glo_ok X G (c.facts (f := .glo t.d.name) (List.mem_append_left _ (List.mem_map.mpr ⟨t, List.mem_filter.mpr ⟨m, by rw [e0]⟩, rfl⟩)))
def lawArgs (ns : List Int) : List (Bool × D) := [(false, .lst false (ns.map .int))]
theorem Ts.ints {z : Z} {G H : Hp} : ∀ ns : List Int, Ts z G H (ns.map V.int) (ns.map D.int) []
  | [] => .nil
  | n :: ns => .con (.int n) (Ts.ints ns)
theorem vm_walk {l : PySem.W.OpenLaw} {n : Nat} {q : Program} {loose : List Str} {XP : (Str → Option Value) → Heap → Prop} {d : DefRec} {x : Str} {p : Pg} {ms : Nat → Nat → Option Nat} {wf fuel li M : Nat} {tl : Df}
    (hn : l.most = some n) (hn2 : n ≤ sizeLine) (hdf : d.params.defaults = []) (hr : Room (2 * fuel) callerA) (hok : okP p = true) (hb : AllB p.tbl) (htl : p.tbl[li]? = some tl) (hat : tl.d.at_.2 = none) (hname : d.name = tl.d.name) (hpn : tl.pn = [x]) (hio : tl.fd.io = []) (hdl : tl.d.dfl = [])
    (math : ∀ ns : List Int, ns.length ≤ n → ∃ f outs, callF p.P ms wf fuel li (lawArgs ns) = .ok f (.bl true) outs) :
    PySem.W.WalkO q loose XP (hookE M p).says l.row.toRowW d [] (fun f vs => PySem.call f vs) := by
  refine Att.attach_call hn hdf fun w s₀ s₁ mg mb fa o pm cd doc a vs ns G Y ho hd hcd hmg hobj hints hlen hg => ?_
  obtain ⟨K, KX, c⟩ := Y
  have A0 : Has K mg p := has_of hok KX G.T.g c
  obtain ⟨fdat, F, m⟩ := A0.f li tl htl
  have m := m hat
  have e : fa = He.fAd K tl.d.at_ := by
    have q : mg d.name = some (.ref fa) := hmg
    rw [hname, m] at q
    cases q
    rfl
  subst e
  have B : Bnd tl := by
    rcases hb.get htl with h | h
    · exact h.2
    · rw [hdl] at h
      cases h.1
  have ed : tl.d.dvs K = [] := by
    unfold He.DefD.dvs
    rw [hdl]
    rfl
  have F0 := F
  rw [ed] at F0
  have hok := (Bool.and_eq_true_iff.mp hok).1
  have q := hok
  unfold okP0 at q
  simp only [Bool.and_eq_true] at q
  have q := List.all_eq_true.mp q.1.1.1.1 tl (List.mem_of_getElem? htl)
  unfold okD at q
  simp only [Bool.and_eq_true, decide_eq_true_eq] at q
  have l1 : tl.pn.length = tl.fd.np := q.1.1.1.1.2
  have bd : ∀ (s : Shared) (u : Value), BindsTo s fdat ⟨[u], []⟩ [(x, u)] := fun s u => by
    have z := FunD.bindsA (ps := tl.pn) F0 B s [u] (by rw [hpn]; rfl)
    rw [hpn] at z
    exact z
  have ok := fun (base : Heap) => vm_fn (P := l.prog) (w := w) (base := base) (z := ⟨K, mg, nmOf p.cls, nmOf p.fds, none⟩) (ms := ms) (wf := wf) rfl rfl rfl rfl rfl hok hb A0 fuel li tl fdat htl F
  rw [hpn] at ok
  refine law_call (k := 2 * fuel) (CX := L2.CX l.prog w) (sp := spC ⟨K, mg, nmOf p.cls, nmOf p.fds, none⟩ tl.fd (callF p.P ms wf fuel li)) KX G.T.g G.T.b G.T.builtins G.T.nolimit hg hobj hints (Nat.le_trans hlen hn2) hr (fun base _ _ => ok base) bd (fun H _ hS => ?_) fun H e s' z => ?_
  · have l2 : 1 = tl.fd.np := by rw [← l1, hpn]; rfl
    refine ⟨l2, fun _ => none, H, lawArgs ns, l2, ?_, ?_⟩
    · have t0 : TOs (⟨K, mg, nmOf p.cls, nmOf p.fds, none⟩ : Z) H H (startV tl.fd [.ref a]) (env0 tl.fd (lawArgs ns)) [] := by
        have tt := TPs.toTOs (z := ⟨K, mg, nmOf p.cls, nmOf p.fds, none⟩) (G := H) (H := H) (σ := []) (m := tl.fd.nn - tl.fd.np) (vs := [.ref a]) (os := [.v false (.lst false (ns.map .int))]) (C := []) (ds := lawArgs ns) rfl (.cons (A := []) (B := []) (.v (.lst hS (Ts.ints ns)) fun _ => rfl) .nil) rfl
        exact tt
      refine .intro (A := []) (C := []) t0 .nil List.nodup_nil (fun a m => absurd m List.not_mem_nil) (fun a u e => .inl e) (fun a u e => by cases e) (fun _ _ e => e) (fun _ _ e => by cases e) (fun p m => ?_) (Xz.no rfl)
      rw [hio] at m
      cases m
    · obtain ⟨f, outs, e⟩ := math ns hlen
      rw [e]
      intro v σ' G' H' env' _ r _
      exact Rel.topBl (ps := []) r
  · obtain ⟨a, B, H', cls, d, _, _, _, _, _, _, _, z⟩ := z
    exact z
end Vm
/-! Vm: what the evaluator does, for plain proofs. -/
namespace Vm
open PySem L2
open PyProof.Rows hiding St
@[simp] theorem dec_true {p : Prop} (h : p) : dec p = true := dec_of h
@[simp] theorem R_ok (o : O) (env : EnvD) (k : O → EnvD → R) : (R.ok o env).bind k = k o env := rfl
@[simp] theorem R_okS (o : O) (env : EnvD) (k : O → EnvD → SR) : (R.ok o env).bindS k = k o env := rfl
@[simp] theorem Rs_ok (o : List O) (env : EnvD) (k : List O → EnvD → R) : (Rs.ok o env).bind k = k o env := rfl
@[simp] theorem Rs_okS (o : List O) (env : EnvD) (k : List O → EnvD → SR) : (Rs.ok o env).bindS k = k o env := rfl
@[simp] theorem RI_ok (o : List D) (env : EnvD) (k : List D → EnvD → R) : (RI.ok o env).bind k = k o env := rfl
@[simp] theorem RI_okS (o : List D) (env : EnvD) (k : List D → EnvD → SR) : (RI.ok o env).bindS k = k o env := rfl
@[simp] theorem SR_next (env : EnvD) (k : EnvD → SR) : (SR.next env).bind k = k env := rfl
@[simp] theorem SR_ret (f : Bool) (d : D) (env : EnvD) (k : EnvD → SR) : (SR.ret f d env).bind k = .ret f d env := rfl
@[simp] theorem SR_cnt (env : EnvD) (k : EnvD → SR) : (SR.cnt env).bind k = .cnt env := rfl
@[simp] theorem SR_brk (env : EnvD) (k : EnvD → SR) : (SR.brk env).bind k = .brk env := rfl
@[simp] theorem SR_ex (c : Nat) (fs : List (Nat × D)) (env : EnvD) (k : EnvD → SR) : (SR.ex c fs env).bind k = .ex c fs env := rfl
@[simp] theorem ofOp_some (d : D) (env : EnvD) : ofOp (some d) env = .ok (.v true d) env := rfl
@[simp] theorem ofB_some (b : Bool) (env : EnvD) : ofB (some b) env = .ok (.v false (.bl b)) env := rfl
@[simp] theorem rsD_f (d : D) (env : EnvD) : rsD (.v false d) env = some d := rfl
@[simp] theorem rsD_t (d : D) (env : EnvD) : rsD (.v true d) env = some (clr d) := rfl
@[simp] theorem rsAll_nil (env : EnvD) : rsAll [] env = some [] := rfl
@[simp] theorem rsAll_f (d : D) (os : List O) (env : EnvD) : rsAll (.v false d :: os) env = (match rsAll os env with
  | some ds => some (d :: ds)
  | none => none) := by
  show (match some d, rsAll os env with
    | some d, some ds => some (d :: ds)
    | _, _ => none) = _
  cases rsAll os env <;> rfl
@[simp] theorem rsAll_t (d : D) (os : List O) (env : EnvD) : rsAll (.v true d :: os) env = (match rsAll os env with
  | some ds => some (clr d :: ds)
  | none => none) := by
  show (match some (clr d), rsAll os env with
    | some d, some ds => some (d :: ds)
    | _, _ => none) = _
  cases rsAll os env <;> rfl
@[simp] theorem unO_v (f : Bool) (d : D) : unO (.v f d) = some (f, d) := rfl
@[simp] theorem unOs_nil : unOs [] = some [] := rfl
@[simp] theorem unOs_v (f : Bool) (d : D) (os : List O) : unOs (.v f d :: os) = (match unOs os with
  | some ds => some ((f, d) :: ds)
  | none => none) := by
  show (match unO (.v f d), unOs os with
    | some d, some ds => some (d :: ds)
    | _, _ => none) = _
  rw [unO_v]
  cases unOs os <;> rfl
@[simp] theorem stl_f (d : D) : stl (false, d) = d := rfl
@[simp] theorem stl_t (d : D) : stl (true, d) = clr d := rfl
@[simp] theorem getS_0 (a : SD) (l : EnvD) : getS (a :: l) 0 = a := rfl
@[simp] theorem getS_s (a : SD) (l : EnvD) (n : Nat) : getS (a :: l) (n + 1) = getS l n := rfl
@[simp] theorem getS_n (n : Nat) : getS [] n = none := rfl
@[simp] theorem clr_non : clr .non = .non := rfl
@[simp] theorem clr_bl (b : Bool) : clr (.bl b) = .bl b := rfl
@[simp] theorem clr_int (b : Int) : clr (.int b) = .int b := rfl
@[simp] theorem clr_str (b : Str) : clr (.str b) = .str b := rfl
@[simp] theorem clr_lst (f : Bool) (xs : List D) : clr (.lst f xs) = .lst false (clrs xs) := rfl
@[simp] theorem clr_tup (xs : List D) : clr (.tup xs) = .tup (clrs xs) := rfl
@[simp] theorem clrs_nil : clrs [] = [] := rfl
@[simp] theorem clrs_cons (d : D) (ds : List D) : clrs (d :: ds) = clr d :: clrs ds := rfl
theorem clrs_of {α : Type} (f : α → D) (h : ∀ a, clr (f a) = f a) (xs : List α) : clrs (xs.map f) = xs.map f := by
  rw [clrs_map, List.map_map]
  exact List.map_congr_left fun a _ => h a
@[simp] theorem clrs_append (xs ys : List D) : clrs (xs ++ ys) = clrs xs ++ clrs ys := by
  rw [clrs_map, clrs_map, clrs_map, List.map_append]
@[simp] theorem clrs_int (xs : List Int) : clrs (xs.map .int) = xs.map .int := clrs_of _ (fun _ => rfl) xs
@[simp] theorem clrs_str (xs : List Str) : clrs (xs.map .str) = xs.map .str := clrs_of _ (fun _ => rfl) xs
@[simp] theorem clrs_g {α : Type} (f : α → D) (xs : List α) : clrs (xs.map fun x => f x) = xs.map fun x => clr (f x) := by
  rw [clrs_map, List.map_map]
  rfl
@[simp] theorem giveBack_nil (outs env : EnvD) : giveBack .nil outs env = env := by cases outs <;> rfl
@[simp] theorem argsOf_nil : argsOf .nil [] = [] := rfl
@[simp] theorem SR_ifbind {c : Prop} [Decidable c] (a b : SR) (k : EnvD → SR) : (if c then a else b).bind k = if c then a.bind k else b.bind k := by
  split <;> rfl
@[simp] theorem kill_0 (env : EnvD) : kill [] env = env := rfl
@[simp] theorem kill_s (i : Nat) (vs : List Nat) (env : EnvD) : kill (i :: vs) env = kill vs (env.set i none) := rfl
@[simp] theorem lookD_0 : lookD [] = [] := rfl
@[simp] theorem lookD_n (env : EnvD) : lookD (none :: env) = none :: lookD env := rfl
@[simp] theorem lookD_s (p : Bool × D) (env : EnvD) : lookD (some p :: env) = some (false, stl p) :: lookD env := rfl
/-- a call's value -/
def finC (fd : Fd) : SR → CR
  | .ret fl d env => .ok fl d (outsOf fd.io fd.np env)
  | .next env => .ok false .non (outsOf fd.io fd.np env)
  | .ex c fs env => .ex c fs (outsOf fd.io fd.np env)
  | _ => .bad
theorem callF_eq {P : List Fd} {ms : Nat → Nat → Option Nat} {wf n f : Nat} {fd : Fd} {args : List (Bool × D)} (e : P[f]? = some fd) (l : args.length = fd.np) :
    callF P ms wf (n + 1) f args = finC fd (evSs ⟨callF P ms wf n, ms, wf, fd.io, none⟩ fd.body (env0 fd args)) := by
  unfold callF
  rw [e]
  dsimp only
  rw [if_pos l]
  unfold finC env0
  cases evSs ⟨callF P ms wf n, ms, wf, fd.io, none⟩ fd.body (args.map some ++ List.replicate (fd.nn - fd.np) none) <;> rfl
@[simp] theorem mulB1 {x m : Int} (h1 : 0 < m) (h2 : m ≤ 18446744073709551616) : (-18446744073709551616 < x % m) = True := by
  have a := Int.emod_nonneg x (by omega : m ≠ 0)
  exact eq_true (by omega)
@[simp] theorem mulB2 {x m : Int} (h1 : 0 < m) (h2 : m ≤ 18446744073709551616) : (x % m < 18446744073709551616) = True := by
  have b := Int.emod_lt_of_pos x h1
  exact eq_true (by omega)
@[simp] theorem tg_nm (i : Nat) (d : D) (env : EnvD) : tgSet [] (.nm i) d env = if i < env.length then some (env.set i (some (false, d))) else none := by
  unfold tgSet
  rfl
@[simp] theorem tg_tup (ts : List Tg) (ds : List D) (env : EnvD) : tgSet [] (.tup ts) (.tup ds) env = tgSet.tgs [] ts ds env := by
  unfold tgSet
  rfl
@[simp] theorem tg_lst (ts : List Tg) (f : Bool) (ds : List D) (env : EnvD) : tgSet [] (.tup ts) (.lst f ds) env = tgSet.tgs [] ts ds env := by
  unfold tgSet
  rfl
@[simp] theorem tgs_nil (env : EnvD) : tgSet.tgs [] [] [] env = some env := rfl
@[simp] theorem tgs_cons (t : Tg) (ts : List Tg) (d : D) (ds : List D) (env : EnvD) : tgSet.tgs [] (t :: ts) (d :: ds) env = (tgSet [] t d env).bind (tgSet.tgs [] ts ds) := rfl
theorem rng_of {i : Int} (h0 : 0 ≤ i) (h1 : i ≤ 1000000000) : rngOk i = true := by
  unfold rngOk
  exact dec_of (by omega)
/-! ### loops -/
/-- a for, as a fold over what the items stand for -/
theorem forL_fold {α β : Type} {b : EnvD → SR} {set : D → EnvD → Option EnvD} {vs : List Nat} (enc : α → EnvD) (it : β → D) (step : α → β → α) (Inv : Nat → α → Prop) :
    ∀ (xs : List β) (k : Nat) (s : α), Inv k s → (∀ i s x, xs[i]? = some x → Inv (k + i) s → Inv (k + i + 1) (step s x) ∧ ∃ env1 env2, set (it x) (enc s) = some env1 ∧ (b env1 = .next env2 ∨ b env1 = .cnt env2) ∧ kill vs env2 = enc (step s x)) →
      forL b set vs (xs.map it) (enc s) = .next (enc (xs.foldl step s)) ∧ Inv (k + xs.length) (xs.foldl step s)
  | [], k, s, h0, _ => ⟨rfl, h0⟩
  | x :: xs, k, s, h0, h => by
    obtain ⟨i1, env1, env2, e1, e2, e3⟩ := h 0 s x rfl h0
    have ih := forL_fold enc it step Inv xs (k + 1) (step s x) i1 fun i s y e hi => by
      have q := h (i + 1) s y (by simpa using e) (by rw [show k + (i + 1) = k + 1 + i by omega]; exact hi)
      rw [show k + (i + 1) = k + 1 + i by omega] at q
      exact q
    rw [List.map_cons, List.foldl_cons, List.length_cons, show k + (xs.length + 1) = k + 1 + xs.length by omega]
    refine ⟨?_, ih.2⟩
    unfold forL
    rw [e1]
    dsimp only
    rcases e2 with e2 | e2 <;> rw [e2] <;> dsimp only <;> rw [e3] <;> exact ih.1
/-- a list comprehension without a condition -/
theorem lcL_map {β : Type} {el : EnvD → R} {c : EnvD → Option Bool × EnvD} {set : D → EnvD → Option EnvD} (E : EnvD → Prop) (it : β → D) (g : β → D) :
    ∀ (xs : List β) (acc : List D) (env : EnvD), E env → acc.length + xs.length ≤ sizeLine → (∀ x ∈ xs, ∀ env, E env → ∃ env1 env3 f, set (it x) env = some env1 ∧ c env1 = (some true, env1) ∧ el env1 = .ok (.v f (g x)) env3 ∧ E env3) →
      ∃ env', lcL el c set (xs.map it) acc env = .ok (.v true (.lst true (acc ++ xs.map g))) env' ∧ E env'
  | [], acc, env, h0, _, _ => ⟨env, by simp [lcL], h0⟩
  | x :: xs, acc, env, h0, hz, h => by
    obtain ⟨env1, env3, f, e1, e2, e3, h3⟩ := h x (List.mem_cons_self ..) env h0
    obtain ⟨env', q1, q2⟩ := lcL_map E it g xs (acc ++ [g x]) env3 h3 (by simp at hz ⊢; omega) fun y m => h y (List.mem_cons_of_mem _ m)
    refine ⟨env', ?_, q2⟩
    rw [List.map_cons]
    unfold lcL
    rw [e1]
    dsimp only
    rw [e2]
    dsimp only
    rw [e3]
    dsimp only [unO]
    rw [if_pos (by simp at hz; omega), q1]
    simp
/-- a list comprehension without a condition, its block's own slots forgotten between the turns -/
theorem lcRun_map {β : Type} {el : EnvD → R} {c : EnvD → Option Bool × EnvD} {t : Tg} {vs : List Nat} {env1 : EnvD} (it : β → D) (g : β → D) (xs : List β) (hz : xs.length ≤ sizeLine) (hv : vs.all (fun i => decide (i < env1.length)) = true)
    (h : ∀ x ∈ xs, ∃ env2 f env3, tgSet [] t (it x) (kill vs env1) = some env2 ∧ c env2 = (some true, env2) ∧ el env2 = .ok (.v f (g x)) env3 ∧ kill vs env3 = kill vs env1) :
    lcRun el c t vs (xs.map it) env1 = .ok (.v true (.lst true (xs.map g))) (restore vs env1 (kill vs env1)) := by
  obtain ⟨env', e1, e2⟩ := lcL_map (el := el) (c := c) (set := lcSet t vs) (fun e => kill vs e = kill vs env1) it g xs [] (kill vs env1) (kill_kill _ _) (by simpa using hz) fun x m env he => by
    obtain ⟨env2, f, env3, q1, q2, q3, q4⟩ := h x m
    have l : env.length = env1.length := by
      have := congrArg List.length he
      rw [kill_len, kill_len] at this
      exact this
    refine ⟨env2, env3, f, ?_, q2, q3, q4⟩
    unfold lcSet
    rw [l, if_pos hv, he]
    exact q1
  unfold lcRun
  rw [e1, ← e2, restore_kill]
  simp
@[simp] theorem restore_0 (old env : EnvD) : restore [] old env = env := rfl
@[simp] theorem restore_s (i : Nat) (vs : List Nat) (old env : EnvD) : restore (i :: vs) old env = restore vs old (env.set i (resv old i)) := by
  rw [restore_eq, restore_eq]
  rfl
@[simp] theorem resv_eq (old : EnvD) (i : Nat) : resv old i = match getS old i with
  | some (false, d) => some (false, d)
  | _ => none := rfl
end Vm
/-! Vm: defs that many laws have (printed by gen.py), and what they do. -/
namespace Vm
open PySem L2
open PyProof.Rows hiding St
/-! turn_served, slots: 0 queue, 1 many, 2 names, 3 behind, 4 name, 5 left -/
def sTurnServed_l1 : Ss := .cons (.ife (.look (.cmp .eq (.bcall .len (.cons (.var 2) .nil)) (.var 1))) (.cons (.mut .append 3 [] (.cons (.tup (.cons (.var 4) (.cons (.var 5) .nil))) .nil)) (.cons (.cnt) .nil)) (.nil)) (.cons (.mut .append 2 [] (.cons (.var 4) .nil)) (.cons (.ife (.cmp .gt (.var 5) (.int 1)) (.cons (.mut .append 3 [] (.cons (.tup (.cons (.var 4) (.cons (.bin .sub (.var 5) (.int 1)) .nil))) .nil)) .nil) (.nil)) .nil))
def sTurnServed : Ss := .cons (.asg true 2 (.lst .nil)) (.cons (.asg true 3 (.lst .nil)) (.cons (.for (.tup [.nm 4, .nm 5]) (.seq (.var 0)) (sTurnServed_l1) [0, 4, 5]) (.cons (.ret (.some (.tup (.cons (.mv 2) (.cons (.mv 3) .nil))))) .nil)))
/-! _law_cell, slots: 0 _law_script, 1 _law_k -/
def sCell : Ss := .cons (.ife (.cmp .lt (.var 1) (.bcall .len (.cons (.var 0) .nil))) (.cons (.ret (.some (.idx (.var 0) (.var 1)))) .nil) (.nil)) (.cons (.ret (.some (.int 0))) .nil)
/-! _law_whole, slots: 0 _law_found -/
def sWhole : Ss := .cons (.ret (.some (.and (.cons (.isi .int (.var 0)) (.cons (.not (.isi .bool (.var 0))) .nil))))) .nil
/-! _law_stir, slots: 0 _law_cell_here, 1 _law_k, 2 _law_number -/
def sStir : Ss := .cons (.asg false 2 (.bin .mod (.bin .add (.bin .add (.bin .mul (.bin .mod (.var 0) (.int 2147483647)) (.int 48271)) (.bin .mul (.int 69621) (.var 1))) (.int 7)) (.int 2147483647))) (.cons (.asg false 2 (.bin .mod (.bin .mul (.var 2) (.var 2)) (.int 2147483629))) (.cons (.ret (.some (.bin .mod (.bin .add (.bin .add (.bin .mul (.var 2) (.var 2)) (.bin .mul (.int 16807) (.var 2))) (.int 11)) (.int 2147483587)))) .nil))
/-! _law_row, slots: 0 _law_script, 1 _law_at, 2 _law_base, 3 _law_count, 4 _law_cell_here, 5 _law_found, 6 _law_k -/
def sRow_l1 (c_law_cell c_law_stir : Nat) : Ss := .cons (.ife (.cmp .eq (.bin .band (.bin .shr (.call c_law_cell (.cons (.var 0) (.cons (.int 0) .nil))) (.bin .mod (.var 1) (.int 8))) (.int 1)) (.int 0)) (.cons (.mut .append 5 [] (.cons (.bin .mod (.var 4) (.var 2)) .nil)) (.cons (.asg false 4 (.bin .fdiv (.var 4) (.var 2))) .nil)) (.cons (.mut .append 5 [] (.cons (.bin .mod (.bin .fdiv (.call c_law_stir (.cons (.var 4) (.cons (.var 6) .nil))) (.int 8)) (.var 2)) .nil)) .nil)) .nil
def sRow (c_law_cell c_law_stir : Nat) : Ss := .cons (.asg false 4 (.call c_law_cell (.cons (.var 0) (.cons (.var 1) .nil)))) (.cons (.asg true 5 (.lst .nil)) (.cons (.for (.nm 6) (.rng1 (.var 3)) (sRow_l1 c_law_cell c_law_stir) [3, 6]) (.cons (.ret (.some (.mv 5))) .nil)))
/-! _law_names, slots: 0 _law_cell_here, 1 _law_many, 2 _law_signs, 3 _law_base, 4 _law_j, 5 _law_first, 6 _law_k, 7 _law_names_here, 8 _law_name -/
def sNames_e1 (c_law_stir : Nat) : E := .idx (.var 2) (.bin .mod (.call c_law_stir (.cons (.var 0) (.cons (.var 4) .nil))) (.int 36))
def sNames_e2 (c_law_stir : Nat) : E := .bin .add (.idx (.var 2) (.var 5)) (.slc (.var 3) .none (.some (.var 6)))
def sNames_l1 (c_law_stir : Nat) : Ss := .cons (.asg false 8 (.idx (.var 2) (.bin .mod (.bin .add (.var 5) (.bin .fdiv (.var 6) (.int 36))) (.int 26)))) (.cons (.asg false 8 (.bin .add (.var 8) (.idx (.var 2) (.bin .mod (.bin .add (.bin .fdiv (.var 0) (.int 3)) (.bin .mul (.int 7) (.var 6))) (.int 36))))) (.cons (.mut .append 7 [] (.cons (.bin .add (.var 8) (.slc (.var 3) .none (.some (.bin .mod (.bin .fdiv (.var 0) (.int 108)) (.int 7))))) .nil)) .nil))
def sNames (c_law_stir : Nat) : Ss := .cons (.asg false 2 (.str "abcdefghijklmnopqrstuvwxyz0123456789")) (.cons (.asg false 3 (.bmeth .join (.str "") (.cons (.lc (sNames_e1 c_law_stir) (.nm 4) (.rng1 (.int 7)) .none [4]) .nil))) (.cons (.asg false 5 (.bin .mod (.call c_law_stir (.cons (.var 0) (.cons (.int 8) .nil))) (.int 26))) (.cons (.ife (.and (.cons (.cmp .eq (.bin .mod (.var 0) (.int 3)) (.int 0)) (.cons (.cmp .lt (.var 1) (.int 9)) .nil))) (.cons (.ret (.some (.lc (sNames_e2 c_law_stir) (.nm 6) (.rng1 (.var 1)) .none [6]))) .nil) (.nil)) (.cons (.asg true 7 (.lst .nil)) (.cons (.for (.nm 6) (.rng1 (.var 1)) (sNames_l1 c_law_stir) [1, 4, 6, 8]) (.cons (.ret (.some (.mv 7))) .nil))))))
/-! _law_queue, slots: 0 _law_script, 1 _law_cell_here, 2 _law_many, 3 _law_size, 4 _law_lefts, 5 _law_names_here, 6 _law_k -/
def sQueue_e1 (c_law_cell c_law_names c_law_row : Nat) : E := .tup (.cons (.idx (.var 5) (.var 6)) (.cons (.bin .add (.int 1) (.idx (.var 4) (.var 6))) .nil))
def sQueue (c_law_cell c_law_names c_law_row : Nat) : Ss := .cons (.asg false 1 (.call c_law_cell (.cons (.var 0) (.cons (.int 3) .nil)))) (.cons (.asg false 2 (.bin .mod (.var 1) (.int 9))) (.cons (.asg false 3 (.idx (.lst (.cons (.int 6) (.cons (.int 20) .nil))) (.bin .mod (.bin .fdiv (.var 1) (.int 144)) (.int 2)))) (.cons (.ife (.cmp .eq (.bin .mod (.bin .fdiv (.var 1) (.int 9)) (.int 16)) (.int 1)) (.cons (.asg false 2 (.int 60)) (.cons (.asg false 3 (.int 3)) .nil)) (.nil)) (.cons (.asg false 4 (.call c_law_row (.cons (.var 0) (.cons (.int 4) (.cons (.var 3) (.cons (.var 2) .nil)))))) (.cons (.asg false 5 (.call c_law_names (.cons (.call c_law_cell (.cons (.var 0) (.cons (.int 5) .nil))) (.cons (.var 2) .nil)))) (.cons (.ret (.some (.lc (sQueue_e1 c_law_cell c_law_names c_law_row) (.nm 6) (.rng1 (.var 2)) .none [6]))) .nil))))))
/-! _law_turn, slots: 0 _law_queue_here, 1 _law_many, 2 _law_behind, 3 _law_k, 4 _law_name, 5 _law_left -/
def sTurn_l1 : Ss := .cons (.asgt (.tup [.nm 4, .nm 5]) (.idx (.var 0) (.var 3))) (.cons (.ife (.cmp .lt (.var 3) (.var 1)) (.cons (.asg false 5 (.bin .sub (.var 5) (.int 1))) .nil) (.nil)) (.cons (.ife (.cmp .gt (.var 5) (.int 0)) (.cons (.mut .append 2 [] (.cons (.tup (.cons (.var 4) (.cons (.var 5) .nil))) .nil)) .nil) (.nil)) .nil))
def sTurn_e1 : E := .var 4
def sTurn : Ss := .cons (.asg true 2 (.lst .nil)) (.cons (.for (.nm 3) (.rng1 (.bcall .len (.cons (.var 0) .nil))) (sTurn_l1) [3, 4, 5]) (.cons (.ret (.some (.tup (.cons (.lc (sTurn_e1) (.tup [.nm 4, .nm 5]) (.seq (.slc (.var 0) .none (.some (.var 1)))) .none [4, 5]) (.cons (.mv 2) .nil))))) .nil))
/-! _law_queue_right, slots: 0 _law_found, 1 _law_due, 2 _law_one -/
def sQueueRight_l1 (c_law_whole : Nat) : Ss := .cons (.ife (.or (.cons (.not (.isi .tuple (.var 2))) (.cons (.not (.call c_law_whole (.cons (.idx (.var 2) (.int 1)) .nil))) .nil))) (.cons (.ret (.some (.bl false))) .nil) (.nil)) .nil
def sQueueRight (c_law_whole : Nat) : Ss := .cons (.ife (.or (.cons (.not (.isi .list (.var 0))) (.cons (.cmp .ne (.var 0) (.var 1)) .nil))) (.cons (.ret (.some (.bl false))) .nil) (.nil)) (.cons (.for (.nm 2) (.seq (.var 0)) (sQueueRight_l1 c_law_whole) [0, 1, 2]) (.cons (.ret (.some (.bl true))) .nil))
end Vm
/-! Vm: what the shared defs do. -/
namespace Vm
open PySem L2
open PyProof.Rows hiding St
/-! ### general -/
/-- what is like itself -/
def plain : Nat → D → Bool
  | 0, _ => false
  | n + 1, .non => true
  | n + 1, .bl _ => true
  | n + 1, .int _ => true
  | n + 1, .str _ => true
  | n + 1, .lst _ xs => xs.all (plain n)
  | n + 1, .tup xs => xs.all (plain n)
  | _, _ => false
theorem deqs_refl {f : D → D → Option Bool} : ∀ (xs : List D), (∀ x ∈ xs, f x x = some true) → deqs f xs xs = some true
  | [], _ => rfl
  | x :: xs, h => by
    unfold deqs
    rw [h x (List.mem_cons_self ..), deqs_refl xs fun y m => h y (List.mem_cons_of_mem _ m)]
    rfl
theorem deq_refl : ∀ (n : Nat) (d : D), plain n d = true → deq n d d = some true
  | 0, d, h => by cases d <;> cases h
  | n + 1, d, h => by
    cases d with
    | non => rfl
    | bl b => simp [deq]
    | int b => simp [deq]
    | str b => simp [deq]
    | lst f xs =>
      unfold plain at h
      simp only [deq, if_pos]
      exact deqs_refl xs fun x m => deq_refl n x (List.all_eq_true.mp h x m)
    | tup xs =>
      unfold plain at h
      simp only [deq, if_pos]
      exact deqs_refl xs fun x m => deq_refl n x (List.all_eq_true.mp h x m)
    | _ => cases h
theorem opEq_refl {d : D} (h : plain 40 d = true) : opEq d d = some true := by
  cases d with
  | dic f ks => cases h
  | _ => exact deq_refl 40 _ h
@[simp] theorem opEq_int (a b : Int) : opEq (.int a) (.int b) = some (a == b) := rfl
@[simp] theorem opEq_str (a b : Str) : opEq (.str a) (.str b) = some (a == b) := rfl
theorem atI_nn {α : Type} {xs : List α} {k : Int} (h0 : 0 ≤ k) (h1 : k < xs.length) : atI xs k = xs[k.toNat]? := by
  unfold atI ixN
  rw [if_pos h0, if_pos (by omega)]
  rfl
theorem sizeBig : 16777216 ≤ sizeLine := by
  rw [sizeLine_eq]
  decide
/-! ### encodings -/
abbrev dI (ns : List Int) : D := .lst false (ns.map .int)
abbrev dS (ns : List Str) : D := .lst false (ns.map .str)
def tk (p : Str × Int) : D := .tup [.str p.1, .int p.2]
abbrev dQ (q : List (Str × Int)) : D := .lst false (q.map tk)
@[simp] theorem clr_tk (p : Str × Int) : clr (tk p) = tk p := rfl
@[simp] theorem clrs_tk (q : List (Str × Int)) : clrs (q.map tk) = q.map tk := clrs_of _ clr_tk q
/-! ### what is promised of a callee -/
def cellV (ns : List Int) (k : Int) : Int := (ns[k.toNat]?).getD 0
def stirV (c k : Int) : Int :=
  let n := (c % 2147483647 * 48271 + 69621 * k + 7) % 2147483647
  let m := n * n % 2147483629
  (m * m + 16807 * m + 11) % 2147483587
abbrev CF := List (Bool × D) → CR
def CellS (c : CF) : Prop := ∀ ns k, 0 ≤ k → c [(false, dI ns), (false, .int k)] = .ok false (.int (cellV ns k)) [none, none]
def StirS (c : CF) : Prop := ∀ a k, c [(false, .int a), (false, .int k)] = .ok true (.int (stirV a k)) [none, none]
def WholeS (c : CF) : Prop := ∀ a, c [(false, .int a)] = .ok false (.bl true) [none]
def RowS (c : CF) : Prop := ∀ ns a b k, 0 ≤ a → 0 < b → b < 1073741824 → 0 ≤ k → k ≤ 10000000 →
  ∃ xs : List Int, (xs.length : Int) = k ∧ (∀ x ∈ xs, 0 ≤ x ∧ x < b) ∧ c [(false, dI ns), (false, .int a), (false, .int b), (false, .int k)] = .ok true (.lst true (xs.map .int)) [none, none, none, none]
variable {Γ : Cf}
theorem sCell_v {ns : List Int} {k : Int} (h0 : 0 ≤ k) : evSs Γ sCell [some (false, dI ns), some (false, .int k)] = .ret false (.int (cellV ns k)) [some (false, dI ns), some (false, .int k)] := by
  by_cases h : k < ns.length
  · have e : atI (ns.map D.int) k = some (.int (cellV ns k)) := by
      rw [atI_nn h0 (by simpa using h), List.getElem?_map]
      have l : k.toNat < ns.length := by omega
      unfold cellV
      rw [List.getElem?_eq_getElem l]
      rfl
    simp [sCell, h, e]
  · have e : cellV ns k = 0 := by
      unfold cellV
      rw [List.getElem?_eq_none (by omega)]
      rfl
    simp [sCell, h, e]
theorem sStir_v {a k : Int} (hio : Γ.io = []) : ∃ env, evSs Γ sStir [some (false, .int a), some (false, .int k), none] = .ret true (.int (stirV a k)) env := by
  simp [sStir, hio, stirV]
theorem sWhole_v {a : Int} : evSs Γ sWhole [some (false, .int a)] = .ret false (.bl true) [some (false, .int a)] := by
  simp [sWhole]
/-! ### a row of numbers -/
theorem emod_row {x b : Int} (h : 0 < b) : 0 ≤ x % b ∧ x % b < b := ⟨Int.emod_nonneg x (by omega), Int.emod_lt_of_pos x h⟩
theorem sRow_v {ns : List Int} {a b k : Int} {cc cs : Nat} (hio : Γ.io = []) (hc : CellS (Γ.call cc)) (hs : StirS (Γ.call cs)) (ha : 0 ≤ a) (hb : 0 < b) (hb2 : b < 1073741824) (hk : 0 ≤ k) (hk2 : k ≤ 10000000) :
    ∃ xs : List Int, (xs.length : Int) = k ∧ (∀ x ∈ xs, 0 ≤ x ∧ x < b) ∧ ∃ env, evSs Γ (sRow cc cs) [some (false, dI ns), some (false, .int a), some (false, .int b), some (false, .int k), none, none, none] = .ret true (.lst true (xs.map .int)) env := by
  have key := forL_fold (α := Int × List Int) (β := Nat) (b := evSs Γ (sRow_l1 cc cs)) (set := tgSet [] (.nm 6)) (vs := [3, 6])
    (fun s => [some (false, dI ns), some (false, .int a), some (false, .int b), none, some (false, .int s.1), some (true, .lst true (s.2.map .int)), none]) (fun i => .int (i : Int))
    (fun s i => if Builtin.bitAnd (cellV ns 0 / 2 ^ (a % 8).toNat) 1 = 0 then (s.1 / b, s.2 ++ [s.1 % b]) else (s.1, s.2 ++ [stirV s.1 i / 8 % b])) (fun i s => s.2.length = i ∧ ∀ x ∈ s.2, 0 ≤ x ∧ x < b)
    (List.range k.toNat) 0 (cellV ns a, []) ⟨rfl, fun x m => by cases m⟩ fun i s x hx ⟨h1, h2⟩ => by
      have hi : i < k.toNat := by
        have := (List.getElem?_eq_some_iff.mp hx).1
        simpa using this
      have hz : s.2.length < sizeLine := by
        have := sizeBig
        omega
      have h8 : 0 ≤ a % 8 := Int.emod_nonneg a (by omega)
      have e1 := hc ns 0 (by omega)
      have e2 := hs s.1 x
      have app : ∀ (u w : Int), (s.2 ++ [w % b]).length = 0 + i + 1 ∧ ∀ y ∈ s.2 ++ [w % b], 0 ≤ y ∧ y < b := fun u w => by
        refine ⟨by simp; omega, fun y m => ?_⟩
        rcases List.mem_append.mp m with m | m
        · exact h2 y m
        · rw [List.mem_singleton.mp m]
          exact emod_row hb
      by_cases hq : Builtin.bitAnd (cellV ns 0 / 2 ^ (a % 8).toNat) 1 = 0
      · rw [if_pos hq]
        exact ⟨app 0 _, by simp [sRow_l1, e1, e2, hq, hio, h8, hb, hb2, hz]⟩
      · rw [if_neg hq]
        have hq2 : (Builtin.bitAnd (cellV ns 0 / 2 ^ (a % 8).toNat) 1 == 0) = false := by simpa using hq
        exact ⟨app 0 _, by simp [sRow_l1, e1, e2, hq2, hio, h8, hb, hb2, hz]⟩
  obtain ⟨k1, k2, k3⟩ := key
  have e0 := hc ns a ha
  have hr : rngOk k = true := rng_of hk (by omega)
  refine ⟨_, ?_, k3, ?_⟩
  · rw [k2]
    simp
    omega
  · simp only [List.map_nil] at k1
    simp [sRow, e0, hio, hr, range1, k1]
/-! ### texts -/
theorem cut_len (z : Str) (lo hi : Option Int) : (cutS z lo hi).length ≤ z.length := by
  unfold cutS Str.length
  simp
  omega
@[simp] theorem one_len (c : Nat) : Str.length ⟨#[c]⟩ = 1 := rfl
@[simp] theorem app_len (x y : Str) : (x ++ y).length = x.length + y.length := by
  show (x.cps ++ y.cps).size = _
  rw [Array.size_append]
  rfl
@[simp] theorem strsOf_map {α : Type} (f : α → Str) : ∀ xs : List α, strsOf (xs.map fun x => .str (f x)) = some (xs.map f)
  | [] => rfl
  | x :: xs => by
    rw [List.map_cons, List.map_cons]
    unfold strsOf
    rw [strsOf_map f xs]
    rfl
theorem join_len (ys : List Str) : (Txt.join ("" : Str) ys).length = (ys.map (·.length)).sum := by
  have e : ∀ zs : List Str, (Str.join ("" : Str) zs).length = (zs.map (·.length)).sum := fun zs => by
    induction zs with
    | nil => rfl
    | cons y ys ih =>
      cases ys with
      | nil => simp [Str.join]
      | cons z zs =>
        have q : Str.join ("" : Str) (y :: z :: zs) = y ++ ("" : Str) ++ Str.join ("" : Str) (z :: zs) := rfl
        have l0 : Str.length ("" : Str) = 0 := by decide +kernel
        rw [q, app_len, app_len, ih, l0]
        simp
  rw [TL.join_eq]
  exact e ys
theorem sum_one {α : Type} (f : α → Nat) : ∀ xs : List α, (xs.map fun x => Str.length ⟨#[f x]⟩).sum = xs.length
  | [] => rfl
  | x :: xs => by
    rw [List.map_cons, List.sum_cons, sum_one f xs]
    simp
    omega
/-! ### names -/
abbrev signs : Str := "abcdefghijklmnopqrstuvwxyz0123456789"
def sgC (i : Int) : Nat := (signs.cps.toList[i.toNat]?).getD 0
theorem sg_len : signs.length ≤ sizeLine := by
  have h : signs.length = 36 := by decide +kernel
  have := sizeBig
  omega
theorem sg_at {i : Int} (h0 : 0 ≤ i) (h1 : i < 36) : atI signs.cps.toList i = some (sgC i) := by
  have l : signs.cps.toList.length = 36 := by decide +kernel
  rw [atI_nn h0 (by rw [l]; exact h1)]
  unfold sgC
  rw [List.getElem?_eq_getElem (by rw [l]; omega)]
  rfl
def NamesS (c : CF) : Prop := ∀ a k, 0 ≤ k → k ≤ 1000 → ∃ xs : List Str, (xs.length : Int) = k ∧ (∀ x ∈ xs, x.length ≤ 20) ∧ c [(false, .int a), (false, .int k)] = .ok true (.lst true (xs.map .str)) [none, none]
theorem sNames_v {a k : Int} {cs : Nat} (hio : Γ.io = []) (hs : StirS (Γ.call cs)) (hk : 0 ≤ k) (hk2 : k ≤ 1000) :
    ∃ xs : List Str, (xs.length : Int) = k ∧ (∀ x ∈ xs, x.length ≤ 20) ∧ ∃ env, evSs Γ (sNames cs) [some (false, .int a), some (false, .int k), none, none, none, none, none, none, none] = .ret true (.lst true (xs.map .str)) env := by
  have hr : rngOk k = true := rng_of hk (by omega)
  have big := sizeBig
  -- the seven signs
  have m36 : ∀ x : Int, 0 ≤ x % 36 ∧ x % 36 < 36 := fun x => emod_row (by decide)
  have m26 : ∀ x : Int, 0 ≤ x % 26 ∧ x % 26 < 26 := fun x => emod_row (by decide)
  have at36 : ∀ x : Int, atI signs.cps.toList (x % 36) = some (sgC (x % 36)) := fun x => sg_at (m36 x).1 (m36 x).2
  have at26 : ∀ x : Int, atI signs.cps.toList (x % 26) = some (sgC (x % 26)) := fun x => sg_at (m26 x).1 (by have := (m26 x).2; omega)
  have e1 := lcRun_map (el := evE Γ (sNames_e1 cs)) (c := fun x => (some true, x)) (t := .nm 4) (vs := [4]) (env1 := [some (false, .int a), some (false, .int k), some (false, .str signs), none, none, none, none, none, none])
    (fun i : Nat => .int (i : Int)) (fun i => .str ⟨#[sgC (stirV a i % 36)]⟩) (List.range 7) (by simp; omega) rfl fun x m => by
      have q := hs a x
      simp [sNames_e1, q, at36, sg_len]
  generalize hB : Txt.join ("" : Str) ((List.range 7).map fun i : Nat => (⟨#[sgC (stirV a i % 36)]⟩ : Str)) = B at *
  have lB : B.length = 7 := by
    rw [← hB, join_len, List.map_map]
    exact sum_one _ _
  have lj : ((List.range 7).map (Str.length ∘ fun i : Nat => (⟨#[sgC (stirV a i % 36)]⟩ : Str))).sum ≤ 16777216 := by
    rw [show ((List.range 7).map (Str.length ∘ fun i : Nat => (⟨#[sgC (stirV a i % 36)]⟩ : Str))).sum = 7 from sum_one _ _]
    decide
  have l0 : Str.length ("" : Str) = 0 := by decide +kernel
  have f0 := hs a 8
  have r7 : rngOk 7 = true := rng_of (by decide) (by decide)
  by_cases hq : a % 3 = 0 ∧ k < 9
  · -- beginnings of one another
    have e2 := lcRun_map (el := evE Γ (sNames_e2 cs)) (c := fun x => (some true, x)) (t := .nm 6) (vs := [6]) (env1 := [some (false, .int a), some (false, .int k), some (false, .str signs), some (false, .str B), none, some (false, .int (stirV a 8 % 26)), none, none, none])
      (fun i : Nat => .int (i : Int)) (fun i => .str (⟨#[sgC (stirV a 8 % 26)]⟩ ++ cutS B none (some (i : Int)))) (List.range k.toNat) (by simp; omega) rfl fun x m => by
        have c1 := cut_len B none (some (x : Int))
        have c2 : 1 + (cutS B none (some (x : Int))).length ≤ sizeLine := by omega
        have c3 : B.length ≤ sizeLine := by omega
        simp [sNames_e2, at26, sg_len, c2, c3]
    refine ⟨(List.range k.toNat).map fun i : Nat => ⟨#[sgC (stirV a 8 % 26)]⟩ ++ cutS B none (some (i : Int)), by simp; omega, fun x m => ?_, ?_⟩
    · obtain ⟨i, _, rfl⟩ := List.mem_map.mp m
      have c1 := cut_len B none (some (i : Int))
      rw [app_len, one_len]
      omega
    · simp [sNames, range1, r7, e1, lj, l0, hB, f0, hq.1, hq.2, hr, e2, hio]
  · have key := forL_fold (α := List Str) (β := Nat) (b := evSs Γ (sNames_l1 cs)) (set := tgSet [] (.nm 6)) (vs := [1, 4, 6, 8])
      (fun s => [some (false, .int a), none, some (false, .str signs), some (false, .str B), none, some (false, .int (stirV a 8 % 26)), none, some (true, .lst true (s.map .str)), none]) (fun i => .int (i : Int))
      (fun s i => s ++ [⟨#[sgC ((stirV a 8 % 26 + (i : Int) / 36) % 26)]⟩ ++ ⟨#[sgC ((a / 3 + 7 * i) % 36)]⟩ ++ cutS B none (some (a / 108 % 7))]) (fun i s => s.length = i ∧ ∀ x ∈ s, x.length ≤ 20)
      (List.range k.toNat) 0 [] ⟨rfl, fun x m => by cases m⟩ fun i s x hx ⟨h1, h2⟩ => by
        have hi : i < k.toNat := by
          have := (List.getElem?_eq_some_iff.mp hx).1
          simpa using this
        have hz : s.length < sizeLine := by omega
        have c1 := cut_len B none (some (a / 108 % 7))
        have c2 : 1 + 1 + (cutS B none (some (a / 108 % 7))).length ≤ sizeLine := by omega
        have c3 : B.length ≤ sizeLine := by omega
        have c4 : 1 + 1 ≤ sizeLine := by omega
        refine ⟨⟨by simp; omega, fun y m => ?_⟩, ?_⟩
        · rcases List.mem_append.mp m with m | m
          · exact h2 y m
          · rw [List.mem_singleton.mp m, app_len, app_len, one_len, one_len]
            omega
        · simp [sNames_l1, at26, at36, sg_len, c2, c3, c4, hio, hz]
    obtain ⟨k1, k2, k3⟩ := key
    refine ⟨_, ?_, k3, ?_⟩
    · rw [k2]
      simp
      omega
    · simp only [List.map_nil] at k1
      have hq2 : a % 3 = 0 → (decide (k < 9)) = false := fun h => by
        have : ¬ k < 9 := fun h2 => hq ⟨h, h2⟩
        simpa using this
      by_cases h3 : a % 3 = 0
      · simp [sNames, range1, r7, e1, lj, l0, hB, f0, h3, hq2 h3, hr, hio, k1]
      · have h3' : (a % 3 == 0) = false := by simpa using h3
        simp [sNames, range1, r7, e1, lj, l0, hB, f0, h3', hr, hio, k1]
/-! ### the queue -/
def QOk (q : List (Str × Int)) : Prop := q.length ≤ 60 ∧ ∀ p ∈ q, 1 ≤ p.2 ∧ p.2 ≤ 20 ∧ p.1.length ≤ 20
def QueueS (c : CF) : Prop := ∀ ns, ∃ q, QOk q ∧ c [(false, dI ns)] = .ok true (.lst true (q.map tk)) [none]
theorem two_at (x : Int) (a b : D) : atI [a, b] (x % 2) = some (if x % 2 = 0 then a else b) := by
  rcases (by omega : x % 2 = 0 ∨ x % 2 = 1) with h | h <;> rw [h] <;> rfl
theorem zip_get {xs : List Str} {ys : List Int} {k : Int} {i : Nat} (h1 : (xs.length : Int) = k) (h2 : (ys.length : Int) = k) (hi : i < k.toNat) :
    atI (xs.map D.str) (i : Int) = some (.str (xs.getD i "")) ∧ atI (ys.map D.int) (i : Int) = some (.int (ys.getD i 0)) := by
  constructor
  · rw [atI_nn (by omega) (by simp; omega), List.getElem?_map, Int.toNat_natCast, List.getElem?_eq_getElem (by omega), List.getD_eq_getElem?_getD, List.getElem?_eq_getElem (by omega)]
    rfl
  · rw [atI_nn (by omega) (by simp; omega), List.getElem?_map, Int.toNat_natCast, List.getElem?_eq_getElem (by omega), List.getD_eq_getElem?_getD, List.getElem?_eq_getElem (by omega)]
    rfl
theorem sQueue_v {ns : List Int} {cc cn cr : Nat} (hio : Γ.io = []) (hc : CellS (Γ.call cc)) (hn : NamesS (Γ.call cn)) (hr : RowS (Γ.call cr)) :
    ∃ q, QOk q ∧ ∃ env, evSs Γ (sQueue cc cn cr) [some (false, dI ns), none, none, none, none, none, none] = .ret true (.lst true (q.map tk)) env := by
  have big := sizeBig
  have main : ∀ (many size : Int), 0 ≤ many → many ≤ 60 → 0 < size → size ≤ 20 → ∃ q, QOk q ∧ ∃ (xs : List Str) (ys : List Int), Γ.call cr [(false, dI ns), (false, .int 4), (false, .int size), (false, .int many)] = .ok true (.lst true (ys.map .int)) [none, none, none, none] ∧
      Γ.call cn [(false, .int (cellV ns 5)), (false, .int many)] = .ok true (.lst true (xs.map .str)) [none, none] ∧
      ∀ a b c : Int, lcRun (evE Γ (sQueue_e1 cc cn cr)) (fun x => (some true, x)) (.nm 6) [6] ((List.range many.toNat).map fun i : Nat => .int (i : Int)) [some (false, dI ns), some (false, .int a), some (false, .int many), some (false, .int c), some (false, dI ys), some (false, dS xs), none] =
        .ok (.v true (.lst true (q.map tk))) [some (false, dI ns), some (false, .int a), some (false, .int many), some (false, .int c), some (false, dI ys), some (false, dS xs), none] := by
    intro many size h1 h2 h3 h4
    obtain ⟨ys, ly, by_, ey⟩ := hr ns 4 size many (by omega) h3 (by omega) h1 (by omega)
    obtain ⟨xs, lx, bx, ex⟩ := hn (cellV ns 5) many h1 (by omega)
    refine ⟨(List.range many.toNat).map fun i => (xs.getD i "", 1 + ys.getD i 0), ⟨by simp; omega, fun p m => ?_⟩, xs, ys, ey, ex, fun a b c => ?_⟩
    · obtain ⟨i, hi, rfl⟩ := List.mem_map.mp m
      have hi : i < many.toNat := by simpa using hi
      have m1 : ys.getD i 0 ∈ ys := by
        rw [List.getD_eq_getElem?_getD, List.getElem?_eq_getElem (by omega)]
        exact List.getElem_mem _
      have m2 : xs.getD i "" ∈ xs := by
        rw [List.getD_eq_getElem?_getD, List.getElem?_eq_getElem (by omega)]
        exact List.getElem_mem _
      have q := by_ _ m1
      exact ⟨by show 1 ≤ 1 + ys.getD i 0; omega, by show 1 + ys.getD i 0 ≤ 20; omega, bx _ m2⟩
    · have q := lcRun_map (el := evE Γ (sQueue_e1 cc cn cr)) (c := fun x => (some true, x)) (t := .nm 6) (vs := [6]) (env1 := [some (false, dI ns), some (false, .int a), some (false, .int many), some (false, .int c), some (false, dI ys), some (false, dS xs), none])
        (fun i : Nat => .int (i : Int)) (fun i => tk (xs.getD i "", 1 + ys.getD i 0)) (List.range many.toNat) (by simp; omega) rfl fun i m => by
          have hi : i < many.toNat := by simpa using m
          obtain ⟨e1, e2⟩ := zip_get lx ly hi
          have s2 : 2 ≤ sizeLine := by omega
          simp [sQueue_e1, e1, e2, s2, tk]
      rw [q, List.map_map]
      rfl
  have e3 := hc ns 3 (by omega)
  have e5 := hc ns 5 (by omega)
  have s2 : 2 ≤ sizeLine := by omega
  have h9 := emod_row (x := cellV ns 3) (b := 9) (by decide)
  have hsz : 0 < (if cellV ns 3 / 144 % 2 = 0 then (6 : Int) else 20) ∧ (if cellV ns 3 / 144 % 2 = 0 then (6 : Int) else 20) ≤ 20 := by split <;> omega
  have eI : (if cellV ns 3 / 144 % 2 = 0 then D.int 6 else D.int 20) = D.int (if cellV ns 3 / 144 % 2 = 0 then 6 else 20) := by split <;> rfl
  by_cases hq : cellV ns 3 / 9 % 16 = 1
  · obtain ⟨q, hQ, xs, ys, k1, k2, k3⟩ := main 60 3 (by omega) (by omega) (by omega) (by omega)
    have k3' := k3 (cellV ns 3) 0 3
    have r60 : rngOk 60 = true := rng_of (by decide) (by decide)
    rw [show Int.toNat 60 = 60 from rfl] at k3'
    exact ⟨q, hQ, by simp [sQueue, e3, e5, s2, two_at, eI, hq, k1, k2, k3', hio, range1, r60]⟩
  · have hq2 : (cellV ns 3 / 9 % 16 == 1) = false := by simpa using hq
    obtain ⟨q, hQ, xs, ys, k1, k2, k3⟩ := main (cellV ns 3 % 9) _ h9.1 (by omega) hsz.1 hsz.2
    have k3' := k3 (cellV ns 3) 0 (if cellV ns 3 / 144 % 2 = 0 then 6 else 20)
    have hr2 : rngOk (cellV ns 3 % 9) = true := rng_of h9.1 (by omega)
    exact ⟨q, hQ, by simp [sQueue, e3, e5, s2, two_at, eI, hq2, k1, k2, k3', hio, range1, hr2]⟩
/-! ### a turn -/
def servedV (q : List (Str × Int)) (m : Nat) : List Str := (q.take m).map (·.1)
def behindV (q : List (Str × Int)) (m : Nat) : List (Str × Int) := ((q.take m).filter fun p => 1 < p.2).map (fun p => (p.1, p.2 - 1)) ++ q.drop m
def TurnServedS (c : CF) : Prop := ∀ q (m : Nat), q.length ≤ 1000000 → c [(false, dQ q), (false, .int m)] = .ok true (.tup [.lst true ((servedV q m).map .str), .lst true ((behindV q m).map tk)]) [none, none]
theorem serve_fold (m : Nat) : ∀ (q : List (Str × Int)) (a : List Str) (b : List (Str × Int)), a.length ≤ m →
    q.foldl (fun (s : List Str × List (Str × Int)) (p : Str × Int) => if s.1.length = m then (s.1, s.2 ++ [p]) else (s.1 ++ [p.1], if 1 < p.2 then s.2 ++ [(p.1, p.2 - 1)] else s.2)) (a, b) = (a ++ servedV q (m - a.length), b ++ behindV q (m - a.length))
  | [], a, b, h => by simp [servedV, behindV]
  | p :: q, a, b, h => by
    rw [List.foldl_cons]
    by_cases e : a.length = m
    · rw [if_pos e, serve_fold m q a (b ++ [p]) h, e, Nat.sub_self]
      simp [servedV, behindV]
    · have l : (a ++ [p.1]).length ≤ m := by simp; omega
      rw [if_neg e, serve_fold m q _ _ l]
      have e2 : m - a.length = (m - (a ++ [p.1]).length) + 1 := by simp; omega
      rw [e2]
      by_cases h1 : 1 < p.2
      · simp [servedV, behindV, h1]
      · simp [servedV, behindV, h1]
theorem sTurnServed_v {q : List (Str × Int)} {m : Nat} (hio : Γ.io = []) (hq : q.length ≤ 1000000) :
    ∃ env, evSs Γ sTurnServed [some (false, dQ q), some (false, .int m), none, none, none, none] = .ret true (.tup [.lst true ((servedV q m).map .str), .lst true ((behindV q m).map tk)]) env := by
  have big := sizeBig
  have key := forL_fold (α := List Str × List (Str × Int)) (β := Str × Int) (b := evSs Γ sTurnServed_l1) (set := tgSet [] (.tup [.nm 4, .nm 5])) (vs := [0, 4, 5])
    (fun s => [none, some (false, .int m), some (true, .lst true (s.1.map .str)), some (true, .lst true (s.2.map tk)), none, none]) tk
    (fun s p => if s.1.length = m then (s.1, s.2 ++ [p]) else (s.1 ++ [p.1], if 1 < p.2 then s.2 ++ [(p.1, p.2 - 1)] else s.2)) (fun i s => s.1.length ≤ i ∧ s.2.length ≤ i)
    q 0 ([], []) ⟨Nat.le_refl _, Nat.le_refl _⟩ fun i s p hx ⟨h1, h2⟩ => by
      have hi := (List.getElem?_eq_some_iff.mp hx).1
      have z1 : s.1.length < sizeLine := by omega
      have z2 : s.2.length < sizeLine := by omega
      have s2 : 2 ≤ sizeLine := by omega
      by_cases e : s.1.length = m
      · rw [if_pos e]
        refine ⟨⟨by dsimp only; omega, by simp; omega⟩, ?_⟩
        have e' : ((s.1.length : Int) == (m : Int)) = true := by simp [e]
        simp [sTurnServed_l1, tk, e', z2, s2, hio, opEq_int]
      · rw [if_neg e]
        have e' : ((s.1.length : Int) == (m : Int)) = false := beq_eq_false_iff_ne.mpr (by omega)
        by_cases h : 1 < p.2
        · rw [if_pos h]
          refine ⟨⟨by simp; omega, by simp; omega⟩, ?_⟩
          simp [sTurnServed_l1, tk, e', z1, z2, s2, hio, h]
        · rw [if_neg h]
          refine ⟨⟨by simp; omega, by dsimp only; omega⟩, ?_⟩
          simp [sTurnServed_l1, tk, e', z1, z2, s2, hio, h]
  have k1 := key.1
  rw [serve_fold m q [] [] (Nat.zero_le _)] at k1
  simp only [List.map_nil, List.nil_append, List.length_nil, Nat.sub_zero] at k1
  have s2 : 2 ≤ sizeLine := by omega
  simp [sTurnServed, hio, k1, s2]
end Vm
/-! Vm: more of the shared defs. -/
namespace Vm
open PySem L2
open PyProof.Rows hiding St
variable {Γ : Cf}
@[simp] theorem atI_0 {α : Type} (a : α) (l : List α) : atI (a :: l) 0 = some a := by
  rw [atI_nn (by decide) (by simp)]
  rfl
@[simp] theorem atI_1 {α : Type} (a b : α) (l : List α) : atI (a :: b :: l) 1 = some b := by
  rw [atI_nn (by decide) (by simp; omega)]
  rfl
@[simp] theorem ixN_0 (n : Nat) : ixN (n + 1) 0 = some 0 := by
  unfold ixN
  rw [if_pos (by decide), if_pos (by simp)]
  rfl
@[simp] theorem ixN_1 (n : Nat) : ixN (n + 2) 1 = some 1 := by
  unfold ixN
  rw [if_pos (by decide), if_pos (by push_cast; omega)]
  rfl
theorem cutD_map {α β : Type} (f : α → β) (xs : List α) (lo hi : Option Int) : cutD (xs.map f) lo hi = (cutD xs lo hi).map f := by
  unfold cutD
  rw [List.map_take, List.map_drop, List.length_map]
@[simp] theorem clrs_cutD (xs : List D) (lo hi : Option Int) : clrs (cutD xs lo hi) = cutD (clrs xs) lo hi := by
  rw [clrs_map, clrs_map, cutD_map]
theorem cutD_hi {α : Type} (xs : List α) (m : Nat) : cutD xs none (some (m : Int)) = xs.take m := by
  unfold cutD
  rw [HT.sIx_none, HT.sIx_nat, List.drop_zero, Nat.sub_zero]
  by_cases h : m ≤ xs.length
  · rw [Nat.min_eq_left h]
  · rw [Nat.min_eq_right (by omega), List.take_length, List.take_of_length_le (by omega)]
theorem cutD_lo {α : Type} (xs : List α) (m : Nat) : cutD xs (some (m : Int)) none = xs.drop m := by
  unfold cutD
  rw [HT.sIx_none, HT.sIx_nat]
  by_cases h : m ≤ xs.length
  · rw [Nat.min_eq_left h, List.take_of_length_le (by rw [List.length_drop]; omega)]
  · rw [Nat.min_eq_right (by omega), Nat.sub_self, List.take_zero, List.drop_of_length_le (by omega)]
theorem cutD_len {α : Type} (xs : List α) (lo hi : Option Int) : (cutD xs lo hi).length ≤ xs.length := by
  unfold cutD
  rw [List.length_take, List.length_drop]
  omega
@[simp] theorem plain_tk (n : Nat) (p : Str × Int) : plain (n + 2) (tk p) = true := rfl
@[simp] theorem plain_int (n : Nat) (p : Int) : plain (n + 1) (.int p) = true := rfl
@[simp] theorem plain_str (n : Nat) (p : Str) : plain (n + 1) (.str p) = true := rfl
theorem plain_lst {α : Type} (n : Nat) (f : Bool) (g : α → D) (h : ∀ a, plain n (g a) = true) (xs : List α) : plain (n + 1) (.lst f (xs.map g)) = true := by
  show (xs.map g).all (plain n) = true
  rw [List.all_map]
  exact List.all_eq_true.mpr fun a _ => h a
theorem eq_dQ (q : List (Str × Int)) (f g : Bool) : opEq (.lst f (q.map tk)) (.lst g (q.map tk)) = some true := opEq_refl (d := .lst f (q.map tk)) (plain_lst 39 f tk (plain_tk 37) q)
theorem eq_dS (q : List Str) (f g : Bool) : opEq (.lst f (q.map .str)) (.lst g (q.map .str)) = some true := opEq_refl (d := .lst f (q.map .str)) (plain_lst 39 f .str (plain_str 38) q)
/-! ### the law's own turn -/
def QPos (q : List (Str × Int)) : Prop := ∀ p ∈ q, 1 ≤ p.2
theorem turn_fold (q : List (Str × Int)) (m : Nat) (hq : QPos q) : ∀ n, n ≤ q.length →
    (List.range n).foldl (fun (s : List (Str × Int)) (i : Nat) => let p := q.getD i ("", 0); let l := if i < m then p.2 - 1 else p.2; if 0 < l then s ++ [(p.1, l)] else s) [] =
      ((q.take (min n m)).filter fun p => 1 < p.2).map (fun p => (p.1, p.2 - 1)) ++ (q.take n).drop m
  | 0, _ => by simp
  | n + 1, h => by
    have hn : n < q.length := by omega
    rw [List.range_succ, List.foldl_append, turn_fold q m hq n (by omega)]
    have eg : q.getD n ("", 0) = q[n] := by
      rw [List.getD_eq_getElem?_getD, List.getElem?_eq_getElem hn]
      rfl
    have pos := hq q[n] (List.getElem_mem hn)
    simp only [List.foldl_cons, List.foldl_nil, eg]
    rw [List.take_add_one, List.getElem?_eq_getElem hn]
    simp only [Option.toList_some]
    by_cases hm : n < m
    · rw [if_pos hm, Nat.min_eq_left (by omega : n ≤ m), Nat.min_eq_left (by omega : n + 1 ≤ m)]
      have d1 : (q.take n).drop m = [] := List.drop_of_length_le (by rw [List.length_take]; omega)
      have d2 : (q.take n ++ [q[n]]).drop m = [] := List.drop_of_length_le (by rw [List.length_append, List.length_take]; simp; omega)
      have t1 : q.take (n + 1) = q.take n ++ [q[n]] := by
        rw [List.take_add_one, List.getElem?_eq_getElem hn]
        rfl
      rw [d1, d2, t1, List.filter_append, List.map_append]
      by_cases h1 : 1 < q[n].2
      · rw [if_pos (by omega), show List.filter (fun p : Str × Int => decide (1 < p.2)) [q[n]] = [q[n]] by simp [h1]]
        simp only [List.append_nil, List.map_cons, List.map_nil]
      · rw [if_neg (by omega), show List.filter (fun p : Str × Int => decide (1 < p.2)) [q[n]] = [] by simp [h1]]
        simp only [List.append_nil, List.map_nil]
    · rw [if_neg hm, Nat.min_eq_right (by omega : m ≤ n), Nat.min_eq_right (by omega : m ≤ n + 1), if_pos (by omega), List.drop_append_of_le_length (by rw [List.length_take]; omega)]
      simp
theorem sTurn_l1_v {q : List (Str × Int)} {m x : Nat} {s : List (Str × Int)} (hio : Γ.io = []) (hp : QPos q) (hi : x < q.length) (z1 : s.length < sizeLine) :
    ∃ env1 env2, tgSet [] (.nm 3) (.int (x : Int)) [some (false, dQ q), some (false, .int m), some (true, .lst true (s.map tk)), none, none, none] = some env1 ∧ (evSs Γ sTurn_l1 env1 = .next env2 ∨ evSs Γ sTurn_l1 env1 = .cnt env2) ∧
      kill [3, 4, 5] env2 = [some (false, dQ q), some (false, .int m), some (true, .lst true ((let p := q.getD x ("", 0); let l := if x < m then p.2 - 1 else p.2; if 0 < l then s ++ [(p.1, l)] else s).map tk)), none, none, none] := by
  have big := sizeBig
  have s2 : 2 ≤ sizeLine := by omega
  have eg : q.getD x ("", 0) = q[x] := by
    rw [List.getD_eq_getElem?_getD, List.getElem?_eq_getElem hi]
    rfl
  have ea : atI (q.map tk) (x : Int) = some (tk q[x]) := by
    rw [atI_nn (by omega) (by simpa using hi), List.getElem?_map, Int.toNat_natCast, List.getElem?_eq_getElem hi]
    rfl
  have pos := hp q[x] (List.getElem_mem hi)
  dsimp only
  rw [eg]
  by_cases hm : x < m
  · rw [if_pos hm]
    by_cases h : 0 < q[x].2 - 1
    · rw [if_pos h]
      have h' : 1 < q[x].2 := by omega
      simp [sTurn_l1, ea, tk, hio, hm, h', z1, s2]
    · rw [if_neg h]
      have h' : ¬ 1 < q[x].2 := by omega
      simp [sTurn_l1, ea, tk, hio, hm, h', z1, s2]
  · rw [if_neg hm]
    have h : 0 < q[x].2 := by omega
    rw [if_pos h]
    simp [sTurn_l1, ea, tk, hio, hm, h, z1, s2]
theorem sTurn_v {q : List (Str × Int)} {m : Nat} (hio : Γ.io = []) (hq : q.length ≤ 1000000) (hp : QPos q) :
    ∃ env, evSs Γ sTurn [some (false, dQ q), some (false, .int m), none, none, none, none] = .ret true (.tup [.lst true ((servedV q m).map .str), .lst true ((behindV q m).map tk)]) env := by
  have big := sizeBig
  have s2 : 2 ≤ sizeLine := by omega
  have key := forL_fold (α := List (Str × Int)) (β := Nat) (b := evSs Γ sTurn_l1) (set := tgSet [] (.nm 3)) (vs := [3, 4, 5])
    (fun s => [some (false, dQ q), some (false, .int m), some (true, .lst true (s.map tk)), none, none, none]) (fun i => .int (i : Int))
    (fun s i => let p := q.getD i ("", 0); let l := if i < m then p.2 - 1 else p.2; if 0 < l then s ++ [(p.1, l)] else s) (fun i s => s.length ≤ i)
    (List.range q.length) 0 [] (Nat.le_refl _) fun i s x hx h1 => by
      have hi : i < q.length := by
        have := (List.getElem?_eq_some_iff.mp hx).1
        simpa using this
      have ex : x = i := by
        have := (List.getElem?_eq_some_iff.mp hx).2
        simpa using this.symm
      subst ex
      refine ⟨?_, sTurn_l1_v hio hp hi (by omega)⟩
      have hl : ∀ (c : Prop) [Decidable c] (w : Str × Int), (if c then s ++ [w] else s).length ≤ x + 1 := fun c _ w => by
        split
        · rw [List.length_append, List.length_singleton]
          omega
        · omega
      exact Nat.le_trans (hl _ _) (by omega)
  have k1 := key.1
  rw [turn_fold q m hp q.length (Nat.le_refl _), List.take_length] at k1
  have eb : ((q.take (min q.length m)).filter fun p => 1 < p.2).map (fun p => (p.1, p.2 - 1)) ++ q.drop m = behindV q m := by
    unfold behindV
    by_cases h : m ≤ q.length
    · rw [Nat.min_eq_right h]
    · rw [Nat.min_eq_left (by omega), List.take_length, List.take_of_length_le (by omega)]
  rw [eb] at k1
  simp only [List.map_nil] at k1
  have s2 : 2 ≤ sizeLine := by omega
  have e1 := lcRun_map (el := evE Γ sTurn_e1) (c := fun x => (some true, x)) (t := .tup [.nm 4, .nm 5]) (vs := [4, 5]) (env1 := [some (false, dQ q), some (false, .int m), some (true, .lst true ((behindV q m).map tk)), none, none, none])
    tk (fun p => .str p.1) (q.take m) (by rw [List.length_take]; omega) rfl fun p hm => by simp [sTurn_e1, tk]
  have hr2 : rngOk (q.length : Int) = true := rng_of (by omega) (by omega)
  have ec : cutD (q.map tk) none (some (m : Int)) = (q.take m).map tk := by rw [cutD_map, cutD_hi]
  have es : List.map D.str (servedV q m) = (q.take m).map fun p => D.str p.1 := by
    unfold servedV
    rw [List.map_map]
    rfl
  rw [es]
  simp only [List.map_take] at e1 ec
  have ct : clrs (List.take m (List.map tk q)) = List.take m (List.map tk q) := by rw [← List.map_take, clrs_tk]
  simp [sTurn, hio, k1, s2, range1, hr2, ec, e1, ct]
theorem sQueueRight_v {q : List (Str × Int)} {cw : Nat} (hio : Γ.io = []) (hw : WholeS (Γ.call cw)) : ∃ env, evSs Γ (sQueueRight cw) [some (false, dQ q), some (false, dQ q), none] = .ret false (.bl true) env := by
  have key := forL_fold (α := Unit) (β := Str × Int) (b := evSs Γ (sQueueRight_l1 cw)) (set := tgSet [] (.nm 2)) (vs := [0, 1, 2]) (fun _ => [none, none, none]) tk (fun _ _ => ()) (fun _ _ => True)
    q 0 () trivial fun i s p hx _ => by
      refine ⟨trivial, ?_⟩
      have e := hw p.2
      have e1 : atI [D.str p.1, D.int p.2] 1 = some (.int p.2) := rfl
      simp [sQueueRight_l1, tk, e, e1]
  have k1 := key.1
  simp [sQueueRight, eq_dQ, hio, k1]
end Vm
/-! Vm: shared defs about hours, runs, spoilt rows (printed by gen.py). -/
namespace Vm
open PySem L2
open PyProof.Rows hiding St
/-! is_whole, slots: 0 thing -/
def sIsWhole : Ss := .cons (.ret (.some (.and (.cons (.isi .int (.var 0)) (.cons (.not (.isi .bool (.var 0))) .nil))))) .nil
/-! is_number, slots: 0 thing, 1 low, 2 high -/
def sIsNumber (c_is_whole : Nat) : Ss := .cons (.ret (.some (.and (.cons (.call c_is_whole (.cons (.var 0) .nil)) (.cons (.chain .le .le (.var 1) (.var 0) (.var 2)) .nil))))) .nil
/-! is_row, slots: 0 thing -/
def sIsRow (c_is_number : Nat) : Ss := .cons (.ife (.or (.cons (.not (.isi .tuple (.var 0))) (.cons (.cmp .ne (.bcall .len (.cons (.var 0) .nil)) (.int 2)) .nil))) (.cons (.ret (.some (.bl false))) .nil) (.nil)) (.cons (.ret (.some (.and (.cons (.call c_is_number (.cons (.idx (.var 0) (.int 0)) (.cons (.int 1) (.cons (.int 100) .nil)))) (.cons (.call c_is_number (.cons (.idx (.var 0) (.int 1)) (.cons (.int 0) (.cons (.int 8) .nil)))) .nil))))) .nil)
/-! need_hours, slots: 0 rows, 1 rest, 2 row -/
def sNeedHours_l1 (c_is_number c_is_row : Nat) : Ss := .cons (.ife (.not (.call c_is_row (.cons (.var 2) .nil))) (.cons (.dead) .nil) (.nil)) .nil
def sNeedHours (c_is_number c_is_row : Nat) : Ss := .cons (.ife (.or (.cons (.not (.isi .list (.var 0))) (.cons (.cmp .gt (.bcall .len (.cons (.var 0) .nil)) (.gint "MOST_ROWS" (16))) (.cons (.not (.call c_is_number (.cons (.var 1) (.cons (.int 1) (.cons (.int 8) .nil))))) .nil)))) (.cons (.dead) .nil) (.nil)) (.cons (.for (.nm 2) (.seq (.var 0)) (sNeedHours_l1 c_is_number c_is_row) [0, 1, 2]) .nil)
/-! tidied, slots: 0 steps, 1 found, 2 turn, 3 counters -/
def sTidied_l1 : Ss := .cons (.ife (.look (.or (.cons (.cmp .eq (.var 1) (.lst .nil)) (.cons (.cmp .ne (.idx (.idx (.var 1) (.neg (.int 1))) (.int 1)) (.var 3)) .nil)))) (.cons (.mut .append 1 [] (.cons (.tup (.cons (.var 2) (.cons (.var 3) .nil))) .nil)) .nil) (.nil)) .nil
def sTidied : Ss := .cons (.asg true 1 (.lst .nil)) (.cons (.for (.tup [.nm 2, .nm 3]) (.seq (.var 0)) (sTidied_l1) [0, 2, 3]) (.cons (.ret (.some (.mv 1))) .nil))
/-! Hours.__init__, slots: 0 self, 1 rows, 2 rest, 3 steps, 4 begin, 5 turns, 6 counters -/
def sHoursInit_l1 (c_need_hours c_tidied : Nat) : Ss := .cons (.mut .append 3 [] (.cons (.tup (.cons (.var 4) (.cons (.var 6) .nil))) .nil)) (.cons (.aug .add 4 (.var 5)) .nil)
def sHoursInit (c_need_hours c_tidied : Nat) : Ss := .cons (.ex (.call c_need_hours (.cons (.var 1) (.cons (.var 2) .nil)))) (.cons (.asg true 3 (.lst .nil)) (.cons (.asg false 4 (.int 0)) (.cons (.for (.tup [.nm 5, .nm 6]) (.seq (.var 1)) (sHoursInit_l1 c_need_hours c_tidied) [1, 5, 6]) (.cons (.mut .append 3 [] (.cons (.tup (.cons (.var 4) (.cons (.var 2) .nil))) .nil)) (.cons (.asgf 0 0 0 (.call c_tidied (.cons (.var 3) .nil))) .nil)))))
/-! Hours.at, slots: 0 self, 1 turn, 2 found, 3 begin, 4 counters -/
def sHoursAt_l1 : Ss := .cons (.ife (.cmp .le (.var 3) (.var 1)) (.cons (.asg false 2 (.var 4)) .nil) (.nil)) .nil
def sHoursAt : Ss := .cons (.asg false 2 (.int 0)) (.cons (.for (.tup [.nm 3, .nm 4]) (.seq (.fld 0 0 (.var 0))) (sHoursAt_l1) [0, 3, 4]) (.cons (.ret (.some (.var 2))) .nil))
/-! walk_run, slots: 0 queue, 1 hours, 2 begin, 3 rows, 4 some, 5 due, 6 turn, 7 names, 8 served -/
def sWalkRun_l1 (c_Hours_at c_turn_served : Nat) : Ss := .cons (.ife (.or (.cons (.cmp .eq (.var 4) (.lst .nil)) (.cons (.cmp .ne (.var 6) (.var 5)) .nil))) (.cons (.ret (.some (.non))) .nil) (.nil)) (.cons (.asgt (.tup [.nm 8, .nm 4]) (.call c_turn_served (.cons (.var 4) (.cons (.meth 0 c_Hours_at (.var 1) (.cons (.var 6) .nil)) .nil)))) (.cons (.ife (.cmp .ne (.var 7) (.var 8)) (.cons (.ret (.some (.non))) .nil) (.nil)) (.cons (.aug .add 5 (.int 1)) .nil)))
def sWalkRun (c_Hours_at c_turn_served : Nat) : Ss := .cons (.asg false 4 (.bcall .list1 (.cons (.var 0) .nil))) (.cons (.asg false 5 (.var 2)) (.cons (.for (.tup [.nm 6, .nm 7]) (.seq (.var 3)) (sWalkRun_l1 c_Hours_at c_turn_served) [0, 2, 3, 6, 7, 8]) (.cons (.ret (.some (.var 4))) .nil)))
/-! _law_row, slots: 0 _law_script, 1 _law_at_here, 2 _law_base, 3 _law_count, 4 _law_cell_here, 5 _law_found, 6 _law_k -/
def sRow2_l1 (c_law_cell c_law_stir : Nat) : Ss := .cons (.ife (.cmp .eq (.bin .band (.bin .shr (.call c_law_cell (.cons (.var 0) (.cons (.int 0) .nil))) (.bin .mod (.var 1) (.int 8))) (.int 1)) (.int 0)) (.cons (.mut .append 5 [] (.cons (.bin .mod (.var 4) (.var 2)) .nil)) (.cons (.asg false 4 (.bin .fdiv (.var 4) (.var 2))) .nil)) (.cons (.mut .append 5 [] (.cons (.bin .mod (.bin .fdiv (.call c_law_stir (.cons (.var 4) (.cons (.var 6) .nil))) (.int 8)) (.var 2)) .nil)) .nil)) .nil
def sRow2 (c_law_cell c_law_stir : Nat) : Ss := .cons (.asg false 4 (.call c_law_cell (.cons (.var 0) (.cons (.var 1) .nil)))) (.cons (.asg true 5 (.lst .nil)) (.cons (.for (.nm 6) (.rng1 (.var 3)) (sRow2_l1 c_law_cell c_law_stir) [3, 6]) (.cons (.ret (.some (.mv 5))) .nil)))
/-! _law_hours, slots: 0 _law_script, 1 _law_rows, 2 _law_n, 3 _law_many, 4 _law_counters -/
def sHours_e1 (c_law_cell c_law_row : Nat) : E := .tup (.cons (.bin .add (.int 1) (.bin .mod (.var 2) (.int 9))) (.cons (.bin .fdiv (.var 2) (.int 9)) .nil))
def sHours_e2 (c_law_cell c_law_row : Nat) : E := .tup (.cons (.bin .mul (.int 11) (.var 3)) (.cons (.bin .add (.var 4) (.bin .mul (.int 4) (.bcall .int1 (.cons (.cmp .gt (.var 4) (.int 0)) .nil)))) .nil))
def sHours (c_law_cell c_law_row : Nat) : Ss := .cons (.asg false 1 (.lc (sHours_e1 c_law_cell c_law_row) (.nm 2) (.seq (.call c_law_row (.cons (.var 0) (.cons (.int 1) (.cons (.int 45) (.cons (.bin .mod (.call c_law_cell (.cons (.var 0) (.cons (.int 2) .nil))) (.int 7)) .nil)))))) .none [2])) (.cons (.ife (.cmp .eq (.bin .mod (.bin .fdiv (.call c_law_cell (.cons (.var 0) (.cons (.int 2) .nil))) (.int 7)) (.int 8)) (.int 1)) (.cons (.asg false 1 (.lc (sHours_e2 c_law_cell c_law_row) (.tup [.nm 3, .nm 4]) (.seq (.var 1)) .none [3, 4])) .nil) (.nil)) (.cons (.ret (.some (.tup (.cons (.var 1) (.cons (.bin .add (.int 1) (.bin .mod (.bin .fdiv (.call c_law_cell (.cons (.var 0) (.cons (.int 2) .nil))) (.int 56)) (.idx (.lst (.cons (.int 3) (.cons (.int 8) .nil))) (.bin .mod (.bin .fdiv (.call c_law_cell (.cons (.var 0) (.cons (.int 2) .nil))) (.int 1344)) (.int 2))))) .nil))))) .nil))
/-! _law_begin, slots: 0 _law_script, 1 _law_cell_here -/
def sBegin (c_law_cell : Nat) : Ss := .cons (.asg false 1 (.call c_law_cell (.cons (.var 0) (.cons (.int 6) .nil)))) (.cons (.ife (.cmp .eq (.bin .mod (.var 1) (.int 8)) (.int 1)) (.cons (.ret (.some (.bin .mod (.bin .fdiv (.var 1) (.int 8)) (.bin .add (.bin .pow (.int 10) (.int 5)) (.int 1))))) .nil) (.nil)) (.cons (.ret (.some (.bin .mod (.bin .fdiv (.var 1) (.int 8)) (.int 30)))) .nil))
/-! _law_at, slots: 0 _law_rows, 1 _law_rest, 2 _law_turn_here, 3 _law_many, 4 _law_counters -/
def sAt_l1 : Ss := .cons (.ife (.cmp .lt (.var 2) (.var 3)) (.cons (.ret (.some (.var 4))) .nil) (.nil)) (.cons (.asg false 2 (.bin .sub (.var 2) (.var 3))) .nil)
def sAt : Ss := .cons (.for (.tup [.nm 3, .nm 4]) (.seq (.var 0)) (sAt_l1) [0, 3, 4]) (.cons (.ret (.some (.var 1))) .nil)
/-! _law_run, slots: 0 _law_queue_here, 1 _law_hours_here, 2 _law_begin_here, 3 _law_found, 4 _law_some, 5 _law_turn_here, 6 _law_names_here -/
def sRun_e1 (c_law_at c_law_turn : Nat) : E := .cmp .ne (.var 4) (.lst .nil)
def sRun_l1 (c_law_at c_law_turn : Nat) : Ss := .cons (.asgt (.tup [.nm 6, .nm 4]) (.call c_law_turn (.cons (.var 4) (.cons (.call c_law_at (.cons (.idx (.var 1) (.int 0)) (.cons (.idx (.var 1) (.int 1)) (.cons (.var 5) .nil)))) .nil)))) (.cons (.mut .append 3 [] (.cons (.tup (.cons (.var 5) (.cons (.var 6) .nil))) .nil)) (.cons (.asg false 5 (.bin .add (.var 5) (.int 1))) .nil))
def sRun (c_law_at c_law_turn : Nat) : Ss := .cons (.asg true 3 (.lst .nil)) (.cons (.asg false 4 (.bcall .list1 (.cons (.var 0) .nil))) (.cons (.asg false 5 (.var 2)) (.cons (.whl (sRun_e1 c_law_at c_law_turn) (sRun_l1 c_law_at c_law_turn) [0, 2, 6]) (.cons (.ret (.some (.mv 3))) .nil))))
/-! _law_names_spoilt, slots: 0 _law_names_here, 1 _law_others, 2 _law_way, 3 _law_number, 4 _law_some, 5 _law_at_here -/
def sNamesSpoilt : Ss := .cons (.asg true 4 (.bcall .list1 (.cons (.var 0) .nil))) (.cons (.ife (.look (.and (.cons (.cmp .eq (.var 2) (.int 4)) (.cons (.cmp .ne (.var 4) (.lst .nil)) .nil)))) (.cons (.mut .pop1 4 [] (.cons (.look (.bin .mod (.var 3) (.bcall .len (.cons (.var 4) .nil)))) .nil)) .nil) (.nil)) (.cons (.ife (.look (.and (.cons (.cmp .eq (.var 2) (.int 5)) (.cons (.cmp .ne (.var 4) (.lst .nil)) .nil)))) (.cons (.mut .append 4 [] (.cons (.idx (.pk 4) (.bin .mod (.var 3) (.bcall .len (.cons (.pk 4) .nil)))) .nil)) .nil) (.nil)) (.cons (.ife (.cmp .eq (.var 2) (.int 6)) (.cons (.mut .insert 4 [] (.cons (.look (.bin .mod (.var 3) (.bin .add (.bcall .len (.cons (.var 4) .nil)) (.int 1)))) (.cons (.idx (.var 1) (.bin .mod (.bin .fdiv (.var 3) (.int 64)) (.bcall .len (.cons (.var 1) .nil)))) .nil))) .nil) (.nil)) (.cons (.ife (.look (.and (.cons (.cmp .eq (.var 2) (.int 7)) (.cons (.cmp .gt (.bcall .len (.cons (.var 4) .nil)) (.int 1)) .nil)))) (.cons (.asg false 5 (.bin .mod (.var 3) (.bin .sub (.bcall .len (.cons (.var 4) .nil)) (.int 1)))) (.cons (.asg true 4 (.bin .add (.bin .add (.slc (.var 4) .none (.some (.var 5))) (.lst (.cons (.idx (.var 4) (.bin .add (.var 5) (.int 1))) (.cons (.idx (.var 4) (.var 5)) .nil)))) (.slc (.var 4) (.some (.bin .add (.var 5) (.int 2))) .none))) .nil)) (.nil)) (.cons (.ret (.some (.mv 4))) .nil)))))
/-! _law_spoilt, slots: 0 _law_rows, 1 _law_queue_here, 2 _law_cell_here, 3 _law_way, 4 _law_number, 5 _law_some, 6 _law_at_here, 7 _law_turn_here, 8 _law_names_here, 9 _law_others, 10 _law_name, 11 _law_left -/
def sSpoilt_e1 (c_law_names_spoilt : Nat) : E := .var 10
def sSpoilt (c_law_names_spoilt : Nat) : Ss := .cons (.asg false 3 (.bin .mod (.var 2) (.int 10))) (.cons (.asg false 4 (.bin .fdiv (.var 2) (.int 10))) (.cons (.asg false 5 (.bcall .list1 (.cons (.slc (.var 0) .none (.some (.bin .mod (.var 4) (.bin .add (.bcall .len (.cons (.var 0) .nil)) (.int 1))))) .nil))) (.cons (.ife (.cmp .eq (.var 5) (.lst .nil)) (.cons (.ret (.some (.var 5))) .nil) (.nil)) (.cons (.asg false 6 (.bin .mod (.bin .fdiv (.var 4) (.int 512)) (.bcall .len (.cons (.var 5) .nil)))) (.cons (.asgt (.tup [.nm 7, .nm 8]) (.idx (.var 5) (.var 6))) (.cons (.ife (.cmp .eq (.var 3) (.int 0)) (.cons (.ret (.some (.bin .add (.slc (.var 5) .none (.some (.var 6))) (.slc (.var 5) (.some (.bin .add (.var 6) (.int 1))) .none)))) .nil) (.nil)) (.cons (.ife (.cmp .eq (.var 3) (.int 1)) (.cons (.ret (.some (.bin .add (.bin .add (.slc (.var 5) .none (.some (.var 6))) (.lst (.cons (.tup (.cons (.var 7) (.cons (.bcall .list1 (.cons (.var 8) .nil)) .nil))) .nil))) (.slc (.var 5) (.some (.var 6)) .none)))) .nil) (.nil)) (.cons (.ife (.cmp .eq (.var 3) (.int 2)) (.cons (.asg false 7 (.bcall .max2 (.cons (.int 0) (.cons (.bin .add (.var 7) (.idx (.lst (.cons (.int 1) (.cons (.neg (.int 1)) .nil))) (.bin .mod (.bin .fdiv (.var 4) (.int 65536)) (.int 2)))) .nil)))) .nil) (.nil)) (.cons (.ife (.cmp .eq (.var 3) (.int 3)) (.cons (.ret (.some (.bin .add (.var 0) (.lst (.cons (.tup (.cons (.bin .add (.idx (.idx (.var 0) (.neg (.int 1))) (.int 0)) (.int 1)) (.cons (.lst .nil) .nil))) .nil))))) .nil) (.nil)) (.cons (.asg false 9 (.bin .add (.lc (sSpoilt_e1 c_law_names_spoilt) (.tup [.nm 10, .nm 11]) (.seq (.var 1)) .none [10, 11]) (.lst (.cons (.str "zz") .nil)))) (.cons (.ret (.some (.bin .add (.bin .add (.slc (.var 5) .none (.some (.var 6))) (.lst (.cons (.tup (.cons (.var 7) (.cons (.call c_law_names_spoilt (.cons (.var 8) (.cons (.var 9) (.cons (.var 3) (.cons (.bin .fdiv (.var 4) (.int 65536)) .nil))))) .nil))) .nil))) (.slc (.var 5) (.some (.bin .add (.var 6) (.int 1))) .none)))) .nil)))))))))))
/-! _law_due, slots: 0 _law_queue_here, 1 _law_hours_here, 2 _law_begin_here, 3 _law_rows, 4 _law_some, 5 _law_k, 6 _law_names_here -/
def sDue_l1 (c_law_at c_law_turn : Nat) : Ss := .cons (.ife (.or (.cons (.cmp .eq (.var 4) (.lst .nil)) (.cons (.cmp .ne (.idx (.idx (.var 3) (.var 5)) (.int 0)) (.bin .add (.var 2) (.var 5))) .nil))) (.cons (.ret (.some (.non))) .nil) (.nil)) (.cons (.asgt (.tup [.nm 6, .nm 4]) (.call c_law_turn (.cons (.var 4) (.cons (.call c_law_at (.cons (.idx (.var 1) (.int 0)) (.cons (.idx (.var 1) (.int 1)) (.cons (.bin .add (.var 2) (.var 5)) .nil)))) .nil)))) (.cons (.ife (.cmp .ne (.idx (.idx (.var 3) (.var 5)) (.int 1)) (.var 6)) (.cons (.ret (.some (.non))) .nil) (.nil)) .nil))
def sDue (c_law_at c_law_turn : Nat) : Ss := .cons (.asg false 4 (.bcall .list1 (.cons (.var 0) .nil))) (.cons (.for (.nm 5) (.rng1 (.bcall .len (.cons (.var 3) .nil))) (sDue_l1 c_law_at c_law_turn) [0, 5, 6]) (.cons (.ret (.some (.var 4))) .nil))
end Vm
/-! Vm: hours, in plain Lean, and what their defs do. -/
namespace Vm
open PySem L2
open PyProof.Rows hiding St
/-! ### plain -/
def tstep (s : List (Int × Int)) (p : Int × Int) : List (Int × Int) := match s.getLast? with
  | none => s ++ [p]
  | some l => if l.2 = p.2 then s else s ++ [p]
def tidyV (l : List (Int × Int)) : List (Int × Int) := l.foldl tstep []
def astep (turn : Int) (f : Int) (p : Int × Int) : Int := if p.1 ≤ turn then p.2 else f
def atV (l : List (Int × Int)) (turn : Int) : Int := l.foldl (astep turn) 0
def stV (b : Int) : List (Int × Int) → Int → List (Int × Int)
  | [], rest => [(b, rest)]
  | p :: r, rest => (b, p.2) :: stV (b + p.1) r rest
def lawAt : List (Int × Int) → Int → Int → Int
  | [], rest, _ => rest
  | p :: r, rest, turn => if turn < p.1 then p.2 else lawAt r rest (turn - p.1)
def NN (l : List (Int × Int)) : Prop := ∀ p ∈ l, 0 ≤ p.1
theorem st_low {turn rest : Int} : ∀ (l : List (Int × Int)) (b : Int), NN l → ∀ p ∈ stV b l rest, b ≤ p.1
  | [], b, _, p, m => by
    rw [List.mem_singleton.mp m]
    exact Int.le_refl _
  | q :: r, b, h, p, m => by
    rcases List.mem_cons.mp m with e | m
    · rw [e]
      exact Int.le_refl _
    · have h1 := st_low (turn := turn) (rest := rest) r (b + q.1) (fun p m => h p (List.mem_cons_of_mem _ m)) p m
      have h2 := h q (List.mem_cons_self ..)
      omega
theorem fold_late {turn : Int} : ∀ (l : List (Int × Int)) (f : Int), (∀ p ∈ l, turn < p.1) → l.foldl (astep turn) f = f
  | [], _, _ => rfl
  | p :: l, f, h => by
    have h1 := h p (List.mem_cons_self ..)
    rw [List.foldl_cons, show astep turn f p = f from if_neg (by omega)]
    exact fold_late l f fun q m => h q (List.mem_cons_of_mem _ m)
theorem fold_st {turn rest : Int} : ∀ (l : List (Int × Int)) (b f : Int), NN l → b ≤ turn → (stV b l rest).foldl (astep turn) f = lawAt l rest (turn - b)
  | [], b, f, _, h => by
    show astep turn f (b, rest) = rest
    exact if_pos h
  | p :: r, b, f, hn, h => by
    have hn' : NN r := fun q m => hn q (List.mem_cons_of_mem _ m)
    show (stV (b + p.1) r rest).foldl (astep turn) (astep turn f (b, p.2)) = if turn - b < p.1 then p.2 else lawAt r rest (turn - b - p.1)
    rw [show astep turn f (b, p.2) = p.2 from if_pos h]
    by_cases q : turn - b < p.1
    · rw [if_pos q]
      refine fold_late _ _ fun q' m => ?_
      have := st_low (turn := turn) (rest := rest) r (b + p.1) hn' q' m
      omega
    · rw [if_neg q, fold_st r (b + p.1) _ hn' (by omega), show turn - (b + p.1) = turn - b - p.1 by omega]
def Mono : List (Int × Int) → Prop
  | [] => True
  | p :: r => (∀ q ∈ r, p.1 ≤ q.1) ∧ Mono r
theorem st_mono {rest : Int} : ∀ (l : List (Int × Int)) (b : Int), NN l → Mono (stV b l rest)
  | [], _, _ => ⟨fun q m => (List.not_mem_nil m).elim, trivial⟩
  | p :: r, b, h => by
    have h' : NN r := fun q m => h q (List.mem_cons_of_mem _ m)
    refine ⟨fun q m => ?_, st_mono r _ h'⟩
    have h1 := st_low (turn := 0) (rest := rest) r (b + p.1) h' q m
    have h2 := h p (List.mem_cons_self ..)
    show b ≤ q.1
    omega
theorem tidy_at {turn : Int} : ∀ (l acc : List (Int × Int)), (∀ x, acc.getLast? = some x → ∀ p ∈ l, x.1 ≤ p.1) → Mono l → (l.foldl tstep acc).foldl (astep turn) 0 = l.foldl (astep turn) (acc.foldl (astep turn) 0)
  | [], _, _, _ => rfl
  | p :: r, acc, h, hm => by
    rw [List.foldl_cons, List.foldl_cons]
    have app : (r.foldl tstep (acc ++ [p])).foldl (astep turn) 0 = r.foldl (astep turn) (astep turn (acc.foldl (astep turn) 0) p) := by
      rw [tidy_at r (acc ++ [p]) (fun x e q m => by
        rw [List.getLast?_concat] at e
        cases e
        exact hm.1 q m) hm.2, List.foldl_append]
      rfl
    cases e : acc.getLast? with
    | none =>
      rw [show tstep acc p = acc ++ [p] by unfold tstep; rw [e]]
      exact app
    | some x =>
      by_cases q : x.2 = p.2
      · rw [show tstep acc p = acc by unfold tstep; rw [e]; exact if_pos q, tidy_at r acc (fun y ey q m => h y ey q (List.mem_cons_of_mem _ m)) hm.2]
        congr 1
        unfold astep
        by_cases h1 : p.1 ≤ turn
        · rw [if_pos h1]
          have h2 := h x e p (List.mem_cons_self ..)
          obtain ⟨i, rfl⟩ : ∃ i, acc = i ++ [x] := by
            rcases List.eq_nil_or_concat acc with rfl | ⟨i, y, rfl⟩
            · cases e
            · rw [List.concat_eq_append, List.getLast?_concat] at e
              cases e
              exact ⟨i, by rw [List.concat_eq_append]⟩
          rw [List.foldl_append]
          show (if x.1 ≤ turn then x.2 else _) = p.2
          rw [if_pos (by omega), q]
        · rw [if_neg h1]
      · rw [show tstep acc p = acc ++ [p] by unfold tstep; rw [e]; exact if_neg q]
        exact app
theorem at_eq {l : List (Int × Int)} {rest turn : Int} (h : NN l) (ht : 0 ≤ turn) : atV (tidyV (stV 0 l rest)) turn = lawAt l rest turn := by
  unfold atV tidyV
  rw [tidy_at _ [] (fun x e => by cases e) (st_mono l 0 h)]
  rw [fold_st l 0 _ h ht, Int.sub_zero]
theorem tidy_len : ∀ (l acc : List (Int × Int)), (l.foldl tstep acc).length ≤ acc.length + l.length
  | [], acc => Nat.le_refl _
  | p :: l, acc => by
    rw [List.foldl_cons]
    have h := tidy_len l (tstep acc p)
    have h2 : (tstep acc p).length ≤ acc.length + 1 := by
      unfold tstep
      split
      · simp
      · split <;> simp
    rw [List.length_cons]
    omega
theorem st_len {rest : Int} : ∀ (l : List (Int × Int)) (b : Int), (stV b l rest).length = l.length + 1
  | [], _ => rfl
  | p :: l, b => by
    show (stV (b + p.1) l rest).length + 1 = _
    rw [st_len l, List.length_cons]
theorem st_fold {rest : Int} : ∀ (l : List (Int × Int)) (b : Int) (acc : List (Int × Int)), (let s := l.foldl (fun (s : List (Int × Int) × Int) (p : Int × Int) => (s.1 ++ [(s.2, p.2)], s.2 + p.1)) (acc, b); s.1 ++ [(s.2, rest)]) = acc ++ stV b l rest
  | [], b, acc => rfl
  | p :: l, b, acc => by
    have h := st_fold (rest := rest) l (b + p.1) (acc ++ [(b, p.2)])
    dsimp only at h ⊢
    rw [List.foldl_cons, h, List.append_assoc]
    rfl
/-! ### encodings -/
def rk (p : Int × Int) : D := .tup [.int p.1, .int p.2]
abbrev dR (q : List (Int × Int)) : D := .lst false (q.map rk)
@[simp] theorem clr_rk (p : Int × Int) : clr (rk p) = rk p := rfl
@[simp] theorem plain_rk (n : Nat) (p : Int × Int) : plain (n + 2) (rk p) = true := rfl
@[simp] theorem eq_nil (f g : Bool) (xs : List D) : opEq (.lst f xs) (.lst g []) = some (decide (xs = [])) := by
  cases xs with
  | nil => rfl
  | cons x xs =>
    simp [opEq, deq]
@[simp] theorem atI_end {α : Type} (xs : List α) (x : α) : atI (xs ++ [x]) (-1) = some x := by
  have l : (xs ++ [x]).length = xs.length + 1 := by simp
  have e : ixN (xs ++ [x]).length (-1) = some xs.length := by
    unfold ixN
    rw [l, if_neg (by decide), if_pos (by omega)]
    congr 1
    omega
  unfold atI
  rw [e]
  show (xs ++ [x])[xs.length]? = some x
  simp
variable {Γ : Cf}
/-! ### numbers, rows -/
def NumS (c : CF) : Prop := ∀ a lo hi, c [(false, .int a), (false, .int lo), (false, .int hi)] = .ok false (.bl (decide (lo ≤ a) && decide (a ≤ hi))) [none, none, none]
def RowOkS (c : CF) : Prop := ∀ p : Int × Int, 1 ≤ p.1 → p.1 ≤ 100 → 0 ≤ p.2 → p.2 ≤ 8 → c [(false, rk p)] = .ok false (.bl true) [none]
def HOk (l : List (Int × Int)) (rest : Int) : Prop := l.length ≤ 16 ∧ (∀ p ∈ l, 1 ≤ p.1 ∧ p.1 ≤ 100 ∧ 0 ≤ p.2 ∧ p.2 ≤ 8) ∧ 1 ≤ rest ∧ rest ≤ 8
def NeedS (c : CF) : Prop := ∀ l rest, HOk l rest → c [(false, dR l), (false, .int rest)] = .ok false .non [none, none]
def TidyS (c : CF) : Prop := ∀ l : List (Int × Int), l.length ≤ 100000 → c [(false, dR l)] = .ok true (.lst true ((tidyV l).map rk)) [none]
abbrev insH (l : List (Int × Int)) (rest : Int) : D := .ins false 0 [(0, dR (tidyV (stV 0 l rest)))]
def InitS (c : CF) : Prop := ∀ l rest, HOk l rest → ∃ o2, c [(true, .ins true 0 []), (false, dR l), (false, .int rest)] = .ok false .non (some (true, .ins true 0 [(0, .lst true ((tidyV (stV 0 l rest)).map rk))]) :: o2)
def AtS (c : CF) : Prop := ∀ l rest turn, NN l → 0 ≤ turn → c [(false, insH l rest), (false, .int turn)] = .ok false (.int (lawAt l rest turn)) [none, none]
theorem sIsWhole_v {a : Int} : evSs Γ sIsWhole [some (false, .int a)] = .ret false (.bl true) [some (false, .int a)] := by
  simp [sIsWhole]
theorem sIsNumber_v {a lo hi : Int} {cw : Nat} (hw : WholeS (Γ.call cw)) : evSs Γ (sIsNumber cw) [some (false, .int a), some (false, .int lo), some (false, .int hi)] = .ret false (.bl (decide (lo ≤ a) && decide (a ≤ hi))) [some (false, .int a), some (false, .int lo), some (false, .int hi)] := by
  have e := hw a
  by_cases h1 : lo ≤ a
  · by_cases h2 : a ≤ hi
    · simp [sIsNumber, e, h1, h2]
    · simp [sIsNumber, e, h1, h2]
  · simp [sIsNumber, e, h1]
theorem sIsRow_v {p : Int × Int} {cn : Nat} (hn : NumS (Γ.call cn)) (h1 : 1 ≤ p.1) (h2 : p.1 ≤ 100) (h3 : 0 ≤ p.2) (h4 : p.2 ≤ 8) : evSs Γ (sIsRow cn) [some (false, rk p)] = .ret false (.bl true) [some (false, rk p)] := by
  have e1 := hn p.1 1 100
  have e2 := hn p.2 0 8
  rw [decide_eq_true h1, decide_eq_true h2] at e1
  rw [decide_eq_true h3, decide_eq_true h4] at e2
  simp [sIsRow, rk, e1, e2]
theorem sNeedHours_v {l : List (Int × Int)} {rest : Int} {cn cr : Nat} (hio : Γ.io = []) (hn : NumS (Γ.call cn)) (hr : RowOkS (Γ.call cr)) (h : HOk l rest) : ∃ env, evSs Γ (sNeedHours cn cr) [some (false, dR l), some (false, .int rest), none] = .next env := by
  have key := forL_fold (α := Unit) (β := Int × Int) (b := evSs Γ (sNeedHours_l1 cn cr)) (set := tgSet [] (.nm 2)) (vs := [0, 1, 2]) (fun _ => [none, none, none]) rk (fun _ _ => ()) (fun _ _ => True)
    l 0 () trivial fun i s p hx _ => by
      refine ⟨trivial, ?_⟩
      have m := h.2.1 p (List.mem_of_getElem? hx)
      have e := hr p m.1 m.2.1 m.2.2.1 m.2.2.2
      simp [sNeedHours_l1, e]
  have k1 := key.1
  have e1 := hn rest 1 8
  rw [decide_eq_true h.2.2.1, decide_eq_true h.2.2.2] at e1
  have h16 : ¬ (16 : Int) < l.length := by
    have := h.1
    omega
  simp [sNeedHours, e1, hio, k1, h16]
theorem sTidied_v {l : List (Int × Int)} (hio : Γ.io = []) (hl : l.length ≤ 100000) : ∃ env, evSs Γ sTidied [some (false, dR l), none, none, none] = .ret true (.lst true ((tidyV l).map rk)) env := by
  have big := sizeBig
  have s2 : 2 ≤ sizeLine := by omega
  have key := forL_fold (α := List (Int × Int)) (β := Int × Int) (b := evSs Γ sTidied_l1) (set := tgSet [] (.tup [.nm 2, .nm 3])) (vs := [0, 2, 3]) (fun s => [none, some (true, .lst true (s.map rk)), none, none]) rk tstep (fun i s => s.length ≤ i)
    l 0 [] (Nat.le_refl _) fun i s p hx h1 => by
      have hi := (List.getElem?_eq_some_iff.mp hx).1
      have z1 : s.length < sizeLine := by omega
      refine ⟨?_, ?_⟩
      · have := tidy_len [p] s
        simp only [List.foldl_cons, List.foldl_nil, List.length_singleton] at this
        omega
      · rcases List.eq_nil_or_concat s with rfl | ⟨i0, y, rfl⟩
        · have z0 : 0 < sizeLine := by omega
          simp [sTidied_l1, rk, tstep, z0, s2, hio]
        · rw [List.concat_eq_append]
          rw [List.concat_eq_append] at z1
          have et : tstep (i0 ++ [y]) p = if y.2 = p.2 then i0 ++ [y] else i0 ++ [y] ++ [p] := by
            unfold tstep
            rw [List.getLast?_concat]
          rw [et]
          have z2 : i0.length + 1 < sizeLine := by simpa using z1
          by_cases q : y.2 = p.2
          · rw [if_pos q]
            have q' : (y.2 == p.2) = true := by simpa using q
            simp [sTidied_l1, rk, q', q, z2, s2, hio]
          · rw [if_neg q]
            have q' : (y.2 == p.2) = false := by simpa using q
            simp [sTidied_l1, rk, q', z2, s2, hio]
  have k1 := key.1
  simp only [List.map_nil] at k1
  have k1' : forL (evSs Γ sTidied_l1) (tgSet [] (.tup [.nm 2, .nm 3])) [0, 2, 3] (l.map rk) [none, some (true, .lst true []), none, none] = .next [none, some (true, .lst true ((tidyV l).map rk)), none, none] := k1
  simp [sTidied, hio, k1']
end Vm
/-! Vm: hours made and asked, walked rows. -/
namespace Vm
open PySem L2
open PyProof.Rows hiding St
variable {Γ : Cf}
theorem sHoursInit_v {l : List (Int × Int)} {rest : Int} {cn ct : Nat} (hio : Γ.io = [0]) (hn : NeedS (Γ.call cn)) (ht : TidyS (Γ.call ct)) (h : HOk l rest) :
    ∃ env, evSs Γ (sHoursInit cn ct) [some (true, .ins true 0 []), some (false, dR l), some (false, .int rest), none, none, none, none] = .next env ∧ getS env 0 = some (true, .ins true 0 [(0, .lst true ((tidyV (stV 0 l rest)).map rk))]) := by
  have big := sizeBig
  have s2 : 2 ≤ sizeLine := by omega
  have l16 := h.1
  have key := forL_fold (α := List (Int × Int) × Int) (β := Int × Int) (b := evSs Γ (sHoursInit_l1 cn ct)) (set := tgSet [0] (.tup [.nm 5, .nm 6])) (vs := [1, 5, 6])
    (fun s => [some (true, .ins true 0 []), none, some (false, .int rest), some (true, .lst true (s.1.map rk)), some (false, .int s.2), none, none]) rk (fun s p => (s.1 ++ [(s.2, p.2)], s.2 + p.1)) (fun i s => s.1.length = i)
    l 0 ([], 0) rfl fun i s p hx h1 => by
      have hi := (List.getElem?_eq_some_iff.mp hx).1
      have z1 : s.1.length < sizeLine := by omega
      refine ⟨by simp; omega, ?_⟩
      simp [sHoursInit_l1, rk, z1, s2, hio, tgSet, tgSet.tgs]
  have k1 := key.1
  have e0 := st_fold (rest := rest) l 0 []
  dsimp only at e0
  rw [List.nil_append] at e0
  generalize hS : l.foldl (fun (s : List (Int × Int) × Int) (p : Int × Int) => (s.1 ++ [(s.2, p.2)], s.2 + p.1)) ([], 0) = S at *
  have zl : S.1.length < sizeLine := by
    have := key.2
    omega
  have e1 := hn l rest h
  dsimp only at k1
  simp only [List.map_nil] at k1
  have e3 : (S.1.map rk) ++ [D.tup [D.int S.2, D.int rest]] = (stV 0 l rest).map rk := by
    rw [← e0, List.map_append]
    rfl
  have e2' : Γ.call ct [(false, .lst false (S.1.map rk ++ [D.tup [D.int S.2, D.int rest]]))] = .ok true (.lst true ((tidyV (stV 0 l rest)).map rk)) [none] := by
    rw [e3]
    exact ht (stV 0 l rest) (by rw [st_len]; omega)
  simp [sHoursInit, e1, e2', hio, k1, zl, s2, putD]
theorem sHoursAt_v {l : List (Int × Int)} {rest turn : Int} (hio : Γ.io = []) (hl : NN l) (ht : 0 ≤ turn) : ∃ env, evSs Γ sHoursAt [some (false, insH l rest), some (false, .int turn), none, none, none] = .ret false (.int (lawAt l rest turn)) env := by
  have key := forL_fold (α := Int) (β := Int × Int) (b := evSs Γ sHoursAt_l1) (set := tgSet [] (.tup [.nm 3, .nm 4])) (vs := [0, 3, 4]) (fun f => [none, some (false, .int turn), some (false, .int f), none, none]) rk (astep turn) (fun _ _ => True)
    (tidyV (stV 0 l rest)) 0 0 trivial fun i s p hx _ => by
      refine ⟨trivial, ?_⟩
      unfold astep
      by_cases q : p.1 ≤ turn
      · rw [if_pos q]
        simp [sHoursAt_l1, rk, q, hio]
      · rw [if_neg q]
        simp [sHoursAt_l1, rk, q, hio]
  have k1 := key.1
  have e := at_eq (rest := rest) hl ht
  unfold atV at e
  rw [e] at k1
  simp [sHoursAt, insH, fldD, hio, k1]
/-! ### the law's hours -/
def LawAtS (c : CF) : Prop := ∀ l rest turn, c [(false, dR l), (false, .int rest), (false, .int turn)] = .ok false (.int (lawAt l rest turn)) [none, none, none]
theorem sAt_loop {rest : Int} (hio : Γ.io = []) : ∀ (l : List (Int × Int)) (turn : Int), ∃ env, (forL (evSs Γ sAt_l1) (tgSet [] (.tup [.nm 3, .nm 4])) [0, 3, 4] (l.map rk) [none, some (false, .int rest), some (false, .int turn), none, none]).bind (fun env => evSs Γ (.cons (.ret (.some (.var 1))) .nil) env) = .ret false (.int (lawAt l rest turn)) env
  | [], turn => by simp [forL, lawAt]
  | p :: l, turn => by
    by_cases q : turn < p.1
    · have e : lawAt (p :: l) rest turn = p.2 := if_pos q
      rw [e, List.map_cons]
      unfold forL
      simp [rk, sAt_l1, q]
    · have e : lawAt (p :: l) rest turn = lawAt l rest (turn - p.1) := if_neg q
      obtain ⟨env, ih⟩ := sAt_loop hio l (turn - p.1)
      rw [e, List.map_cons]
      unfold forL
      refine ⟨env, ?_⟩
      rw [← ih]
      simp [rk, sAt_l1, q, hio]
theorem sAt_v {l : List (Int × Int)} {rest turn : Int} (hio : Γ.io = []) : ∃ env, evSs Γ sAt [some (false, dR l), some (false, .int rest), some (false, .int turn), none, none] = .ret false (.int (lawAt l rest turn)) env := by
  obtain ⟨env, e⟩ := sAt_loop (Γ := Γ) (rest := rest) hio l turn
  refine ⟨env, ?_⟩
  rw [← e]
  simp [sAt, hio]
/-! ### rows of a run -/
def rw_ (p : Int × List Str) : D := .tup [.int p.1, dS p.2]
abbrev dW (q : List (Int × List Str)) : D := .lst false (q.map rw_)
@[simp] theorem clr_rw (p : Int × List Str) : clr (rw_ p) = rw_ p := by simp [rw_]
theorem opEq_map {α : Type} [DecidableEq α] (g : α → D) (n : Nat) (h : ∀ a b, deq n (g a) (g b) = some (decide (a = b))) (f f' : Bool) : ∀ (xs ys : List α), deq (n + 1) (.lst f (xs.map g)) (.lst f' (ys.map g)) = some (decide (xs = ys)) := by
  intro xs ys
  show (if (xs.map g).length = (ys.map g).length then deqs (deq n) (xs.map g) (ys.map g) else some false) = _
  rw [List.length_map, List.length_map]
  by_cases hl : xs.length = ys.length
  · rw [if_pos hl]
    induction xs generalizing ys with
    | nil =>
      cases ys with
      | nil => rfl
      | cons _ _ => simp at hl
    | cons x xs ih =>
      cases ys with
      | nil => simp at hl
      | cons y ys =>
        rw [List.map_cons, List.map_cons]
        unfold deqs
        rw [h x y, ih ys (by simpa using hl)]
        simp
  · rw [if_neg hl]
    have : xs ≠ ys := fun e => hl (by rw [e])
    simp [this]
@[simp] theorem eq_strs (f g : Bool) (xs ys : List Str) : opEq (.lst f (xs.map .str)) (.lst g (ys.map .str)) = some (decide (xs = ys)) := opEq_map .str 39 (fun a b => by
  show some (a == b) = _
  congr 1) f g xs ys
/-- rows walked: what they lead to -/
def walkV (l : List (Int × Int)) (rest : Int) : Int → List (Str × Int) → List (Int × List Str) → Option (List (Str × Int))
  | _, q, [] => some q
  | due, q, r :: rs => if q = [] ∨ r.1 ≠ due then none else if r.2 ≠ servedV q (lawAt l rest due).toNat then none else walkV l rest (due + 1) (behindV q (lawAt l rest due).toNat) rs
def dO : Option (List (Str × Int)) → D
  | none => .non
  | some q => dQ q
def QG (q : List (Str × Int)) : Prop := q.length ≤ 60 ∧ QPos q
theorem behind_g {q : List (Str × Int)} {m : Nat} (h : QG q) : QG (behindV q m) := by
  refine ⟨?_, fun p hm => ?_⟩
  · have h1 := h.1
    unfold behindV
    rw [List.length_append, List.length_map, List.length_drop]
    have := List.length_filter_le (fun p : Str × Int => decide (1 < p.2)) (q.take m)
    rw [List.length_take] at this
    omega
  · unfold behindV at hm
    rcases List.mem_append.mp hm with hm | hm
    · obtain ⟨p', hp', rfl⟩ := List.mem_map.mp hm
      have := (List.mem_filter.mp hp').2
      simp at this
      show 1 ≤ p'.2 - 1
      omega
    · exact h.2 p (List.mem_of_mem_drop hm)
def TurnS (c : CF) : Prop := ∀ q (m : Nat), QG q → c [(false, dQ q), (false, .int m)] = .ok true (.tup [.lst true ((servedV q m).map .str), .lst true ((behindV q m).map tk)]) [none, none]
def LN (l : List (Int × Int)) (rest : Int) : Prop := NN l ∧ (∀ p ∈ l, 0 ≤ p.2) ∧ 0 ≤ rest
theorem lawAt_nn : ∀ (l : List (Int × Int)) (rest turn : Int), (∀ p ∈ l, 0 ≤ p.2) → 0 ≤ rest → 0 ≤ lawAt l rest turn
  | [], rest, turn, _, h => h
  | p :: l, rest, turn, h, hr => by
    unfold lawAt
    split
    · exact h p (List.mem_cons_self ..)
    · exact lawAt_nn l rest _ (fun q m => h q (List.mem_cons_of_mem _ m)) hr
theorem walk_loop {l : List (Int × Int)} {rest : Int} {ca ct : Nat} (hio : Γ.io = []) (hl : LN l rest) (ha : AtS (Γ.call ca)) (ht : TurnS (Γ.call ct)) : ∀ (rs : List (Int × List Str)) (due : Int) (q : List (Str × Int)), 0 ≤ due → QG q → ∃ f env,
    (forL (evSs Γ (sWalkRun_l1 ca ct)) (tgSet [] (.tup [.nm 6, .nm 7])) [0, 2, 3, 6, 7, 8] (rs.map rw_) [none, some (false, insH l rest), none, none, some (false, dQ q), some (false, .int due), none, none, none]).bind (fun env => evSs Γ (.cons (.ret (.some (.var 4))) .nil) env) = .ret f (dO (walkV l rest due q rs)) env
  | [], due, q, _, _ => by
    refine ⟨false, ?_⟩
    simp [forL, walkV, dO]
  | r :: rs, due, q, hd, hq => by
    rw [List.map_cons]
    unfold forL
    unfold walkV
    by_cases h1 : q = []
    · subst h1
      refine ⟨false, ?_⟩
      simp [rw_, sWalkRun_l1, dO]
    · by_cases h2 : r.1 = due
      · have e1 := ha l rest due hl.1 hd
        have en := lawAt_nn l rest due hl.2.1 hl.2.2
        have em : ((lawAt l rest due).toNat : Int) = lawAt l rest due := Int.toNat_of_nonneg en
        have e2 := ht q (lawAt l rest due).toNat hq
        rw [em] at e2
        rw [← h2] at e1 e2
        rw [if_neg (by simp [h1, h2])]
        by_cases h3 : r.2 = servedV q (lawAt l rest due).toNat
        · rw [if_neg (by simp [h3])]
          obtain ⟨f, env, ih⟩ := walk_loop hio hl ha ht rs (due + 1) (behindV q (lawAt l rest due).toNat) (by omega) (behind_g hq)
          refine ⟨f, env, ?_⟩
          rw [← ih]
          rw [← h2] at h3 ⊢
          have h1' : (q.map tk) ≠ [] := by simpa using h1
          simp [rw_, sWalkRun_l1, h1, hio, e1, e2, h3]
        · rw [if_pos h3]
          refine ⟨false, ?_⟩
          rw [← h2] at h3 ⊢
          simp [rw_, sWalkRun_l1, h1, hio, e1, e2, h3, dO]
      · rw [if_pos (.inr h2)]
        refine ⟨false, ?_⟩
        have h2' : (r.1 == due) = false := by simpa using h2
        simp [rw_, sWalkRun_l1, h1, h2', dO]
theorem sWalkRun_v {l : List (Int × Int)} {rest begin : Int} {ca ct : Nat} {q : List (Str × Int)} {rs : List (Int × List Str)} (hio : Γ.io = []) (hl : LN l rest) (ha : AtS (Γ.call ca)) (ht : TurnS (Γ.call ct)) (hb : 0 ≤ begin) (hq : QG q) : ∃ f env,
    evSs Γ (sWalkRun ca ct) [some (false, dQ q), some (false, insH l rest), some (false, .int begin), some (false, dW rs), none, none, none, none, none] = .ret f (dO (walkV l rest begin q rs)) env := by
  obtain ⟨f, env, e⟩ := walk_loop hio hl ha ht rs begin q hb hq
  refine ⟨f, env, ?_⟩
  rw [← e]
  simp [sWalkRun, hio]
theorem due_loop {l : List (Int × Int)} {rest begin : Int} {ca ct : Nat} {rows : List (Int × List Str)} (hio : Γ.io = []) (hl : LN l rest) (ha : LawAtS (Γ.call ca)) (ht : TurnS (Γ.call ct)) : ∀ (rs : List (Int × List Str)) (i : Nat) (q : List (Str × Int)), rs = rows.drop i → QG q → ∃ f env,
    (forL (evSs Γ (sDue_l1 ca ct)) (tgSet [] (.nm 5)) [0, 5, 6] ((List.range' i rs.length).map fun k : Nat => .int (k : Int)) [none, some (false, .tup [dR l, .int rest]), some (false, .int begin), some (false, dW rows), some (false, dQ q), none, none]).bind (fun env => evSs Γ (.cons (.ret (.some (.var 4))) .nil) env) = .ret f (dO (walkV l rest (begin + i) q rs)) env
  | [], i, q, _, _ => by
    refine ⟨false, ?_⟩
    simp [forL, walkV, dO]
  | r :: rs, i, q, hr, hq => by
    have hi : i < rows.length := by
      have := congrArg List.length hr
      rw [List.length_cons, List.length_drop] at this
      omega
    have er : rows[i] = r := by
      rw [List.drop_eq_getElem_cons hi] at hr
      cases hr
      rfl
    have hr' : rs = rows.drop (i + 1) := by
      rw [List.drop_eq_getElem_cons hi] at hr
      cases hr
      rfl
    have ea : atI (rows.map rw_) (i : Int) = some (rw_ r) := by
      rw [atI_nn (by omega) (by simpa using hi), List.getElem?_map, Int.toNat_natCast, List.getElem?_eq_getElem hi, er]
      rfl
    rw [List.length_cons, List.range'_succ, List.map_cons]
    unfold forL
    unfold walkV
    by_cases h1 : q = []
    · subst h1
      refine ⟨false, ?_⟩
      simp [sDue_l1, dO]
    · by_cases h2 : r.1 = begin + i
      · have e1 := ha l rest (begin + i)
        have en := lawAt_nn l rest (begin + i) hl.2.1 hl.2.2
        have em : ((lawAt l rest (begin + i)).toNat : Int) = lawAt l rest (begin + i) := Int.toNat_of_nonneg en
        have e2 := ht q (lawAt l rest (begin + i)).toNat hq
        rw [em] at e2
        have h2' : (r.1 == begin + (i : Int)) = true := by simpa using h2
        rw [if_neg (by simp [h1, h2])]
        by_cases h3 : r.2 = servedV q (lawAt l rest (begin + i)).toNat
        · rw [if_neg (by simp [h3])]
          obtain ⟨f, env, ih⟩ := due_loop hio hl ha ht rs (i + 1) (behindV q (lawAt l rest (begin + i)).toNat) hr' (behind_g hq)
          refine ⟨f, env, ?_⟩
          rw [show begin + ((i + 1 : Nat) : Int) = begin + i + 1 by omega] at ih
          rw [← ih]
          simp [rw_, sDue_l1, ea, h1, h2', hio, e1, e2, h3]
        · rw [if_pos h3]
          refine ⟨false, ?_⟩
          simp [rw_, sDue_l1, ea, h1, h2', hio, e1, e2, h3, dO]
      · rw [if_pos (.inr h2)]
        refine ⟨false, ?_⟩
        have h2' : (r.1 == begin + (i : Int)) = false := by simpa using h2
        simp [rw_, sDue_l1, ea, h1, h2', dO]
theorem sDue_v {l : List (Int × Int)} {rest begin : Int} {ca ct : Nat} {q : List (Str × Int)} {rs : List (Int × List Str)} (hio : Γ.io = []) (hl : LN l rest) (ha : LawAtS (Γ.call ca)) (ht : TurnS (Γ.call ct)) (hq : QG q) (hr : rs.length ≤ 100000000) : ∃ f env,
    evSs Γ (sDue ca ct) [some (false, dQ q), some (false, .tup [dR l, .int rest]), some (false, .int begin), some (false, dW rs), none, none, none] = .ret f (dO (walkV l rest begin q rs)) env := by
  obtain ⟨f, env, e⟩ := due_loop (rows := rs) (begin := begin) hio hl ha ht rs 0 q rfl hq
  refine ⟨f, env, ?_⟩
  rw [show begin + ((0 : Nat) : Int) = begin by omega, ← List.range_eq_range'] at e
  rw [← e]
  have r1 : rngOk (rs.length : Int) = true := rng_of (by omega) (by omega)
  simp [sDue, hio, range1, r1]
/-! ### what the law draws -/
theorem sBegin_v {ns : List Int} {cc : Nat} (hio : Γ.io = []) (hc : CellS (Γ.call cc)) : ∃ b f env, 0 ≤ b ∧ b ≤ 1000000 ∧ evSs Γ (sBegin cc) [some (false, dI ns), none] = .ret f (.int b) env := by
  have e := hc ns 6 (by omega)
  by_cases h : cellV ns 6 % 8 = 1
  · have h' : (cellV ns 6 % 8 == 1) = true := by simpa using h
    refine ⟨cellV ns 6 / 8 % 100001, true, ?_⟩
    have b := emod_row (x := cellV ns 6 / 8) (b := 100001) (by decide)
    have p : (10 : Int) ^ 5 + 1 = 100001 := by decide
    have d5 : dec (0 ≤ (5 : Int) ∧ (5 : Int) ≤ 1000000 ∧ (10 : Int).natAbs < 18446744073709551616) = true := dec_of (by decide)
    have t5 : (5 : Int).toNat = 5 := rfl
    simp [sBegin, e, h', hio]
    omega
  · have h' : (cellV ns 6 % 8 == 1) = false := by simpa using h
    refine ⟨cellV ns 6 / 8 % 30, true, ?_⟩
    have b := emod_row (x := cellV ns 6 / 8) (b := 30) (by decide)
    simp [sBegin, e, h', hio]
    omega
end Vm
/-! Vm: runs. -/
namespace Vm
open PySem L2
open PyProof.Rows hiding St
variable {Γ : Cf}
def HoursS (c : CF) : Prop := ∀ ns, ∃ l rest, HOk l rest ∧ c [(false, dI ns)] = .ok true (.tup [dR l, .int rest]) [none]
theorem sHours_v {ns : List Int} {cc cr : Nat} (hio : Γ.io = []) (hc : CellS (Γ.call cc)) (hr : RowS (Γ.call cr)) : ∃ l rest, HOk l rest ∧ ∃ env, evSs Γ (sHours cc cr) [some (false, dI ns), none, none, none, none] = .ret true (.tup [dR l, .int rest]) env := by
  have big := sizeBig
  have s2 : 2 ≤ sizeLine := by omega
  have e := hc ns 2 (by omega)
  have b7 := emod_row (x := cellV ns 2) (b := 7) (by decide)
  obtain ⟨xs, lx, bx, ex⟩ := hr ns 1 45 (cellV ns 2 % 7) (by omega) (by omega) (by omega) b7.1 (by omega)
  have k1 := lcRun_map (el := evE Γ (sHours_e1 cc cr)) (c := fun x => (some true, x)) (t := .nm 2) (vs := [2]) (env1 := [some (false, dI ns), none, none, none, none]) D.int (fun n => rk (1 + n % 9, n / 9)) xs (by omega) rfl fun n m => by
    simp [sHours_e1, rk, s2]
  have el : xs.map (fun n => rk (1 + n % 9, n / 9)) = (xs.map fun n => (1 + n % 9, n / 9)).map rk := by
    rw [List.map_map]
    rfl
  rw [el] at k1
  have ok1 : ∀ p ∈ xs.map (fun n => ((1 + n % 9, n / 9) : Int × Int)), 1 ≤ p.1 ∧ p.1 ≤ 9 ∧ 0 ≤ p.2 ∧ p.2 ≤ 4 := fun p m => by
    obtain ⟨n, hn, rfl⟩ := List.mem_map.mp m
    have b := bx n hn
    refine ⟨?_, ?_, ?_, ?_⟩ <;> dsimp only <;> omega
  generalize hL : xs.map (fun n => ((1 + n % 9, n / 9) : Int × Int)) = L at *
  have lL : (L.length : Int) ≤ 6 := by
    rw [← hL, List.length_map]
    omega
  have k2 := lcRun_map (el := evE Γ (sHours_e2 cc cr)) (c := fun x => (some true, x)) (t := .tup [.nm 3, .nm 4]) (vs := [3, 4]) (env1 := [some (false, dI ns), some (false, dR L), none, none, none]) rk (fun p => rk (11 * p.1, p.2 + 4 * (if 0 < p.2 then 1 else 0))) L (by omega) rfl fun p m => by
    by_cases h : 0 < p.2
    · simp [sHours_e2, rk, s2, h]
    · simp [sHours_e2, rk, s2, h]
  have el2 : L.map (fun p => rk (11 * p.1, p.2 + 4 * (if 0 < p.2 then 1 else 0))) = (L.map fun p => ((11 * p.1, p.2 + 4 * (if 0 < p.2 then 1 else 0)) : Int × Int)).map rk := by
    rw [List.map_map]
    rfl
  rw [el2] at k2
  have ok2 : ∀ p ∈ L.map (fun p => ((11 * p.1, p.2 + 4 * (if 0 < p.2 then 1 else 0)) : Int × Int)), 1 ≤ p.1 ∧ p.1 ≤ 100 ∧ 0 ≤ p.2 ∧ p.2 ≤ 8 := fun p m => by
    obtain ⟨n, hn, rfl⟩ := List.mem_map.mp m
    have b := ok1 n hn
    dsimp only
    split <;> refine ⟨?_, ?_, ?_, ?_⟩ <;> omega
  generalize hM : L.map (fun p => ((11 * p.1, p.2 + 4 * (if 0 < p.2 then 1 else 0)) : Int × Int)) = M at *
  have lM : (M.length : Int) ≤ 6 := by
    rw [← hM, List.length_map]
    exact lL
  have hsz : 0 < (if cellV ns 2 / 1344 % 2 = 0 then (3 : Int) else 8) ∧ (if cellV ns 2 / 1344 % 2 = 0 then (3 : Int) else 8) ≤ 8 := by split <;> omega
  have eI : (if cellV ns 2 / 1344 % 2 = 0 then D.int 3 else D.int 8) = D.int (if cellV ns 2 / 1344 % 2 = 0 then 3 else 8) := by split <;> rfl
  generalize hS : (if cellV ns 2 / 1344 % 2 = 0 then (3 : Int) else 8) = S at *
  have bS := emod_row (x := cellV ns 2 / 56) (b := S) hsz.1
  by_cases h : cellV ns 2 / 7 % 8 = 1
  · refine ⟨M, 1 + cellV ns 2 / 56 % S, ⟨by omega, ok2, by omega, by omega⟩, ?_⟩
    have h' : (cellV ns 2 / 7 % 8 == 1) = true := by simpa using h
    simp [sHours, e, ex, k1, k2, h', two_at, eI, s2, hsz.1, hio]
  · refine ⟨L, 1 + cellV ns 2 / 56 % S, ⟨by omega, fun p m => ?_, by omega, by omega⟩, ?_⟩
    · have := ok1 p m
      omega
    · have h' : (cellV ns 2 / 7 % 8 == 1) = false := by simpa using h
      simp [sHours, e, ex, k1, h', two_at, eI, s2, hsz.1, hio]
/-! ### a while -/
theorem whlL_meas {α : Type} {c : EnvD → R} {b : EnvD → SR} {vs : List Nat} (enc : α → EnvD) (done : α → Bool) (step : α → α) (Inv : α → Prop) (μ : α → Nat) (hc : ∀ s, Inv s → ∃ f, c (enc s) = .ok (.v f (.bl (!done s))) (enc s))
    (hb : ∀ s, Inv s → done s = false → Inv (step s) ∧ μ (step s) < μ s ∧ ∃ env2, b (enc s) = .next env2 ∧ kill vs env2 = enc (step s)) : ∀ (n : Nat) (s : α), Inv s → μ s < n → ∃ s', Inv s' ∧ done s' = true ∧ whlL c b vs n (enc s) = .next (enc s')
  | 0, s, _, h => absurd h (Nat.not_lt_zero _)
  | n + 1, s, hi, h => by
    obtain ⟨f, e⟩ := hc s hi
    cases d : done s with
    | true =>
      refine ⟨s, hi, d, ?_⟩
      unfold whlL
      rw [e, d]
      rfl
    | false =>
      obtain ⟨i2, m2, env2, e2, e3⟩ := hb s hi d
      obtain ⟨s', q1, q2, q3⟩ := whlL_meas enc done step Inv μ hc hb n (step s) i2 (by omega)
      refine ⟨s', q1, q2, ?_⟩
      unfold whlL
      rw [e, d]
      show (match b (enc s) with
        | .next env2 => whlL c b vs n (kill vs env2)
        | .cnt env2 => whlL c b vs n (kill vs env2)
        | .brk env2 => .next (kill vs env2)
        | r => r) = _
      rw [e2]
      dsimp only
      rw [e3, q3]
/-! ### how much is left -/
def tot (q : List (Str × Int)) : Int := (q.map (·.2)).sum
theorem tot_app (a b : List (Str × Int)) : tot (a ++ b) = tot a + tot b := by
  unfold tot
  rw [List.map_append, List.sum_append]
theorem tot_behind : ∀ (q : List (Str × Int)) (m : Nat), QPos q → tot (behindV q m) + (min m q.length : Nat) = tot q
  | [], m, _ => by simp [behindV, tot]
  | p :: q, 0, _ => by simp [behindV]
  | p :: q, m + 1, h => by
    have ih := tot_behind q m fun x hx => h x (List.mem_cons_of_mem _ hx)
    have hp := h p (List.mem_cons_self ..)
    have e : tot (behindV (p :: q) (m + 1)) = tot (behindV q m) + (p.2 - 1) := by
      unfold behindV
      rw [List.take_succ_cons, List.drop_succ_cons]
      by_cases h1 : 1 < p.2
      · rw [List.filter_cons_of_pos (by simpa using h1), List.map_cons]
        simp only [List.cons_append]
        unfold tot
        simp
        omega
      · rw [List.filter_cons_of_neg (by simpa using h1)]
        omega
    have e2 : tot (p :: q) = p.2 + tot q := by
      unfold tot
      simp
    rw [e, e2, List.length_cons]
    have : (min (m + 1) (q.length + 1) : Nat) = min m q.length + 1 := by omega
    rw [this]
    push_cast
    omega
theorem tot_nn : ∀ (q : List (Str × Int)), QPos q → 0 ≤ tot q
  | [], _ => by simp [tot]
  | p :: q, h => by
    have ih := tot_nn q fun x hx => h x (List.mem_cons_of_mem _ hx)
    have hp := h p (List.mem_cons_self ..)
    have e2 : tot (p :: q) = p.2 + tot q := by
      unfold tot
      simp
    omega
def sumT (l : List (Int × Int)) : Int := (l.map (·.1)).sum
theorem late_at : ∀ (l : List (Int × Int)) (rest turn : Int), NN l → sumT l ≤ turn → lawAt l rest turn = rest
  | [], _, _, _, _ => rfl
  | p :: l, rest, turn, h, ht => by
    have e : sumT (p :: l) = p.1 + sumT l := by
      unfold sumT
      simp
    have hn : NN l := fun x hx => h x (List.mem_cons_of_mem _ hx)
    have nn : ∀ l : List (Int × Int), NN l → 0 ≤ sumT l := by
      intro l
      induction l with
      | nil => exact fun _ => by simp [sumT]
      | cons x l ih =>
        intro h
        have h1 := ih fun y hy => h y (List.mem_cons_of_mem _ hy)
        have h2 := h x (List.mem_cons_self ..)
        have e : sumT (x :: l) = x.1 + sumT l := by
          unfold sumT
          simp
        omega
    have h0 := nn l hn
    unfold lawAt
    rw [if_neg (by omega)]
    exact late_at l rest _ hn (by omega)
/-- the rows of a run -/
def IsRun (l : List (Int × Int)) (rest : Int) : Int → List (Str × Int) → List (Int × List Str) → Prop
  | _, q, [] => q = []
  | b, q, r :: rs => q ≠ [] ∧ r = (b, servedV q (lawAt l rest b).toNat) ∧ IsRun l rest (b + 1) (behindV q (lawAt l rest b).toNat) rs
def RunS (c : CF) : Prop := ∀ l rest b q, HOk l rest → QOk q → 0 ≤ b → b ≤ 1000000 → ∃ rs : List (Int × List Str), IsRun l rest b q rs ∧ rs.length ≤ 10000 ∧ (∀ p ∈ rs, p.2.length ≤ 60) ∧ c [(false, dQ q), (false, .tup [dR l, .int rest]), (false, .int b)] = .ok true (.lst true (rs.map rw_)) [none, none, none]
theorem sRun_v {l : List (Int × Int)} {rest b : Int} {q : List (Str × Int)} {ca ct : Nat} (hio : Γ.io = []) (hw : Γ.wf = 5000) (ha : LawAtS (Γ.call ca)) (ht : TurnS (Γ.call ct)) (hl : HOk l rest) (hq : QOk q) (hb : 0 ≤ b) :
    ∃ rs : List (Int × List Str), IsRun l rest b q rs ∧ rs.length ≤ 10000 ∧ (∀ p ∈ rs, p.2.length ≤ 60) ∧ ∃ env, evSs Γ (sRun ca ct) [some (false, dQ q), some (false, .tup [dR l, .int rest]), some (false, .int b), none, none, none, none] = .ret true (.lst true (rs.map rw_)) env := by
  have big := sizeBig
  have s2 : 2 ≤ sizeLine := by omega
  have hnn : NN l := fun p m => by have := (hl.2.1 p m).1; omega
  have hq0 : QG q := ⟨hq.1, fun p m => (hq.2 p m).1⟩
  have tq : tot q ≤ 1200 := by
    have : ∀ q : List (Str × Int), (∀ p ∈ q, p.2 ≤ 20) → tot q ≤ 20 * q.length := by
      intro q
      induction q with
      | nil => exact fun _ => by simp [tot]
      | cons p q ih =>
        intro h
        have h1 := ih fun x hx => h x (List.mem_cons_of_mem _ hx)
        have h2 := h p (List.mem_cons_self ..)
        have e2 : tot (p :: q) = p.2 + tot q := by
          unfold tot
          simp
        rw [e2, List.length_cons]
        push_cast
        omega
    have := this q fun p m => (hq.2 p m).2.1
    have := hq.1
    omega
  have tl : sumT l ≤ 1600 := by
    have : ∀ l : List (Int × Int), (∀ p ∈ l, p.1 ≤ 100) → sumT l ≤ 100 * l.length := by
      intro l
      induction l with
      | nil => exact fun _ => by simp [sumT]
      | cons p q ih =>
        intro h
        have h1 := ih fun x hx => h x (List.mem_cons_of_mem _ hx)
        have h2 := h p (List.mem_cons_self ..)
        have e2 : sumT (p :: q) = p.1 + sumT q := by
          unfold sumT
          simp
        rw [e2, List.length_cons]
        push_cast
        omega
    have := this l fun p m => (hl.2.1 p m).2.1
    have := hl.1
    omega
  obtain ⟨s, ⟨i1, i2, i3, i4, i5⟩, hd, ew⟩ := whlL_meas (α := List (Int × List Str) × List (Str × Int) × Int) (c := evE Γ (sRun_e1 ca ct)) (b := evSs Γ (sRun_l1 ca ct)) (vs := [0, 2, 6])
    (fun s => [none, some (false, .tup [dR l, .int rest]), none, some (true, .lst true (s.1.map rw_)), some (false, dQ s.2.1), some (false, .int s.2.2), none]) (fun s => decide (s.2.1 = []))
    (fun s => (s.1 ++ [(s.2.2, servedV s.2.1 (lawAt l rest s.2.2).toNat)], behindV s.2.1 (lawAt l rest s.2.2).toNat, s.2.2 + 1))
    (fun s => QG s.2.1 ∧ 0 ≤ s.2.2 ∧ s.1.length + ((sumT l - s.2.2).toNat + (tot s.2.1).toNat) ≤ 4000 ∧ (∀ p ∈ s.1, p.2.length ≤ 60) ∧ ∀ rs', IsRun l rest s.2.2 s.2.1 rs' → IsRun l rest b q (s.1 ++ rs')) (fun s => (sumT l - s.2.2).toNat + (tot s.2.1).toNat)
    (fun s hi => by
      refine ⟨false, ?_⟩
      by_cases h : s.2.1 = []
      · simp [sRun_e1, h]
      · simp [sRun_e1, h])
    (fun s ⟨h1, h2, h3, h5, h6⟩ hd => by
      have hne : s.2.1 ≠ [] := of_decide_eq_false hd
      have en := lawAt_nn l rest s.2.2 (fun p m => (hl.2.1 p m).2.2.1) (by have := hl.2.2.1; omega)
      have em : ((lawAt l rest s.2.2).toNat : Int) = lawAt l rest s.2.2 := Int.toNat_of_nonneg en
      have e1 := ha l rest s.2.2
      have e2 := ht s.2.1 (lawAt l rest s.2.2).toNat h1
      rw [em] at e2
      have tb := tot_behind s.2.1 (lawAt l rest s.2.2).toNat h1.2
      have t0 := tot_nn _ (behind_g (m := (lawAt l rest s.2.2).toNat) h1).2
      have len0 : 0 < s.2.1.length := List.length_pos_iff.mpr hne
      have dec1 : (sumT l - (s.2.2 + 1)).toNat + (tot (behindV s.2.1 (lawAt l rest s.2.2).toNat)).toNat < (sumT l - s.2.2).toNat + (tot s.2.1).toNat := by
        by_cases hlt : s.2.2 < sumT l
        · omega
        · have el := late_at l rest s.2.2 hnn (by omega)
          have hr := hl.2.2.1
          have hm : 1 ≤ (lawAt l rest s.2.2).toNat := by
            rw [el]
            omega
          omega
      have z1 : s.1.length < sizeLine := by omega
      refine ⟨⟨behind_g h1, by dsimp only; omega, ?_, fun p m => ?_, fun rs' hr => ?_⟩, dec1, ?_⟩
      · dsimp only
        rw [List.length_append, List.length_singleton]
        omega
      · rcases List.mem_append.mp m with m | m
        · exact h5 p m
        · rw [List.mem_singleton.mp m]
          show (servedV s.2.1 _).length ≤ 60
          unfold servedV
          rw [List.length_map, List.length_take]
          have := h1.1
          omega
      · have q := h6 ((s.2.2, servedV s.2.1 (lawAt l rest s.2.2).toNat) :: rs') ⟨hne, rfl, hr⟩
        simpa using q
      · simp [sRun_l1, e1, e2, hio, z1, s2, rw_])
    5000 ([], q, b) ⟨hq0, hb, by simp; omega, by simp, fun _ h => h⟩ (by dsimp only; omega)
  have hd' : s.2.1 = [] := of_decide_eq_true hd
  refine ⟨s.1, by simpa using i5 [] hd', by omega, i4, ?_⟩
  dsimp only at ew
  simp only [List.map_nil] at ew
  simp [sRun, hio, hw, ew]
end Vm
/-! Vm: spoilt rows. -/
namespace Vm
open PySem L2
open PyProof.Rows hiding St
variable {Γ : Cf}
def SpoilS (c : CF) : Prop := ∀ (ns os : List Str) (w n : Int), ns.length ≤ 60 → 1 ≤ os.length → ∃ ns' : List Str, ns'.length ≤ 200 ∧ c [(false, dS ns), (false, dS os), (false, .int w), (false, .int n)] = .ok true (.lst true (ns'.map .str)) [none, none, none, none]
theorem eraseIdx_m {α β : Type} (f : α → β) : ∀ (xs : List α) (k : Nat), (xs.map f).eraseIdx k = (xs.eraseIdx k).map f
  | [], k => by simp
  | x :: xs, 0 => rfl
  | x :: xs, k + 1 => by
    rw [List.map_cons, List.eraseIdx_cons_succ, List.eraseIdx_cons_succ, List.map_cons, eraseIdx_m f xs k]
@[simp] theorem rsD_p (i : Nat) (env : EnvD) : rsD (.p i) env = match getS env i with
  | some (_, d) => if nfc d then some d else none
  | none => none := by
  simp only [rsD, getS]
  cases env[i]? with
  | none => rfl
  | some q => cases q <;> rfl
@[simp] theorem rsAll_p (i : Nat) (os : List O) (env : EnvD) : rsAll (.p i :: os) env = match rsD (.p i) env, rsAll os env with
  | some d, some ds => some (d :: ds)
  | _, _ => none := rfl
theorem mod_at {α : Type} (xs : List α) (n : Int) (h : xs ≠ []) : ∃ x, x ∈ xs ∧ atI xs (n % (xs.length : Int)) = some x := by
  have l : 0 < xs.length := List.length_pos_iff.mpr h
  have b := emod_row (x := n) (b := (xs.length : Int)) (by omega)
  have k : (n % (xs.length : Int)).toNat < xs.length := by omega
  exact ⟨xs[(n % (xs.length : Int)).toNat], List.getElem_mem _, by rw [atI_nn b.1 b.2, List.getElem?_eq_getElem k]⟩
theorem map_at {xs : List Str} {k : Int} {x : Str} (h : atI xs k = some x) : atI (xs.map D.str) k = some (.str x) := by
  unfold atI at h ⊢
  rw [List.length_map]
  cases e : ixN xs.length k with
  | none => rw [e] at h; cases h
  | some j =>
    rw [e] at h
    show (xs.map D.str)[j]? = _
    have h' : xs[j]? = some x := h
    rw [List.getElem?_map, h']
    rfl
theorem sNamesSpoilt_v {ns os : List Str} {w n : Int} (hio : Γ.io = []) (hn : ns.length ≤ 60) (ho : 1 ≤ os.length) :
    ∃ ns' : List Str, ns'.length ≤ 200 ∧ ∃ env, evSs Γ sNamesSpoilt [some (false, dS ns), some (false, dS os), some (false, .int w), some (false, .int n), none, none] = .ret true (.lst true (ns'.map .str)) env := by
  have big := sizeBig
  have zn : ns.length < sizeLine := by omega
  by_cases w4 : w = 4
  · subst w4
    by_cases h : ns = []
    · subst h
      exact ⟨[], by simp, by simp [sNamesSpoilt, hio]⟩
    · have l : 0 < ns.length := List.length_pos_iff.mpr h
      have b := emod_row (x := n) (b := (ns.length : Int)) (by omega)
      have b3 : n % (ns.length : Int) < 1000000000 := by omega
      have b0 := b.1
      have b1 := b.2
      refine ⟨ns.eraseIdx (n % (ns.length : Int)).toNat, by rw [List.length_eraseIdx]; split <;> omega, ?_⟩
      have e : (ns.map D.str).eraseIdx (n % (ns.length : Int)).toNat = (ns.eraseIdx (n % (ns.length : Int)).toNat).map D.str := eraseIdx_m ..
      simp [sNamesSpoilt, hio, h, l, b0, b1, b3, e]
  · have q4 : (w == 4) = false := by simpa using w4
    by_cases w5 : w = 5
    · subst w5
      by_cases h : ns = []
      · subst h
        exact ⟨[], by simp, by simp [sNamesSpoilt, hio]⟩
      · have l : 0 < ns.length := List.length_pos_iff.mpr h
        obtain ⟨x, _, e⟩ := mod_at ns n h
        have e' := map_at e
        refine ⟨ns ++ [x], by simp; omega, ?_⟩
        have nf : nfs (ns.map D.str) = true := by
          rw [nfs_all, List.all_map]
          exact List.all_eq_true.mpr fun _ _ => rfl
        simp [sNamesSpoilt, hio, h, l, e', zn, nfc, nf]
    · have q5 : (w == 5) = false := by simpa using w5
      by_cases w6 : w = 6
      · subst w6
        have hne : os ≠ [] := List.length_pos_iff.mp (by omega)
        obtain ⟨x, _, e⟩ := mod_at os (n / 64) hne
        have e' := map_at e
        have lo : 0 < os.length := by omega
        have b := emod_row (x := n) (b := (ns.length : Int) + 1) (by omega)
        have b0 := b.1
        have b3 : n % ((ns.length : Int) + 1) < 1000000000 := by omega
        have lp : (0 : Int) < (ns.length : Int) + 1 := by omega
        refine ⟨ns.take (n % ((ns.length : Int) + 1)).toNat ++ [x] ++ ns.drop (n % ((ns.length : Int) + 1)).toNat, by simp; omega, ?_⟩
        simp [sNamesSpoilt, hio, e', lo, b0, b3, zn, lp]
      · have q6 : (w == 6) = false := by simpa using w6
        by_cases w7 : w = 7
        · subst w7
          by_cases h : 1 < ns.length
          · have hI : (1 : Int) < (ns.length : Int) := by omega
            have lp : (0 : Int) < (ns.length : Int) - 1 := by omega
            have b := emod_row (x := n) (b := (ns.length : Int) - 1) lp
            generalize hk : n % ((ns.length : Int) - 1) = k at *
            have b0 := b.1
            have b1 := b.2
            have i1 : (k + 1).toNat < ns.length := by omega
            have i0 : k.toNat < ns.length := by omega
            have e1 : atI (ns.map D.str) (k + 1) = some (.str ns[(k + 1).toNat]) := map_at (by rw [atI_nn (by omega) (by omega), List.getElem?_eq_getElem i1])
            have e0 : atI (ns.map D.str) k = some (.str ns[k.toNat]) := map_at (by rw [atI_nn (by omega) (by omega), List.getElem?_eq_getElem i0])
            have c1 := cutD_len ns none (some k)
            have c2 := cutD_len ns (some (k + 2)) none
            refine ⟨cutD ns none (some k) ++ [ns[(k + 1).toNat], ns[k.toNat]] ++ cutD ns (some (k + 2)) none, by simp; omega, ?_⟩
            have z2 : 2 ≤ sizeLine := by omega
            have z3 : (cutD ns none (some k)).length + 2 ≤ sizeLine := by omega
            have z4 : (cutD ns none (some k)).length + 2 + (cutD ns (some (k + 2)) none).length ≤ sizeLine := by omega
            have z4' : (cutD ns none (some k)).length + (2 + (cutD ns (some (k + 2)) none).length) ≤ sizeLine := by omega
            simp [sNamesSpoilt, hio, hI, lp, hk, e0, e1, z2, z3, z4, z4', cutD_map, Nat.add_assoc]
          · have hI : ¬ (1 : Int) < (ns.length : Int) := by omega
            refine ⟨ns, by omega, ?_⟩
            simp [sNamesSpoilt, hio, hI]
        · have q7 : (w == 7) = false := by simpa using w7
          refine ⟨ns, by omega, ?_⟩
          simp [sNamesSpoilt, hio, q4, q5, q6, q7]
end Vm
/-! Vm: spoilt rows of a run. -/
namespace Vm
open PySem L2
open PyProof.Rows hiding St
variable {Γ : Cf}
theorem map_atG {α : Type} (f : α → D) {xs : List α} {k : Int} {x : α} (h : atI xs k = some x) : atI (xs.map f) k = some (f x) := by
  unfold atI at h ⊢
  rw [List.length_map]
  cases e : ixN xs.length k with
  | none => rw [e] at h; cases h
  | some j =>
    rw [e] at h
    show (xs.map f)[j]? = _
    have h' : xs[j]? = some x := h
    rw [List.getElem?_map, h']
    rfl
def SpoiltS (c : CF) : Prop := ∀ (rs : List (Int × List Str)) (q : List (Str × Int)) (n : Int), rs.length ≤ 10000 → (∀ p ∈ rs, p.2.length ≤ 60) → q.length ≤ 60 → ∃ f d rs', rs'.length ≤ 30000 ∧ stl (f, d) = dW rs' ∧ c [(false, dW rs), (false, dQ q), (false, .int n)] = .ok f d [none, none, none]
theorem sSpoilt_v {rs : List (Int × List Str)} {q : List (Str × Int)} {n : Int} {cs : Nat} (hio : Γ.io = []) (hs : SpoilS (Γ.call cs)) (hr : rs.length ≤ 10000) (hn : ∀ p ∈ rs, p.2.length ≤ 60) (hq : q.length ≤ 60) :
    ∃ f d rs', rs'.length ≤ 30000 ∧ stl (f, d) = dW rs' ∧ ∃ env, evSs Γ (sSpoilt cs) [some (false, dW rs), some (false, dQ q), some (false, .int n), none, none, none, none, none, none, none, none, none] = .ret f d env := by
  have big := sizeBig
  have lp : (0 : Int) < (rs.length : Int) + 1 := by omega
  generalize hk : n / 10 % ((rs.length : Int) + 1) = k
  have c0 := cutD_len rs none (some k)
  generalize hS : cutD rs none (some k) = S at *
  have eS : cutD (rs.map rw_) none (some k) = S.map rw_ := by rw [cutD_map, hS]
  have mS : ∀ p ∈ S, p ∈ rs := fun p m => by
    rw [← hS] at m
    unfold cutD at m
    exact List.mem_of_mem_drop (List.mem_of_mem_take m)
  by_cases hS0 : S = []
  · subst hS0
    refine ⟨false, dW [], [], by simp, rfl, ?_⟩
    simp [sSpoilt, hio, lp, hk, eS]
  · have ls : 0 < S.length := List.length_pos_iff.mpr hS0
    obtain ⟨x, mx, ex⟩ := mod_at S (n / 10 / 512) hS0
    have ex' : atI (S.map rw_) (n / 10 / 512 % (S.length : Int)) = some (.tup [.int x.1, dS x.2]) := map_atG rw_ ex
    have lx := hn x (mS x mx)
    generalize ha : n / 10 / 512 % (S.length : Int) = a at *
    have b1 := cutD_len S none (some a)
    have b2 := cutD_len S (some a) none
    have b3 := cutD_len S (some (a + 1)) none
    generalize hA : cutD S none (some a) = A at *
    generalize hB : cutD S (some a) none = B at *
    generalize hC : cutD S (some (a + 1)) none = C at *
    have eA : cutD (S.map rw_) none (some a) = A.map rw_ := by rw [cutD_map, hA]
    have eB : cutD (S.map rw_) (some a) none = B.map rw_ := by rw [cutD_map, hB]
    have eC : cutD (S.map rw_) (some (a + 1)) none = C.map rw_ := by rw [cutD_map, hC]
    have z1 : 1 ≤ sizeLine := by omega
    have z2 : 2 ≤ sizeLine := by omega
    have z3 : A.length + C.length ≤ sizeLine := by omega
    have z4 : A.length + 1 ≤ sizeLine := by omega
    have z5 : A.length + 1 + B.length ≤ sizeLine := by omega
    have z6 : A.length + 1 + C.length ≤ sizeLine := by omega
    have z7 : rs.length + 1 ≤ sizeLine := by omega
    have z5' : A.length + (1 + B.length) ≤ sizeLine := by omega
    have z6' : A.length + (1 + C.length) ≤ sizeLine := by omega
    have z5'' : A.length + (B.length + 1) ≤ sizeLine := by omega
    have z6'' : A.length + (C.length + 1) ≤ sizeLine := by omega
    have zq : q.length + 1 ≤ sizeLine := by omega
    generalize hw : n % 10 = w
    by_cases w0 : w = 0
    · subst w0
      refine ⟨true, .lst true ((A ++ C).map rw_), A ++ C, by simp; omega, by simp, ?_⟩
      simp [sSpoilt, hio, lp, hk, eS, hS0, ls, ha, ex', eA, eC, z3, hw]
    · have q0 : (w == 0) = false := by simpa using w0
      by_cases w1 : w = 1
      · subst w1
        refine ⟨true, .lst true (A.map rw_ ++ [.tup [.int x.1, .lst false (x.2.map .str)]] ++ B.map rw_), A ++ [x] ++ B, by simp; omega, by simp; rfl, ?_⟩
        simp [sSpoilt, hio, lp, hk, eS, hS0, ls, ha, ex', eA, eB, z1, z2, z4, z5, z5', z5'', hw]
      · have q1 : (w == 1) = false := by simpa using w1
        by_cases w3 : w = 3
        · subst w3
          have hne : rs ≠ [] := fun e => by
            subst e
            have : S.length ≤ 0 := by simpa using c0
            omega
          obtain ⟨i0, y, rfl⟩ : ∃ i0 y, rs = i0 ++ [y] := by
            rcases List.eq_nil_or_concat rs with e | ⟨i0, y, e⟩
            · exact absurd e hne
            · exact ⟨i0, y, by rw [e, List.concat_eq_append]⟩
          have el : atI (i0.map rw_ ++ [rw_ y]) (-1) = some (.tup [.int y.1, dS y.2]) := atI_end (i0.map rw_) (rw_ y)
          refine ⟨true, .lst true (i0.map rw_ ++ [rw_ y] ++ [.tup [.int (y.1 + 1), .lst false []]]), i0 ++ [y] ++ [(y.1 + 1, [])], by simp at hr ⊢; omega, by simp; rfl, ?_⟩
          have z7' : i0.length + 1 + 1 ≤ sizeLine := by simpa using z7
          rw [List.map_append] at eS
          simp only [List.map_cons, List.map_nil] at eS
          have em : (((i0 ++ [y]).length : Nat) : Int) = (i0.length : Int) + 1 := by simp
          rw [em] at lp hk
          have z8 : i0.length + (1 + 1) ≤ sizeLine := by omega
          simp [sSpoilt, hio, lp, hk, eS, hS0, ls, ha, ex', z1, z2, z7', z8, hw, el]
        · have q3 : (w == 3) = false := by simpa using w3
          have k1 : ∀ T : Int, lcRun (evE Γ (sSpoilt_e1 cs)) (fun x => (some true, x)) (.tup [.nm 10, .nm 11]) [10, 11] (q.map tk) [some (false, dW rs), some (false, dQ q), some (false, .int n), some (false, .int w), some (false, .int (n / 10)), some (false, dW S), some (false, .int a), some (false, .int T), some (false, dS x.2), none, none, none] =
              .ok (.v true (.lst true (q.map fun p => D.str p.1))) [some (false, dW rs), some (false, dQ q), some (false, .int n), some (false, .int w), some (false, .int (n / 10)), some (false, dW S), some (false, .int a), some (false, .int T), some (false, dS x.2), none, none, none] := fun T => by
            have k := lcRun_map (el := evE Γ (sSpoilt_e1 cs)) (c := fun x => (some true, x)) (t := .tup [.nm 10, .nm 11]) (vs := [10, 11])
              (env1 := [some (false, dW rs), some (false, dQ q), some (false, .int n), some (false, .int w), some (false, .int (n / 10)), some (false, dW S), some (false, .int a), some (false, .int T), some (false, dS x.2), none, none, none])
              tk (fun p => .str p.1) q (by omega) rfl fun p m => by simp [sSpoilt_e1, tk]
            rw [k]
            rfl
          obtain ⟨ns', ln, hsp⟩ := hs x.2 (q.map (·.1) ++ [("zz" : Str)]) w (n / 10 / 65536) lx (by simp)
          have eo : (q.map (·.1) ++ [("zz" : Str)]).map D.str = q.map (fun p => D.str p.1) ++ [D.str "zz"] := by
            rw [List.map_append, List.map_map]
            rfl
          unfold dS at hsp
          rw [eo] at hsp
          by_cases w2 : w = 2
          · subst w2
            have k2 := fun T => k1 T
            have et : (if n / 10 / 65536 % 2 = 0 then D.int 1 else D.int (-1)) = D.int (if n / 10 / 65536 % 2 = 0 then 1 else -1) := by split <;> rfl
            generalize hT : (if 0 < x.1 + (if n / 10 / 65536 % 2 = 0 then (1 : Int) else -1) then x.1 + (if n / 10 / 65536 % 2 = 0 then (1 : Int) else -1) else 0) = T
            refine ⟨true, .lst true (A.map rw_ ++ [.tup [.int T, .lst false (ns'.map .str)]] ++ C.map rw_), A ++ [(T, ns')] ++ C, by simp; omega, by simp; rfl, ?_⟩
            simp [sSpoilt, hio, lp, hk, eS, hS0, ls, ha, ex', eA, eC, z1, z2, z4, z6, z6', z6'', zq, hw, k2, hsp, two_at, et, hT]
          · have q2 : (w == 2) = false := by simpa using w2
            refine ⟨true, .lst true (A.map rw_ ++ [.tup [.int x.1, .lst false (ns'.map .str)]] ++ C.map rw_), A ++ [(x.1, ns')] ++ C, by simp; omega, by simp; rfl, ?_⟩
            simp [sSpoilt, hio, lp, hk, eS, hS0, ls, ha, ex', eA, eC, z1, z2, z4, z6, z6', z6'', zq, hw, q0, q1, q2, q3, k1, hsp]
end Vm
/-! Vm: whether rows show a turn. -/
namespace Vm
open PySem L2
open PyProof.Rows hiding St
variable {Γ : Cf}
/-! names_of, slots: 0 queue, 1 name, 2 left -/
def sNamesOf_e1 : E := .var 1
def sNamesOf : Ss := .cons (.ret (.some (.lc (sNamesOf_e1) (.tup [.nm 1, .nm 2]) (.seq (.var 0)) .none [1, 2]))) .nil
/-! shows_latest, slots: 0 queue, 1 hours, 2 begin, 3 name, 4 turn, 5 rows, 6 behind -/
def sShowsLatest (c_names_of c_walk_run : Nat) : Ss := .cons (.asg false 6 (.call c_walk_run (.cons (.var 0) (.cons (.var 1) (.cons (.var 2) (.cons (.var 5) .nil)))))) (.cons (.ife (.or (.cons (.isN (.var 6)) (.cons (.cmp .eq (.var 5) (.lst .nil)) .nil))) (.cons (.ret (.some (.bl false))) .nil) (.nil)) (.cons (.ret (.some (.and (.cons (.cmp .eq (.idx (.idx (.var 5) (.neg (.int 1))) (.int 0)) (.var 4)) (.cons (.cmp .isin (.var 3) (.idx (.idx (.var 5) (.neg (.int 1))) (.int 1))) (.cons (.cmp .notin (.var 3) (.call c_names_of (.cons (.var 6) .nil))) .nil)))))) .nil))
/-! _law_spoilt, slots: 0 _law_rows, 1 _law_cell_here, 2 _law_name, 3 _law_way, 4 _law_at_here, 5 _law_turn_here, 6 _law_names_here -/
def sSpoilt2 : Ss := .cons (.ife (.or (.cons (.cmp .eq (.var 0) (.lst .nil)) (.cons (.cmp .eq (.bin .mod (.var 1) (.int 2)) (.int 0)) .nil))) (.cons (.ret (.some (.var 0))) .nil) (.nil)) (.cons (.asg false 3 (.bin .mod (.bin .fdiv (.var 1) (.int 2)) (.int 5))) (.cons (.asg false 4 (.bin .mod (.bin .fdiv (.var 1) (.int 10)) (.bcall .len (.cons (.var 0) .nil)))) (.cons (.asgt (.tup [.nm 5, .nm 6]) (.idx (.var 0) (.var 4))) (.cons (.asg true 6 (.bcall .list1 (.cons (.var 6) .nil))) (.cons (.ife (.cmp .eq (.var 3) (.int 0)) (.cons (.ret (.some (.bin .add (.slc (.var 0) .none (.some (.var 4))) (.slc (.var 0) (.some (.bin .add (.var 4) (.int 1))) .none)))) .nil) (.nil)) (.cons (.ife (.cmp .eq (.var 3) (.int 1)) (.cons (.asg false 5 (.bin .add (.var 5) (.int 1))) .nil) (.nil)) (.cons (.ife (.look (.and (.cons (.cmp .eq (.var 3) (.int 2)) (.cons (.cmp .isin (.var 2) (.var 6)) .nil)))) (.cons (.mut .remove 6 [] (.cons (.var 2) .nil)) .nil) (.cons (.ife (.or (.cons (.cmp .eq (.var 3) (.int 2)) (.cons (.cmp .eq (.var 3) (.int 3)) .nil))) (.cons (.mut .insert 6 [] (.cons (.look (.bin .mod (.bin .fdiv (.var 1) (.int 2560)) (.bin .add (.bcall .len (.cons (.var 6) .nil)) (.int 1)))) (.cons (.var 2) .nil))) .nil) (.nil)) .nil)) (.cons (.ife (.cmp .eq (.var 3) (.int 4)) (.cons (.mut .reverse 6 [] .nil) .nil) (.nil)) (.cons (.ret (.some (.bin .add (.bin .add (.slc (.var 0) .none (.some (.var 4))) (.lst (.cons (.tup (.cons (.var 5) (.cons (.var 6) .nil))) .nil))) (.slc (.var 0) (.some (.bin .add (.var 4) (.int 1))) .none)))) .nil)))))))))
/-! ### a list comprehension with a condition -/
theorem lcL_fm {β : Type} {el : EnvD → R} {c : EnvD → Option Bool × EnvD} {set : D → EnvD → Option EnvD} (E : EnvD → Prop) (it : β → D) (p : β → Bool) (g : β → D) :
    ∀ (xs : List β) (acc : List D) (env : EnvD), E env → acc.length + xs.length ≤ sizeLine → (∀ x ∈ xs, ∀ env, E env → ∃ env1 env2, set (it x) env = some env1 ∧ c env1 = (some (p x), env2) ∧ (p x = false → E env2) ∧ (p x = true → ∃ f env3, el env2 = .ok (.v f (g x)) env3 ∧ E env3)) →
      ∃ env', lcL el c set (xs.map it) acc env = .ok (.v true (.lst true (acc ++ (xs.filter p).map g))) env' ∧ E env'
  | [], acc, env, h0, _, _ => ⟨env, by simp [lcL], h0⟩
  | x :: xs, acc, env, h0, hz, h => by
    obtain ⟨env1, env2, e1, e2, e3, e4⟩ := h x (List.mem_cons_self ..) env h0
    rw [List.map_cons]
    unfold lcL
    rw [e1]
    dsimp only
    rw [e2]
    cases hp : p x with
    | false =>
      dsimp only
      obtain ⟨env', q1, q2⟩ := lcL_fm E it p g xs acc env2 (e3 hp) (by simp at hz ⊢; omega) fun y m => h y (List.mem_cons_of_mem _ m)
      refine ⟨env', ?_, q2⟩
      rw [q1, List.filter_cons_of_neg (by simp [hp])]
    | true =>
      dsimp only
      obtain ⟨f, env3, e5, h3⟩ := e4 hp
      rw [e5]
      obtain ⟨env', q1, q2⟩ := lcL_fm E it p g xs (acc ++ [g x]) env3 h3 (by simp at hz ⊢; omega) fun y m => h y (List.mem_cons_of_mem _ m)
      refine ⟨env', ?_, q2⟩
      dsimp only [unO]
      rw [if_pos (by simp at hz; omega), q1, List.filter_cons_of_pos hp]
      simp
theorem lcRun_fm {β : Type} {el : EnvD → R} {c : EnvD → Option Bool × EnvD} {t : Tg} {vs : List Nat} {env1 : EnvD} (it : β → D) (p : β → Bool) (g : β → D) (xs : List β) (hz : xs.length ≤ sizeLine) (hv : vs.all (fun i => decide (i < env1.length)) = true)
    (h : ∀ x ∈ xs, ∃ env2 env3, tgSet [] t (it x) (kill vs env1) = some env2 ∧ c env2 = (some (p x), env3) ∧ (p x = false → kill vs env3 = kill vs env1) ∧ (p x = true → ∃ f env4, el env3 = .ok (.v f (g x)) env4 ∧ kill vs env4 = kill vs env1)) :
    lcRun el c t vs (xs.map it) env1 = .ok (.v true (.lst true ((xs.filter p).map g))) (restore vs env1 (kill vs env1)) := by
  obtain ⟨env', e1, e2⟩ := lcL_fm (el := el) (c := c) (set := lcSet t vs) (fun e => kill vs e = kill vs env1) it p g xs [] (kill vs env1) (kill_kill _ _) (by simpa using hz) fun x m env he => by
    obtain ⟨env2, env3, q1, q2, q3, q4⟩ := h x m
    have l : env.length = env1.length := by
      have := congrArg List.length he
      rw [kill_len, kill_len] at this
      exact this
    refine ⟨env2, env3, ?_, q2, q3, q4⟩
    unfold lcSet
    rw [l, if_pos hv, he]
    exact q1
  unfold lcRun
  rw [e1, ← e2, restore_kill]
  simp
/-! ### flat lists -/
@[simp high] theorem flat_strs (ns : List Str) : (ns.map D.str).all isFlat = true := by
  rw [List.all_map]
  exact List.all_eq_true.mpr fun _ _ => rfl
@[simp] theorem dmem_str (x : Str) (ns : List Str) : dmem (.str x) (ns.map .str) = some (decide (x ∈ ns)) := by
  unfold dmem
  rw [flat_strs]
  show some ((ns.map D.str).any fun y => feq y (.str x)) = _
  congr 1
  induction ns with
  | nil => rfl
  | cons y ns ih =>
    rw [List.map_cons, List.any_cons, ih]
    show ((y == x) || decide (x ∈ ns)) = decide (x ∈ y :: ns)
    by_cases h : y = x
    · subst h
      simp
    · have h' : (y == x) = false := by simpa using h
      have h2 : ¬ x = y := fun e => h e.symm
      rw [h']
      simp [h2]
theorem dfind_mem {x : Str} : ∀ (ns : List Str) (i : Nat), x ∈ ns → ∃ k, dfind (.str x) (ns.map .str) i = some k
  | [], _, h => (List.not_mem_nil h).elim
  | y :: ns, i, h => by
    rw [List.map_cons]
    unfold dfind
    by_cases e : feq (.str y) (.str x) = true
    · exact ⟨i, if_pos e⟩
    · rw [if_neg e]
      refine dfind_mem ns (i + 1) ?_
      rcases List.mem_cons.mp h with h | h
      · exfalso
        apply e
        show (y == x) = true
        rw [h]
        simp
      · exact h
@[simp] theorem intsOf_map {α : Type} (f : α → Int) : ∀ xs : List α, intsOf (xs.map fun x => .int (f x)) = some (xs.map f)
  | [] => rfl
  | x :: xs => by
    show (intsOf (xs.map fun x => .int (f x))).map (f x :: ·) = _
    rw [intsOf_map f xs]
    rfl
/-! ### names of a queue -/
def nms (q : List (Str × Int)) : List Str := q.map (·.1)
def NamesOfS (c : CF) : Prop := ∀ q, q.length ≤ 1000000 → c [(false, dQ q)] = .ok true (.lst true ((nms q).map .str)) [none]
theorem sNamesOf_v {q : List (Str × Int)} (hio : Γ.io = []) (hq : q.length ≤ 1000000) : ∃ env, evSs Γ sNamesOf [some (false, dQ q), none, none] = .ret true (.lst true ((nms q).map .str)) env := by
  have big := sizeBig
  have k1 := lcRun_map (el := evE Γ sNamesOf_e1) (c := fun x => (some true, x)) (t := .tup [.nm 1, .nm 2]) (vs := [1, 2]) (env1 := [some (false, dQ q), none, none]) tk (fun p => .str p.1) q (by omega) rfl fun p m => by simp [sNamesOf_e1, tk]
  have e : (nms q).map D.str = q.map (fun p => D.str p.1) := by
    unfold nms
    rw [List.map_map]
    rfl
  rw [e]
  simp [sNamesOf, k1]
/-! ### shows_latest -/
def WalkS (c : CF) : Prop := ∀ l rest begin q rs, LN l rest → 0 ≤ begin → QG q → ∃ f, c [(false, dQ q), (false, insH l rest), (false, .int begin), (false, dW rs)] = .ok f (dO (walkV l rest begin q rs)) [none, none, none, none]
def BeginS (c : CF) : Prop := ∀ ns, ∃ b f, 0 ≤ b ∧ b ≤ 1000000 ∧ c [(false, dI ns)] = .ok f (.int b) [none]
def showsV (l : List (Int × Int)) (rest begin : Int) (q : List (Str × Int)) (name : Str) (turn : Int) (rs : List (Int × List Str)) : Bool := match walkV l rest begin q rs, rs.getLast? with
  | some q', some r => decide (r.1 = turn) && decide (name ∈ r.2) && !decide (name ∈ nms q')
  | _, _ => false
def ShowsS (c : CF) : Prop := ∀ l rest begin q rs name turn, LN l rest → 0 ≤ begin → QG q → ∃ f, c [(false, dQ q), (false, insH l rest), (false, .int begin), (false, .str name), (false, .int turn), (false, dW rs)] = .ok f (.bl (showsV l rest begin q name turn rs)) [none, none, none, none, none, none]
@[simp] theorem stl_dO (f : Bool) (o : Option (List (Str × Int))) : stl (f, dO o) = dO o := by
  cases f with
  | false => rfl
  | true =>
    cases o with
    | none => rfl
    | some q => simp [dO]
@[simp] theorem stl_non (f : Bool) : stl (f, .non) = .non := by cases f <;> rfl
@[simp] theorem stl_int (f : Bool) (i : Int) : stl (f, .int i) = .int i := by cases f <;> rfl
@[simp] theorem stl_bl (f : Bool) (i : Bool) : stl (f, .bl i) = .bl i := by cases f <;> rfl
theorem walk_len {l : List (Int × Int)} {rest : Int} : ∀ (rs : List (Int × List Str)) (b : Int) (q q' : List (Str × Int)), QG q → walkV l rest b q rs = some q' → QG q'
  | [], b, q, q', h, e => by
    cases e
    exact h
  | r :: rs, b, q, q', h, e => by
    unfold walkV at e
    split at e
    · cases e
    · split at e
      · cases e
      · exact walk_len rs _ _ _ (behind_g h) e
theorem sShowsLatest_v {l : List (Int × Int)} {rest begin : Int} {q : List (Str × Int)} {rs : List (Int × List Str)} {name : Str} {turn : Int} {cn cw : Nat} (hio : Γ.io = []) (hn : NamesOfS (Γ.call cn)) (hw : WalkS (Γ.call cw)) (hl : LN l rest) (hb : 0 ≤ begin) (hq : QG q) :
    ∃ f env, evSs Γ (sShowsLatest cn cw) [some (false, dQ q), some (false, insH l rest), some (false, .int begin), some (false, .str name), some (false, .int turn), some (false, dW rs), none] = .ret f (.bl (showsV l rest begin q name turn rs)) env := by
  obtain ⟨f, e⟩ := hw l rest begin q rs hl hb hq
  unfold showsV
  cases hv : walkV l rest begin q rs with
  | none =>
    rw [hv] at e
    refine ⟨false, ?_⟩
    simp [sShowsLatest, hio, e, dO]
  | some q' =>
    rw [hv] at e
    have es : stl (f, dO (some q')) = dQ q' := stl_dO f (some q')
    rcases List.eq_nil_or_concat rs with h | ⟨i0, y, h⟩
    · subst h
      refine ⟨false, ?_⟩
      simp only [dO] at e es
      simp [sShowsLatest, hio, e, es]
    · rw [List.concat_eq_append] at h
      subst h
      have g := walk_len _ _ _ _ hq hv
      have en := hn q' (by have := g.1; omega)
      have el : atI (i0.map rw_ ++ [rw_ y]) (-1) = some (.tup [.int y.1, dS y.2]) := atI_end (i0.map rw_) (rw_ y)
      refine ⟨false, ?_⟩
      simp only [dO] at e es
      by_cases h1 : y.1 = turn
      · have h1' : (y.1 == turn) = true := by simpa using h1
        by_cases h2 : name ∈ y.2
        · simp [sShowsLatest, hio, e, es, el, h1, h1', h2, en]
        · simp [sShowsLatest, hio, e, es, el, h1, h1', h2]
      · have h1' : (y.1 == turn) = false := by simpa using h1
        simp [sShowsLatest, hio, e, es, el, h1, h1']
/-! ### what a run is -/
theorem walk_pre {l : List (Int × Int)} {rest : Int} : ∀ (rs' rs : List (Int × List Str)) (b : Int) (q q' : List (Str × Int)), IsRun l rest b q rs → walkV l rest b q rs' = some q' → ∃ t, rs = rs' ++ t ∧ IsRun l rest (b + (rs'.length : Int)) q' t
  | [], rs, b, q, q', h, e => by
    cases e
    exact ⟨rs, rfl, by simpa using h⟩
  | r :: rs', rs, b, q, q', h, e => by
    unfold walkV at e
    split at e
    · cases e
    · next h1 =>
      split at e
      · cases e
      · next h2 =>
        have g1 : q ≠ [] := fun x => h1 (.inl x)
        have g2 : r.1 = b := Decidable.byContradiction fun x => h1 (.inr x)
        have g3 := Decidable.not_not.mp h2
        cases rs with
        | nil => exact absurd h g1
        | cons r0 rs =>
          obtain ⟨_, k2, k3⟩ := h
          obtain ⟨t, q1, q2⟩ := walk_pre rs' rs _ _ _ k3 e
          refine ⟨t, ?_, ?_⟩
          · rw [q1, k2, List.cons_append]
            congr 1
            rw [← g3, ← g2]
          · rw [List.length_cons, show b + ((rs'.length + 1 : Nat) : Int) = b + 1 + (rs'.length : Int) by omega]
            exact q2
theorem walk_back {l : List (Int × Int)} {rest : Int} : ∀ (rs' t : List (Int × List Str)) (b : Int) (q : List (Str × Int)), IsRun l rest b q (rs' ++ t) → ∃ q', walkV l rest b q rs' = some q' ∧ IsRun l rest (b + (rs'.length : Int)) q' t
  | [], t, b, q, h => ⟨q, rfl, by simpa using h⟩
  | r :: rs', t, b, q, h => by
    obtain ⟨h1, h2, h3⟩ := h
    obtain ⟨q', e1, e2⟩ := walk_back rs' t _ _ h3
    refine ⟨q', ?_, ?_⟩
    · unfold walkV
      rw [if_neg (by simp [h1, h2]), if_neg (by simp [h2]), e1]
    · rw [List.length_cons, show b + ((rs'.length + 1 : Nat) : Int) = b + 1 + (rs'.length : Int) by omega]
      exact e2
theorem run_low {l : List (Int × Int)} {rest : Int} : ∀ (rs : List (Int × List Str)) (b : Int) (q : List (Str × Int)), IsRun l rest b q rs → ∀ r ∈ rs, b ≤ r.1
  | [], b, q, h, r, m => (List.not_mem_nil m).elim
  | r0 :: rs, b, q, h, r, m => by
    obtain ⟨h1, h2, h3⟩ := h
    rcases List.mem_cons.mp m with m | m
    · rw [m, h2]
      exact Int.le_refl _
    · have := run_low rs _ _ h3 r m
      omega
theorem run_high {l : List (Int × Int)} {rest : Int} : ∀ (a t : List (Int × List Str)) (b : Int) (q : List (Str × Int)), IsRun l rest b q (a ++ t) → ∀ r ∈ a, r.1 < b + (a.length : Int)
  | [], t, b, q, h, r, m => (List.not_mem_nil m).elim
  | r0 :: rs, t, b, q, h, r, m => by
    obtain ⟨h1, h2, h3⟩ := h
    rw [List.length_cons]
    rcases List.mem_cons.mp m with m | m
    · rw [m, h2]
      dsimp only
      omega
    · have := run_high rs t _ _ h3 r m
      omega
theorem run_mid {l : List (Int × Int)} {rest : Int} {a t : List (Int × List Str)} {r : Int × List Str} {b : Int} {q : List (Str × Int)} (h : IsRun l rest b q (a ++ r :: t)) : r.1 = b + (a.length : Int) := by
  obtain ⟨q', _, e⟩ := walk_back a (r :: t) b q h
  rw [e.2.1]
/-- the rows up to a row's turn -/
theorem run_cut {l : List (Int × Int)} {rest : Int} {a t : List (Int × List Str)} {r : Int × List Str} {b : Int} {q : List (Str × Int)} (h : IsRun l rest b q (a ++ r :: t)) : (a ++ r :: t).filter (fun p => decide (p.1 ≤ r.1)) = a ++ [r] := by
  have e1 := run_mid h
  have h2 : IsRun l rest b q ((a ++ [r]) ++ t) := by simpa using h
  obtain ⟨q', _, e⟩ := walk_back _ t b q h2
  have lo := run_low t _ _ e
  rw [List.filter_append, List.filter_cons_of_pos (by simp)]
  have f1 : a.filter (fun p => decide (p.1 ≤ r.1)) = a := List.filter_eq_self.mpr fun p m => by
    have := run_high a _ _ _ h p m
    simp
    omega
  have f2 : t.filter (fun p => decide (p.1 ≤ r.1)) = [] := List.filter_eq_nil_iff.mpr fun p m => by
    have := lo p m
    rw [List.length_append] at this
    simp at this ⊢
    omega
  rw [f1, f2]
theorem nm_turn {q : List (Str × Int)} {m : Nat} {x : Str} : x ∈ nms q → x ∈ servedV q m ∨ x ∈ nms (behindV q m) := fun h => by
  unfold nms at *
  obtain ⟨p, hp, rfl⟩ := List.mem_map.mp h
  rw [← List.take_append_drop m q] at hp
  rcases List.mem_append.mp hp with hp | hp
  · refine .inl ?_
    unfold servedV
    exact List.mem_map_of_mem hp
  · refine .inr ?_
    unfold behindV
    rw [List.map_append]
    exact List.mem_append_right _ (List.mem_map_of_mem hp)
theorem nm_served {q : List (Str × Int)} {m : Nat} {x : Str} : x ∈ servedV q m → x ∈ nms q := fun h => by
  unfold servedV at h
  obtain ⟨p, hp, rfl⟩ := List.mem_map.mp h
  exact List.mem_map_of_mem (List.mem_of_mem_take hp)
theorem nm_behind {q : List (Str × Int)} {m : Nat} {x : Str} : x ∈ nms (behindV q m) → x ∈ nms q := fun h => by
  unfold nms at *
  unfold behindV at h
  rw [List.map_append] at h
  rcases List.mem_append.mp h with h | h
  · rw [List.map_map] at h
    obtain ⟨p, hp, rfl⟩ := List.mem_map.mp h
    exact List.mem_map.mpr ⟨p, List.mem_of_mem_take (List.mem_filter.mp hp).1, rfl⟩
  · obtain ⟨p, hp, rfl⟩ := List.mem_map.mp h
    exact List.mem_map_of_mem (List.mem_of_mem_drop hp)
theorem run_names {l : List (Int × Int)} {rest : Int} {x : Str} : ∀ (rs : List (Int × List Str)) (b : Int) (q : List (Str × Int)), IsRun l rest b q rs → (x ∈ nms q ↔ ∃ r ∈ rs, x ∈ r.2)
  | [], b, q, h => by
    have h' : q = [] := h
    subst h'
    simp [nms]
  | r :: rs, b, q, h => by
    obtain ⟨h1, h2, h3⟩ := h
    have ih := run_names (x := x) rs _ _ h3
    constructor
    · intro m
      rcases nm_turn (m := (lawAt l rest b).toNat) m with m | m
      · exact ⟨r, List.mem_cons_self .., by rw [h2]; exact m⟩
      · obtain ⟨r', m', e⟩ := ih.mp m
        exact ⟨r', List.mem_cons_of_mem _ m', e⟩
    · rintro ⟨r', m', e⟩
      rcases List.mem_cons.mp m' with m' | m'
      · rw [m', h2] at e
        exact nm_served e
      · exact nm_behind (ih.mpr ⟨r', m', e⟩)
/-- the last turn that serves a name -/
theorem run_last {l : List (Int × Int)} {rest b : Int} {q : List (Str × Int)} {rs : List (Int × List Str)} {x : Str} (h : IsRun l rest b q rs) (hx : x ∈ nms q) :
    ∃ last, ((rs.filter fun p => decide (x ∈ p.2)).map (·.1)).max? = some last ∧ (∃ r ∈ rs, x ∈ r.2 ∧ r.1 = last) ∧ ∀ r ∈ rs, x ∈ r.2 → r.1 ≤ last := by
  obtain ⟨r, m, e⟩ := (run_names rs b q h).mp hx
  have mr : r.1 ∈ (rs.filter fun p => decide (x ∈ p.2)).map (·.1) := List.mem_map_of_mem (List.mem_filter.mpr ⟨m, by simpa using e⟩)
  cases hm : ((rs.filter fun p => decide (x ∈ p.2)).map (·.1)).max? with
  | none =>
    rw [List.max?_eq_none_iff.mp hm] at mr
    cases mr
  | some a =>
    obtain ⟨m1, m2⟩ := List.max?_eq_some_iff.mp hm
    refine ⟨a, rfl, ?_, fun r' m' e' => m2 _ (List.mem_map_of_mem (List.mem_filter.mpr ⟨m', by simpa using e'⟩))⟩
    obtain ⟨r', m', e'⟩ := List.mem_map.mp m1
    have := List.mem_filter.mp m'
    exact ⟨r', this.1, by simpa using this.2, e'⟩
theorem shows_iff {l : List (Int × Int)} {rest b : Int} {q : List (Str × Int)} {rs rs' : List (Int × List Str)} {x : Str} {turn last : Int} (h : IsRun l rest b q rs) (h1 : ∃ r ∈ rs, x ∈ r.2 ∧ r.1 = last) (h2 : ∀ r ∈ rs, x ∈ r.2 → r.1 ≤ last) :
    showsV l rest b q x turn rs' = (!decide (rs' = []) && decide (turn = last) && decide (rs' = rs.filter fun p => decide (p.1 ≤ last))) := by
  rw [Bool.eq_iff_iff]
  constructor
  · intro hs
    unfold showsV at hs
    split at hs
    · next q' r e1 e2 =>
      rw [Bool.and_eq_true, Bool.and_eq_true] at hs
      obtain ⟨⟨s1, s2⟩, s3⟩ := hs
      have s1 := of_decide_eq_true s1
      have s2 := of_decide_eq_true s2
      have s3 : x ∉ nms q' := by simpa using s3
      obtain ⟨t, g1, g2⟩ := walk_pre rs' rs b q q' h e1
      obtain ⟨a, rfl⟩ : ∃ a, rs' = a ++ [r] := by
        obtain ⟨a, ha⟩ := List.getLast?_eq_some_iff.mp e2
        exact ⟨a, ha⟩
      have g1' : rs = a ++ r :: t := by simpa using g1
      subst g1'
      have hr := run_mid h
      have el : last = r.1 := by
        obtain ⟨r0, m0, x0, e0⟩ := h1
        have up := h2 r (by simp) s2
        have : r0.1 ≤ r.1 := by
          rcases List.mem_append.mp m0 with m0 | m0
          · have := run_high a _ _ _ h r0 m0
            omega
          · rcases List.mem_cons.mp m0 with m0 | m0
            · rw [m0]
              exact Int.le_refl _
            · exact absurd ((run_names t _ _ g2).mpr ⟨r0, m0, x0⟩) s3
        omega
      rw [el, run_cut h]
      simp [s1]
    · cases hs
  · intro hd
    rw [Bool.and_eq_true, Bool.and_eq_true] at hd
    obtain ⟨⟨_, d1⟩, d2⟩ := hd
    have d1 := of_decide_eq_true d1
    have d2 := of_decide_eq_true d2
    obtain ⟨r0, m0, x0, e0⟩ := h1
    obtain ⟨a, t, rfl⟩ := List.append_of_mem m0
    rw [← e0, run_cut h] at d2
    subst d2
    have h' : IsRun l rest b q ((a ++ [r0]) ++ t) := by simpa using h
    obtain ⟨q', w1, w2⟩ := walk_back _ t b q h'
    unfold showsV
    rw [w1, show (a ++ [r0]).getLast? = some r0 by simp]
    have nq : x ∉ nms q' := fun hx => by
      obtain ⟨r1, m1, x1⟩ := (run_names t _ _ w2).mp hx
      have lo := run_low t _ _ w2 r1 m1
      have hi := h2 r1 (by simp [m1]) x1
      have hm := run_mid h
      rw [List.length_append] at lo
      simp at lo
      omega
    simp [d1, e0, x0, nq]
/-! ### rows with something otherwise -/
@[simp] theorem clrs_take (xs : List D) (n : Nat) : clrs (xs.take n) = (clrs xs).take n := by rw [clrs_map, clrs_map, List.map_take]
@[simp] theorem clrs_drop (xs : List D) (n : Nat) : clrs (xs.drop n) = (clrs xs).drop n := by rw [clrs_map, clrs_map, List.map_drop]
@[simp] theorem clrs_reverse (xs : List D) : clrs xs.reverse = (clrs xs).reverse := by rw [clrs_map, clrs_map, List.map_reverse]
def Spoilt2S (c : CF) : Prop := ∀ (rs : List (Int × List Str)) (k : Int) (nm : Str), rs.length ≤ 10000 → (∀ p ∈ rs, p.2.length ≤ 60) → ∃ f d rs', rs'.length ≤ 30000 ∧ stl (f, d) = dW rs' ∧ c [(false, dW rs), (false, .int k), (false, .str nm)] = .ok f d [none, none, none]
theorem sSpoilt2_v {rs : List (Int × List Str)} {k : Int} {nm : Str} (hio : Γ.io = []) (hr : rs.length ≤ 10000) (hn : ∀ p ∈ rs, p.2.length ≤ 60) :
    ∃ f d rs', rs'.length ≤ 30000 ∧ stl (f, d) = dW rs' ∧ ∃ env, evSs Γ sSpoilt2 [some (false, dW rs), some (false, .int k), some (false, .str nm), none, none, none, none] = .ret f d env := by
  have big := sizeBig
  by_cases h0 : rs = []
  · subst h0
    refine ⟨false, dW [], [], by simp, rfl, ?_⟩
    simp [sSpoilt2, hio]
  by_cases hk : k % 2 = 0
  · have hk' : (k % 2 == 0) = true := by simpa using hk
    refine ⟨false, dW rs, rs, by omega, rfl, ?_⟩
    simp [sSpoilt2, hio, h0, hk']
  have hk' : (k % 2 == 0) = false := by simpa using hk
  generalize hw : k / 2 % 5 = w
  have ls : 0 < rs.length := List.length_pos_iff.mpr h0
  obtain ⟨x, mx, ex⟩ := mod_at rs (k / 10) h0
  have ex' : atI (rs.map rw_) (k / 10 % (rs.length : Int)) = some (.tup [.int x.1, dS x.2]) := map_atG rw_ ex
  have lx := hn x mx
  generalize ha : k / 10 % (rs.length : Int) = a at *
  have b1 := cutD_len rs none (some a)
  have b3 := cutD_len rs (some (a + 1)) none
  generalize hA : cutD rs none (some a) = A at *
  generalize hC : cutD rs (some (a + 1)) none = C at *
  have eA : cutD (rs.map rw_) none (some a) = A.map rw_ := by rw [cutD_map, hA]
  have eC : cutD (rs.map rw_) (some (a + 1)) none = C.map rw_ := by rw [cutD_map, hC]
  have z1 : 1 ≤ sizeLine := by omega
  have z2 : 2 ≤ sizeLine := by omega
  have z3 : A.length + C.length ≤ sizeLine := by omega
  have z4 : A.length + 1 ≤ sizeLine := by omega
  have z6 : A.length + 1 + C.length ≤ sizeLine := by omega
  have z6' : A.length + (1 + C.length) ≤ sizeLine := by omega
  have z6'' : A.length + (C.length + 1) ≤ sizeLine := by omega
  by_cases w0 : w = 0
  · subst w0
    refine ⟨true, .lst true (A.map rw_ ++ C.map rw_), A ++ C, by simp; omega, by simp, ?_⟩
    simp [sSpoilt2, hio, h0, hk', hw, ls, ha, ex', eA, eC, z1, z2, z3]
  have q0 : (w == 0) = false := by simpa using w0
  by_cases w1 : w = 1
  · subst w1
    refine ⟨true, .lst true (A.map rw_ ++ [.tup [.int (x.1 + 1), .lst false (x.2.map .str)]] ++ C.map rw_), A ++ [(x.1 + 1, x.2)] ++ C, by simp; omega, by simp; simp [rw_], ?_⟩
    simp [sSpoilt2, hio, h0, hk', hw, ls, ha, ex', eA, eC, z1, z2, z4, z6, z6', z6'']
  have q1 : (w == 1) = false := by simpa using w1
  have li : (0 : Int) < (x.2.length : Int) + 1 := by omega
  have bi := emod_row (x := k / 2560) (b := (x.2.length : Int) + 1) li
  have bi3 : k / 2560 % ((x.2.length : Int) + 1) < 1000000000 := by omega
  have zx : x.2.length < sizeLine := by omega
  by_cases w2 : w = 2
  · subst w2
    by_cases hm : nm ∈ x.2
    · obtain ⟨j, ej⟩ := dfind_mem x.2 0 hm
      refine ⟨true, .lst true (A.map rw_ ++ [.tup [.int x.1, .lst false ((x.2.eraseIdx j).map .str)]] ++ C.map rw_), A ++ [(x.1, x.2.eraseIdx j)] ++ C, by simp; omega, by simp; simp [rw_], ?_⟩
      simp [sSpoilt2, hio, h0, hk', hw, ls, ha, ex', eA, eC, z1, z2, z4, z6, z6', z6'', hm, ej, eraseIdx_m, opMut]
    · refine ⟨true, .lst true (A.map rw_ ++ [.tup [.int x.1, .lst false ((x.2.take (k / 2560 % ((x.2.length : Int) + 1)).toNat ++ [nm] ++ x.2.drop (k / 2560 % ((x.2.length : Int) + 1)).toNat).map .str)]] ++ C.map rw_), A ++ [(x.1, x.2.take (k / 2560 % ((x.2.length : Int) + 1)).toNat ++ [nm] ++ x.2.drop (k / 2560 % ((x.2.length : Int) + 1)).toNat)] ++ C, by simp; omega, by simp; simp [rw_], ?_⟩
      simp [sSpoilt2, hio, h0, hk', hw, ls, ha, ex', eA, eC, z1, z2, z4, z6, z6', z6'', hm, li, bi.1, bi3, zx]
  have q2 : (w == 2) = false := by simpa using w2
  by_cases w3 : w = 3
  · subst w3
    refine ⟨true, .lst true (A.map rw_ ++ [.tup [.int x.1, .lst false ((x.2.take (k / 2560 % ((x.2.length : Int) + 1)).toNat ++ [nm] ++ x.2.drop (k / 2560 % ((x.2.length : Int) + 1)).toNat).map .str)]] ++ C.map rw_), A ++ [(x.1, x.2.take (k / 2560 % ((x.2.length : Int) + 1)).toNat ++ [nm] ++ x.2.drop (k / 2560 % ((x.2.length : Int) + 1)).toNat)] ++ C, by simp; omega, by simp; simp [rw_], ?_⟩
    simp [sSpoilt2, hio, h0, hk', hw, ls, ha, ex', eA, eC, z1, z2, z4, z6, z6', z6'', li, bi.1, bi3, zx]
  have q3 : (w == 3) = false := by simpa using w3
  by_cases w4 : w = 4
  · subst w4
    refine ⟨true, .lst true (A.map rw_ ++ [.tup [.int x.1, .lst false (x.2.reverse.map .str)]] ++ C.map rw_), A ++ [(x.1, x.2.reverse)] ++ C, by simp; omega, by simp; simp [rw_], ?_⟩
    simp [sSpoilt2, hio, h0, hk', hw, ls, ha, ex', eA, eC, z1, z2, z4, z6, z6', z6'']
  have q4 : (w == 4) = false := by simpa using w4
  refine ⟨true, .lst true (A.map rw_ ++ [.tup [.int x.1, .lst false (x.2.map .str)]] ++ C.map rw_), A ++ [(x.1, x.2)] ++ C, by simp; omega, by simp; simp [rw_], ?_⟩
  simp [sSpoilt2, hio, h0, hk', hw, ls, ha, ex', eA, eC, z1, z2, z4, z6, z6', z6'', q0, q1, q2, q3, q4]
/-! ### == of rows -/
theorem deq_rw (n : Nat) (a b : Int × List Str) : deq (n + 3) (rw_ a) (rw_ b) = some (decide (a = b)) := by
  show deqs (deq (n + 2)) [.int a.1, .lst false (a.2.map .str)] [.int b.1, .lst false (b.2.map .str)] = _
  have e := opEq_map .str (n + 1) (fun x y => (rfl : deq (n + 1) (.str x) (.str y) = some (decide (x = y)))) false false a.2 b.2
  have e1 : deq (n + 2) (.int a.1) (.int b.1) = some (a.1 == b.1) := rfl
  simp only [deqs, e, e1]
  obtain ⟨a1, a2⟩ := a
  obtain ⟨b1, b2⟩ := b
  by_cases h1 : a1 = b1 <;> by_cases h2 : a2 = b2 <;> simp [h1, h2]
@[simp] theorem eq_rws (f g : Bool) (xs ys : List (Int × List Str)) : opEq (.lst f (xs.map rw_)) (.lst g (ys.map rw_)) = some (decide (xs = ys)) := opEq_map rw_ 39 (deq_rw 36) f g xs ys
end Vm
/-! Vm: what is left, dicts of texts and whole numbers. -/
namespace Vm
open PySem L2
open PyProof.Rows hiding St
variable {Γ : Cf}
/-! left_by, slots: 0 queue, 1 rows, 2 turn, 3 lefts, 4 at, 5 names, 6 name -/
def sLeftBy_l2 : Ss := .cons (.augs .sub 3 (.var 6) (.int 1)) .nil
def sLeftBy_l1 : Ss := .cons (.ife (.cmp .le (.var 4) (.var 2)) (.cons (.for (.nm 6) (.seq (.var 5)) (sLeftBy_l2) [0, 1, 4, 5, 6]) .nil) (.nil)) .nil
def sLeftBy : Ss := .cons (.asg true 3 (.bcall .dict1 (.cons (.var 0) .nil))) (.cons (.for (.tup [.nm 4, .nm 5]) (.seq (.var 1)) (sLeftBy_l1) [0, 1, 4, 5, 6]) (.cons (.ret (.some (.mv 3))) .nil))
/-! _law_row, slots: 0 _law_script, 1 _law_at_here, 2 _law_base, 3 _law_count, 4 _law_cell_here, 5 _law_k, 6 _law_found -/
def sRow3_e1 (c_law_cell c_law_stir : Nat) : E := .bin .mod (.bin .fdiv (.call c_law_stir (.cons (.var 4) (.cons (.var 5) .nil))) (.int 8)) (.var 2)
def sRow3_l1 (c_law_cell c_law_stir : Nat) : Ss := .cons (.mut .append 6 [] (.cons (.bin .mod (.var 4) (.var 2)) .nil)) (.cons (.asg false 4 (.bin .fdiv (.var 4) (.var 2))) .nil)
def sRow3 (c_law_cell c_law_stir : Nat) : Ss := .cons (.asg false 4 (.call c_law_cell (.cons (.var 0) (.cons (.var 1) .nil)))) (.cons (.ife (.cmp .eq (.bin .band (.bin .shr (.call c_law_cell (.cons (.var 0) (.cons (.int 0) .nil))) (.bin .mod (.var 1) (.int 8))) (.int 1)) (.int 1)) (.cons (.ret (.some (.lc (sRow3_e1 c_law_cell c_law_stir) (.nm 5) (.rng1 (.var 3)) .none [5]))) .nil) (.nil)) (.cons (.asg true 6 (.lst .nil)) (.cons (.for (.nm 5) (.rng1 (.var 3)) (sRow3_l1 c_law_cell c_law_stir) [0, 1, 3, 5]) (.cons (.ret (.some (.mv 6))) .nil))))
/-! _law_names, slots: 0 _law_cell_here, 1 _law_many, 2 _law_letters, 3 _law_size, 4 _law_at_here, 5 _law_names_here, 6 _law_k, 7 _law_name, 8 _law_j, 9 _law_step -/
def sNames2_l2 : Ss := .cons (.asg false 9 (.bin .fdiv (.var 0) (.bin .add (.int 64) (.bin .mul (.int 5) (.var 8))))) (.cons (.ife (.cmp .eq (.var 8) (.var 4)) (.cons (.asg false 9 (.bin .add (.var 9) (.bin .mod (.var 6) (.int 26)))) .nil) (.nil)) (.cons (.ife (.cmp .eq (.var 8) (.bin .mod (.bin .add (.var 4) (.int 1)) (.var 3))) (.cons (.asg false 9 (.bin .add (.var 9) (.bin .fdiv (.var 6) (.int 26)))) .nil) (.nil)) (.cons (.ife (.cmp .eq (.var 8) (.int 0)) (.cons (.asg false 7 (.bin .add (.var 7) (.idx (.var 2) (.bin .mod (.var 9) (.int 26))))) .nil) (.cons (.asg false 7 (.bin .add (.var 7) (.idx (.bin .add (.var 2) (.str "0123456789")) (.bin .mod (.var 9) (.int 36))))) .nil)) .nil)))
def sNames2_l1 : Ss := .cons (.asg false 7 (.str "")) (.cons (.for (.nm 8) (.rng1 (.var 3)) (sNames2_l2) [1, 8, 9]) (.cons (.mut .append 5 [] (.cons (.var 7) .nil)) .nil))
def sNames2 : Ss := .cons (.asg false 2 (.str "abcdefghijklmnopqrstuvwxyz")) (.cons (.asg false 3 (.bin .add (.int 2) (.bin .mod (.var 0) (.int 7)))) (.cons (.ife (.cmp .le (.var 1) (.int 26)) (.cons (.asg false 3 (.bin .add (.int 1) (.bin .mod (.var 0) (.int 8)))) .nil) (.nil)) (.cons (.asg false 4 (.bin .mod (.bin .fdiv (.var 0) (.int 8)) (.var 3))) (.cons (.asg true 5 (.lst .nil)) (.cons (.for (.nm 6) (.rng1 (.var 1)) (sNames2_l1) [1, 6, 7, 8, 9]) (.cons (.ret (.some (.mv 5))) .nil))))))
/-! _law_days, slots: 0 _law_rows, 1 _law_days_here, 2 _law_turns, 3 _law_counters -/
def sDays_l1 : Ss := .cons (.asg false 1 (.bin .add (.var 1) (.rep (.cons (.var 3) .nil) (.var 2)))) .nil
def sDays : Ss := .cons (.asg false 1 (.lst .nil)) (.cons (.for (.tup [.nm 2, .nm 3]) (.seq (.var 0)) (sDays_l1) [0, 2, 3]) (.cons (.ret (.some (.var 1))) .nil))
/-! _law_at, slots: 0 _law_days_here, 1 _law_rest, 2 _law_turn -/
def sAt2 : Ss := .cons (.ife (.cmp .lt (.var 2) (.bcall .len (.cons (.var 0) .nil))) (.cons (.ret (.some (.idx (.var 0) (.var 2)))) .nil) (.nil)) (.cons (.ret (.some (.var 1))) .nil)
/-! _law_run, slots: 0 _law_queue_here, 1 _law_days_here, 2 _law_rest, 3 _law_begin, 4 _law_left, 5 _law_rows, 6 _law_turn, 7 _law_names_here, 8 _law_name -/
def sRun2_e1 (c_law_at : Nat) : E := .look (.cmp .gt (.bcall .max1 (.cons (.bin .add (.bmeth .values (.var 4) .nil) (.lst (.cons (.int 0) .nil))) .nil)) (.int 0))
def sRun2_e2 (c_law_at : Nat) : E := .var 8
def sRun2_e3 (c_law_at : Nat) : E := .cmp .gt (.idx (.var 4) (.var 8)) (.int 0)
def sRun2_l2 (c_law_at : Nat) : Ss := .cons (.asgs 4 (.var 8) (.look (.bin .sub (.idx (.var 4) (.var 8)) (.int 1)))) .nil
def sRun2_l1 (c_law_at : Nat) : Ss := .cons (.asg false 7 (.look (.slc (.lcd (sRun2_e2 c_law_at) (.nm 8) .keys 4 (.some (sRun2_e3 c_law_at)) [8]) .none (.some (.call c_law_at (.cons (.var 1) (.cons (.var 2) (.cons (.var 6) .nil)))))))) (.cons (.for (.nm 8) (.seq (.var 7)) (sRun2_l2 c_law_at) [0, 3, 8]) (.cons (.mut .append 5 [] (.cons (.tup (.cons (.var 6) (.cons (.var 7) .nil))) .nil)) (.cons (.asg false 6 (.bin .add (.var 6) (.int 1))) .nil)))
def sRun2 (c_law_at : Nat) : Ss := .cons (.asg true 4 (.bcall .dict1 (.cons (.var 0) .nil))) (.cons (.asg true 5 (.lst .nil)) (.cons (.asg false 6 (.var 3)) (.cons (.whl (sRun2_e1 c_law_at) (sRun2_l1 c_law_at) [0, 3, 7, 8]) (.cons (.ret (.some (.mv 5))) .nil))))
/-! _law_queue, slots: 0 _law_script, 1 _law_sizes, 2 _law_many, 3 _law_most, 4 _law_lefts, 5 _law_name, 6 _law_left -/
def sQueue2_e1 (c_law_cell c_law_names c_law_row : Nat) : E := .tup (.cons (.var 5) (.cons (.bin .add (.int 1) (.var 6)) .nil))
def sQueue2 (c_law_cell c_law_names c_law_row : Nat) : Ss := .cons (.asg false 1 (.idx (.call c_law_row (.cons (.var 0) (.cons (.int 1) (.cons (.int 88) (.cons (.int 1) .nil))))) (.int 0))) (.cons (.asg false 2 (.bin .mod (.var 1) (.int 11))) (.cons (.asg false 3 (.int 20)) (.cons (.ife (.cmp .eq (.bin .fdiv (.var 1) (.int 11)) (.int 7)) (.cons (.asg false 2 (.bin .add (.int 11) (.bin .mod (.bin .fdiv (.call c_law_cell (.cons (.var 0) (.cons (.int 1) .nil))) (.int 88)) (.int 50)))) (.cons (.asg false 3 (.int 3)) .nil)) (.nil)) (.cons (.asg false 4 (.call c_law_row (.cons (.var 0) (.cons (.int 2) (.cons (.var 3) (.cons (.var 2) .nil)))))) (.cons (.ret (.some (.lc (sQueue2_e1 c_law_cell c_law_names c_law_row) (.tup [.nm 5, .nm 6]) (.zip (.call c_law_names (.cons (.call c_law_cell (.cons (.var 0) (.cons (.int 3) .nil))) (.cons (.var 2) .nil))) (.var 4)) .none [5, 6]))) .nil)))))
/-! _law_right, slots: 0 _law_queue_here, 1 _law_rows, 2 _law_turn, 3 _law_due, 4 _law_at_here, 5 _law_names_here, 6 _law_name, 7 _law_found, 8 _law_left -/
def sRight_l2 (c_left_by : Nat) : Ss := .cons (.asgs 3 (.var 6) (.look (.bin .sub (.idx (.var 3) (.var 6)) (.int 1)))) .nil
def sRight_l1 (c_left_by : Nat) : Ss := .cons (.ife (.cmp .le (.var 4) (.var 2)) (.cons (.for (.nm 6) (.seq (.var 5)) (sRight_l2 c_left_by) [4, 5, 6, 7, 8]) .nil) (.nil)) .nil
def sRight_e1 (c_left_by : Nat) : E := .var 8
def sRight_e2 (c_left_by : Nat) : E := .or (.cons (.not (.isi .int (.var 8))) (.cons (.isi .bool (.var 8)) .nil))
def sRight_l3 (c_left_by : Nat) : Ss := .cons (.asgs 7 (.var 6) (.int 99)) .nil
def sRight (c_left_by : Nat) : Ss := .cons (.asg true 3 (.bcall .dict1 (.cons (.var 0) .nil))) (.cons (.for (.tup [.nm 4, .nm 5]) (.seq (.var 1)) (sRight_l1 c_left_by) [4, 5, 6, 7, 8]) (.cons (.asg true 7 (.call c_left_by (.cons (.var 0) (.cons (.var 1) (.cons (.var 2) .nil))))) (.cons (.ife (.look (.or (.cons (.not (.isi .dict (.var 7))) (.cons (.cmp .ne (.bmeth .items (.var 7) .nil) (.bmeth .items (.var 3) .nil)) .nil)))) (.cons (.ret (.some (.bl false))) .nil) (.nil)) (.cons (.ife (.look (.cmp .gt (.bcall .len (.cons (.lcd (sRight_e1 c_left_by) (.nm 8) .values 7 (.some (sRight_e2 c_left_by)) [8]) .nil)) (.int 0))) (.cons (.ret (.some (.bl false))) .nil) (.nil)) (.cons (.for (.nm 6) (.seq (.bcall .list1 (.cons (.pk 7) .nil))) (sRight_l3 c_left_by) [4, 5, 6, 8]) (.cons (.ret (.some (.cmp .eq (.call c_left_by (.cons (.var 0) (.cons (.var 1) (.cons (.var 2) .nil)))) (.var 3)))) .nil))))))
@[simp] theorem opEq_bl (a b : Bool) : opEq (.bl a) (.bl b) = some (a == b) := rfl
/-- a for that keeps something true -/
theorem forL_inv {β : Type} {b : EnvD → SR} {set : D → EnvD → Option EnvD} {vs : List Nat} (it : β → D) (I : Nat → EnvD → Prop) :
    ∀ (xs : List β) (k : Nat) (env : EnvD), I k env → (∀ i env x, xs[i]? = some x → I (k + i) env → ∃ env1 env2, set (it x) env = some env1 ∧ (b env1 = .next env2 ∨ b env1 = .cnt env2) ∧ I (k + i + 1) (kill vs env2)) →
      ∃ env', forL b set vs (xs.map it) env = .next env' ∧ I (k + xs.length) env'
  | [], k, env, h0, _ => ⟨env, rfl, h0⟩
  | x :: xs, k, env, h0, h => by
    obtain ⟨env1, env2, e1, e2, e3⟩ := h 0 env x rfl h0
    obtain ⟨env', q1, q2⟩ := forL_inv it I xs (k + 1) (kill vs env2) e3 fun i env y e hi => by
      have q := h (i + 1) env y (by simpa using e) (by rw [show k + (i + 1) = k + 1 + i by omega]; exact hi)
      rw [show k + (i + 1) = k + 1 + i by omega] at q
      exact q
    refine ⟨env', ?_, by rw [List.length_cons, show k + (xs.length + 1) = k + 1 + xs.length by omega]; exact q2⟩
    rw [List.map_cons]
    unfold forL
    rw [e1]
    dsimp only
    rcases e2 with e2 | e2 <;> rw [e2] <;> dsimp only <;> exact q1
/-! ### dicts of texts and whole numbers -/
def dkv (l : List (Str × Int)) : List (Key × D) := l.map fun p => (.inr p.1, .int p.2)
def decr (l : List (Str × Int)) (n : Str) : List (Str × Int) := l.map fun p => if p.1 = n then (p.1, p.2 - 1) else p
def dputV (l : List (Str × Int)) (n : Str) (v : Int) : List (Str × Int) := if n ∈ nms l then l.map (fun p => if p.1 = n then (p.1, v) else p) else l ++ [(n, v)]
def dictV (q : List (Str × Int)) : List (Str × Int) := q.foldl (fun acc p => dputV acc p.1 p.2) []
@[simp] theorem dkv_len (l : List (Str × Int)) : (dkv l).length = l.length := by
  unfold dkv
  rw [List.length_map]
theorem clrk_dkv (l : List (Str × Int)) : clrk (dkv l) = dkv l := by
  rw [clrk_map]
  unfold dkv
  rw [List.map_map]
  rfl
@[simp] theorem clr_dkv (f : Bool) (l : List (Str × Int)) : clr (.dic f (dkv l)) = .dic false (dkv l) := by
  show D.dic false (clrk (dkv l)) = _
  rw [clrk_dkv]
@[simp] theorem asKey_str (s : Str) : asKey (.str s) = some (.inr s) := rfl
theorem nms_decr (l : List (Str × Int)) (n : Str) : nms (decr l n) = nms l := by
  unfold nms decr
  rw [List.map_map]
  refine List.map_congr_left fun p _ => ?_
  show (if p.1 = n then (p.1, p.2 - 1) else p).1 = p.1
  split <;> rfl
theorem nms_len (l : List (Str × Int)) : (nms l).length = l.length := by
  unfold nms
  rw [List.length_map]
theorem any_dkv (l : List (Str × Int)) (n : Str) : (dkv l).any (fun p => decide (p.1 = Sum.inr n)) = decide (n ∈ nms l) := by
  induction l with
  | nil => rfl
  | cons p l ih =>
    have e1 : dkv (p :: l) = (Sum.inr p.1, D.int p.2) :: dkv l := rfl
    have e2 : nms (p :: l) = p.1 :: nms l := rfl
    rw [e1, List.any_cons, ih, e2]
    by_cases h : p.1 = n
    · subst h
      simp
    · have h2 : ¬ n = p.1 := fun e => h e.symm
      have h3 : ¬ ((Sum.inr p.1 : Key) = Sum.inr n) := fun e => h (by cases e; rfl)
      simp [h2, h3]
theorem kput_dkv (l : List (Str × Int)) (n : Str) (v : Int) : kput (dkv l) (.inr n) (.int v) = dkv (dputV l n v) := by
  unfold kput dputV
  rw [any_dkv]
  by_cases h : n ∈ nms l
  · rw [if_pos (decide_eq_true h), if_pos h]
    unfold dkv
    rw [List.map_map, List.map_map]
    refine List.map_congr_left fun p _ => ?_
    show (if (Sum.inr p.1 : Key) = Sum.inr n then ((Sum.inr p.1 : Key), D.int v) else ((Sum.inr p.1 : Key), D.int p.2)) = ((Sum.inr (if p.1 = n then (p.1, v) else p).1 : Key), D.int (if p.1 = n then (p.1, v) else p).2)
    by_cases e : p.1 = n
    · rw [if_pos e, if_pos (by rw [e])]
    · rw [if_neg e, if_neg (fun x => e (by cases x; rfl))]
  · rw [if_neg (by simp [h]), if_neg h]
    unfold dkv
    rw [List.map_append]
    rfl
theorem key_one {l : List (Str × Int)} (hn : (nms l).Nodup) {p p' : Str × Int} (h : p ∈ l) (h' : p' ∈ l) (e : p.1 = p'.1) : p = p' := by
  induction l with
  | nil => cases h
  | cons a l ih =>
    have hn' : a.1 ∉ nms l ∧ (nms l).Nodup := List.nodup_cons.mp hn
    rcases List.mem_cons.mp h with h | h <;> rcases List.mem_cons.mp h' with h' | h'
    · rw [h, h']
    · exact absurd (show a.1 ∈ nms l by rw [← h, e]; exact List.mem_map_of_mem h') hn'.1
    · exact absurd (show a.1 ∈ nms l by rw [← h', ← e]; exact List.mem_map_of_mem h) hn'.1
    · exact ih hn'.2 h h'
theorem kfind_dkv {l : List (Str × Int)} (hn : (nms l).Nodup) {p : Str × Int} (h : p ∈ l) : kfind (dkv l) (.inr p.1) = some (.int p.2) := by
  induction l with
  | nil => cases h
  | cons a l ih =>
    have hn' : a.1 ∉ nms l ∧ (nms l).Nodup := List.nodup_cons.mp hn
    have e1 : dkv (a :: l) = (Sum.inr a.1, D.int a.2) :: dkv l := rfl
    unfold kfind
    rw [e1]
    rcases List.mem_cons.mp h with h | h
    · subst h
      rw [List.find?_cons_of_pos (by simp)]
      rfl
    · have ne : ¬ ((Sum.inr a.1 : Key) = Sum.inr p.1) := fun e => by
        have e' : a.1 = p.1 := Sum.inr.inj e
        exact hn'.1 (by rw [e']; exact List.mem_map_of_mem h)
      rw [List.find?_cons_of_neg (by simpa using ne)]
      exact ih hn'.2 h
theorem dput_decr {l : List (Str × Int)} (hn : (nms l).Nodup) {p : Str × Int} (h : p ∈ l) : dputV l p.1 (p.2 - 1) = decr l p.1 := by
  unfold dputV decr
  have hm : p.1 ∈ nms l := List.mem_map_of_mem h
  rw [if_pos hm]
  refine List.map_congr_left fun p' m => ?_
  by_cases e : p'.1 = p.1
  · rw [if_pos e, if_pos e, key_one hn m h e]
  · rw [if_neg e, if_neg e]
theorem nms_mem {l : List (Str × Int)} {n : Str} (h : n ∈ nms l) : ∃ v, (n, v) ∈ l := by
  unfold nms at h
  obtain ⟨p, m, rfl⟩ := List.mem_map.mp h
  exact ⟨p.2, m⟩
/-- one less -/
theorem dec_at {l : List (Str × Int)} (hn : (nms l).Nodup) {n : Str} (h : n ∈ nms l) : ∃ v, kfind (dkv l) (.inr n) = some (.int v) ∧ kput (dkv l) (.inr n) (.int (v - 1)) = dkv (decr l n) := by
  obtain ⟨v, m⟩ := nms_mem h
  exact ⟨v, kfind_dkv hn m, by rw [kput_dkv]; exact congrArg dkv (dput_decr hn m)⟩
theorem pairs_tk (q : List (Str × Int)) : pairsOf (q.map tk) = some (dkv q) := by
  induction q with
  | nil => rfl
  | cons p q ih =>
    rw [List.map_cons]
    show (match asKey (.str p.1), pairsOf (q.map tk) with
      | some k, some ps => some ((k, D.int p.2) :: ps)
      | _, _ => none) = _
    rw [ih]
    rfl
theorem dict_fold (q acc : List (Str × Int)) : (dkv q).foldl (fun acc p => kput acc p.1 p.2) (dkv acc) = dkv (q.foldl (fun acc p => dputV acc p.1 p.2) acc) := by
  induction q generalizing acc with
  | nil => rfl
  | cons p q ih =>
    have e1 : dkv (p :: q) = (Sum.inr p.1, D.int p.2) :: dkv q := rfl
    rw [e1, List.foldl_cons, List.foldl_cons, ← ih]
    congr 1
    exact kput_dkv acc p.1 p.2
@[simp] theorem dict1_tk (f : Bool) (q : List (Str × Int)) : opBF .dict1 [.lst f (q.map tk)] = some (.dic true (dkv (dictV q))) := by
  show (pairsOf (q.map tk)).map (fun ps => D.dic true (ps.foldl (fun acc p => kput acc p.1 p.2) [])) = _
  rw [pairs_tk]
  exact congrArg (fun l => some (D.dic true l)) (dict_fold q [])
theorem nms_dput (l : List (Str × Int)) (n : Str) (v : Int) : nms (dputV l n v) = if n ∈ nms l then nms l else nms l ++ [n] := by
  unfold dputV
  split
  · unfold nms
    rw [List.map_map]
    refine List.map_congr_left fun p _ => ?_
    show (if p.1 = n then (p.1, v) else p).1 = p.1
    split <;> rfl
  · unfold nms
    rw [List.map_append]
    rfl
theorem dict_ok (P : Int → Prop) : ∀ (q acc : List (Str × Int)), (nms acc).Nodup → (∀ p ∈ acc, P p.2) → (∀ p ∈ q, P p.2) →
    (nms (q.foldl (fun acc p => dputV acc p.1 p.2) acc)).Nodup ∧ (∀ p ∈ q.foldl (fun acc p => dputV acc p.1 p.2) acc, P p.2) ∧ (q.foldl (fun acc p => dputV acc p.1 p.2) acc).length ≤ acc.length + q.length
  | [], acc, h1, h2, _ => ⟨h1, h2, Nat.le_refl _⟩
  | p :: q, acc, h1, h2, h3 => by
    rw [List.foldl_cons]
    have hp := h3 p (List.mem_cons_self ..)
    have n1 : (nms (dputV acc p.1 p.2)).Nodup := by
      rw [nms_dput]
      split
      · exact h1
      · next h => exact List.nodup_append.mpr ⟨h1, List.nodup_cons.mpr ⟨List.not_mem_nil, List.nodup_nil⟩, fun a m b m' e => by
          rw [List.mem_singleton.mp m'] at e
          exact h (e ▸ m)⟩
    have n2 : ∀ x ∈ dputV acc p.1 p.2, P x.2 := fun x m => by
      unfold dputV at m
      split at m
      · obtain ⟨y, my, rfl⟩ := List.mem_map.mp m
        by_cases e : y.1 = p.1
        · rw [if_pos e]
          exact hp
        · rw [if_neg e]
          exact h2 y my
      · rcases List.mem_append.mp m with m | m
        · exact h2 x m
        · rw [List.mem_singleton.mp m]
          exact hp
    have n3 : (dputV acc p.1 p.2).length ≤ acc.length + 1 := by
      have := congrArg List.length (nms_dput acc p.1 p.2)
      rw [nms_len] at this
      rw [this]
      split
      · rw [nms_len]; omega
      · rw [List.length_append, nms_len]
        exact Nat.le_refl _
    obtain ⟨g1, g2, g3⟩ := dict_ok P q _ n1 n2 fun x m => h3 x (List.mem_cons_of_mem _ m)
    refine ⟨g1, g2, ?_⟩
    rw [List.length_cons]
    omega
theorem dict_nodup (q : List (Str × Int)) : (nms (dictV q)).Nodup := (dict_ok (fun _ => True) q [] List.nodup_nil (fun _ _ => trivial) fun _ _ => trivial).1
theorem dict_len (q : List (Str × Int)) : (dictV q).length ≤ q.length := by
  have := (dict_ok (fun _ => True) q [] List.nodup_nil (fun _ _ => trivial) fun _ _ => trivial).2.2
  rw [List.length_nil, Nat.zero_add] at this
  exact this
theorem dict_all (P : Int → Prop) {q : List (Str × Int)} (h : ∀ p ∈ q, P p.2) : ∀ p ∈ dictV q, P p.2 := (dict_ok P q [] List.nodup_nil (fun _ m => (List.not_mem_nil m).elim) h).2.1
theorem dict_same : ∀ (q acc : List (Str × Int)), (nms (acc ++ q)).Nodup → q.foldl (fun acc p => dputV acc p.1 p.2) acc = acc ++ q
  | [], acc, _ => by simp
  | p :: q, acc, h => by
    rw [List.foldl_cons]
    have e : nms (acc ++ p :: q) = nms acc ++ p.1 :: nms q := by
      unfold nms
      rw [List.map_append]
      rfl
    rw [e] at h
    have hp : p.1 ∉ nms acc := fun m => (List.nodup_append.mp h).2.2 _ m _ (List.mem_cons_self ..) rfl
    have e2 : dputV acc p.1 p.2 = acc ++ [p] := by
      unfold dputV
      rw [if_neg hp]
    rw [e2, dict_same q (acc ++ [p])]
    · simp
    · have : nms (acc ++ [p] ++ q) = nms acc ++ p.1 :: nms q := by
        unfold nms
        simp
      rw [this]
      exact h
theorem dict_id {q : List (Str × Int)} (h : (nms q).Nodup) : dictV q = q := dict_same q [] h
/-! ### what is left behind a turn -/
def leftV (q : List (Str × Int)) (rows : List (Int × List Str)) (turn : Int) : List (Str × Int) := rows.foldl (fun l r => if r.1 ≤ turn then r.2.foldl decr l else l) (dictV q)
theorem nms_fold (ns : List Str) : ∀ l, nms (ns.foldl decr l) = nms l := by
  induction ns with
  | nil => exact fun _ => rfl
  | cons n ns ih => exact fun l => by rw [List.foldl_cons, ih, nms_decr]
theorem nms_left (q : List (Str × Int)) (rows : List (Int × List Str)) (turn : Int) : nms (leftV q rows turn) = nms (dictV q) := by
  unfold leftV
  generalize dictV q = d
  induction rows generalizing d with
  | nil => rfl
  | cons r rows ih =>
    rw [List.foldl_cons, ih]
    split
    · exact nms_fold _ _
    · rfl
def LeftByS (c : CF) : Prop := ∀ q rows turn, q.length ≤ 1000000 → (∀ r ∈ rows, ∀ x ∈ r.2, x ∈ nms (dictV q)) → c [(false, dQ q), (false, dW rows), (false, .int turn)] = .ok true (.dic true (dkv (leftV q rows turn))) [none, none, none]
theorem sLeftBy_v {q : List (Str × Int)} {rows : List (Int × List Str)} {turn : Int} (hio : Γ.io = []) (hq : q.length ≤ 1000000) (hr : ∀ r ∈ rows, ∀ x ∈ r.2, x ∈ nms (dictV q)) :
    ∃ env, evSs Γ sLeftBy [some (false, dQ q), some (false, dW rows), some (false, .int turn), none, none, none, none] = .ret true (.dic true (dkv (leftV q rows turn))) env := by
  have big := sizeBig
  have nd := dict_nodup q
  have ld := dict_len q
  have inner : ∀ (ns : List Str) (l : List (Str × Int)), nms l = nms (dictV q) → (∀ x ∈ ns, x ∈ nms (dictV q)) →
      forL (evSs Γ sLeftBy_l2) (tgSet [] (.nm 6)) [0, 1, 4, 5, 6] (ns.map .str) [none, none, some (false, .int turn), some (true, .dic true (dkv l)), none, none, none] = .next [none, none, some (false, .int turn), some (true, .dic true (dkv (ns.foldl decr l))), none, none, none] := fun ns l h0 hx => by
    have key := forL_fold (α := List (Str × Int)) (β := Str) (b := evSs Γ sLeftBy_l2) (set := tgSet [] (.nm 6)) (vs := [0, 1, 4, 5, 6])
      (fun s => [none, none, some (false, .int turn), some (true, .dic true (dkv s)), none, none, none]) .str decr (fun _ s => nms s = nms (dictV q)) ns 0 l h0 fun i s x hi h1 => by
        have hm := hx x (List.mem_of_getElem? hi)
        obtain ⟨v, e1, e2⟩ := dec_at (l := s) (by rw [h1]; exact nd) (by rw [h1]; exact hm)
        have zl : s.length < sizeLine := by
          have := congrArg List.length h1
          rw [nms_len, nms_len] at this
          omega
        refine ⟨by rw [nms_decr]; exact h1, ?_⟩
        simp [sLeftBy_l2, hio, e1, e2, zl]
    exact key.1
  have key := forL_fold (α := List (Str × Int)) (β := Int × List Str) (b := evSs Γ sLeftBy_l1) (set := tgSet [] (.tup [.nm 4, .nm 5])) (vs := [0, 1, 4, 5, 6])
    (fun s => [none, none, some (false, .int turn), some (true, .dic true (dkv s)), none, none, none]) rw_ (fun l r => if r.1 ≤ turn then r.2.foldl decr l else l) (fun _ s => nms s = nms (dictV q)) rows 0 (dictV q) rfl fun i s r hi h1 => by
      have hm := hr r (List.mem_of_getElem? hi)
      by_cases h : r.1 ≤ turn
      · rw [if_pos h]
        have e := inner r.2 s h1 hm
        refine ⟨by rw [nms_fold]; exact h1, ?_⟩
        simp [sLeftBy_l1, rw_, hio, h, e]
      · rw [if_neg h]
        refine ⟨h1, ?_⟩
        simp [sLeftBy_l1, rw_, hio, h]
  have k1 := key.1
  have d1 := dict1_tk false q
  simp only [opBF] at d1
  simp [sLeftBy, hio, d1, k1, leftV]
end Vm
/-! Vm: what the laws about what is left draw, and their run. -/
namespace Vm
open PySem L2
open PyProof.Rows hiding St
variable {Γ : Cf}
theorem sRow3_v {ns : List Int} {a b k : Int} {cc cs : Nat} (hio : Γ.io = []) (hc : CellS (Γ.call cc)) (hs : StirS (Γ.call cs)) (ha : 0 ≤ a) (hb : 0 < b) (hb2 : b < 1073741824) (hk : 0 ≤ k) (hk2 : k ≤ 10000000) :
    ∃ xs : List Int, (xs.length : Int) = k ∧ (∀ x ∈ xs, 0 ≤ x ∧ x < b) ∧ ∃ env, evSs Γ (sRow3 cc cs) [some (false, dI ns), some (false, .int a), some (false, .int b), some (false, .int k), none, none, none] = .ret true (.lst true (xs.map .int)) env := by
  have big := sizeBig
  have e0 := hc ns a ha
  have e1 := hc ns 0 (by omega)
  have hr : rngOk k = true := rng_of hk (by omega)
  have h8 : 0 ≤ a % 8 := Int.emod_nonneg a (by omega)
  by_cases hq : Builtin.bitAnd (cellV ns 0 / 2 ^ (a % 8).toNat) 1 = 1
  · have k1 := lcRun_map (el := evE Γ (sRow3_e1 cc cs)) (c := fun x => (some true, x)) (t := .nm 5) (vs := [5]) (env1 := [some (false, dI ns), some (false, .int a), some (false, .int b), some (false, .int k), some (false, .int (cellV ns a)), none, none])
      (fun i : Nat => .int (i : Int)) (fun i : Nat => .int (stirV (cellV ns a) i / 8 % b)) (List.range k.toNat) (by simp; omega) rfl fun i m => by
        have e2 := hs (cellV ns a) i
        simp [sRow3_e1, e2, hb, hb2]
    refine ⟨(List.range k.toNat).map fun i : Nat => stirV (cellV ns a) i / 8 % b, by simp; omega, fun x m => ?_, ?_⟩
    · obtain ⟨i, _, rfl⟩ := List.mem_map.mp m
      exact emod_row hb
    · simp [sRow3, e0, e1, hio, hr, h8, hq, range1, k1]
  · have hq2 : (Builtin.bitAnd (cellV ns 0 / 2 ^ (a % 8).toNat) 1 == 1) = false := by simpa using hq
    obtain ⟨env', k1, c, xs, he, hl, hx⟩ := forL_inv (b := evSs Γ (sRow3_l1 cc cs)) (set := tgSet [] (.nm 5)) (vs := [0, 1, 3, 5]) (fun i : Nat => .int (i : Int))
      (fun i env => ∃ (c : Int) (xs : List Int), env = [none, none, some (false, .int b), none, some (false, .int c), none, some (true, .lst true (xs.map .int))] ∧ xs.length = i ∧ ∀ x ∈ xs, 0 ≤ x ∧ x < b)
      (List.range k.toNat) 0 _ ⟨cellV ns a, [], rfl, rfl, fun x m => (List.not_mem_nil m).elim⟩ fun i env x hx ⟨c, xs, he, hl, hb3⟩ => by
        subst he
        have hi : i < k.toNat := by
          have := (List.getElem?_eq_some_iff.mp hx).1
          simpa using this
        have hz : xs.length < sizeLine := by omega
        refine ⟨[none, none, some (false, .int b), none, some (false, .int c), some (false, .int x), some (true, .lst true (xs.map .int))], [none, none, some (false, .int b), none, some (false, .int (c / b)), some (false, .int x), some (true, .lst true ((xs ++ [c % b]).map .int))], by simp, .inl (by simp [sRow3_l1, hio, hb, hb2, hz]), c / b, xs ++ [c % b], by simp, by simp; omega, fun y m => ?_⟩
        rcases List.mem_append.mp m with m | m
        · exact hb3 y m
        · rw [List.mem_singleton.mp m]
          exact emod_row hb
    subst he
    simp only [List.map_nil] at k1
    refine ⟨xs, by rw [hl]; simp; omega, hx, ?_⟩
    simp [sRow3, e0, e1, hio, hr, h8, hq2, range1, k1]
/-! ### names -/
theorem txt_at {z : Str} {k : Int} (h0 : 0 ≤ k) (h1 : k < (z.cps.toList.length : Int)) : ∃ c, atI z.cps.toList k = some c := by
  have h : k.toNat < z.cps.toList.length := by omega
  exact ⟨z.cps.toList[k.toNat], by rw [atI_nn h0 h1, List.getElem?_eq_getElem h]⟩
abbrev lets : Str := "abcdefghijklmnopqrstuvwxyz"
abbrev digs : Str := "0123456789"
theorem lets_len : lets.length ≤ sizeLine ∧ lets.length + digs.length ≤ sizeLine := by
  have h : lets.length = 26 := by decide +kernel
  have h2 : digs.length = 10 := by decide +kernel
  have := sizeBig
  omega
theorem lets_at (x : Int) : ∃ c, atI lets.cps.toList (x % 26) = some c := by
  have := emod_row (x := x) (b := 26) (by decide)
  exact txt_at this.1 (by
    rw [show (lets.cps.toList.length : Int) = 26 by decide +kernel]
    exact this.2)
theorem digs_at (x : Int) : ∃ c, atI (lets ++ digs).cps.toList (x % 36) = some c := by
  have := emod_row (x := x) (b := 36) (by decide)
  exact txt_at this.1 (by
    rw [show ((lets ++ digs).cps.toList.length : Int) = 36 by decide +kernel]
    exact this.2)
theorem sign_at (j : Int) (S : Int) : ∃ c, (j = 0 → atI lets.cps.toList (S % 26) = some c) ∧ (j ≠ 0 → atI (lets ++ digs).cps.toList (S % 36) = some c) := by
  by_cases h : j = 0
  · obtain ⟨c, e⟩ := lets_at S
    exact ⟨c, fun _ => e, fun x => absurd h x⟩
  · obtain ⟨c, e⟩ := digs_at S
    exact ⟨c, fun x => absurd x h, fun _ => e⟩
theorem sNames2_sign {a size at_ kk j : Int} {nm : Str} {L : D} (hio : Γ.io = []) (hs : 0 < size) (hj : 0 ≤ j) (hj2 : j ≤ 100) (hn : nm.length ≤ 100) :
    ∃ c env2, evSs Γ sNames2_l2 [some (false, .int a), none, some (false, .str lets), some (false, .int size), some (false, .int at_), some (true, L), some (false, .int kk), some (false, .str nm), some (false, .int j), none] = .next env2 ∧
      kill [1, 8, 9] env2 = [some (false, .int a), none, some (false, .str lets), some (false, .int size), some (false, .int at_), some (true, L), some (false, .int kk), some (false, .str (nm ++ ⟨#[c]⟩)), none, none] := by
  have big := sizeBig
  obtain ⟨ll1, ll2⟩ := lets_len
  have z1 : nm.length + 1 ≤ sizeLine := by omega
  have d1 : (0 : Int) < 64 + 5 * j := by omega
  have d2 : 64 + 5 * j < 1073741824 := by omega
  have d3 : (lets ++ digs).length ≤ sizeLine := by rw [app_len]; exact ll2
  have fin : ∀ S, _ := sign_at j
  by_cases h1 : j = at_
  · have h1' : (j == at_) = true := by simpa using h1
    by_cases h2 : j = (at_ + 1) % size
    · have h2' : (j == (at_ + 1) % size) = true := by simpa using h2
      obtain ⟨c, e1, e2⟩ := fin (a / (64 + 5 * j) + kk % 26 + kk / 26)
      refine ⟨c, ?_⟩
      by_cases h3 : j = 0
      · have h3' : (j == 0) = true := by simpa using h3
        simp [sNames2_l2, hio, hs, d1, d2, h1', h2', h3', e1 h3, z1, ll1]
      · have h3' : (j == 0) = false := by simpa using h3
        simp [sNames2_l2, hio, hs, d1, d2, h1', h2', h3', e2 h3, z1, ll1, ll2, d3]
    · have h2' : (j == (at_ + 1) % size) = false := by simpa using h2
      obtain ⟨c, e1, e2⟩ := fin (a / (64 + 5 * j) + kk % 26)
      refine ⟨c, ?_⟩
      by_cases h3 : j = 0
      · have h3' : (j == 0) = true := by simpa using h3
        have e3 := e1 h3
        rw [Int.add_emod_emod] at e3
        simp [sNames2_l2, hio, hs, d1, d2, h1', h2', h3', e3, z1, ll1]
      · have h3' : (j == 0) = false := by simpa using h3
        simp [sNames2_l2, hio, hs, d1, d2, h1', h2', h3', e2 h3, z1, ll1, ll2, d3]
  · have h1' : (j == at_) = false := by simpa using h1
    by_cases h2 : j = (at_ + 1) % size
    · have h2' : (j == (at_ + 1) % size) = true := by simpa using h2
      obtain ⟨c, e1, e2⟩ := fin (a / (64 + 5 * j) + kk / 26)
      refine ⟨c, ?_⟩
      by_cases h3 : j = 0
      · have h3' : (j == 0) = true := by simpa using h3
        simp [sNames2_l2, hio, hs, d1, d2, h1', h2', h3', e1 h3, z1, ll1]
      · have h3' : (j == 0) = false := by simpa using h3
        simp [sNames2_l2, hio, hs, d1, d2, h1', h2', h3', e2 h3, z1, ll1, ll2, d3]
    · have h2' : (j == (at_ + 1) % size) = false := by simpa using h2
      obtain ⟨c, e1, e2⟩ := fin (a / (64 + 5 * j))
      refine ⟨c, ?_⟩
      by_cases h3 : j = 0
      · have h3' : (j == 0) = true := by simpa using h3
        simp [sNames2_l2, hio, hs, d1, d2, h1', h2', h3', e1 h3, z1, ll1]
      · have h3' : (j == 0) = false := by simpa using h3
        simp [sNames2_l2, hio, hs, d1, d2, h1', h2', h3', e2 h3, z1, ll1, ll2, d3]
theorem sNames2_v {a k : Int} (hio : Γ.io = []) (hk : 0 ≤ k) (hk2 : k ≤ 1000) :
    ∃ xs : List Str, (xs.length : Int) = k ∧ (∀ x ∈ xs, x.length ≤ 20) ∧ ∃ env, evSs Γ sNames2 [some (false, .int a), some (false, .int k), none, none, none, none, none, none, none, none] = .ret true (.lst true (xs.map .str)) env := by
  have big := sizeBig
  have hr : rngOk k = true := rng_of hk (by omega)
  have l0 : Str.length ("" : Str) = 0 := by decide +kernel
  have main : ∀ size at_ : Int, 0 < size → size ≤ 10 → ∃ xs : List Str, (xs.length : Int) = k ∧ (∀ x ∈ xs, x.length ≤ 20) ∧
      forL (evSs Γ sNames2_l1) (tgSet [] (.nm 6)) [1, 6, 7, 8, 9] ((List.range k.toNat).map fun i : Nat => .int (i : Int)) [some (false, .int a), none, some (false, .str lets), some (false, .int size), some (false, .int at_), some (true, .lst true []), none, none, none, none] =
        .next [some (false, .int a), none, some (false, .str lets), some (false, .int size), some (false, .int at_), some (true, .lst true (xs.map .str)), none, none, none, none] := by
    intro size at_ h1 h2
    obtain ⟨env', k1, xs, he, hl, hx⟩ := forL_inv (b := evSs Γ sNames2_l1) (set := tgSet [] (.nm 6)) (vs := [1, 6, 7, 8, 9]) (fun i : Nat => .int (i : Int))
      (fun i env => ∃ xs : List Str, env = [some (false, .int a), none, some (false, .str lets), some (false, .int size), some (false, .int at_), some (true, .lst true (xs.map .str)), none, none, none, none] ∧ xs.length = i ∧ ∀ x ∈ xs, x.length ≤ 20)
      (List.range k.toNat) 0 _ ⟨[], rfl, rfl, fun x m => (List.not_mem_nil m).elim⟩ fun i env x hx ⟨xs, he, hl, hb3⟩ => by
        subst he
        have hi : i < k.toNat := by
          have := (List.getElem?_eq_some_iff.mp hx).1
          simpa using this
        have hz : xs.length < sizeLine := by omega
        obtain ⟨env', j1, nm, he, hn⟩ := forL_inv (b := evSs Γ sNames2_l2) (set := tgSet [] (.nm 8)) (vs := [1, 8, 9]) (fun i : Nat => .int (i : Int))
          (fun i env => ∃ nm : Str, env = [some (false, .int a), none, some (false, .str lets), some (false, .int size), some (false, .int at_), some (true, .lst true (xs.map .str)), some (false, .int x), some (false, .str nm), none, none] ∧ nm.length = i)
          (List.range size.toNat) 0 _ ⟨"", rfl, l0⟩ fun i env y hy ⟨nm, he, hn⟩ => by
            subst he
            have hy' := List.getElem?_eq_some_iff.mp hy
            have hi : i < size.toNat := by simpa using hy'.1
            have ey : y = i := by simpa using hy'.2.symm
            obtain ⟨c, env2, e1, e2⟩ := sNames2_sign (a := a) (size := size) (at_ := at_) (kk := x) (j := y) (nm := nm) (L := .lst true (xs.map .str)) hio h1 (by omega) (by omega) (by omega)
            refine ⟨_, env2, by simp, .inl e1, nm ++ ⟨#[c]⟩, e2, ?_⟩
            rw [app_len, one_len]
            omega
        subst he
        have r1 : rngOk size = true := rng_of (by omega) (by omega)
        refine ⟨[some (false, .int a), none, some (false, .str lets), some (false, .int size), some (false, .int at_), some (true, .lst true (xs.map .str)), some (false, .int x), none, none, none], [some (false, .int a), none, some (false, .str lets), some (false, .int size), some (false, .int at_), some (true, .lst true ((xs ++ [nm]).map .str)), some (false, .int x), some (false, .str nm), none, none], by simp, .inl ?_, xs ++ [nm], by simp, by simp; omega, fun y m => ?_⟩
        · simp [sNames2_l1, hio, range1, r1, j1, hz]
        · rcases List.mem_append.mp m with m | m
          · exact hb3 y m
          · rw [List.mem_singleton.mp m, hn]
            simp
            omega
    subst he
    exact ⟨xs, by rw [hl]; simp; omega, hx, k1⟩
  by_cases hq : k ≤ 26
  · have b8 := emod_row (x := a) (b := 8) (by decide)
    obtain ⟨xs, h1, h2, e⟩ := main (1 + a % 8) (a / 8 % (1 + a % 8)) (by omega) (by omega)
    have p : (0 : Int) < 1 + a % 8 := by omega
    refine ⟨xs, h1, h2, ?_⟩
    simp [sNames2, hio, hq, range1, hr, e, p]
  · have b8 := emod_row (x := a) (b := 7) (by decide)
    obtain ⟨xs, h1, h2, e⟩ := main (2 + a % 7) (a / 8 % (2 + a % 7)) (by omega) (by omega)
    have p : (0 : Int) < 2 + a % 7 := by omega
    refine ⟨xs, h1, h2, ?_⟩
    simp [sNames2, hio, hq, range1, hr, e, p]
/-! ### days -/
@[simp] theorem clrs_replicate (n : Nat) (d : D) : clrs (List.replicate n d) = List.replicate n (clr d) := by rw [clrs_map, List.map_replicate]
def daysV (l : List (Int × Int)) : List Int := (l.map fun p => List.replicate p.1.toNat p.2).flatten
def DaysS (c : CF) : Prop := ∀ l : List (Int × Int), l.length ≤ 100 → (∀ p ∈ l, 0 ≤ p.1 ∧ p.1 ≤ 1000) → c [(false, dR l)] = .ok false (dI (daysV l)) [none]
theorem days_len (l : List (Int × Int)) (h : ∀ p ∈ l, p.1 ≤ 1000) : (daysV l).length ≤ 1000 * l.length := by
  induction l with
  | nil => simp [daysV]
  | cons p l ih =>
    have h1 := ih fun q m => h q (List.mem_cons_of_mem _ m)
    have h2 := h p (List.mem_cons_self ..)
    have e : daysV (p :: l) = List.replicate p.1.toNat p.2 ++ daysV l := rfl
    rw [e, List.length_append, List.length_replicate, List.length_cons]
    omega
theorem sDays_v {l : List (Int × Int)} (hio : Γ.io = []) (hl : l.length ≤ 100) (hb : ∀ p ∈ l, 0 ≤ p.1 ∧ p.1 ≤ 1000) : ∃ env, evSs Γ sDays [some (false, dR l), none, none, none] = .ret false (dI (daysV l)) env := by
  have big := sizeBig
  have s1 : 1 ≤ sizeLine := by omega
  have key := forL_fold (α := List Int) (β := Int × Int) (b := evSs Γ sDays_l1) (set := tgSet [] (.tup [.nm 2, .nm 3])) (vs := [0, 2, 3])
    (fun s => [none, some (false, dI s), none, none]) rk (fun s p => s ++ List.replicate p.1.toNat p.2) (fun i s => s.length ≤ 1000 * i) l 0 [] (Nat.le_refl _) fun i s p hi h1 => by
      have hp := hb p (List.mem_of_getElem? hi)
      have hi' := (List.getElem?_eq_some_iff.mp hi).1
      have z1 : p.1.toNat ≤ sizeLine := by omega
      have z2 : s.length + p.1.toNat ≤ sizeLine := by omega
      have z3 : p.1 < 9223372036854775808 := by omega
      have z5 : p.1 ≤ (sizeLine : Int) := by omega
      have z4 : (-9223372036854775808 : Int) ≤ p.1 := by omega
      refine ⟨by rw [List.length_append, List.length_replicate]; omega, ?_⟩
      simp [sDays_l1, rk, hio, s1, z1, z2, z3, z4, z5]
  have k1 := key.1
  have e : ∀ (l : List (Int × Int)) (s : List Int), l.foldl (fun s p => s ++ List.replicate p.1.toNat p.2) s = s ++ daysV l := by
    intro l
    induction l with
    | nil => simp [daysV]
    | cons p l ih =>
      intro s
      rw [List.foldl_cons, ih]
      show _ = s ++ (List.replicate p.1.toNat p.2 ++ daysV l)
      simp
  rw [e] at k1
  have k2 : forL (evSs Γ sDays_l1) (tgSet [] (.tup [.nm 2, .nm 3])) [0, 2, 3] (l.map rk) [none, some (false, .lst false []), none, none] = .next [none, some (false, dI (daysV l)), none, none] := k1
  simp [sDays, hio, k2]
/-! ### the counters of a turn -/
def at2V (ds : List Int) (rest turn : Int) : Int := if turn < ds.length then ds.getD turn.toNat 0 else rest
theorem at2_eq (rest : Int) : ∀ (l : List (Int × Int)) (turn : Int), NN l → 0 ≤ turn → at2V (daysV l) rest turn = lawAt l rest turn
  | [], turn, _, h => by
    unfold at2V lawAt
    rw [if_neg (by simp [daysV]; omega)]
  | p :: l, turn, hn, h => by
    have hp := hn p (List.mem_cons_self ..)
    have ih := at2_eq rest l (turn - p.1) fun q m => hn q (List.mem_cons_of_mem _ m)
    have e : daysV (p :: l) = List.replicate p.1.toNat p.2 ++ daysV l := rfl
    unfold lawAt
    unfold at2V at ih ⊢
    rw [e, List.length_append, List.length_replicate]
    by_cases q : turn < p.1
    · rw [if_pos q, if_pos (by omega), List.getD_eq_getElem?_getD, List.getElem?_append_left (by rw [List.length_replicate]; omega), List.getElem?_replicate_of_lt (by omega)]
      rfl
    · rw [if_neg q, ← ih (by omega)]
      by_cases q2 : turn - p.1 < ((daysV l).length : Int)
      · rw [if_pos q2, if_pos (by omega), List.getD_eq_getElem?_getD, List.getElem?_append_right (by rw [List.length_replicate]; omega), List.length_replicate, List.getD_eq_getElem?_getD]
        rw [show turn.toNat - p.1.toNat = (turn - p.1).toNat by omega]
      · rw [if_neg q2, if_neg (by omega)]
def At2S (c : CF) : Prop := ∀ ds rest turn, 0 ≤ turn → c [(false, dI ds), (false, .int rest), (false, .int turn)] = .ok false (.int (at2V ds rest turn)) [none, none, none]
theorem sAt2_v {ds : List Int} {rest turn : Int} (hio : Γ.io = []) (ht : 0 ≤ turn) : ∃ env, evSs Γ sAt2 [some (false, dI ds), some (false, .int rest), some (false, .int turn)] = .ret false (.int (at2V ds rest turn)) env := by
  by_cases h : turn < ds.length
  · have e : atI (ds.map D.int) turn = some (.int (at2V ds rest turn)) := by
      rw [atI_nn ht (by simpa using h), List.getElem?_map]
      have l : turn.toNat < ds.length := by omega
      unfold at2V
      rw [if_pos h, List.getElem?_eq_getElem l, List.getD_eq_getElem?_getD, List.getElem?_eq_getElem l]
      rfl
    simp [sAt2, h, e]
  · have e : at2V ds rest turn = rest := if_neg h
    simp [sAt2, h, e, hio]
end Vm
/-! Vm: a run kept in a dict. -/
namespace Vm
open PySem L2
open PyProof.Rows hiding St
variable {Γ : Cf}
def pos (l : List (Str × Int)) : List (Str × Int) := l.filter fun p => decide (0 < p.2)
theorem decr_fold : ∀ (ns : List Str) (l : List (Str × Int)), ns.Nodup → ns.foldl decr l = l.map fun p => if p.1 ∈ ns then (p.1, p.2 - 1) else p
  | [], l, _ => by simp
  | n :: ns, l, h => by
    have h' := List.nodup_cons.mp h
    rw [List.foldl_cons, decr_fold ns _ h'.2]
    unfold decr
    rw [List.map_map]
    refine List.map_congr_left fun p _ => ?_
    show (if (if p.1 = n then (p.1, p.2 - 1) else p).1 ∈ ns then ((if p.1 = n then (p.1, p.2 - 1) else p).1, (if p.1 = n then (p.1, p.2 - 1) else p).2 - 1) else (if p.1 = n then (p.1, p.2 - 1) else p)) = _
    by_cases e : p.1 = n
    · rw [if_pos e]
      rw [if_neg (by dsimp only; rw [e]; exact h'.1), if_pos (by rw [e]; exact List.mem_cons_self ..)]
    · rw [if_neg e]
      by_cases e2 : p.1 ∈ ns
      · rw [if_pos e2, if_pos (List.mem_cons_of_mem _ e2)]
      · rw [if_neg e2, if_neg (fun m => (List.mem_cons.mp m).elim e e2)]
theorem pos_sub (l : List (Str × Int)) : (nms (pos l)).Sublist (nms l) := List.Sublist.map _ List.filter_sublist
theorem served_sub (q : List (Str × Int)) (m : Nat) : (servedV q m).Sublist (nms q) := List.Sublist.map _ (List.take_sublist ..)
theorem pos_behind : ∀ (cur : List (Str × Int)) (m : Nat), (nms cur).Nodup → pos (cur.map fun p => if p.1 ∈ servedV (pos cur) m then (p.1, p.2 - 1) else p) = behindV (pos cur) m
  | [], m, _ => by simp [pos, behindV]
  | p :: cur, m, h => by
    have h' : p.1 ∉ nms cur ∧ (nms cur).Nodup := List.nodup_cons.mp h
    have ns : ∀ k, p.1 ∉ servedV (pos cur) k := fun k x => h'.1 ((pos_sub cur).subset ((served_sub _ k).subset x))
    by_cases hp : 0 < p.2
    · have e : pos (p :: cur) = p :: pos cur := List.filter_cons_of_pos (by simpa using hp)
      rw [e]
      cases m with
      | zero =>
        have e2 : servedV (p :: pos cur) 0 = [] := by simp [servedV]
        rw [e2]
        simp only [List.not_mem_nil, if_false, List.map_id']
        rw [e]
        simp [behindV]
      | succ m =>
        have ih := pos_behind cur m h'.2
        have e2 : servedV (p :: pos cur) (m + 1) = p.1 :: servedV (pos cur) m := rfl
        rw [e2, List.map_cons, if_pos (List.mem_cons_self ..)]
        have e3 : (cur.map fun x => if x.1 ∈ p.1 :: servedV (pos cur) m then (x.1, x.2 - 1) else x) = cur.map fun x => if x.1 ∈ servedV (pos cur) m then (x.1, x.2 - 1) else x := List.map_congr_left fun x mx => by
          have ne : x.1 ≠ p.1 := fun e => h'.1 (by rw [← e]; exact List.mem_map_of_mem mx)
          by_cases g : x.1 ∈ servedV (pos cur) m
          · rw [if_pos g, if_pos (List.mem_cons_of_mem _ g)]
          · rw [if_neg g, if_neg fun y => (List.mem_cons.mp y).elim ne g]
        rw [e3]
        by_cases h1 : 1 < p.2
        · have e4 : pos ((p.1, p.2 - 1) :: cur.map fun x => if x.1 ∈ servedV (pos cur) m then (x.1, x.2 - 1) else x) = (p.1, p.2 - 1) :: pos (cur.map fun x => if x.1 ∈ servedV (pos cur) m then (x.1, x.2 - 1) else x) := List.filter_cons_of_pos (by simp; omega)
          rw [e4, ih]
          simp [behindV, h1]
        · have e4 : pos ((p.1, p.2 - 1) :: cur.map fun x => if x.1 ∈ servedV (pos cur) m then (x.1, x.2 - 1) else x) = pos (cur.map fun x => if x.1 ∈ servedV (pos cur) m then (x.1, x.2 - 1) else x) := List.filter_cons_of_neg (by simp; omega)
          rw [e4, ih]
          simp [behindV, h1]
    · have e : pos (p :: cur) = pos cur := List.filter_cons_of_neg (by simpa using hp)
      rw [e, List.map_cons, if_neg (ns m)]
      have e4 : pos (p :: cur.map fun x => if x.1 ∈ servedV (pos cur) m then (x.1, x.2 - 1) else x) = pos (cur.map fun x => if x.1 ∈ servedV (pos cur) m then (x.1, x.2 - 1) else x) := List.filter_cons_of_neg (by simpa using hp)
      rw [e4]
      exact pos_behind cur m h'.2
@[simp] theorem dkv_vals (l : List (Str × Int)) : (dkv l).map (fun p => p.2) = l.map fun p => .int p.2 := by
  unfold dkv
  rw [List.map_map]
  rfl
@[simp] theorem dkv_keys (l : List (Str × Int)) : (dkv l).map (fun p => keyD p.1) = l.map fun p => .str p.1 := by
  unfold dkv
  rw [List.map_map]
  rfl
@[simp] theorem noEx_ok (o : O) (env : EnvD) : (R.ok o env).noEx = .ok o env := rfl
theorem ints_app0 : ∀ l : List (Str × Int), intsOf ((l.map fun p => D.int p.2) ++ [.int 0]) = some (l.map (·.2) ++ [0])
  | [] => rfl
  | p :: l => by
    show (intsOf ((l.map fun p => D.int p.2) ++ [.int 0])).map (p.2 :: ·) = _
    rw [ints_app0 l]
    rfl
theorem max_pos (l : List (Str × Int)) : ∃ M : Int, (l.map (fun p => p.2) ++ [(0 : Int)]).max? = some M ∧ decide (0 < M) = !decide (pos l = []) := by
  cases hm : (l.map (fun p => p.2) ++ [(0 : Int)]).max? with
  | none =>
    have := List.max?_eq_none_iff.mp hm
    simp at this
  | some M =>
    obtain ⟨m1, m2⟩ := List.max?_eq_some_iff.mp hm
    refine ⟨M, rfl, ?_⟩
    have h : 0 < M ↔ ¬ pos l = [] := by
      constructor
      · intro h
        rcases List.mem_append.mp m1 with m | m
        · obtain ⟨p, mp, e⟩ := List.mem_map.mp m
          have : p ∈ pos l := List.mem_filter.mpr ⟨mp, by rw [e]; simpa using h⟩
          intro e
          rw [e] at this
          cases this
        · rw [List.mem_singleton.mp m] at h
          omega
      · intro h
        cases hq : pos l with
        | nil => exact absurd hq h
        | cons p r =>
          have mp : p ∈ pos l := by rw [hq]; exact List.mem_cons_self ..
          have := List.mem_filter.mp mp
          have h1 := m2 p.2 (List.mem_append_left _ (List.mem_map_of_mem this.1))
          have h2 : 0 < p.2 := by simpa using this.2
          omega
    by_cases g : 0 < M
    · rw [decide_eq_true g, decide_eq_false (h.mp g)]
      rfl
    · have g2 : pos l = [] := Decidable.not_not.mp fun x => g (h.mpr x)
      rw [decide_eq_false g, decide_eq_true g2]
      rfl
def Run2S (c : CF) : Prop := ∀ l rest b q, l.length ≤ 16 → (∀ p ∈ l, 0 ≤ p.1 ∧ p.1 ≤ 100 ∧ 0 ≤ p.2) → 1 ≤ rest → QOk q → 0 ≤ b → ∃ rs : List (Int × List Str), IsRun l rest b (dictV q) rs ∧ rs.length ≤ 10000 ∧ (∀ p ∈ rs, p.2.length ≤ 60) ∧ c [(false, dQ q), (false, dI (daysV l)), (false, .int rest), (false, .int b)] = .ok true (.lst true (rs.map rw_)) [none, none, none, none]
theorem sRun2_v {l : List (Int × Int)} {rest b : Int} {q : List (Str × Int)} {ca : Nat} (hio : Γ.io = []) (hw : Γ.wf = 5000) (ha : At2S (Γ.call ca)) (hl : l.length ≤ 16) (hl2 : ∀ p ∈ l, 0 ≤ p.1 ∧ p.1 ≤ 100 ∧ 0 ≤ p.2) (hrest : 1 ≤ rest) (hq : QOk q) (hb : 0 ≤ b) :
    ∃ rs : List (Int × List Str), IsRun l rest b (dictV q) rs ∧ rs.length ≤ 10000 ∧ (∀ p ∈ rs, p.2.length ≤ 60) ∧ ∃ env, evSs Γ (sRun2 ca) [some (false, dQ q), some (false, dI (daysV l)), some (false, .int rest), some (false, .int b), none, none, none, none, none] = .ret true (.lst true (rs.map rw_)) env := by
  have big := sizeBig
  have s1 : 1 ≤ sizeLine := by omega
  have s2 : 2 ≤ sizeLine := by omega
  have hnn : NN l := fun p m => (hl2 p m).1
  have nd := dict_nodup q
  have ld := dict_len q
  have lq := hq.1
  have pd : ∀ p ∈ dictV q, 1 ≤ p.2 ∧ p.2 ≤ 20 := dict_all (fun v => 1 ≤ v ∧ v ≤ 20) fun p m => ⟨(hq.2 p m).1, (hq.2 p m).2.1⟩
  have p0 : pos (dictV q) = dictV q := List.filter_eq_self.mpr fun p m => by
    have := pd p m
    simp
    omega
  have tq : tot (dictV q) ≤ 1200 := by
    have : ∀ q : List (Str × Int), (∀ p ∈ q, p.2 ≤ 20) → tot q ≤ 20 * q.length := by
      intro q
      induction q with
      | nil => exact fun _ => by simp [tot]
      | cons p q ih =>
        intro h
        have h1 := ih fun x hx => h x (List.mem_cons_of_mem _ hx)
        have h2 := h p (List.mem_cons_self ..)
        have e2 : tot (p :: q) = p.2 + tot q := by
          unfold tot
          simp
        rw [e2, List.length_cons]
        push_cast
        omega
    have := this (dictV q) fun p m => (pd p m).2
    omega
  have tl : sumT l ≤ 1600 := by
    have : ∀ l : List (Int × Int), (∀ p ∈ l, p.1 ≤ 100) → sumT l ≤ 100 * l.length := by
      intro l
      induction l with
      | nil => exact fun _ => by simp [sumT]
      | cons p q ih =>
        intro h
        have h1 := ih fun x hx => h x (List.mem_cons_of_mem _ hx)
        have h2 := h p (List.mem_cons_self ..)
        have e2 : sumT (p :: q) = p.1 + sumT q := by
          unfold sumT
          simp
        rw [e2, List.length_cons]
        push_cast
        omega
    have := this l fun p m => (hl2 p m).2.1
    omega
  obtain ⟨s, ⟨i1, i2, i3, i4, i5, i6⟩, hd, ew⟩ := whlL_meas (α := List (Int × List Str) × List (Str × Int) × Int) (c := evE Γ (sRun2_e1 ca)) (b := evSs Γ (sRun2_l1 ca)) (vs := [0, 3, 7, 8])
    (fun s => [none, some (false, dI (daysV l)), some (false, .int rest), none, some (true, .dic true (dkv s.2.1)), some (true, .lst true (s.1.map rw_)), some (false, .int s.2.2), none, none]) (fun s => decide (pos s.2.1 = []))
    (fun s => (s.1 ++ [(s.2.2, servedV (pos s.2.1) (lawAt l rest s.2.2).toNat)], (servedV (pos s.2.1) (lawAt l rest s.2.2).toNat).foldl decr s.2.1, s.2.2 + 1))
    (fun s => nms s.2.1 = nms (dictV q) ∧ QG (pos s.2.1) ∧ 0 ≤ s.2.2 ∧ s.1.length + ((sumT l - s.2.2).toNat + (tot (pos s.2.1)).toNat) ≤ 4000 ∧ (∀ p ∈ s.1, p.2.length ≤ 60) ∧ ∀ rs', IsRun l rest s.2.2 (pos s.2.1) rs' → IsRun l rest b (dictV q) (s.1 ++ rs')) (fun s => (sumT l - s.2.2).toNat + (tot (pos s.2.1)).toNat)
    (fun s hi => by
      obtain ⟨M, m1, m2⟩ := max_pos s.2.1
      have zl : s.2.1.length + 1 ≤ sizeLine := by
        have := congrArg List.length hi.1
        rw [nms_len, nms_len] at this
        omega
      have ia := ints_app0 s.2.1
      refine ⟨false, ?_⟩
      rw [← m2]
      simp [sRun2_e1, s1, zl, ia, m1])
    (fun s ⟨h0, h1, h2, h3, h5, h6⟩ hd => by
      have hne : pos s.2.1 ≠ [] := of_decide_eq_false hd
      have nds : (nms s.2.1).Nodup := by rw [h0]; exact nd
      have en := lawAt_nn l rest s.2.2 (fun p m => (hl2 p m).2.2) (by omega)
      have em : ((lawAt l rest s.2.2).toNat : Int) = lawAt l rest s.2.2 := Int.toNat_of_nonneg en
      have e1 := ha (daysV l) rest s.2.2 h2
      rw [at2_eq rest l s.2.2 hnn h2] at e1
      have tb := tot_behind (pos s.2.1) (lawAt l rest s.2.2).toNat h1.2
      have t0 := tot_nn _ (behind_g (m := (lawAt l rest s.2.2).toNat) h1).2
      have len0 : 0 < (pos s.2.1).length := List.length_pos_iff.mpr hne
      have ndS : (servedV (pos s.2.1) (lawAt l rest s.2.2).toNat).Nodup := ((served_sub _ _).trans (pos_sub _)).nodup nds
      have pb : pos ((servedV (pos s.2.1) (lawAt l rest s.2.2).toNat).foldl decr s.2.1) = behindV (pos s.2.1) (lawAt l rest s.2.2).toNat := by
        rw [decr_fold _ _ ndS]
        exact pos_behind _ _ nds
      have dec1 : (sumT l - (s.2.2 + 1)).toNat + (tot (behindV (pos s.2.1) (lawAt l rest s.2.2).toNat)).toNat < (sumT l - s.2.2).toNat + (tot (pos s.2.1)).toNat := by
        by_cases hlt : s.2.2 < sumT l
        · omega
        · have el := late_at l rest s.2.2 hnn (by omega)
          have hm : 1 ≤ (lawAt l rest s.2.2).toNat := by
            rw [el]
            omega
          omega
      have z1 : s.1.length < sizeLine := by omega
      have zl : s.2.1.length < sizeLine := by
        have := congrArg List.length h0
        rw [nms_len, nms_len] at this
        omega
      refine ⟨⟨by dsimp only; rw [nms_fold]; exact h0, by dsimp only; rw [pb]; exact behind_g h1, by dsimp only; omega, ?_, fun p m => ?_, fun rs' hr => ?_⟩, by dsimp only; rw [pb]; exact dec1, ?_⟩
      · dsimp only
        rw [List.length_append, List.length_singleton, pb]
        omega
      · rcases List.mem_append.mp m with m | m
        · exact h5 p m
        · rw [List.mem_singleton.mp m]
          show (servedV (pos s.2.1) _).length ≤ 60
          unfold servedV
          rw [List.length_map, List.length_take]
          have := h1.1
          omega
      · dsimp only at hr
        rw [pb] at hr
        have q := h6 ((s.2.2, servedV (pos s.2.1) (lawAt l rest s.2.2).toNat) :: rs') ⟨hne, rfl, hr⟩
        simpa using q
      · generalize hrows : s.1 = rows at *
        generalize hcur : s.2.1 = cur at *
        generalize htn : s.2.2 = turn at *
        have k1 := lcRun_fm (el := evE Γ (sRun2_e2 ca)) (c := evC Γ (.some (sRun2_e3 ca))) (t := .nm 8) (vs := [8])
          (env1 := [none, some (false, dI (daysV l)), some (false, .int rest), none, some (false, .dic false (dkv cur)), some (false, .lst false (rows.map rw_)), some (false, .int turn), none, none])
          (fun p : Str × Int => .str p.1) (fun p => decide (0 < p.2)) (fun p => .str p.1) cur (by omega) rfl fun p m => by
            have e := kfind_dkv nds m
            by_cases h : 0 < p.2
            · simp [sRun2_e2, sRun2_e3, e, h]
            · simp [sRun2_e2, sRun2_e3, e, h]
        simp only [evC] at k1
        have ec : cutD ((cur.filter fun p => decide (0 < p.2)).map fun p => D.str p.1) none (some (lawAt l rest turn)) = (servedV (pos cur) (lawAt l rest turn).toNat).map .str := by
          rw [← em, cutD_hi, Int.toNat_natCast]
          unfold servedV pos
          rw [List.map_map, ← List.map_take]
          rfl
        have hx : ∀ x ∈ servedV (pos cur) (lawAt l rest turn).toNat, x ∈ nms (dictV q) := fun x m => by
          rw [← h0]
          exact (pos_sub cur).subset ((served_sub _ _).subset m)
        generalize servedV (pos cur) (lawAt l rest turn).toNat = S at *
        have key := forL_fold (α := List (Str × Int)) (β := Str) (b := evSs Γ (sRun2_l2 ca)) (set := tgSet [] (.nm 8)) (vs := [0, 3, 8])
          (fun s => [none, some (false, dI (daysV l)), some (false, .int rest), none, some (true, .dic true (dkv s)), some (true, .lst true (rows.map rw_)), some (false, .int turn), some (false, dS S), none]) .str decr (fun _ s => nms s = nms (dictV q)) S 0 cur h0 fun i s x hi h1 => by
            have hm := hx x (List.mem_of_getElem? hi)
            obtain ⟨v, e1, e2⟩ := dec_at (l := s) (by rw [h1]; exact nd) (by rw [h1]; exact hm)
            have zl : s.length < sizeLine := by
              have := congrArg List.length h1
              rw [nms_len, nms_len] at this
              omega
            refine ⟨by rw [nms_decr]; exact h1, ?_⟩
            simp [sRun2_l2, hio, e1, e2, zl]
        have k2 := key.1
        have fl := flat_strs S
        have er : rw_ (turn, S) = .tup [.int turn, dS S] := rfl
        simp [sRun2_l1, e1, hio, z1, s2, k1, ec, fl, k2, er])
    5000 ([], dictV q, b) ⟨rfl, by dsimp only; rw [p0]; exact ⟨by omega, fun p m => (pd p m).1⟩, hb, by dsimp only; rw [p0]; simp; omega, by simp, by dsimp only; rw [p0]; exact fun _ h => h⟩ (by dsimp only; rw [p0]; omega)
  have hd' : pos s.2.1 = [] := of_decide_eq_true hd
  refine ⟨s.1, by simpa using i6 [] hd', by omega, i5, ?_⟩
  dsimp only at ew
  simp only [List.map_nil] at ew
  have d1 := dict1_tk false q
  simp only [opBF] at d1
  simp [sRun2, hio, hw, d1, ew]
end Vm
/-! Vm: the queue of the laws about what is left; what is left, twice. -/
namespace Vm
open PySem L2
open PyProof.Rows hiding St
variable {Γ : Cf}
theorem zip_items : ∀ (xs : List Str) (ys : List Int), ((xs.map D.str).zip (ys.map D.int)).map (fun p => D.tup [p.1, p.2]) = (xs.zip ys).map fun p => D.tup [.str p.1, .int p.2]
  | [], ys => by simp
  | x :: xs, [] => by simp
  | x :: xs, y :: ys => by
    have := zip_items xs ys
    simp only [List.map_cons, List.zip_cons_cons]
    rw [this]
theorem sQueue2_v {ns : List Int} {cc cn cr : Nat} (hio : Γ.io = []) (hc : CellS (Γ.call cc)) (hn : NamesS (Γ.call cn)) (hr : RowS (Γ.call cr)) :
    ∃ q, QOk q ∧ ∃ env, evSs Γ (sQueue2 cc cn cr) [some (false, dI ns), none, none, none, none, none, none] = .ret true (.lst true (q.map tk)) env := by
  have big := sizeBig
  have s2 : 2 ≤ sizeLine := by omega
  have e1 := hc ns 1 (by omega)
  have e3 := hc ns 3 (by omega)
  obtain ⟨us, lu, bu, eu⟩ := hr ns 1 88 1 (by omega) (by omega) (by omega) (by omega) (by omega)
  obtain ⟨x, hx⟩ : ∃ x, us = [x] := by
    cases us with
    | nil => simp at lu
    | cons x r =>
      cases r with
      | nil => exact ⟨x, rfl⟩
      | cons y r => simp at lu; omega
  subst hx
  have main : ∀ (many size : Int), 0 ≤ many → many ≤ 60 → 0 < size → size ≤ 20 → ∃ q, QOk q ∧ ∃ (xs : List Str) (ys : List Int), Γ.call cr [(false, dI ns), (false, .int 2), (false, .int size), (false, .int many)] = .ok true (.lst true (ys.map .int)) [none, none, none, none] ∧
      Γ.call cn [(false, .int (cellV ns 3)), (false, .int many)] = .ok true (.lst true (xs.map .str)) [none, none] ∧
      lcRun (evE Γ (sQueue2_e1 cc cn cr)) (fun x => (some true, x)) (.tup [.nm 5, .nm 6]) [5, 6] ((xs.zip ys).map fun p => D.tup [.str p.1, .int p.2]) [some (false, dI ns), some (false, .int x), some (false, .int many), some (false, .int size), some (false, dI ys), none, none] =
        .ok (.v true (.lst true (q.map tk))) [some (false, dI ns), some (false, .int x), some (false, .int many), some (false, .int size), some (false, dI ys), none, none] := by
    intro many size h1 h2 h3 h4
    obtain ⟨ys, ly, by_, ey⟩ := hr ns 2 size many (by omega) h3 (by omega) h1 (by omega)
    obtain ⟨xs, lx, bx, ex⟩ := hn (cellV ns 3) many h1 (by omega)
    have lz : (xs.zip ys).length ≤ 60 := by
      rw [List.length_zip]
      omega
    refine ⟨(xs.zip ys).map fun p => (p.1, 1 + p.2), ⟨by rw [List.length_map]; exact lz, fun p m => ?_⟩, xs, ys, ey, ex, ?_⟩
    · obtain ⟨p0, hp, rfl⟩ := List.mem_map.mp m
      obtain ⟨m1, m2⟩ := List.of_mem_zip hp
      have q := by_ _ m2
      exact ⟨by show 1 ≤ 1 + p0.2; omega, by show 1 + p0.2 ≤ 20; omega, bx _ m1⟩
    · have q := lcRun_map (el := evE Γ (sQueue2_e1 cc cn cr)) (c := fun x => (some true, x)) (t := .tup [.nm 5, .nm 6]) (vs := [5, 6]) (env1 := [some (false, dI ns), some (false, .int x), some (false, .int many), some (false, .int size), some (false, dI ys), none, none])
        (fun p : Str × Int => D.tup [.str p.1, .int p.2]) (fun p => tk (p.1, 1 + p.2)) (xs.zip ys) (by omega) rfl fun p m => by
          simp [sQueue2_e1, s2, tk]
      rw [q, List.map_map]
      rfl
  have b11 := emod_row (x := x) (b := 11) (by decide)
  by_cases hq : x / 11 = 7
  · have hq' : (x / 11 == 7) = true := by simpa using hq
    have b50 := emod_row (x := cellV ns 1 / 88) (b := 50) (by decide)
    obtain ⟨q, hQ, xs, ys, k1, k2, k3⟩ := main (11 + cellV ns 1 / 88 % 50) 3 (by omega) (by omega) (by omega) (by omega)
    have zi := zip_items xs ys
    exact ⟨q, hQ, by simp [sQueue2, e1, e3, eu, hq', k1, k2, zi, k3, hio]⟩
  · have hq' : (x / 11 == 7) = false := by simpa using hq
    obtain ⟨q, hQ, xs, ys, k1, k2, k3⟩ := main (x % 11) 20 b11.1 (by omega) (by omega) (by omega)
    have zi := zip_items xs ys
    exact ⟨q, hQ, by simp [sQueue2, e1, e3, eu, hq', k1, k2, zi, k3, hio]⟩
/-! ### == of dicts -/
theorem keqs_dkv {L : List (Str × Int)} (hn : (nms L).Nodup) : ∀ r : List (Str × Int), (∀ p ∈ r, p ∈ L) → keqs (deq 40) (dkv L) (dkv r) = some true
  | [], _ => rfl
  | p :: r, h => by
    have e1 : dkv (p :: r) = (Sum.inr p.1, D.int p.2) :: dkv r := rfl
    rw [e1]
    unfold keqs
    rw [kfind_dkv hn (h p (List.mem_cons_self ..)), keqs_dkv hn r fun x m => h x (List.mem_cons_of_mem _ m)]
    show (match (some (p.2 == p.2) : Option Bool), (some true : Option Bool) with
      | some a, some b => some (a && b)
      | _, _ => none) = _
    simp
theorem opEq_dkv {L : List (Str × Int)} (hn : (nms L).Nodup) (f g : Bool) : opEq (.dic f (dkv L)) (.dic g (dkv L)) = some true := by
  show (if (dkv L).length = (dkv L).length then keqs (deq 40) (dkv L) (dkv L) else some false) = _
  rw [if_pos rfl]
  exact keqs_dkv hn L fun _ m => m
@[simp] theorem dkv_items (l : List (Str × Int)) : (dkv l).map (fun p => D.tup [keyD p.1, p.2]) = l.map tk := by
  unfold dkv
  rw [List.map_map]
  rfl
theorem nfk_dkv : ∀ l : List (Str × Int), nfk (dkv l) = true
  | [] => rfl
  | p :: l => by
    have e1 : dkv (p :: l) = (Sum.inr p.1, D.int p.2) :: dkv l := rfl
    rw [e1, nfk, nfk_dkv l]
    rfl
def RightS (c : CF) : Prop := ∀ q rows turn, q.length ≤ 1000 → (∀ r ∈ rows, ∀ x ∈ r.2, x ∈ nms (dictV q)) → ∃ f, c [(false, dQ q), (false, dW rows), (false, .int turn)] = .ok f (.bl true) [none, none, none]
theorem sRight_v {q : List (Str × Int)} {rows : List (Int × List Str)} {turn : Int} {cl : Nat} (hio : Γ.io = []) (hL : LeftByS (Γ.call cl)) (hq : q.length ≤ 1000) (hr : ∀ r ∈ rows, ∀ x ∈ r.2, x ∈ nms (dictV q)) :
    ∃ f env, evSs Γ (sRight cl) [some (false, dQ q), some (false, dW rows), some (false, .int turn), none, none, none, none, none, none] = .ret f (.bl true) env := by
  have big := sizeBig
  have nd := dict_nodup q
  have ld := dict_len q
  have inner : ∀ (ns : List Str) (l : List (Str × Int)), nms l = nms (dictV q) → (∀ x ∈ ns, x ∈ nms (dictV q)) →
      forL (evSs Γ (sRight_l2 cl)) (tgSet [] (.nm 6)) [4, 5, 6, 7, 8] (ns.map .str) [some (false, dQ q), some (false, dW rows), some (false, .int turn), some (true, .dic true (dkv l)), none, none, none, none, none] = .next [some (false, dQ q), some (false, dW rows), some (false, .int turn), some (true, .dic true (dkv (ns.foldl decr l))), none, none, none, none, none] := fun ns l h0 hx => by
    have key := forL_fold (α := List (Str × Int)) (β := Str) (b := evSs Γ (sRight_l2 cl)) (set := tgSet [] (.nm 6)) (vs := [4, 5, 6, 7, 8])
      (fun s => [some (false, dQ q), some (false, dW rows), some (false, .int turn), some (true, .dic true (dkv s)), none, none, none, none, none]) .str decr (fun _ s => nms s = nms (dictV q)) ns 0 l h0 fun i s x hi h1 => by
        have hm := hx x (List.mem_of_getElem? hi)
        obtain ⟨v, e1, e2⟩ := dec_at (l := s) (by rw [h1]; exact nd) (by rw [h1]; exact hm)
        have zl : s.length < sizeLine := by
          have := congrArg List.length h1
          rw [nms_len, nms_len] at this
          omega
        refine ⟨by rw [nms_decr]; exact h1, ?_⟩
        simp [sRight_l2, hio, e1, e2, zl]
    exact key.1
  have key := forL_fold (α := List (Str × Int)) (β := Int × List Str) (b := evSs Γ (sRight_l1 cl)) (set := tgSet [] (.tup [.nm 4, .nm 5])) (vs := [4, 5, 6, 7, 8])
    (fun s => [some (false, dQ q), some (false, dW rows), some (false, .int turn), some (true, .dic true (dkv s)), none, none, none, none, none]) rw_ (fun l r => if r.1 ≤ turn then r.2.foldl decr l else l) (fun _ s => nms s = nms (dictV q)) rows 0 (dictV q) rfl fun i s r hi h1 => by
      have hm := hr r (List.mem_of_getElem? hi)
      by_cases h : r.1 ≤ turn
      · rw [if_pos h]
        have e := inner r.2 s h1 hm
        refine ⟨by rw [nms_fold]; exact h1, ?_⟩
        simp [sRight_l1, rw_, hio, h, e]
      · rw [if_neg h]
        refine ⟨h1, ?_⟩
        simp [sRight_l1, rw_, hio, h]
  have k1 := key.1
  have d1 := dict1_tk false q
  simp only [opBF] at d1
  have eL := hL q rows turn (by omega) hr
  have nL : nms (leftV q rows turn) = nms (dictV q) := nms_left q rows turn
  have eX : rows.foldl (fun l r => if r.1 ≤ turn then r.2.foldl decr l else l) (dictV q) = leftV q rows turn := rfl
  rw [eX] at k1
  have lL : (leftV q rows turn).length ≤ 1000 := by
    have := congrArg List.length nL
    rw [nms_len, nms_len] at this
    omega
  generalize leftV q rows turn = L at *
  have ndL : (nms L).Nodup := by rw [nL]; exact nd
  have eI := eq_dQ L false false
  have k2 := lcRun_fm (el := evE Γ (sRight_e1 cl)) (c := evC Γ (.some (sRight_e2 cl))) (t := .nm 8) (vs := [8])
    (env1 := [some (false, dQ q), some (false, dW rows), some (false, .int turn), some (false, .dic false (dkv L)), none, none, none, some (false, .dic false (dkv L)), none])
    (fun p : Str × Int => .int p.2) (fun _ => false) (fun p => .int p.2) L (by omega) rfl fun p m => by
      simp [sRight_e1, sRight_e2]
  have ff : L.filter (fun _ => false) = [] := List.filter_eq_nil_iff.mpr fun _ _ => by simp
  rw [ff] at k2
  simp only [evC] at k2
  obtain ⟨env', k3, L', he, hl'⟩ := forL_inv (b := evSs Γ (sRight_l3 cl)) (set := tgSet [] (.nm 6)) (vs := [4, 5, 6, 8]) (fun p : Str × Int => .str p.1)
    (fun i env => ∃ L' : List (Str × Int), env = [some (false, dQ q), some (false, dW rows), some (false, .int turn), some (true, .dic true (dkv L)), none, none, none, some (true, .dic true (dkv L')), none] ∧ L'.length ≤ 1000 + i)
    L 0 _ ⟨L, rfl, by omega⟩ fun i env p hp ⟨L', he, hl'⟩ => by
      subst he
      have hi := (List.getElem?_eq_some_iff.mp hp).1
      have zl : L'.length < sizeLine := by omega
      refine ⟨[some (false, dQ q), some (false, dW rows), some (false, .int turn), some (true, .dic true (dkv L)), none, none, some (false, .str p.1), some (true, .dic true (dkv L')), none], [some (false, dQ q), some (false, dW rows), some (false, .int turn), some (true, .dic true (dkv L)), none, none, some (false, .str p.1), some (true, .dic true (dkv (dputV L' p.1 99))), none], by simp, .inl ?_, dputV L' p.1 99, by simp, ?_⟩
      · have e2 := kput_dkv L' p.1 99
        simp [sRight_l3, hio, e2, zl]
      · have := congrArg List.length (nms_dput L' p.1 99)
        rw [nms_len] at this
        rw [this]
        split
        · rw [nms_len]; omega
        · rw [List.length_append, nms_len, List.length_singleton]; omega
  subst he
  have eD := opEq_dkv ndL false false
  have nfL : nfc (.dic true (dkv L)) = true := nfk_dkv L
  refine ⟨false, ?_⟩
  simp [sRight, hio, d1, k1, eL, eI, k2, nfL, k3, eD]
end Vm
/-! Vm: runs of the program, latest turns, waits. -/
namespace Vm
open PySem L2
open PyProof.Rows hiding St
variable {Γ : Cf}
/-! run_of, slots: 0 queue, 1 hours, 2 begin, 3 real, 4 some, 5 rows, 6 turn, 7 names -/
def sRunOf_e1 (c_Hours_at c_turn_served : Nat) : E := .cmp .ne (.var 4) (.lst .nil)
def sRunOf_l1 (c_Hours_at c_turn_served : Nat) : Ss := .cons (.asgt (.tup [.nm 7, .nm 4]) (.call c_turn_served (.cons (.var 4) (.cons (.meth 0 c_Hours_at (.var 1) (.cons (.var 6) .nil)) .nil)))) (.cons (.mut .append 5 [] (.cons (.tup (.cons (.var 6) (.cons (.var 7) .nil))) .nil)) (.cons (.aug .add 6 (.int 1)) .nil))
def sRunOf (c_Hours_at c_turn_served : Nat) : Ss := .cons (.asg false 4 (.bcall .list1 (.cons (.var 0) .nil))) (.cons (.ife (.notN (.var 3)) (.cons (.dead) .nil) (.nil)) (.cons (.asg true 5 (.lst .nil)) (.cons (.asg false 6 (.var 2)) (.cons (.whl (sRunOf_e1 c_Hours_at c_turn_served) (sRunOf_l1 c_Hours_at c_turn_served) [0, 2, 3, 7]) (.cons (.ret (.some (.mv 5))) .nil)))))
/-! ends_of, slots: 0 rows, 1 found, 2 turn, 3 names, 4 name -/
def sEndsOf_l2 : Ss := .cons (.asgs 1 (.var 4) (.var 2)) .nil
def sEndsOf_l1 : Ss := .cons (.for (.nm 4) (.seq (.var 3)) (sEndsOf_l2) [0, 3, 4]) .nil
def sEndsOf : Ss := .cons (.asg true 1 (.dsp .nil)) (.cons (.for (.tup [.nm 2, .nm 3]) (.seq (.var 0)) (sEndsOf_l1) [0, 2, 3, 4]) (.cons (.ret (.some (.mv 1))) .nil))
/-! latest_all, slots: 0 queue, 1 hours, 2 begin -/
def sLatestAll (c_ends_of c_run_of : Nat) : Ss := .cons (.ret (.some (.call c_ends_of (.cons (.call c_run_of (.cons (.var 0) (.cons (.var 1) (.cons (.var 2) (.cons (.non) .nil))))) .nil)))) .nil
/-! latest_of, slots: 0 queue, 1 hours, 2 begin, 3 name, 4 found -/
def sLatestOf (c_latest_all : Nat) : Ss := .cons (.asg false 4 (.call c_latest_all (.cons (.var 0) (.cons (.var 1) (.cons (.var 2) .nil))))) (.cons (.ife (.cmp .notin (.var 3) (.var 4)) (.cons (.dead) .nil) (.nil)) (.cons (.ret (.some (.idx (.var 4) (.var 3)))) .nil))
/-! waits_of, slots: 0 queue, 1 hours, 2 begin, 3 name, 4 latest, 5 found, 6 turn, 7 names -/
def sWaitsOf_l1 (c_latest_of c_run_of : Nat) : Ss := .cons (.ife (.cmp .gt (.var 6) (.var 4)) (.cons (.brk) .nil) (.nil)) (.cons (.ife (.cmp .notin (.var 3) (.var 7)) (.cons (.mut .append 5 [] (.cons (.tup (.cons (.var 6) (.cons (.var 7) .nil))) .nil)) .nil) (.nil)) .nil)
def sWaitsOf (c_latest_of c_run_of : Nat) : Ss := .cons (.asg false 4 (.call c_latest_of (.cons (.var 0) (.cons (.var 1) (.cons (.var 2) (.cons (.var 3) .nil)))))) (.cons (.asg true 5 (.lst .nil)) (.cons (.for (.tup [.nm 6, .nm 7]) (.seq (.call c_run_of (.cons (.var 0) (.cons (.var 1) (.cons (.var 2) (.cons (.non) .nil)))))) (sWaitsOf_l1 c_latest_of c_run_of) [0, 1, 2, 6, 7]) (.cons (.ret (.some (.mv 5))) .nil)))
/-! shows_why, slots: 0 queue, 1 hours, 2 begin, 3 name, 4 rows -/
def sShowsWhy (c_waits_of : Nat) : Ss := .cons (.ret (.some (.cmp .eq (.var 4) (.call c_waits_of (.cons (.var 0) (.cons (.var 1) (.cons (.var 2) (.cons (.var 3) .nil)))))))) .nil
/-! _law_due, slots: 0 _law_queue, 1 _law_run_here, 2 _law_name, 3 _law_waits, 4 _law_left, 5 _law_turn, 6 _law_names_here -/
def sDue2_l1 : Ss := .cons (.ife (.and (.cons (.cmp .gt (.var 4) (.int 0)) (.cons (.cmp .isin (.var 2) (.var 6)) .nil))) (.cons (.asg false 4 (.bin .sub (.var 4) (.int 1))) .nil) (.cons (.ife (.cmp .gt (.var 4) (.int 0)) (.cons (.mut .append 3 [] (.cons (.tup (.cons (.var 5) (.cons (.var 6) .nil))) .nil)) .nil) (.nil)) .nil)) .nil
def sDue2 : Ss := .cons (.asg true 3 (.lst .nil)) (.cons (.asg false 4 (.idx (.bcall .dict1 (.cons (.var 0) .nil)) (.var 2))) (.cons (.for (.tup [.nm 5, .nm 6]) (.seq (.var 1)) (sDue2_l1) [0, 1, 5, 6]) (.cons (.ret (.some (.mv 3))) .nil)))
/-! _law_named, slots: 0 _law_row_here, 1 _law_names_here, 2 _law_cell_here, 3 _law_turn, 4 _law_some, 5 _law_place, 6 _law_other -/
def sNamed : Ss := .cons (.asgt (.tup [.nm 3, .nm 4]) (.var 0)) (.cons (.asg false 5 (.bin .mod (.bin .fdiv (.var 2) (.int 5)) (.bin .add (.bcall .len (.cons (.var 4) .nil)) (.int 1)))) (.cons (.asg false 6 (.idx (.var 1) (.bin .mod (.bin .fdiv (.var 2) (.int 60)) (.bcall .len (.cons (.var 1) .nil))))) (.cons (.ife (.cmp .eq (.bin .mod (.var 2) (.int 5)) (.int 0)) (.cons (.ret (.some (.tup (.cons (.var 3) (.cons (.bin .add (.slc (.var 4) .none (.some (.var 5))) (.slc (.var 4) (.some (.bin .add (.var 5) (.int 1))) .none)) .nil))))) .nil) (.nil)) (.cons (.ife (.cmp .eq (.bin .mod (.var 2) (.int 5)) (.int 1)) (.cons (.ret (.some (.tup (.cons (.var 3) (.cons (.bin .add (.bin .add (.slc (.var 4) .none (.some (.var 5))) (.lst (.cons (.var 6) .nil))) (.slc (.var 4) (.some (.var 5)) .none)) .nil))))) .nil) (.nil)) (.cons (.ife (.cmp .eq (.bin .mod (.var 2) (.int 5)) (.int 2)) (.cons (.ret (.some (.tup (.cons (.var 3) (.cons (.bin .add (.bin .add (.slc (.var 4) .none (.some (.var 5))) (.lst (.cons (.var 6) .nil))) (.slc (.var 4) (.some (.bin .add (.var 5) (.int 1))) .none)) .nil))))) .nil) (.nil)) (.cons (.ife (.cmp .eq (.bin .mod (.var 2) (.int 5)) (.int 3)) (.cons (.ret (.some (.tup (.cons (.var 3) (.cons (.bmeth .rev (.var 4) .nil) .nil))))) .nil) (.nil)) (.cons (.ret (.some (.tup (.cons (.bin .sub (.bin .add (.var 3) (.bin .mod (.bin .fdiv (.var 2) (.int 5)) (.int 5))) (.int 2)) (.cons (.var 4) .nil))))) .nil)))))))
/-! _law_spoilt, slots: 0 _law_rows, 1 _law_names_here, 2 _law_cell_here, 3 _law_way, 4 _law_place, 5 _law_turned, 6 _law_row_here -/
def sSpoilt3 (c_law_named : Nat) : Ss := .cons (.asg false 3 (.bin .mod (.var 2) (.int 6))) (.cons (.asg false 2 (.bin .fdiv (.var 2) (.int 6))) (.cons (.ife (.cmp .eq (.var 3) (.int 0)) (.cons (.ret (.some (.bin .add (.var 0) (.lst (.cons (.tup (.cons (.bin .mod (.var 2) (.int 60)) (.cons (.slc (.var 1) .none (.some (.bin .mod (.bin .fdiv (.var 2) (.int 60)) (.int 3)))) .nil))) .nil))))) .nil) (.nil)) (.cons (.ife (.cmp .eq (.var 0) (.lst .nil)) (.cons (.ret (.some (.var 0))) .nil) (.nil)) (.cons (.asg false 4 (.bin .mod (.var 2) (.bcall .len (.cons (.var 0) .nil)))) (.cons (.asg false 2 (.bin .fdiv (.var 2) (.bcall .len (.cons (.var 0) .nil)))) (.cons (.ife (.cmp .eq (.var 3) (.int 1)) (.cons (.ret (.some (.bin .add (.slc (.var 0) .none (.some (.var 4))) (.slc (.var 0) (.some (.bin .add (.var 4) (.int 1))) .none)))) .nil) (.nil)) (.cons (.ife (.cmp .eq (.var 3) (.int 2)) (.cons (.ret (.some (.bin .add (.slc (.var 0) .none (.some (.bin .add (.var 4) (.int 1)))) (.slc (.var 0) (.some (.var 4)) .none)))) .nil) (.nil)) (.cons (.ife (.cmp .eq (.var 3) (.int 3)) (.cons (.asg false 5 (.bmeth .rev (.slc (.var 0) (.some (.var 4)) (.some (.bin .add (.var 4) (.int 2)))) .nil)) (.cons (.ret (.some (.bin .add (.bin .add (.slc (.var 0) .none (.some (.var 4))) (.var 5)) (.slc (.var 0) (.some (.bin .add (.var 4) (.int 2))) .none)))) .nil)) (.nil)) (.cons (.ife (.cmp .eq (.var 3) (.int 4)) (.cons (.asg false 6 (.call c_law_named (.cons (.idx (.var 0) (.var 4)) (.cons (.var 1) (.cons (.var 2) .nil))))) (.cons (.ret (.some (.bin .add (.bin .add (.slc (.var 0) .none (.some (.var 4))) (.lst (.cons (.var 6) .nil))) (.slc (.var 0) (.some (.bin .add (.var 4) (.int 1))) .none)))) .nil)) (.nil)) (.cons (.asg false 6 (.call c_law_named (.cons (.idx (.var 0) (.var 4)) (.cons (.var 1) (.cons (.var 2) .nil))))) (.cons (.asg false 6 (.call c_law_named (.cons (.var 6) (.cons (.var 1) (.cons (.bin .fdiv (.var 2) (.int 7)) .nil))))) (.cons (.ret (.some (.bin .add (.bin .add (.slc (.var 0) .none (.some (.var 4))) (.lst (.cons (.var 6) .nil))) (.slc (.var 0) (.some (.bin .add (.var 4) (.int 1))) .none)))) .nil))))))))))))
/-! ### statements one behind the other -/
def takeN : Nat → Ss → Ss
  | n + 1, .cons s t => .cons s (takeN n t)
  | _, _ => .nil
def dropN : Nat → Ss → Ss
  | n + 1, .cons _ t => dropN n t
  | 0, s => s
  | _, .nil => .nil
theorem SR_assoc (r : SR) (k1 k2 : EnvD → SR) : (r.bind k1).bind k2 = r.bind fun e => (k1 e).bind k2 := by cases r <;> rfl
theorem ev_split (Γ : Cf) : ∀ (n : Nat) (ss : Ss) (env : EnvD), evSs Γ ss env = (evSs Γ (takeN n ss) env).bind (evSs Γ (dropN n ss))
  | 0, ss, env => by
    cases ss <;> simp [takeN, dropN]
  | n + 1, .nil, env => by simp [takeN, dropN]
  | n + 1, .cons s t, env => by
    show (evS Γ s env).bind (evSs Γ t) = ((evS Γ s env).bind (evSs Γ (takeN n t))).bind (evSs Γ (dropN n t))
    rw [SR_assoc]
    congr 1
    funext e
    exact ev_split Γ n t e
/-- a for over what goes first, then over the rest -/
theorem forL_foldA {α β : Type} {b : EnvD → SR} {set : D → EnvD → Option EnvD} {vs : List Nat} (enc : α → EnvD) (it : β → D) (step : α → β → α) (Inv : Nat → α → Prop) (ys : List D) :
    ∀ (xs : List β) (k : Nat) (s : α), Inv k s → (∀ i s x, xs[i]? = some x → Inv (k + i) s → Inv (k + i + 1) (step s x) ∧ ∃ env1 env2, set (it x) (enc s) = some env1 ∧ (b env1 = .next env2 ∨ b env1 = .cnt env2) ∧ kill vs env2 = enc (step s x)) →
      forL b set vs (xs.map it ++ ys) (enc s) = forL b set vs ys (enc (xs.foldl step s)) ∧ Inv (k + xs.length) (xs.foldl step s)
  | [], k, s, h0, _ => ⟨rfl, h0⟩
  | x :: xs, k, s, h0, h => by
    obtain ⟨i1, env1, env2, e1, e2, e3⟩ := h 0 s x rfl h0
    have ih := forL_foldA enc it step Inv ys xs (k + 1) (step s x) i1 fun i s y e hi => by
      have q := h (i + 1) s y (by simpa using e) (by rw [show k + (i + 1) = k + 1 + i by omega]; exact hi)
      rw [show k + (i + 1) = k + 1 + i by omega] at q
      exact q
    rw [List.map_cons, List.foldl_cons, List.length_cons, show k + (xs.length + 1) = k + 1 + xs.length by omega]
    refine ⟨?_, ih.2⟩
    rw [← ih.1, List.cons_append]
    conv => lhs; unfold forL
    rw [e1]
    dsimp only
    rcases e2 with e2 | e2 <;> rw [e2] <;> dsimp only <;> rw [e3]
/-! ### the program's run -/
def RunOfS (c : CF) : Prop := ∀ l rest b q, HOk l rest → QOk q → 0 ≤ b → ∃ rs : List (Int × List Str), IsRun l rest b q rs ∧ rs.length ≤ 10000 ∧ c [(false, dQ q), (false, insH l rest), (false, .int b), (false, .non)] = .ok true (.lst true (rs.map rw_)) [none, none, none, none]
theorem sRunOf_v {l : List (Int × Int)} {rest b : Int} {q : List (Str × Int)} {ca ct : Nat} (hio : Γ.io = []) (hw : Γ.wf = 5000) (ha : AtS (Γ.call ca)) (ht : TurnS (Γ.call ct)) (hl : HOk l rest) (hq : QOk q) (hb : 0 ≤ b) :
    ∃ rs : List (Int × List Str), IsRun l rest b q rs ∧ rs.length ≤ 10000 ∧ ∃ env, evSs Γ (sRunOf ca ct) [some (false, dQ q), some (false, insH l rest), some (false, .int b), some (false, .non), none, none, none, none] = .ret true (.lst true (rs.map rw_)) env := by
  have big := sizeBig
  have s2 : 2 ≤ sizeLine := by omega
  have hln : LN l rest := ⟨fun p m => by have := (hl.2.1 p m).1; omega, fun p m => (hl.2.1 p m).2.2.1, by have := hl.2.2.1; omega⟩
  have hnn : NN l := hln.1
  have hq0 : QG q := ⟨hq.1, fun p m => (hq.2 p m).1⟩
  have tq : tot q ≤ 1200 := by
    have : ∀ q : List (Str × Int), (∀ p ∈ q, p.2 ≤ 20) → tot q ≤ 20 * q.length := by
      intro q
      induction q with
      | nil => exact fun _ => by simp [tot]
      | cons p q ih =>
        intro h
        have h1 := ih fun x hx => h x (List.mem_cons_of_mem _ hx)
        have h2 := h p (List.mem_cons_self ..)
        have e2 : tot (p :: q) = p.2 + tot q := by
          unfold tot
          simp
        rw [e2, List.length_cons]
        push_cast
        omega
    have := this q fun p m => (hq.2 p m).2.1
    have := hq.1
    omega
  have tl : sumT l ≤ 1600 := by
    have : ∀ l : List (Int × Int), (∀ p ∈ l, p.1 ≤ 100) → sumT l ≤ 100 * l.length := by
      intro l
      induction l with
      | nil => exact fun _ => by simp [sumT]
      | cons p q ih =>
        intro h
        have h1 := ih fun x hx => h x (List.mem_cons_of_mem _ hx)
        have h2 := h p (List.mem_cons_self ..)
        have e2 : sumT (p :: q) = p.1 + sumT q := by
          unfold sumT
          simp
        rw [e2, List.length_cons]
        push_cast
        omega
    have := this l fun p m => (hl.2.1 p m).2.1
    have := hl.1
    omega
  obtain ⟨s, ⟨i1, i2, i3, i5⟩, hd, ew⟩ := whlL_meas (α := List (Int × List Str) × List (Str × Int) × Int) (c := evE Γ (sRunOf_e1 ca ct)) (b := evSs Γ (sRunOf_l1 ca ct)) (vs := [0, 2, 3, 7])
    (fun s => [none, some (false, insH l rest), none, none, some (false, dQ s.2.1), some (true, .lst true (s.1.map rw_)), some (false, .int s.2.2), none]) (fun s => decide (s.2.1 = []))
    (fun s => (s.1 ++ [(s.2.2, servedV s.2.1 (lawAt l rest s.2.2).toNat)], behindV s.2.1 (lawAt l rest s.2.2).toNat, s.2.2 + 1))
    (fun s => QG s.2.1 ∧ 0 ≤ s.2.2 ∧ s.1.length + ((sumT l - s.2.2).toNat + (tot s.2.1).toNat) ≤ 4000 ∧ ∀ rs', IsRun l rest s.2.2 s.2.1 rs' → IsRun l rest b q (s.1 ++ rs')) (fun s => (sumT l - s.2.2).toNat + (tot s.2.1).toNat)
    (fun s hi => by
      refine ⟨false, ?_⟩
      by_cases h : s.2.1 = []
      · simp [sRunOf_e1, h]
      · simp [sRunOf_e1, h])
    (fun s ⟨h1, h2, h3, h6⟩ hd => by
      have hne : s.2.1 ≠ [] := of_decide_eq_false hd
      have en := lawAt_nn l rest s.2.2 hln.2.1 hln.2.2
      have em : ((lawAt l rest s.2.2).toNat : Int) = lawAt l rest s.2.2 := Int.toNat_of_nonneg en
      have e1 := ha l rest s.2.2 hnn h2
      have e2 := ht s.2.1 (lawAt l rest s.2.2).toNat h1
      rw [em] at e2
      have tb := tot_behind s.2.1 (lawAt l rest s.2.2).toNat h1.2
      have t0 := tot_nn _ (behind_g (m := (lawAt l rest s.2.2).toNat) h1).2
      have len0 : 0 < s.2.1.length := List.length_pos_iff.mpr hne
      have dec1 : (sumT l - (s.2.2 + 1)).toNat + (tot (behindV s.2.1 (lawAt l rest s.2.2).toNat)).toNat < (sumT l - s.2.2).toNat + (tot s.2.1).toNat := by
        by_cases hlt : s.2.2 < sumT l
        · omega
        · have el := late_at l rest s.2.2 hnn (by omega)
          have hr := hl.2.2.1
          have hm : 1 ≤ (lawAt l rest s.2.2).toNat := by
            rw [el]
            omega
          omega
      have z1 : s.1.length < sizeLine := by omega
      refine ⟨⟨behind_g h1, by dsimp only; omega, ?_, fun rs' hr => ?_⟩, dec1, ?_⟩
      · dsimp only
        rw [List.length_append, List.length_singleton]
        omega
      · have q := h6 ((s.2.2, servedV s.2.1 (lawAt l rest s.2.2).toNat) :: rs') ⟨hne, rfl, hr⟩
        simpa using q
      · have er : rw_ (s.2.2, servedV s.2.1 (lawAt l rest s.2.2).toNat) = .tup [.int s.2.2, dS (servedV s.2.1 (lawAt l rest s.2.2).toNat)] := rfl
        simp [sRunOf_l1, e1, e2, hio, z1, s2, er])
    5000 ([], q, b) ⟨hq0, hb, by simp; omega, fun _ h => h⟩ (by dsimp only; omega)
  have hd' : s.2.1 = [] := of_decide_eq_true hd
  refine ⟨s.1, by simpa using i5 [] hd', by omega, ?_⟩
  dsimp only at ew
  simp only [List.map_nil] at ew
  simp [sRunOf, hio, hw, ew]
theorem run_one {l : List (Int × Int)} {rest : Int} : ∀ (rs rs' : List (Int × List Str)) (b : Int) (q : List (Str × Int)), IsRun l rest b q rs → IsRun l rest b q rs' → rs = rs'
  | [], [], _, _, _, _ => rfl
  | [], _ :: _, _, _, h, h' => absurd h h'.1
  | _ :: _, [], _, _, h, h' => absurd h' h.1
  | r :: rs, r' :: rs', b, q, h, h' => by
    rw [h.2.1, h'.2.1, run_one rs rs' _ _ h.2.2 h'.2.2]
/-! ### the last turns -/
def dgetV (d : List (Str × Int)) (x : Str) : Option Int := (d.find? fun p => decide (p.1 = x)).map (·.2)
theorem kfind_get (d : List (Str × Int)) (x : Str) : kfind (dkv d) (.inr x) = (dgetV d x).map .int := by
  induction d with
  | nil => rfl
  | cons a d ih =>
    have e1 : dkv (a :: d) = (Sum.inr a.1, D.int a.2) :: dkv d := rfl
    unfold kfind dgetV at *
    rw [e1]
    by_cases h : a.1 = x
    · rw [List.find?_cons_of_pos (by simp [h]), List.find?_cons_of_pos (by simp [h])]
      rfl
    · have ne : ¬ ((Sum.inr a.1 : Key) = Sum.inr x) := fun e => h (Sum.inr.inj e)
      rw [List.find?_cons_of_neg (by simpa using ne), List.find?_cons_of_neg (by simpa using h)]
      exact ih
theorem get_cons (a : Str × Int) (d : List (Str × Int)) (x : Str) : dgetV (a :: d) x = if a.1 = x then some a.2 else dgetV d x := by
  unfold dgetV
  by_cases h : a.1 = x
  · rw [List.find?_cons_of_pos (by simpa using h), if_pos h]
    rfl
  · rw [List.find?_cons_of_neg (by simpa using h), if_neg h]
theorem get_none {d : List (Str × Int)} {x : Str} (h : x ∉ nms d) : dgetV d x = none := by
  induction d with
  | nil => rfl
  | cons a d ih =>
    have h' : x ≠ a.1 ∧ x ∉ nms d := by simpa [nms] using h
    rw [get_cons, if_neg fun e => h'.1 e.symm]
    exact ih h'.2
theorem get_map (d : List (Str × Int)) (x y : Str) (v : Int) : dgetV (d.map fun p => if p.1 = x then (p.1, v) else p) y = if y = x ∧ x ∈ nms d then some v else dgetV d y := by
  induction d with
  | nil => simp [dgetV, nms]
  | cons a d ih =>
    have e2 : nms (a :: d) = a.1 :: nms d := rfl
    rw [List.map_cons, get_cons, get_cons, ih, e2]
    by_cases h : a.1 = x
    · rw [if_pos h]
      subst h
      by_cases g : a.1 = y
      · rw [if_pos g, if_pos ⟨g.symm, List.mem_cons_self ..⟩]
      · rw [if_neg g, if_neg fun e => g e.1.symm, if_neg fun e => g e.1.symm, if_neg g]
    · rw [if_neg h]
      by_cases g : a.1 = y
      · rw [if_pos g, if_neg fun e => h (g.trans e.1), if_pos g]
      · rw [if_neg g]
        by_cases k : y = x ∧ x ∈ nms d
        · rw [if_pos k, if_pos ⟨k.1, List.mem_cons_of_mem _ k.2⟩]
        · rw [if_neg k, if_neg fun e => k ⟨e.1, (List.mem_cons.mp e.2).elim (fun q => absurd q.symm h) id⟩, if_neg g]
theorem get_app (d : List (Str × Int)) (x y : Str) (v : Int) (h : x ∉ nms d) : dgetV (d ++ [(x, v)]) y = if y = x then some v else dgetV d y := by
  induction d with
  | nil =>
    rw [List.nil_append, get_cons]
    by_cases e : y = x
    · rw [if_pos e, if_pos e.symm]
    · rw [if_neg e, if_neg fun q => e q.symm]
  | cons a d ih =>
    have h' : x ≠ a.1 ∧ x ∉ nms d := by simpa [nms] using h
    rw [List.cons_append, get_cons, get_cons, ih h'.2]
    by_cases g : a.1 = y
    · rw [if_pos g, if_pos g, if_neg fun e => h'.1 (e.symm.trans g.symm)]
    · rw [if_neg g, if_neg g]
theorem get_put (d : List (Str × Int)) (x y : Str) (v : Int) : dgetV (dputV d x v) y = if y = x then some v else dgetV d y := by
  unfold dputV
  by_cases hm : x ∈ nms d
  · rw [if_pos hm, get_map]
    by_cases e : y = x
    · rw [if_pos e, if_pos ⟨e, hm⟩]
    · rw [if_neg e, if_neg fun q => e q.1]
  · rw [if_neg hm, get_app _ _ _ _ hm]
theorem put_len (l : List (Str × Int)) (n : Str) (v : Int) : (dputV l n v).length ≤ l.length + 1 := by
  have := congrArg List.length (nms_dput l n v)
  rw [nms_len] at this
  rw [this]
  split
  · rw [nms_len]; omega
  · rw [List.length_append, nms_len, List.length_singleton]; omega
def rowE (d : List (Str × Int)) (r : Int × List Str) : List (Str × Int) := r.2.foldl (fun d x => dputV d x r.1) d
def endsV (rows : List (Int × List Str)) : List (Str × Int) := rows.foldl rowE []
theorem get_row (t : Int) (y : Str) : ∀ (ns : List Str) (d : List (Str × Int)), dgetV (ns.foldl (fun d x => dputV d x t) d) y = if y ∈ ns then some t else dgetV d y
  | [], d => by simp
  | x :: ns, d => by
    rw [List.foldl_cons, get_row t y ns, get_put]
    by_cases h : y ∈ ns
    · rw [if_pos h, if_pos (List.mem_cons_of_mem _ h)]
    · rw [if_neg h]
      by_cases e : y = x
      · rw [if_pos e, if_pos (by rw [e]; exact List.mem_cons_self ..)]
      · rw [if_neg e, if_neg fun m => (List.mem_cons.mp m).elim e h]
theorem get_rest (y : Str) : ∀ (rows : List (Int × List Str)) (d : List (Str × Int)), (∀ r ∈ rows, y ∉ r.2) → dgetV (rows.foldl rowE d) y = dgetV d y
  | [], d, _ => rfl
  | r :: rows, d, h => by
    rw [List.foldl_cons, get_rest y rows _ fun r' m => h r' (List.mem_cons_of_mem _ m)]
    unfold rowE
    rw [get_row, if_neg (h r (List.mem_cons_self ..))]
theorem ends_at {a t : List (Int × List Str)} {r : Int × List Str} {x : Str} (h1 : x ∈ r.2) (h2 : ∀ r' ∈ t, x ∉ r'.2) : dgetV (endsV (a ++ r :: t)) x = some r.1 := by
  unfold endsV
  rw [List.foldl_append, List.foldl_cons, get_rest x t _ h2]
  unfold rowE
  rw [get_row, if_pos h1]
theorem ends_none {rows : List (Int × List Str)} {x : Str} (h : ∀ r ∈ rows, x ∉ r.2) : dgetV (endsV rows) x = none := by
  unfold endsV
  rw [get_rest x rows _ h]
  rfl
theorem row_len (t : Int) : ∀ (ns : List Str) (d : List (Str × Int)), (ns.foldl (fun d x => dputV d x t) d).length ≤ d.length + ns.length
  | [], d => Nat.le_refl _
  | x :: ns, d => by
    rw [List.foldl_cons, List.length_cons]
    have := row_len t ns (dputV d x t)
    have := put_len d x t
    omega
def EndsOfS (c : CF) : Prop := ∀ rows : List (Int × List Str), rows.length ≤ 10000 → (∀ r ∈ rows, r.2.length ≤ 60) → c [(false, dW rows)] = .ok true (.dic true (dkv (endsV rows))) [none]
theorem sEndsOf_v {rows : List (Int × List Str)} (hio : Γ.io = []) (hr : rows.length ≤ 10000) (hn : ∀ r ∈ rows, r.2.length ≤ 60) : ∃ env, evSs Γ sEndsOf [some (false, dW rows), none, none, none, none] = .ret true (.dic true (dkv (endsV rows))) env := by
  have big := sizeBig
  have key := forL_fold (α := List (Str × Int)) (β := Int × List Str) (b := evSs Γ sEndsOf_l1) (set := tgSet [] (.tup [.nm 2, .nm 3])) (vs := [0, 2, 3, 4])
    (fun d => [none, some (true, .dic true (dkv d)), none, none, none]) rw_ rowE (fun i d => d.length ≤ 60 * i) rows 0 [] (Nat.le_refl _) fun i d r hi h1 => by
      have hm := hn r (List.mem_of_getElem? hi)
      have hi' := (List.getElem?_eq_some_iff.mp hi).1
      have k := forL_fold (α := List (Str × Int)) (β := Str) (b := evSs Γ sEndsOf_l2) (set := tgSet [] (.nm 4)) (vs := [0, 3, 4])
        (fun d => [none, some (true, .dic true (dkv d)), some (false, .int r.1), none, none]) .str (fun d x => dputV d x r.1) (fun j d' => d'.length ≤ 60 * i + j) r.2 0 d (by omega) fun j d' x hj h2 => by
          have hj' := (List.getElem?_eq_some_iff.mp hj).1
          have zl : d'.length < sizeLine := by omega
          refine ⟨by have := put_len d' x r.1; omega, ?_⟩
          have e2 := kput_dkv d' x r.1
          simp [sEndsOf_l2, hio, e2, zl]
      have k1 := k.1
      have rl := row_len r.1 r.2 d
      refine ⟨by unfold rowE; omega, ?_⟩
      simp [sEndsOf_l1, rw_, hio, k1, rowE]
  have k1 := key.1
  have k2 : forL (evSs Γ sEndsOf_l1) (tgSet [] (.tup [.nm 2, .nm 3])) [0, 2, 3, 4] (rows.map rw_) [none, some (true, .dic true []), none, none, none] = .next [none, some (true, .dic true (dkv (endsV rows))), none, none, none] := k1
  simp [sEndsOf, hio, k2]
theorem run_short {l : List (Int × Int)} {rest : Int} : ∀ (rs : List (Int × List Str)) (b : Int) (q : List (Str × Int)), QG q → IsRun l rest b q rs → ∀ r ∈ rs, r.2.length ≤ 60
  | [], _, _, _, _, r, m => (List.not_mem_nil m).elim
  | r0 :: rs, b, q, hq, h, r, m => by
    rcases List.mem_cons.mp m with m | m
    · rw [m, h.2.1]
      show (servedV q _).length ≤ 60
      unfold servedV
      rw [List.length_map, List.length_take]
      have := hq.1
      omega
    · exact run_short rs _ _ (behind_g hq) h.2.2 r m
theorem qg_of {q : List (Str × Int)} (h : QOk q) : QG q := ⟨h.1, fun p m => (h.2 p m).1⟩
def LatestAllS (c : CF) : Prop := ∀ l rest b q rs, HOk l rest → QOk q → 0 ≤ b → IsRun l rest b q rs → c [(false, dQ q), (false, insH l rest), (false, .int b)] = .ok true (.dic true (dkv (endsV rs))) [none, none, none]
theorem sLatestAll_v {l : List (Int × Int)} {rest b : Int} {q : List (Str × Int)} {rs : List (Int × List Str)} {ce cr : Nat} (hio : Γ.io = []) (he : EndsOfS (Γ.call ce)) (hr : RunOfS (Γ.call cr)) (hl : HOk l rest) (hq : QOk q) (hb : 0 ≤ b) (h : IsRun l rest b q rs) :
    ∃ env, evSs Γ (sLatestAll ce cr) [some (false, dQ q), some (false, insH l rest), some (false, .int b)] = .ret true (.dic true (dkv (endsV rs))) env := by
  obtain ⟨rs', h', lr, e1⟩ := hr l rest b q hl hq hb
  have := run_one _ _ _ _ h h'
  subst this
  have e2 := he rs lr (run_short _ _ _ (qg_of hq) h)
  simp [sLatestAll, e1, e2]
theorem last_split {rs : List (Int × List Str)} {x : Str} (h : ∃ r ∈ rs, x ∈ r.2) : ∃ a r t, rs = a ++ r :: t ∧ x ∈ r.2 ∧ ∀ r' ∈ t, x ∉ r'.2 := by
  induction rs with
  | nil =>
    obtain ⟨r, m, _⟩ := h
    cases m
  | cons r0 rs ih =>
    by_cases g : ∃ r ∈ rs, x ∈ r.2
    · obtain ⟨a, r, t, e, h1, h2⟩ := ih g
      exact ⟨r0 :: a, r, t, by rw [e]; rfl, h1, h2⟩
    · obtain ⟨r, m, e⟩ := h
      rcases List.mem_cons.mp m with m | m
      · subst m
        exact ⟨[], r, rs, rfl, e, fun r' m' hx => g ⟨r', m', hx⟩⟩
      · exact absurd ⟨r, m, e⟩ g
def LatestOfS (c : CF) : Prop := ∀ l rest b q (a t : List (Int × List Str)) r x, HOk l rest → QOk q → 0 ≤ b → IsRun l rest b q (a ++ r :: t) → x ∈ r.2 → (∀ r' ∈ t, x ∉ r'.2) → c [(false, dQ q), (false, insH l rest), (false, .int b), (false, .str x)] = .ok false (.int r.1) [none, none, none, none]
theorem sLatestOf_v {l : List (Int × Int)} {rest b : Int} {q : List (Str × Int)} {a t : List (Int × List Str)} {r : Int × List Str} {x : Str} {ca : Nat} (hio : Γ.io = []) (hc : LatestAllS (Γ.call ca)) (hl : HOk l rest) (hq : QOk q) (hb : 0 ≤ b) (h : IsRun l rest b q (a ++ r :: t)) (h1 : x ∈ r.2) (h2 : ∀ r' ∈ t, x ∉ r'.2) :
    ∃ env, evSs Γ (sLatestOf ca) [some (false, dQ q), some (false, insH l rest), some (false, .int b), some (false, .str x), none] = .ret false (.int r.1) env := by
  have e1 := hc l rest b q _ hl hq hb h
  have e2 := kfind_get (endsV (a ++ r :: t)) x
  rw [ends_at h1 h2] at e2
  simp [sLatestOf, hio, e1, e2]
/-! ### waits -/
def waitsV (x : Str) : List (Int × List Str) → List (Int × List Str)
  | [] => []
  | r :: rs => if x ∈ r.2 then waitsV x rs else if ∃ r' ∈ rs, x ∈ r'.2 then r :: waitsV x rs else []
theorem waits_no {x : Str} : ∀ {rs : List (Int × List Str)}, (∀ r ∈ rs, x ∉ r.2) → waitsV x rs = []
  | [], _ => rfl
  | r :: rs, h => by
    unfold waitsV
    rw [if_neg (h r (List.mem_cons_self ..)), if_neg fun ⟨r', m, e⟩ => h r' (List.mem_cons_of_mem _ m) e]
theorem waits_split {x : Str} {t : List (Int × List Str)} {r : Int × List Str} (h1 : x ∈ r.2) (h2 : ∀ r' ∈ t, x ∉ r'.2) : ∀ a : List (Int × List Str), waitsV x (a ++ r :: t) = (a ++ [r]).filter fun p => !decide (x ∈ p.2)
  | [] => by
    rw [List.nil_append, List.nil_append]
    unfold waitsV
    rw [if_pos h1, waits_no h2, List.filter_cons_of_neg (by simp [h1])]
    rfl
  | r0 :: a => by
    rw [List.cons_append, List.cons_append]
    unfold waitsV
    rw [waits_split h1 h2 a]
    by_cases g : x ∈ r0.2
    · rw [if_pos g, List.filter_cons_of_neg (by simp [g])]
    · rw [if_neg g, if_pos ⟨r, by simp, h1⟩, List.filter_cons_of_pos (by simp [g])]
def WaitsOfS (c : CF) : Prop := ∀ l rest b q rs x, HOk l rest → QOk q → 0 ≤ b → IsRun l rest b q rs → x ∈ nms q → c [(false, dQ q), (false, insH l rest), (false, .int b), (false, .str x)] = .ok true (.lst true ((waitsV x rs).map rw_)) [none, none, none, none]
theorem sWaitsOf_v {l : List (Int × Int)} {rest b : Int} {q : List (Str × Int)} {rs : List (Int × List Str)} {x : Str} {ca cr : Nat} (hio : Γ.io = []) (hc : LatestOfS (Γ.call ca)) (hr : RunOfS (Γ.call cr)) (hl : HOk l rest) (hq : QOk q) (hb : 0 ≤ b) (h : IsRun l rest b q rs) (hx : x ∈ nms q) :
    ∃ env, evSs Γ (sWaitsOf ca cr) [some (false, dQ q), some (false, insH l rest), some (false, .int b), some (false, .str x), none, none, none, none] = .ret true (.lst true ((waitsV x rs).map rw_)) env := by
  have big := sizeBig
  have s2 : 2 ≤ sizeLine := by omega
  obtain ⟨rs', h', lr, e1⟩ := hr l rest b q hl hq hb
  have := run_one _ _ _ _ h h'
  subst this
  obtain ⟨a, r, t, rfl, h1, h2⟩ := last_split ((run_names _ _ _ h).mp hx)
  have e2 := hc l rest b q a t r x hl hq hb h h1 h2
  have hr1 := run_mid h
  have key := forL_foldA (α := List (Int × List Str)) (β := Int × List Str) (b := evSs Γ (sWaitsOf_l1 ca cr)) (set := tgSet [] (.tup [.nm 6, .nm 7])) (vs := [0, 1, 2, 6, 7])
    (fun s => [none, none, none, some (false, .str x), some (false, .int r.1), some (true, .lst true (s.map rw_)), none, none]) rw_ (fun s p => if x ∈ p.2 then s else s ++ [p]) (fun i s => s.length ≤ i) (t.map rw_) (a ++ [r]) 0 [] (Nat.le_refl _) fun i s p hi h3 => by
      have hm := List.mem_of_getElem? hi
      have hi' := (List.getElem?_eq_some_iff.mp hi).1
      have hp : p.1 ≤ r.1 := by
        rcases List.mem_append.mp hm with m | m
        · have := run_high a _ _ _ h p m
          omega
        · rw [List.mem_singleton.mp m]
          exact Int.le_refl _
      have np : ¬ r.1 < p.1 := by omega
      have zl : s.length < sizeLine := by
        rw [List.length_append] at hi' lr
        simp at hi' lr
        omega
      by_cases g : x ∈ p.2
      · rw [if_pos g]
        refine ⟨by omega, ?_⟩
        simp [sWaitsOf_l1, rw_, hio, np, g]
      · rw [if_neg g]
        refine ⟨by rw [List.length_append, List.length_singleton]; omega, ?_⟩
        simp [sWaitsOf_l1, rw_, hio, np, g, zl, s2]
  have k1 := key.1
  have ef : ∀ (xs s : List (Int × List Str)), xs.foldl (fun s p => if x ∈ p.2 then s else s ++ [p]) s = s ++ xs.filter fun p => !decide (x ∈ p.2) := by
    intro xs
    induction xs with
    | nil => intro s; simp
    | cons p xs ih =>
      intro s
      rw [List.foldl_cons, ih]
      by_cases g : x ∈ p.2
      · rw [if_pos g, List.filter_cons_of_neg (by simp [g])]
      · rw [if_neg g, List.filter_cons_of_pos (by simp [g])]
        simp
  rw [ef, List.nil_append, ← waits_split h1 h2 a] at k1
  have em : (a ++ [r]).map rw_ ++ t.map rw_ = (a ++ r :: t).map rw_ := by
    rw [← List.map_append]
    congr 1
    simp
  rw [em] at k1
  generalize waitsV x (a ++ r :: t) = w at *
  have kt : forL (evSs Γ (sWaitsOf_l1 ca cr)) (tgSet [] (.tup [.nm 6, .nm 7])) [0, 1, 2, 6, 7] (t.map rw_) [none, none, none, some (false, .str x), some (false, .int r.1), some (true, .lst true (w.map rw_)), none, none] = .next [none, none, none, some (false, .str x), some (false, .int r.1), some (true, .lst true (w.map rw_)), none, none] := by
    cases t with
    | nil => rfl
    | cons p t =>
      have h3 : IsRun l rest b q ((a ++ [r]) ++ p :: t) := by simpa using h
      have hp := run_mid h3
      have gp : r.1 < p.1 := by
        rw [List.length_append] at hp
        simp at hp
        omega
      rw [List.map_cons]
      unfold forL
      simp [sWaitsOf_l1, rw_, gp]
  rw [kt] at k1
  have k2 : forL (evSs Γ (sWaitsOf_l1 ca cr)) (tgSet [] (.tup [.nm 6, .nm 7])) [0, 1, 2, 6, 7] ((a ++ r :: t).map rw_) [none, none, none, some (false, .str x), some (false, .int r.1), some (true, .lst true []), none, none] = .next [none, none, none, some (false, .str x), some (false, .int r.1), some (true, .lst true (w.map rw_)), none, none] := k1
  generalize a ++ r :: t = rs at *
  simp [sWaitsOf, hio, e1, e2, k2]
def ShowsWhyS (c : CF) : Prop := ∀ l rest b q rs x rows, HOk l rest → QOk q → 0 ≤ b → IsRun l rest b q rs → x ∈ nms q → c [(false, dQ q), (false, insH l rest), (false, .int b), (false, .str x), (false, dW rows)] = .ok false (.bl (decide (rows = waitsV x rs))) [none, none, none, none, none]
theorem sShowsWhy_v {l : List (Int × Int)} {rest b : Int} {q : List (Str × Int)} {rs rows : List (Int × List Str)} {x : Str} {cw : Nat} (hio : Γ.io = []) (hc : WaitsOfS (Γ.call cw)) (hl : HOk l rest) (hq : QOk q) (hb : 0 ≤ b) (h : IsRun l rest b q rs) (hx : x ∈ nms q) :
    ∃ env, evSs Γ (sShowsWhy cw) [some (false, dQ q), some (false, insH l rest), some (false, .int b), some (false, .str x), some (false, dW rows)] = .ret false (.bl (decide (rows = waitsV x rs))) env := by
  have e1 := hc l rest b q rs x hl hq hb h hx
  have er := eq_rws false false rows (waitsV x rs)
  simp [sShowsWhy, e1]
end Vm
/-! Vm: what is due by the law, spoilt waits. -/
namespace Vm
open PySem L2
open PyProof.Rows hiding St
variable {Γ : Cf}
def dueV (x : Str) : Int → List (Int × List Str) → List (Int × List Str)
  | _, [] => []
  | v, r :: rs => if 0 < v ∧ x ∈ r.2 then dueV x (v - 1) rs else if 0 < v then r :: dueV x v rs else dueV x v rs
def valV (q : List (Str × Int)) (x : Str) : Int := (dgetV q x).getD 0
theorem behind_sub (q : List (Str × Int)) (m : Nat) : (nms (behindV q m)).Sublist (nms q) := by
  have e : nms q = (q.take m).map (·.1) ++ (q.drop m).map (·.1) := by
    unfold nms
    rw [← List.map_append, List.take_append_drop]
  rw [e]
  unfold behindV nms
  rw [List.map_append, List.map_map]
  exact List.Sublist.append (List.Sublist.map _ List.filter_sublist) (List.Sublist.refl _)
theorem val_behind (x : Str) : ∀ (q : List (Str × Int)) (m : Nat), (nms q).Nodup → QPos q → valV (behindV q m) x = if x ∈ servedV q m then valV q x - 1 else valV q x
  | [], m, _, _ => by simp [behindV, servedV, valV, dgetV]
  | p :: q, 0, _, _ => by simp [behindV, servedV]
  | p :: q, m + 1, h, hp => by
    have h' : p.1 ∉ nms q ∧ (nms q).Nodup := List.nodup_cons.mp h
    have hp0 := hp p (List.mem_cons_self ..)
    have ih := val_behind x q m h'.2 fun y hy => hp y (List.mem_cons_of_mem _ hy)
    have es : servedV (p :: q) (m + 1) = p.1 :: servedV q m := rfl
    have eb : behindV (p :: q) (m + 1) = (if 1 < p.2 then [(p.1, p.2 - 1)] else []) ++ behindV q m := by
      unfold behindV
      rw [List.take_succ_cons, List.drop_succ_cons]
      by_cases h1 : 1 < p.2
      · rw [List.filter_cons_of_pos (by simpa using h1), if_pos h1]
        rfl
      · rw [List.filter_cons_of_neg (by simpa using h1), if_neg h1]
        rfl
    rw [es, eb]
    by_cases e : p.1 = x
    · subst e
      have nb : p.1 ∉ nms (behindV q m) := fun y => h'.1 ((behind_sub q m).subset y)
      rw [if_pos (List.mem_cons_self ..)]
      have e1 : valV (p :: q) p.1 = p.2 := by
        unfold valV
        rw [get_cons, if_pos rfl]
        rfl
      rw [e1]
      by_cases h1 : 1 < p.2
      · rw [if_pos h1]
        unfold valV
        rw [List.cons_append, get_cons, if_pos rfl]
        rfl
      · rw [if_neg h1, List.nil_append]
        unfold valV
        rw [get_none nb]
        show (0 : Int) = p.2 - 1
        omega
    · have e1 : valV (p :: q) x = valV q x := by
        unfold valV
        rw [get_cons, if_neg e]
      have e2 : valV ((if 1 < p.2 then [(p.1, p.2 - 1)] else []) ++ behindV q m) x = valV (behindV q m) x := by
        split
        · unfold valV
          rw [List.cons_append, get_cons, if_neg e]
          rfl
        · rfl
      rw [e1, e2, ih]
      by_cases g : x ∈ servedV q m
      · rw [if_pos g, if_pos (List.mem_cons_of_mem _ g)]
      · rw [if_neg g, if_neg fun y => (List.mem_cons.mp y).elim (fun z => e z.symm) g]
theorem val_pos {q : List (Str × Int)} {x : Str} (hp : QPos q) : 0 < valV q x ↔ x ∈ nms q := by
  induction q with
  | nil => simp [valV, dgetV, nms]
  | cons p q ih =>
    have ih' := ih fun y hy => hp y (List.mem_cons_of_mem _ hy)
    have hp0 := hp p (List.mem_cons_self ..)
    unfold valV at *
    rw [get_cons]
    have en : nms (p :: q) = p.1 :: nms q := rfl
    rw [en]
    by_cases e : p.1 = x
    · rw [if_pos e]
      constructor
      · intro _
        rw [e]
        exact List.mem_cons_self ..
      · intro _
        show 0 < p.2
        omega
    · rw [if_neg e, ih']
      exact ⟨fun h => List.mem_cons_of_mem _ h, fun h => (List.mem_cons.mp h).elim (fun z => absurd z.symm e) id⟩
theorem due_eq {l : List (Int × Int)} {rest : Int} {x : Str} : ∀ (rs : List (Int × List Str)) (b : Int) (q : List (Str × Int)), IsRun l rest b q rs → (nms q).Nodup → QG q → dueV x (valV q x) rs = waitsV x rs
  | [], _, _, _, _, _ => rfl
  | r :: rs, b, q, h, hn, hq => by
    have hh := h
    obtain ⟨h1, h2, h3⟩ := h
    have ih := due_eq (x := x) rs _ _ h3 ((behind_sub q _).nodup hn) (behind_g hq)
    rw [val_behind x q _ hn hq.2] at ih
    have vp := val_pos (x := x) hq.2
    have er : r.2 = servedV q (lawAt l rest b).toNat := by rw [h2]
    rw [← er] at ih
    unfold dueV waitsV
    by_cases g : x ∈ r.2
    · have hx : x ∈ nms q := by
        rw [er] at g
        exact nm_served g
      rw [if_pos ⟨vp.mpr hx, g⟩, if_pos g]
      rw [if_pos g] at ih
      exact ih
    · rw [if_neg g] at ih
      rw [if_neg fun y => g y.2, if_neg g]
      by_cases k : 0 < valV q x
      · rw [if_pos k, ih]
        obtain ⟨r', m, e⟩ := (run_names _ _ _ hh).mp (vp.mp k)
        rw [if_pos]
        rcases List.mem_cons.mp m with m | m
        · rw [m] at e
          exact absurd e g
        · exact ⟨r', m, e⟩
      · have nx : x ∉ nms q := fun y => k (vp.mpr y)
        have no : ∀ r' ∈ rs, x ∉ r'.2 := fun r' m e => nx ((run_names _ _ _ hh).mpr ⟨r', List.mem_cons_of_mem _ m, e⟩)
        rw [if_neg k, ih, waits_no no, if_neg fun ⟨r', m, e⟩ => no r' m e]
def Due2S (c : CF) : Prop := ∀ q rs x v, q.length ≤ 1000 → rs.length ≤ 10000 → dgetV (dictV q) x = some v → c [(false, dQ q), (false, dW rs), (false, .str x)] = .ok true (.lst true ((dueV x v rs).map rw_)) [none, none, none]
theorem sDue2_v {q : List (Str × Int)} {rs : List (Int × List Str)} {x : Str} {v : Int} (hio : Γ.io = []) (hq : q.length ≤ 1000) (hr : rs.length ≤ 10000) (hv : dgetV (dictV q) x = some v) :
    ∃ env, evSs Γ sDue2 [some (false, dQ q), some (false, dW rs), some (false, .str x), none, none, none, none] = .ret true (.lst true ((dueV x v rs).map rw_)) env := by
  have big := sizeBig
  have s2 : 2 ≤ sizeLine := by omega
  have key := forL_fold (α := List (Int × List Str) × Int) (β := Int × List Str) (b := evSs Γ sDue2_l1) (set := tgSet [] (.tup [.nm 5, .nm 6])) (vs := [0, 1, 5, 6])
    (fun s => [none, none, some (false, .str x), some (true, .lst true (s.1.map rw_)), some (false, .int s.2), none, none]) rw_ (fun s r => if 0 < s.2 ∧ x ∈ r.2 then (s.1, s.2 - 1) else if 0 < s.2 then (s.1 ++ [r], s.2) else s) (fun i s => s.1.length ≤ i) rs 0 ([], v) (Nat.le_refl _) fun i s r hi h1 => by
      have hi' := (List.getElem?_eq_some_iff.mp hi).1
      have zl : s.1.length < sizeLine := by omega
      by_cases g : 0 < s.2
      · by_cases k : x ∈ r.2
        · rw [if_pos ⟨g, k⟩]
          refine ⟨by dsimp only; omega, ?_⟩
          simp [sDue2_l1, rw_, hio, g, k]
        · rw [if_neg fun y => k y.2, if_pos g]
          refine ⟨by dsimp only; rw [List.length_append, List.length_singleton]; omega, ?_⟩
          simp [sDue2_l1, rw_, hio, g, k, zl, s2]
      · rw [if_neg fun y => g y.1, if_neg g]
        refine ⟨by omega, ?_⟩
        simp [sDue2_l1, rw_, hio, g]
  have k1 := key.1
  have ef : ∀ (rs : List (Int × List Str)) (w : List (Int × List Str)) (v : Int), (rs.foldl (fun (s : List (Int × List Str) × Int) (r : Int × List Str) => if 0 < s.2 ∧ x ∈ r.2 then (s.1, s.2 - 1) else if 0 < s.2 then (s.1 ++ [r], s.2) else s) (w, v)).1 = w ++ dueV x v rs := by
    intro rs
    induction rs with
    | nil => intro w v; simp [dueV]
    | cons r rs ih =>
      intro w v
      rw [List.foldl_cons]
      unfold dueV
      by_cases g : 0 < v ∧ x ∈ r.2
      · rw [if_pos g, if_pos g, ih]
      · rw [if_neg g, if_neg g]
        by_cases k : 0 < v
        · rw [if_pos k, if_pos k, ih]
          simp
        · rw [if_neg k, if_neg k, ih]
  rw [← List.nil_append (dueV x v rs), ← ef rs [] v]
  generalize rs.foldl (fun (s : List (Int × List Str) × Int) (r : Int × List Str) => if 0 < s.2 ∧ x ∈ r.2 then (s.1, s.2 - 1) else if 0 < s.2 then (s.1 ++ [r], s.2) else s) ([], v) = S at *
  dsimp only at k1
  simp only [List.map_nil] at k1
  have d1 := dict1_tk false q
  simp only [opBF] at d1
  have e2 := kfind_get (dictV q) x
  rw [hv] at e2
  simp [sDue2, hio, d1, e2, k1]
def NamedS (c : CF) : Prop := ∀ (r : Int × List Str) (ns : List Str) (k : Int), r.2.length ≤ 1000 → ns ≠ [] → ns.length ≤ 60 → ∃ f d r', r'.2.length ≤ r.2.length + r.2.length + 1 ∧ stl (f, d) = rw_ r' ∧ c [(false, rw_ r), (false, dS ns), (false, .int k)] = .ok f d [none, none, none]
theorem sNamed_v {r : Int × List Str} {ns : List Str} {k : Int} (hio : Γ.io = []) (hr : r.2.length ≤ 1000) (hn : ns ≠ []) (hl : ns.length ≤ 60) :
    ∃ f d r', r'.2.length ≤ r.2.length + r.2.length + 1 ∧ stl (f, d) = rw_ r' ∧ ∃ env, evSs Γ sNamed [some (false, rw_ r), some (false, dS ns), some (false, .int k), none, none, none, none] = .ret f d env := by
  have big := sizeBig
  have s1 : 1 ≤ sizeLine := by omega
  have s2 : 2 ≤ sizeLine := by omega
  have ln : 0 < ns.length := List.length_pos_iff.mpr hn
  obtain ⟨o, mo, eo⟩ := mod_at ns (k / 60) hn
  have eo' : atI (ns.map D.str) (k / 60 % (ns.length : Int)) = some (.str o) := map_atG D.str eo
  obtain ⟨t, ss⟩ := r
  dsimp only at hr ⊢
  have lp : (0 : Int) < (ss.length : Int) + 1 := by omega
  generalize hp : k / 5 % ((ss.length : Int) + 1) = p
  have b1 := cutD_len ss none (some p)
  have b2 := cutD_len ss (some p) none
  have b3 := cutD_len ss (some (p + 1)) none
  generalize hA : cutD ss none (some p) = A at *
  generalize hB : cutD ss (some p) none = B at *
  generalize hC : cutD ss (some (p + 1)) none = C at *
  have eA : cutD (ss.map D.str) none (some p) = A.map .str := by rw [cutD_map, hA]
  have eB : cutD (ss.map D.str) (some p) none = B.map .str := by rw [cutD_map, hB]
  have eC : cutD (ss.map D.str) (some (p + 1)) none = C.map .str := by rw [cutD_map, hC]
  have z3 : A.length + C.length ≤ sizeLine := by omega
  have z4 : A.length + 1 ≤ sizeLine := by omega
  have z5 : A.length + 1 + B.length ≤ sizeLine := by omega
  have z6 : A.length + 1 + C.length ≤ sizeLine := by omega
  have z5' : A.length + (B.length + 1) ≤ sizeLine := by omega
  have z6' : A.length + (C.length + 1) ≤ sizeLine := by omega
  generalize hw : k % 5 = w
  by_cases w0 : w = 0
  · subst w0
    refine ⟨true, .tup [.int t, .lst true (A.map .str ++ C.map .str)], (t, A ++ C), by simp; omega, by simp [rw_], ?_⟩
    simp [sNamed, rw_, hio, ln, lp, hp, eo', hw, eA, eC, z3, s2]
  have q0 : (w == 0) = false := by simpa using w0
  by_cases w1 : w = 1
  · subst w1
    refine ⟨true, .tup [.int t, .lst true (A.map .str ++ [.str o] ++ B.map .str)], (t, A ++ [o] ++ B), by simp; omega, by simp [rw_], ?_⟩
    simp [sNamed, rw_, hio, ln, lp, hp, eo', hw, eA, eB, z4, z5, z5', s1, s2]
  have q1 : (w == 1) = false := by simpa using w1
  by_cases w2 : w = 2
  · subst w2
    refine ⟨true, .tup [.int t, .lst true (A.map .str ++ [.str o] ++ C.map .str)], (t, A ++ [o] ++ C), by simp; omega, by simp [rw_], ?_⟩
    simp [sNamed, rw_, hio, ln, lp, hp, eo', hw, eA, eC, z4, z6, z6', s1, s2]
  have q2 : (w == 2) = false := by simpa using w2
  by_cases w3 : w = 3
  · subst w3
    refine ⟨true, .tup [.int t, .lst true (ss.reverse.map .str)], (t, ss.reverse), by simp; omega, by simp [rw_], ?_⟩
    simp [sNamed, rw_, hio, ln, lp, hp, eo', hw, s2]
  have q3 : (w == 3) = false := by simpa using w3
  refine ⟨true, .tup [.int (t + k / 5 % 5 - 2), dS ss], (t + k / 5 % 5 - 2, ss), by simp; omega, by simp [rw_], ?_⟩
  simp [sNamed, rw_, hio, ln, lp, hp, eo', hw, q0, q1, q2, q3, s2]
def Spoilt3S (c : CF) : Prop := ∀ (rs : List (Int × List Str)) (ns : List Str) (k : Int), rs.length ≤ 10000 → (∀ p ∈ rs, p.2.length ≤ 60) → ns ≠ [] → ns.length ≤ 60 → ∃ f d rs', rs'.length ≤ 30000 ∧ stl (f, d) = dW rs' ∧ c [(false, dW rs), (false, dS ns), (false, .int k)] = .ok f d [none, none, none]
theorem sSpoilt3_v {rs : List (Int × List Str)} {ns : List Str} {k : Int} {cn : Nat} (hio : Γ.io = []) (hc : NamedS (Γ.call cn)) (hr : rs.length ≤ 10000) (hn : ∀ p ∈ rs, p.2.length ≤ 60) (hns : ns ≠ []) (hl : ns.length ≤ 60) :
    ∃ f d rs', rs'.length ≤ 30000 ∧ stl (f, d) = dW rs' ∧ ∃ env, evSs Γ (sSpoilt3 cn) [some (false, dW rs), some (false, dS ns), some (false, .int k), none, none, none, none] = .ret f d env := by
  have big := sizeBig
  have s1 : 1 ≤ sizeLine := by omega
  have s2 : 2 ≤ sizeLine := by omega
  generalize hw : k % 6 = w
  by_cases w0 : w = 0
  · subst w0
    have ec : cutD (ns.map D.str) none (some (k / 6 / 60 % 3)) = (cutD ns none (some (k / 6 / 60 % 3))).map .str := cutD_map ..
    generalize cutD ns none (some (k / 6 / 60 % 3)) = C at *
    have z1 : rs.length + 1 ≤ sizeLine := by omega
    refine ⟨true, .lst true (rs.map rw_ ++ [.tup [.int (k / 6 % 60), .lst false (C.map .str)]]), rs ++ [(k / 6 % 60, C)], by simp; omega, by simp; simp [rw_], ?_⟩
    simp [sSpoilt3, hio, hw, ec, s1, s2, z1]
  have q0 : (w == 0) = false := by simpa using w0
  by_cases h0 : rs = []
  · subst h0
    refine ⟨false, dW [], [], by simp, rfl, ?_⟩
    simp [sSpoilt3, hio, hw, q0]
  have ls : 0 < rs.length := List.length_pos_iff.mpr h0
  obtain ⟨x, mx, ex⟩ := mod_at rs (k / 6) h0
  have ex' : atI (rs.map rw_) (k / 6 % (rs.length : Int)) = some (rw_ x) := map_atG rw_ ex
  have lx := hn x mx
  generalize ha : k / 6 % (rs.length : Int) = a at *
  have b1 := cutD_len rs none (some a)
  have b2 := cutD_len rs (some a) none
  have b3 := cutD_len rs (some (a + 1)) none
  have b4 := cutD_len rs none (some (a + 1))
  have b5 := cutD_len rs (some a) (some (a + 2))
  have b6 := cutD_len rs (some (a + 2)) none
  generalize hA : cutD rs none (some a) = A at *
  generalize hB : cutD rs (some a) none = B at *
  generalize hC : cutD rs (some (a + 1)) none = C at *
  generalize hD : cutD rs none (some (a + 1)) = A1 at *
  generalize hE : cutD rs (some a) (some (a + 2)) = M at *
  generalize hF : cutD rs (some (a + 2)) none = C2 at *
  have eA : cutD (rs.map rw_) none (some a) = A.map rw_ := by rw [cutD_map, hA]
  have eB : cutD (rs.map rw_) (some a) none = B.map rw_ := by rw [cutD_map, hB]
  have eC : cutD (rs.map rw_) (some (a + 1)) none = C.map rw_ := by rw [cutD_map, hC]
  have eD : cutD (rs.map rw_) none (some (a + 1)) = A1.map rw_ := by rw [cutD_map, hD]
  have eE : cutD (rs.map rw_) (some a) (some (a + 2)) = M.map rw_ := by rw [cutD_map, hE]
  have eF : cutD (rs.map rw_) (some (a + 2)) none = C2.map rw_ := by rw [cutD_map, hF]
  have z3 : A.length + C.length ≤ sizeLine := by omega
  have z4 : A.length + 1 ≤ sizeLine := by omega
  have z5 : A1.length + B.length ≤ sizeLine := by omega
  have z6 : A.length + 1 + C.length ≤ sizeLine := by omega
  have z6' : A.length + (C.length + 1) ≤ sizeLine := by omega
  have z7 : A.length + M.length ≤ sizeLine := by omega
  have z8 : A.length + M.length + C2.length ≤ sizeLine := by omega
  have z8' : A.length + (M.length + C2.length) ≤ sizeLine := by omega
  have ls2 : (rs.length : Int) < 1073741824 := by omega
  by_cases w1 : w = 1
  · subst w1
    refine ⟨true, .lst true (A.map rw_ ++ C.map rw_), A ++ C, by simp; omega, by simp, ?_⟩
    simp [sSpoilt3, hio, hw, h0, ls, ls2, ha, eA, eC, z3]
  have q1 : (w == 1) = false := by simpa using w1
  by_cases w2 : w = 2
  · subst w2
    refine ⟨true, .lst true (A1.map rw_ ++ B.map rw_), A1 ++ B, by simp; omega, by simp, ?_⟩
    simp [sSpoilt3, hio, hw, h0, ls, ls2, ha, eD, eB, z5]
  have q2 : (w == 2) = false := by simpa using w2
  by_cases w3 : w = 3
  · subst w3
    refine ⟨true, .lst true (A.map rw_ ++ M.reverse.map rw_ ++ C2.map rw_), A ++ M.reverse ++ C2, by simp; omega, by simp, ?_⟩
    simp [sSpoilt3, hio, hw, h0, ls, ls2, ha, eA, eE, eF, z7, z8, z8']
  have q3 : (w == 3) = false := by simpa using w3
  obtain ⟨f1, d1, r1, lr1, st1, e1⟩ := hc x ns (k / 6 / (rs.length : Int)) (by omega) hns hl
  by_cases w4 : w = 4
  · subst w4
    refine ⟨true, .lst true (A.map rw_ ++ [rw_ r1] ++ C.map rw_), A ++ [r1] ++ C, by simp; omega, by simp, ?_⟩
    simp [sSpoilt3, hio, hw, h0, ls, ls2, ha, ex', e1, st1, eA, eC, z4, z6, z6', s1]
  have q4 : (w == 4) = false := by simpa using w4
  obtain ⟨f2, d2, r2, lr2, st2, e2⟩ := hc r1 ns (k / 6 / (rs.length : Int) / 7) (by omega) hns hl
  refine ⟨true, .lst true (A.map rw_ ++ [rw_ r2] ++ C.map rw_), A ++ [r2] ++ C, by simp; omega, by simp, ?_⟩
  simp [sSpoilt3, hio, hw, h0, ls, ls2, ha, ex', e1, st1, e2, st2, eA, eC, z4, z6, z6', q0, q1, q2, q3, q4, s1]
end Vm
/-! Vm: the drawn names are unlike. -/
namespace Vm
open PySem L2
open PyProof.Rows hiding St
variable {Γ : Cf}
def sgn2 (j S : Int) : Nat := if j = 0 then (lets.cps.toList[(S % 26).toNat]?).getD 0 else ((lets ++ digs).cps.toList[(S % 36).toNat]?).getD 0
theorem lets_inj : ∀ i < 26, ∀ j < 26, (lets.cps.toList[i]?).getD 0 = (lets.cps.toList[j]?).getD 0 → i = j := by decide +kernel
theorem digs_inj : ∀ i < 36, ∀ j < 36, ((lets ++ digs).cps.toList[i]?).getD 0 = ((lets ++ digs).cps.toList[j]?).getD 0 → i = j := by decide +kernel
theorem sgn2_at (j S : Int) : (j = 0 → atI lets.cps.toList (S % 26) = some (sgn2 j S)) ∧ (j ≠ 0 → atI (lets ++ digs).cps.toList (S % 36) = some (sgn2 j S)) := by
  have g : ∀ (L : List Nat) (k : Int), 0 ≤ k → k < L.length → atI L k = some ((L[k.toNat]?).getD 0) := fun L k h0 h1 => by
    rw [atI_nn h0 h1, List.getElem?_eq_getElem (by omega)]
    rfl
  constructor
  · intro h
    have b := emod_row (x := S) (b := 26) (by decide)
    unfold sgn2
    rw [if_pos h]
    exact g _ _ b.1 (by rw [show (lets.cps.toList.length : Int) = 26 by decide +kernel]; exact b.2)
  · intro h
    have b := emod_row (x := S) (b := 36) (by decide)
    unfold sgn2
    rw [if_neg h]
    exact g _ _ b.1 (by rw [show ((lets ++ digs).cps.toList.length : Int) = 36 by decide +kernel]; exact b.2)
/-- like signs at like places: the steps are not far apart -/
theorem sgn2_inj {j a x y : Int} (hx : 0 ≤ x ∧ x < 26) (hy : 0 ≤ y ∧ y < 26) (h : sgn2 j (a + x) = sgn2 j (a + y)) : x = y := by
  unfold sgn2 at h
  by_cases e : j = 0
  · rw [if_pos e, if_pos e] at h
    have b1 := emod_row (x := a + x) (b := 26) (by decide)
    have b2 := emod_row (x := a + y) (b := 26) (by decide)
    have := lets_inj _ (by omega) _ (by omega) h
    omega
  · rw [if_neg e, if_neg e] at h
    have b1 := emod_row (x := a + x) (b := 36) (by decide)
    have b2 := emod_row (x := a + y) (b := 36) (by decide)
    have := digs_inj _ (by omega) _ (by omega) h
    omega
def stp (a at_ size kk j : Int) : Int := a / (64 + 5 * j) + (if j = at_ then kk % 26 else 0) + (if j = (at_ + 1) % size then kk / 26 else 0)
def nmP (a at_ size kk : Int) (n : Nat) : Str := ⟨((List.range n).map fun j : Nat => sgn2 j (stp a at_ size kk j)).toArray⟩
theorem nmP_succ (a at_ size kk : Int) (n : Nat) : nmP a at_ size kk (n + 1) = nmP a at_ size kk n ++ ⟨#[sgn2 n (stp a at_ size kk n)]⟩ := by
  unfold nmP
  rw [List.range_succ, List.map_append]
  show _ = (⟨_ ++ _⟩ : Str)
  simp
theorem nmP_len (a at_ size kk : Int) (n : Nat) : (nmP a at_ size kk n).length = n := by
  unfold nmP Str.length
  simp
theorem nmP_get {a at_ size k1 k2 : Int} {n : Nat} (h : nmP a at_ size k1 n = nmP a at_ size k2 n) (j : Nat) (hj : j < n) : sgn2 j (stp a at_ size k1 j) = sgn2 j (stp a at_ size k2 j) := by
  unfold nmP at h
  have h1 : ((List.range n).map fun j : Nat => sgn2 j (stp a at_ size k1 j)) = ((List.range n).map fun j : Nat => sgn2 j (stp a at_ size k2 j)) := by
    have := congrArg (fun s : Str => s.cps.toList) h
    simpa using this
  have h2 := congrArg (fun l => l[j]?) h1
  rw [List.getElem?_map, List.getElem?_map, List.getElem?_range hj] at h2
  exact Option.some.inj h2
theorem nmP_inj {a at_ size k1 k2 : Int} {n : Nat} (hs : size = n) (ha : 0 ≤ at_ ∧ at_ < size) (h1 : 0 ≤ k1 ∧ k1 < 600) (h2 : 0 ≤ k2 ∧ k2 < 600) (h3 : 2 ≤ size ∨ (k1 < 26 ∧ k2 < 26)) (h : nmP a at_ size k1 n = nmP a at_ size k2 n) : k1 = k2 := by
  have e1 := nmP_get h at_.toNat (by omega)
  have ea : ((at_.toNat : Nat) : Int) = at_ := Int.toNat_of_nonneg ha.1
  rw [ea] at e1
  have p1 := emod_row (x := k1) (b := 26) (by decide)
  have p2 := emod_row (x := k2) (b := 26) (by decide)
  by_cases h2s : 2 ≤ size
  · have nq : ¬ at_ = (at_ + 1) % size := by
      by_cases hw : at_ + 1 = size
      · rw [hw, Int.emod_self]
        omega
      · rw [Int.emod_eq_of_lt (by omega) (by omega)]
        omega
    have s1 : ∀ k, stp a at_ size k at_ = a / (64 + 5 * at_) + k % 26 := fun k => by
      unfold stp
      rw [if_pos rfl, if_neg nq]
      omega
    rw [s1, s1] at e1
    have m1 := sgn2_inj p1 p2 e1
    have hq := emod_row (x := at_ + 1) (b := size) (by omega)
    have e2 := nmP_get h ((at_ + 1) % size).toNat (by omega)
    have eq : ((((at_ + 1) % size).toNat : Nat) : Int) = (at_ + 1) % size := Int.toNat_of_nonneg hq.1
    rw [eq] at e2
    have s2 : ∀ k, stp a at_ size k ((at_ + 1) % size) = a / (64 + 5 * ((at_ + 1) % size)) + k / 26 := fun k => by
      unfold stp
      rw [if_neg fun e => nq e.symm, if_pos rfl]
      omega
    rw [s2, s2] at e2
    have m2 := sgn2_inj (by omega) (by omega) e2
    omega
  · have sz : size = 1 := by omega
    have at0 : at_ = 0 := by omega
    subst sz
    subst at0
    have k26 : k1 < 26 ∧ k2 < 26 := by omega
    have s1 : ∀ k : Int, 0 ≤ k → k < 26 → stp a 0 1 k 0 = a / (64 + 5 * 0) + k % 26 := fun k g1 g2 => by
      unfold stp
      rw [if_pos rfl, if_pos (by decide)]
      omega
    rw [s1 k1 h1.1 k26.1, s1 k2 h2.1 k26.2] at e1
    have m1 := sgn2_inj p1 p2 e1
    omega
theorem sNames2_sign2 {a size at_ kk j : Int} {nm : Str} {L : D} (hio : Γ.io = []) (hs : 0 < size) (hj : 0 ≤ j) (hj2 : j ≤ 100) (hn : nm.length ≤ 100) :
    ∃ env2, evSs Γ sNames2_l2 [some (false, .int a), none, some (false, .str lets), some (false, .int size), some (false, .int at_), some (true, L), some (false, .int kk), some (false, .str nm), some (false, .int j), none] = .next env2 ∧
      kill [1, 8, 9] env2 = [some (false, .int a), none, some (false, .str lets), some (false, .int size), some (false, .int at_), some (true, L), some (false, .int kk), some (false, .str (nm ++ ⟨#[sgn2 j (stp a at_ size kk j)]⟩)), none, none] := by
  have big := sizeBig
  obtain ⟨ll1, ll2⟩ := lets_len
  have z1 : nm.length + 1 ≤ sizeLine := by omega
  have d1 : (0 : Int) < 64 + 5 * j := by omega
  have d2 : 64 + 5 * j < 1073741824 := by omega
  have d3 : (lets ++ digs).length ≤ sizeLine := by rw [app_len]; exact ll2
  by_cases h1 : j = at_
  · have h1' : (j == at_) = true := by simpa using h1
    by_cases h2 : j = (at_ + 1) % size
    · have h2' : (j == (at_ + 1) % size) = true := by simpa using h2
      have es : stp a at_ size kk j = a / (64 + 5 * j) + kk % 26 + kk / 26 := by unfold stp; rw [if_pos h1, if_pos h2]
      rw [es]
      obtain ⟨e1, e2⟩ := sgn2_at j (a / (64 + 5 * j) + kk % 26 + kk / 26)
      generalize sgn2 j (a / (64 + 5 * j) + kk % 26 + kk / 26) = c at *
      by_cases h3 : j = 0
      · have h3' : (j == 0) = true := by simpa using h3
        simp [sNames2_l2, hio, hs, d1, d2, h1', h2', h3', e1 h3, z1, ll1]
      · have h3' : (j == 0) = false := by simpa using h3
        simp [sNames2_l2, hio, hs, d1, d2, h1', h2', h3', e2 h3, z1, ll1, ll2, d3]
    · have h2' : (j == (at_ + 1) % size) = false := by simpa using h2
      have es : stp a at_ size kk j = a / (64 + 5 * j) + kk % 26 := by unfold stp; rw [if_pos h1, if_neg h2, Int.add_zero]
      rw [es]
      obtain ⟨e1, e2⟩ := sgn2_at j (a / (64 + 5 * j) + kk % 26)
      generalize sgn2 j (a / (64 + 5 * j) + kk % 26) = c at *
      by_cases h3 : j = 0
      · have h3' : (j == 0) = true := by simpa using h3
        have e3 := e1 h3
        rw [Int.add_emod_emod] at e3
        simp [sNames2_l2, hio, hs, d1, d2, h1', h2', h3', e3, z1, ll1]
      · have h3' : (j == 0) = false := by simpa using h3
        simp [sNames2_l2, hio, hs, d1, d2, h1', h2', h3', e2 h3, z1, ll1, ll2, d3]
  · have h1' : (j == at_) = false := by simpa using h1
    by_cases h2 : j = (at_ + 1) % size
    · have h2' : (j == (at_ + 1) % size) = true := by simpa using h2
      have es : stp a at_ size kk j = a / (64 + 5 * j) + kk / 26 := by unfold stp; rw [if_neg h1, if_pos h2, Int.add_zero]
      rw [es]
      obtain ⟨e1, e2⟩ := sgn2_at j (a / (64 + 5 * j) + kk / 26)
      generalize sgn2 j (a / (64 + 5 * j) + kk / 26) = c at *
      by_cases h3 : j = 0
      · have h3' : (j == 0) = true := by simpa using h3
        simp [sNames2_l2, hio, hs, d1, d2, h1', h2', h3', e1 h3, z1, ll1]
      · have h3' : (j == 0) = false := by simpa using h3
        simp [sNames2_l2, hio, hs, d1, d2, h1', h2', h3', e2 h3, z1, ll1, ll2, d3]
    · have h2' : (j == (at_ + 1) % size) = false := by simpa using h2
      have es : stp a at_ size kk j = a / (64 + 5 * j) := by unfold stp; rw [if_neg h1, if_neg h2, Int.add_zero, Int.add_zero]
      rw [es]
      obtain ⟨e1, e2⟩ := sgn2_at j (a / (64 + 5 * j))
      generalize sgn2 j (a / (64 + 5 * j)) = c at *
      by_cases h3 : j = 0
      · have h3' : (j == 0) = true := by simpa using h3
        simp [sNames2_l2, hio, hs, d1, d2, h1', h2', h3', e1 h3, z1, ll1]
      · have h3' : (j == 0) = false := by simpa using h3
        simp [sNames2_l2, hio, hs, d1, d2, h1', h2', h3', e2 h3, z1, ll1, ll2, d3]
def NamesNS (c : CF) : Prop := ∀ a k, 0 ≤ k → k ≤ 60 → ∃ xs : List Str, (xs.length : Int) = k ∧ (∀ x ∈ xs, x.length ≤ 20) ∧ xs.Nodup ∧ c [(false, .int a), (false, .int k)] = .ok true (.lst true (xs.map .str)) [none, none]
theorem sNames2_n {a k : Int} (hio : Γ.io = []) (hk : 0 ≤ k) (hk2 : k ≤ 60) :
    ∃ xs : List Str, (xs.length : Int) = k ∧ (∀ x ∈ xs, x.length ≤ 20) ∧ xs.Nodup ∧ ∃ env, evSs Γ sNames2 [some (false, .int a), some (false, .int k), none, none, none, none, none, none, none, none] = .ret true (.lst true (xs.map .str)) env := by
  have big := sizeBig
  have hr : rngOk k = true := rng_of hk (by omega)
  have main : ∀ size at_ : Int, 0 < size → size ≤ 10 → (0 ≤ at_ ∧ at_ < size) → (2 ≤ size ∨ k ≤ 26) → ∃ xs : List Str, (xs.length : Int) = k ∧ (∀ x ∈ xs, x.length ≤ 20) ∧ xs.Nodup ∧
      forL (evSs Γ sNames2_l1) (tgSet [] (.nm 6)) [1, 6, 7, 8, 9] ((List.range k.toNat).map fun i : Nat => .int (i : Int)) [some (false, .int a), none, some (false, .str lets), some (false, .int size), some (false, .int at_), some (true, .lst true []), none, none, none, none] =
        .next [some (false, .int a), none, some (false, .str lets), some (false, .int size), some (false, .int at_), some (true, .lst true (xs.map .str)), none, none, none, none] := by
    intro size at_ h1 h2 ha h3
    have key := forL_fold (α := List Str) (β := Nat) (b := evSs Γ sNames2_l1) (set := tgSet [] (.nm 6)) (vs := [1, 6, 7, 8, 9])
      (fun xs => [some (false, .int a), none, some (false, .str lets), some (false, .int size), some (false, .int at_), some (true, .lst true (xs.map .str)), none, none, none, none]) (fun i : Nat => .int (i : Int)) (fun xs i => xs ++ [nmP a at_ size i size.toNat]) (fun i xs => xs.length = i)
      (List.range k.toNat) 0 [] rfl fun i xs x hx hl => by
        have hi : i < k.toNat := by
          have := (List.getElem?_eq_some_iff.mp hx).1
          simpa using this
        have hz : xs.length < sizeLine := by omega
        have inner := forL_fold (α := Str) (β := Nat) (b := evSs Γ sNames2_l2) (set := tgSet [] (.nm 8)) (vs := [1, 8, 9])
          (fun nm => [some (false, .int a), none, some (false, .str lets), some (false, .int size), some (false, .int at_), some (true, .lst true (xs.map .str)), some (false, .int x), some (false, .str nm), none, none]) (fun i : Nat => .int (i : Int)) (fun nm j => nm ++ ⟨#[sgn2 j (stp a at_ size x j)]⟩) (fun j nm => nm = nmP a at_ size x j)
          (List.range size.toNat) 0 "" (show ("" : Str) = ⟨#[]⟩ by decide +kernel) fun j nm y hy hn => by
            have hy' := List.getElem?_eq_some_iff.mp hy
            have hj : j < size.toNat := by simpa using hy'.1
            have ey : y = j := by simpa using hy'.2.symm
            subst ey
            have ln : nm.length ≤ 100 := by rw [hn, nmP_len]; omega
            obtain ⟨env2, e1, e2⟩ := sNames2_sign2 (a := a) (size := size) (at_ := at_) (kk := x) (j := y) (nm := nm) (L := .lst true (xs.map .str)) hio h1 (by omega) (by omega) ln
            refine ⟨by rw [hn, Nat.zero_add, nmP_succ], _, env2, by simp, .inl e1, e2⟩
        obtain ⟨j1, j2⟩ := inner
        rw [List.length_range, Nat.zero_add] at j2
        rw [j2] at j1
        have r1 : rngOk size = true := rng_of (by omega) (by omega)
        refine ⟨by rw [List.length_append, List.length_singleton, hl], ?_⟩
        simp [sNames2_l1, hio, range1, r1, j1, hz]
    obtain ⟨k1, k2⟩ := key
    have ef : ∀ (n : Nat), (List.range n).foldl (fun xs (i : Nat) => xs ++ [nmP a at_ size i size.toNat]) [] = (List.range n).map fun i : Nat => nmP a at_ size i size.toNat := by
      intro n
      induction n with
      | zero => rfl
      | succ n ih => rw [List.range_succ, List.foldl_append, ih, List.map_append]; rfl
    rw [ef] at k1
    refine ⟨(List.range k.toNat).map fun i : Nat => nmP a at_ size i size.toNat, by simp; omega, fun x m => ?_, ?_, k1⟩
    · obtain ⟨i, _, rfl⟩ := List.mem_map.mp m
      rw [nmP_len]
      omega
    · refine List.pairwise_map.mpr (List.Pairwise.imp_of_mem ?_ List.nodup_range)
      intro i j mi mj hne e
      have hi : i < k.toNat := by simpa using mi
      have hj : j < k.toNat := by simpa using mj
      have := nmP_inj (n := size.toNat) (Int.toNat_of_nonneg (by omega)).symm ha (k1 := i) (k2 := j) (by omega) (by omega) (by omega) e
      omega
  by_cases hq : k ≤ 26
  · have b8 := emod_row (x := a) (b := 8) (by decide)
    have ba := emod_row (x := a / 8) (b := 1 + a % 8) (by omega)
    obtain ⟨xs, h1, h2, h3, e⟩ := main (1 + a % 8) (a / 8 % (1 + a % 8)) (by omega) (by omega) ba (.inr hq)
    have p : (0 : Int) < 1 + a % 8 := by omega
    refine ⟨xs, h1, h2, h3, ?_⟩
    simp [sNames2, hio, hq, range1, hr, e, p]
  · have b8 := emod_row (x := a) (b := 7) (by decide)
    have ba := emod_row (x := a / 8) (b := 2 + a % 7) (by omega)
    obtain ⟨xs, h1, h2, h3, e⟩ := main (2 + a % 7) (a / 8 % (2 + a % 7)) (by omega) (by omega) ba (.inl (by omega))
    have p : (0 : Int) < 2 + a % 7 := by omega
    refine ⟨xs, h1, h2, h3, ?_⟩
    simp [sNames2, hio, hq, range1, hr, e, p]
end Vm
/-! Vm: those behind, those ahead. -/
namespace Vm
open PySem L2
open PyProof.Rows hiding St
variable {Γ : Cf}
/-! had_by, slots: 0 rows, 1 name, 2 turn, 3 row -/
def sHadBy_e1 : E := .var 3
def sHadBy_e2 : E := .and (.cons (.cmp .le (.idx (.var 3) (.int 0)) (.var 2)) (.cons (.cmp .isin (.var 1) (.idx (.var 3) (.int 1))) .nil))
def sHadBy : Ss := .cons (.ret (.some (.bcall .len (.cons (.lc (sHadBy_e1) (.nm 3) (.seq (.var 0)) (.some (sHadBy_e2)) [3]) .nil)))) .nil
/-! witness_run, slots: 0 queue, 1 hours, 2 begin, 3 name, 4 turn, 5 row -/
def sWitnessRun_e1 (c_latest_of c_run_of : Nat) : E := .var 5
def sWitnessRun_e2 (c_latest_of c_run_of : Nat) : E := .cmp .le (.idx (.var 5) (.int 0)) (.var 4)
def sWitnessRun (c_latest_of c_run_of : Nat) : Ss := .cons (.asg false 4 (.call c_latest_of (.cons (.var 0) (.cons (.var 1) (.cons (.var 2) (.cons (.var 3) .nil)))))) (.cons (.ret (.some (.lc (sWitnessRun_e1 c_latest_of c_run_of) (.nm 5) (.seq (.call c_run_of (.cons (.var 0) (.cons (.var 1) (.cons (.var 2) (.cons (.non) .nil)))))) (.some (sWitnessRun_e2 c_latest_of c_run_of)) [5]))) .nil)
/-! _law_changed, slots: 0 _law_queue_here, 1 _law_place, 2 _law_cell_here, 3 _law_some, 4 _law_k, 5 _law_number, 6 _law_name, 7 _law_left -/
def sChanged_l1 (c_law_stir : Nat) : Ss := .cons (.asg false 5 (.call c_law_stir (.cons (.var 2) (.cons (.var 4) .nil)))) (.cons (.asgt (.tup [.nm 6, .nm 7]) (.idx (.var 0) (.var 4))) (.cons (.ife (.cmp .gt (.bin .mod (.var 5) (.int 4)) (.int 0)) (.cons (.mut .insert 3 [] (.cons (.look (.bin .add (.bin .add (.var 1) (.int 1)) (.bin .mod (.bin .fdiv (.var 5) (.int 4)) (.bin .sub (.bcall .len (.cons (.var 3) .nil)) (.var 1))))) (.cons (.tup (.cons (.var 6) (.cons (.bin .add (.int 1) (.bin .mod (.bin .fdiv (.var 5) (.int 64)) (.int 20))) .nil))) .nil))) .nil) (.nil)) .nil))
def sChanged (c_law_stir : Nat) : Ss := .cons (.asg true 3 (.bcall .list1 (.cons (.slc (.var 0) .none (.some (.bin .add (.var 1) (.int 1)))) .nil))) (.cons (.for (.nm 4) (.rng2 (.bin .add (.var 1) (.int 1)) (.bcall .len (.cons (.var 0) .nil))) (sChanged_l1 c_law_stir) [4, 5, 6, 7]) (.cons (.ret (.some (.mv 3))) .nil))
/-! _law_cut, slots: 0 _law_rows, 1 _law_names_here, 2 _law_name, 3 _law_turn, 4 _law_served -/
def sCut_e2 : E := .var 2
def sCut_e3 : E := .cmp .isin (.var 2) (.var 1)
def sCut_e1 : E := .tup (.cons (.var 3) (.cons (.lc (sCut_e2) (.nm 2) (.seq (.var 4)) (.some (sCut_e3)) [2]) .nil))
def sCut : Ss := .cons (.ret (.some (.lc (sCut_e1) (.tup [.nm 3, .nm 4]) (.seq (.var 0)) .none [3, 4]))) .nil
/-! _law_same, slots: 0 _law_queue_here, 1 _law_other, 2 _law_room, 3 _law_begin_here, 4 _law_place, 5 _law_name, 6 _law_ahead, 7 _law_one, 8 _law_due, 9 _law_found, 10 _law_rows, 11 _law_others, 12 _law_every, 13 _law_turn -/
def sSame_e1 (c_law_cut c_had_by c_latest_all c_run_of c_witness_run : Nat) : E := .idx (.var 7) (.int 0)
def sSame_l1 (c_law_cut c_had_by c_latest_all c_run_of c_witness_run : Nat) : Ss := .cons (.ife (.cmp .ne (.idx (.var 8) (.var 7)) (.idx (.var 9) (.var 7))) (.cons (.ret (.some (.bl false))) .nil) (.nil)) .nil
def sSame_l2 (c_law_cut c_had_by c_latest_all c_run_of c_witness_run : Nat) : Ss := .cons (.ife (.cmp .ne (.call c_had_by (.cons (.var 12) (.cons (.var 5) (.cons (.var 13) .nil)))) (.call c_had_by (.cons (.var 10) (.cons (.var 5) (.cons (.var 13) .nil))))) (.cons (.ret (.some (.bl false))) .nil) (.nil)) .nil
def sSame (c_law_cut c_had_by c_latest_all c_run_of c_witness_run : Nat) : Ss := .cons (.asg false 5 (.idx (.idx (.var 0) (.var 4)) (.int 0))) (.cons (.asg false 6 (.lc (sSame_e1 c_law_cut c_had_by c_latest_all c_run_of c_witness_run) (.nm 7) (.seq (.slc (.var 0) .none (.some (.bin .add (.var 4) (.int 1))))) .none [7])) (.cons (.asg false 8 (.call c_latest_all (.cons (.bcall .list1 (.cons (.var 0) .nil)) (.cons (.var 2) (.cons (.var 3) .nil))))) (.cons (.asg false 9 (.call c_latest_all (.cons (.bcall .list1 (.cons (.var 1) .nil)) (.cons (.var 2) (.cons (.var 3) .nil))))) (.cons (.for (.nm 7) (.seq (.var 6)) (sSame_l1 c_law_cut c_had_by c_latest_all c_run_of c_witness_run) [4, 7, 10, 11, 12, 13]) (.cons (.asg false 10 (.call c_witness_run (.cons (.bcall .list1 (.cons (.var 0) .nil)) (.cons (.var 2) (.cons (.var 3) (.cons (.var 5) .nil)))))) (.cons (.asg false 11 (.call c_witness_run (.cons (.bcall .list1 (.cons (.var 1) .nil)) (.cons (.var 2) (.cons (.var 3) (.cons (.var 5) .nil)))))) (.cons (.ife (.cmp .ne (.call c_law_cut (.cons (.var 10) (.cons (.var 6) .nil))) (.call c_law_cut (.cons (.var 11) (.cons (.var 6) .nil)))) (.cons (.ret (.some (.bl false))) .nil) (.nil)) (.cons (.asg false 12 (.call c_run_of (.cons (.bcall .list1 (.cons (.var 1) .nil)) (.cons (.var 2) (.cons (.var 3) (.cons (.non) .nil)))))) (.cons (.for (.nm 13) (.rng2 (.bin .sub (.var 3) (.int 1)) (.bin .add (.bcall .min2 (.cons (.idx (.var 8) (.var 5)) (.cons (.bin .add (.var 3) (.int 30)) .nil))) (.int 1))) (sSame_l2 c_law_cut c_had_by c_latest_all c_run_of c_witness_run) [0, 1, 2, 3, 4, 6, 7, 8, 9, 11, 13]) (.cons (.ret (.some (.bl true))) .nil))))))))))
/-! _law_eased, slots: 0 _law_queue_here, 1 _law_room, 2 _law_begin_here, 3 _law_cell_here, 4 _law_at, 5 _law_name, 6 _law_left, 7 _law_some, 8 _law_due, 9 _law_found, 10 _law_one -/
def sEased_e1 (c_latest_all : Nat) : E := .var 10
def sEased_e2 (c_latest_all : Nat) : E := .cmp .gt (.idx (.var 9) (.var 10)) (.idx (.var 8) (.var 10))
def sEased (c_latest_all : Nat) : Ss := .cons (.asg false 4 (.bin .mod (.var 3) (.bcall .len (.cons (.var 0) .nil)))) (.cons (.asgt (.tup [.nm 5, .nm 6]) (.idx (.var 0) (.var 4))) (.cons (.asg true 7 (.bin .add (.slc (.var 0) .none (.some (.var 4))) (.slc (.var 0) (.some (.bin .add (.var 4) (.int 1))) .none))) (.cons (.ife (.and (.cons (.cmp .eq (.bin .mod (.bin .fdiv (.var 3) (.int 64)) (.int 2)) (.int 1)) (.cons (.cmp .gt (.var 6) (.int 1)) .nil))) (.cons (.mut .insert 7 [] (.cons (.var 4) (.cons (.tup (.cons (.var 5) (.cons (.bin .add (.int 1) (.bin .mod (.bin .fdiv (.var 3) (.int 128)) (.bin .sub (.var 6) (.int 1)))) .nil))) .nil))) .nil) (.nil)) (.cons (.asg false 8 (.call c_latest_all (.cons (.bcall .list1 (.cons (.var 0) .nil)) (.cons (.var 1) (.cons (.var 2) .nil))))) (.cons (.asg false 9 (.call c_latest_all (.cons (.bcall .list1 (.cons (.var 7) .nil)) (.cons (.var 1) (.cons (.var 2) .nil))))) (.cons (.ret (.some (.cmp .eq (.lcd (sEased_e1 c_latest_all) (.nm 10) .keys 9 (.some (sEased_e2 c_latest_all)) [10]) (.lst .nil)))) .nil))))))
/-! ### those ahead -/
def cutV (N : List Str) (rs : List (Int × List Str)) : List (Int × List Str) := rs.map fun r => (r.1, r.2.filter fun x => decide (x ∈ N))
theorem served_app (a s : List (Str × Int)) (m : Nat) : servedV (a ++ s) m = servedV a m ++ servedV s (m - a.length) := by
  unfold servedV
  rw [List.take_append, List.map_append]
theorem behind_app (a s : List (Str × Int)) (m : Nat) : behindV (a ++ s) m = behindV a m ++ behindV s (m - a.length) := by
  by_cases h : m ≤ a.length
  · have e : m - a.length = 0 := by omega
    have e2 : behindV s (m - a.length) = s := by
      rw [e]
      simp [behindV]
    rw [e2]
    unfold behindV
    rw [List.take_append, e, List.take_zero, List.append_nil, List.drop_append_of_le_length h, List.append_assoc]
  · unfold behindV
    rw [List.take_append, List.drop_append, List.filter_append, List.map_append, List.drop_of_length_le (by omega : a.length ≤ m)]
    simp
theorem cut_run {l : List (Int × Int)} {rest : Int} {N : List Str} : ∀ (rs : List (Int × List Str)) (b : Int) (a s : List (Str × Int)) (ra : List (Int × List Str)), IsRun l rest b (a ++ s) rs → IsRun l rest b a ra → (∀ x ∈ nms a, x ∈ N) → (∀ x ∈ nms s, x ∉ N) → ∃ t, cutV N rs = ra ++ t ∧ ∀ r ∈ t, r.2 = []
  | [], b, a, s, ra, h, ha, _, _ => by
    have h' : a ++ s = [] := h
    have ea := (List.append_eq_nil_iff.mp h').1
    subst ea
    cases ra with
    | nil => exact ⟨[], rfl, fun r m => (List.not_mem_nil m).elim⟩
    | cons r ra => exact absurd rfl ha.1
  | r :: rs, b, [], s, ra, h, ha, _, hs => by
    cases ra with
    | cons r ra => exact absurd rfl ha.1
    | nil =>
      refine ⟨cutV N (r :: rs), rfl, fun r' m => ?_⟩
      obtain ⟨r0, m0, rfl⟩ := List.mem_map.mp m
      refine List.filter_eq_nil_iff.mpr fun x mx => ?_
      have := (run_names _ _ _ h).mpr ⟨r0, m0, mx⟩
      have := hs x this
      simpa using this
  | r :: rs, b, p :: a, s, ra, h, ha, hA, hs => by
    cases ra with
    | nil => cases ha
    | cons r1 ra =>
      obtain ⟨_, h2, h3⟩ := h
      obtain ⟨_, g2, g3⟩ := ha
      rw [behind_app] at h3
      obtain ⟨t, e, et⟩ := cut_run rs (b + 1) _ _ ra h3 g3 (fun x m => hA x ((behind_sub _ _).subset m)) (fun x m => hs x ((behind_sub _ _).subset m))
      refine ⟨t, ?_, et⟩
      unfold cutV at e ⊢
      rw [List.map_cons, e, List.cons_append, h2, g2]
      congr 2
      dsimp only
      rw [served_app, List.filter_append]
      have f1 : (servedV (p :: a) (lawAt l rest b).toNat).filter (fun x => decide (x ∈ N)) = servedV (p :: a) (lawAt l rest b).toNat := List.filter_eq_self.mpr fun x m => by
        have := hA x ((served_sub _ _).subset m)
        simpa using this
      have f2 : (servedV s ((lawAt l rest b).toNat - (p :: a).length)).filter (fun x => decide (x ∈ N)) = [] := List.filter_eq_nil_iff.mpr fun x m => by
        have := hs x ((served_sub _ _).subset m)
        simpa using this
      rw [f1, f2, List.append_nil]
/-! what is asked of rows, by those ahead -/
def hadV (rs : List (Int × List Str)) (x : Str) (t : Int) : Int := ((rs.filter fun r => decide (r.1 ≤ t) && decide (x ∈ r.2)).length : Int)
theorem had_cut {N : List Str} {x : Str} (hx : x ∈ N) (t : Int) : ∀ rs : List (Int × List Str), hadV (cutV N rs) x t = hadV rs x t
  | [] => rfl
  | r :: rs => by
    have ih := had_cut hx t rs
    unfold hadV cutV at *
    rw [List.map_cons]
    have e : decide (x ∈ r.2.filter fun x => decide (x ∈ N)) = decide (x ∈ r.2) := by
      by_cases g : x ∈ r.2
      · rw [decide_eq_true g, decide_eq_true (List.mem_filter.mpr ⟨g, by simpa using hx⟩)]
      · rw [decide_eq_false g, decide_eq_false fun y => g (List.mem_filter.mp y).1]
    rw [List.filter_cons, List.filter_cons]
    dsimp only
    rw [e]
    by_cases k : (decide (r.1 ≤ t) && decide (x ∈ r.2)) = true
    · rw [if_pos k, if_pos k, List.length_cons, List.length_cons]
      omega
    · rw [if_neg k, if_neg k]
      exact ih
theorem had_app (x : Str) (t : Int) (a c : List (Int × List Str)) : hadV (a ++ c) x t = hadV a x t + hadV c x t := by
  unfold hadV
  rw [List.filter_append, List.length_append]
  omega
theorem had_no {x : Str} {t : Int} {c : List (Int × List Str)} (h : ∀ r ∈ c, x ∉ r.2) : hadV c x t = 0 := by
  unfold hadV
  rw [List.filter_eq_nil_iff.mpr fun r m => by simp [h r m]]
  rfl
/-- the rows of those ahead, in a run of all -/
theorem ahead_had {l : List (Int × Int)} {rest b : Int} {a s : List (Str × Int)} {rs ra : List (Int × List Str)} {x : Str} (h : IsRun l rest b (a ++ s) rs) (ha : IsRun l rest b a ra) (hd : ∀ y ∈ nms s, y ∉ nms a) (hx : x ∈ nms a) (t : Int) : hadV rs x t = hadV ra x t := by
  obtain ⟨c, e, ec⟩ := cut_run rs b a s ra h ha (fun _ m => m) hd
  rw [← had_cut hx t rs, e, had_app, had_no (c := c) fun r m y => by rw [ec r m] at y; cases y]
  omega
theorem get_cut {N : List Str} {x : Str} (hx : x ∈ N) (rs : List (Int × List Str)) : dgetV (endsV (cutV N rs)) x = dgetV (endsV rs) x := by
  by_cases h : ∃ r ∈ rs, x ∈ r.2
  · obtain ⟨a, r, t, rfl, h1, h2⟩ := last_split h
    rw [ends_at h1 h2]
    unfold cutV
    rw [List.map_append, List.map_cons]
    refine ends_at (List.mem_filter.mpr ⟨h1, by simpa using hx⟩) fun r' m y => ?_
    obtain ⟨r0, m0, rfl⟩ := List.mem_map.mp m
    exact h2 r0 m0 (List.mem_filter.mp y).1
  · rw [ends_none fun r m y => h ⟨r, m, y⟩]
    refine ends_none fun r m y => ?_
    obtain ⟨r0, m0, rfl⟩ := List.mem_map.mp m
    exact h ⟨r0, m0, (List.mem_filter.mp y).1⟩
theorem ahead_ends {l : List (Int × Int)} {rest b : Int} {a s : List (Str × Int)} {rs ra : List (Int × List Str)} {x : Str} (h : IsRun l rest b (a ++ s) rs) (ha : IsRun l rest b a ra) (hd : ∀ y ∈ nms s, y ∉ nms a) (hx : x ∈ nms a) : dgetV (endsV rs) x = dgetV (endsV ra) x := by
  obtain ⟨c, e, ec⟩ := cut_run rs b a s ra h ha (fun _ m => m) hd
  rw [← get_cut hx rs, e]
  obtain ⟨a1, r, t, rfl, h1, h2⟩ := last_split ((run_names _ _ _ ha).mp hx)
  have h3 : ∀ r' ∈ t ++ c, x ∉ r'.2 := fun r' m y => by
    rcases List.mem_append.mp m with m | m
    · exact h2 r' m y
    · rw [ec r' m] at y
      cases y
  rw [show a1 ++ r :: t ++ c = a1 ++ r :: (t ++ c) by simp, ends_at h1 h3, ends_at h1 h2]
theorem ahead_rows {l : List (Int × Int)} {rest b : Int} {a s : List (Str × Int)} {rs a1 t : List (Int × List Str)} {r : Int × List Str} (h : IsRun l rest b (a ++ s) rs) (ha : IsRun l rest b a (a1 ++ r :: t)) (hd : ∀ y ∈ nms s, y ∉ nms a) : cutV (nms a) (rs.filter fun p => decide (p.1 ≤ r.1)) = a1 ++ [r] := by
  obtain ⟨c, e, ec⟩ := cut_run rs b a s _ h ha (fun _ m => m) hd
  have e1 : cutV (nms a) (rs.filter fun p => decide (p.1 ≤ r.1)) = (cutV (nms a) rs).filter fun p => decide (p.1 ≤ r.1) := by
    unfold cutV
    rw [List.filter_map]
    rfl
  rw [e1, e, List.filter_append, run_cut ha]
  have lc : (cutV (nms a) rs).length = (a1 ++ r :: t).length + c.length := by rw [e, List.length_append]
  have f : c.filter (fun p => decide (p.1 ≤ r.1)) = [] := List.filter_eq_nil_iff.mpr fun p m => by
    obtain ⟨c1, c2, rfl⟩ := List.append_of_mem m
    have g : cutV (nms a) rs = ((a1 ++ r :: t) ++ c1) ++ p :: c2 := by rw [e]; simp
    unfold cutV at g
    obtain ⟨rs1, rs2, q1, q2, q3⟩ := List.map_eq_append_iff.mp g
    cases rs2 with
    | nil => cases q3
    | cons p0 rs2 =>
      rw [q1] at h
      have hm := run_mid h
      have l1 := congrArg List.length q2
      rw [List.length_map] at l1
      have hr := run_mid ha
      rw [List.map_cons] at q3
      have ep : p.1 = p0.1 := by
        have := (List.cons.inj q3).1
        rw [← this]
      rw [l1] at hm
      simp only [List.length_append, List.length_cons] at hm
      simp
      omega
  rw [f, List.append_nil]
/-! ### fewer, less -/
inductive Le : List (Str × Int) → List (Str × Int) → Prop
  | nil : Le [] []
  | skip {q' q : List (Str × Int)} (p : Str × Int) : Le q' q → Le q' (p :: q)
  | keep {q' q : List (Str × Int)} (x : Str) {v' v : Int} : v' ≤ v → Le q' q → Le ((x, v') :: q') ((x, v) :: q)
theorem Le.refl : ∀ q, Le q q
  | [] => .nil
  | (x, v) :: q => .keep x (Int.le_refl _) (Le.refl q)
theorem Le.app : ∀ (a : List (Str × Int)) {q' q : List (Str × Int)}, Le q' q → Le (a ++ q') (a ++ q)
  | [], _, _, h => h
  | (x, v) :: a, _, _, h => .keep x (Int.le_refl _) (Le.app a h)
theorem Le.names {q' q : List (Str × Int)} (h : Le q' q) : ∀ x ∈ nms q', x ∈ nms q := by
  induction h with
  | nil => exact fun _ m => m
  | skip p _ ih => exact fun x m => List.mem_cons_of_mem _ (ih x m)
  | keep x _ _ ih =>
    intro y m
    rcases List.mem_cons.mp m with m | m
    · rw [m]
      exact List.mem_cons_self ..
    · exact List.mem_cons_of_mem _ (ih y m)
theorem behind_cons (p : Str × Int) (q : List (Str × Int)) (m : Nat) : behindV (p :: q) (m + 1) = if 1 < p.2 then (p.1, p.2 - 1) :: behindV q m else behindV q m := by
  unfold behindV
  rw [List.take_succ_cons, List.drop_succ_cons]
  by_cases h1 : 1 < p.2
  · rw [List.filter_cons_of_pos (by simpa using h1), if_pos h1]
    rfl
  · rw [List.filter_cons_of_neg (by simpa using h1), if_neg h1]
theorem behind_zero (q : List (Str × Int)) : behindV q 0 = q := by simp [behindV]
theorem Le.behind {q' q : List (Str × Int)} (h : Le q' q) : ∀ m m' : Nat, m ≤ m' → Le (behindV q' m') (behindV q m) := by
  induction h with
  | nil =>
    intro m m' _
    have e : ∀ k, behindV ([] : List (Str × Int)) k = [] := fun k => by simp [behindV]
    rw [e, e]
    exact .nil
  | skip p h ih =>
    intro m m' hm
    cases m with
    | zero =>
      rw [behind_zero]
      have := ih 0 m' (Nat.zero_le _)
      rw [behind_zero] at this
      exact .skip p this
    | succ m =>
      rw [behind_cons]
      have := ih m m' (by omega)
      split
      · exact .skip _ this
      · exact this
  | @keep q' q x v' v hv h ih =>
    intro m m' hm
    cases m' with
    | zero =>
      obtain rfl : m = 0 := by omega
      rw [behind_zero, behind_zero]
      exact .keep x hv h
    | succ k =>
      rw [behind_cons]
      cases m with
      | zero =>
        rw [behind_zero]
        have := ih 0 k (Nat.zero_le _)
        rw [behind_zero] at this
        split
        · exact .keep x (by dsimp only; omega) this
        · exact .skip _ this
      | succ j =>
        rw [behind_cons]
        have := ih j k (by omega)
        by_cases h1 : 1 < v'
        · rw [if_pos h1, if_pos (show 1 < v by omega)]
          exact .keep x (by dsimp only; omega) this
        · rw [if_neg h1]
          split
          · exact .skip _ this
          · exact this
theorem le_last {l : List (Int × Int)} {rest : Int} {x : Str} : ∀ (rs' rs : List (Int × List Str)) (b : Int) (q' q : List (Str × Int)), IsRun l rest b q' rs' → IsRun l rest b q rs → Le q' q → ∀ r' ∈ rs', x ∈ r'.2 → ∃ r ∈ rs, x ∈ r.2 ∧ r'.1 ≤ r.1
  | [], _, _, _, _, _, _, _, r', m, _ => (List.not_mem_nil m).elim
  | r0 :: rs', rs, b, q', q, h', h, hl, r', m, hx => by
    have hh := h
    have hh' := h'
    obtain ⟨h1, h2, h3⟩ := h'
    rcases List.mem_cons.mp m with m | m
    · have hq : x ∈ nms q := hl.names x ((run_names _ _ _ hh').mpr ⟨r0, List.mem_cons_self .., by rw [← m]; exact hx⟩)
      obtain ⟨r, mr, er⟩ := (run_names _ _ _ hh).mp hq
      refine ⟨r, mr, er, ?_⟩
      rw [m, h2]
      exact run_low _ _ _ hh r mr
    · cases rs with
      | nil =>
        have hq : q = [] := h
        subst hq
        cases hl
        exact absurd rfl h1
      | cons r1 rs =>
        obtain ⟨_, g2, g3⟩ := h
        obtain ⟨r, mr, e1, e2⟩ := le_last rs' rs _ _ _ h3 g3 (hl.behind _ _ (Nat.le_refl _)) r' m hx
        exact ⟨r, List.mem_cons_of_mem _ mr, e1, e2⟩
/-- who ends earlier -/
theorem le_ends {l : List (Int × Int)} {rest b : Int} {q' q : List (Str × Int)} {rs' rs : List (Int × List Str)} {x : Str} {v : Int} (h' : IsRun l rest b q' rs') (h : IsRun l rest b q rs) (hl : Le q' q) (hv : dgetV (endsV rs') x = some v) : ∃ w, dgetV (endsV rs) x = some w ∧ v ≤ w := by
  by_cases g : ∃ r ∈ rs', x ∈ r.2
  · obtain ⟨a, r, t, rfl, h1, h2⟩ := last_split g
    rw [ends_at h1 h2] at hv
    cases hv
    obtain ⟨r2, m2, e2, l2⟩ := le_last _ _ _ _ _ h' h hl r (by simp) h1
    obtain ⟨a3, r3, t3, rfl, h3, h4⟩ := last_split ⟨r2, m2, e2⟩
    refine ⟨r3.1, ends_at h3 h4, ?_⟩
    have : r2.1 ≤ r3.1 := by
      rcases List.mem_append.mp m2 with m | m
      · have := run_high a3 _ _ _ h r2 m
        have := run_mid h
        omega
      · rcases List.mem_cons.mp m with m | m
        · rw [m]
          exact Int.le_refl _
        · exact absurd e2 (h4 r2 m)
    omega
  · rw [ends_none fun r m y => g ⟨r, m, y⟩] at hv
    cases hv
end Vm
/-! Vm: had_by, witness_run and what the law about those behind asks. -/
namespace Vm
open PySem L2
open PyProof.Rows hiding St
variable {Γ : Cf}
def HadByS (c : CF) : Prop := ∀ rows x t, rows.length ≤ 10000 → c [(false, dW rows), (false, .str x), (false, .int t)] = .ok true (.int (hadV rows x t)) [none, none, none]
theorem sHadBy_v {rows : List (Int × List Str)} {x : Str} {t : Int} (hio : Γ.io = []) (hr : rows.length ≤ 10000) : ∃ env, evSs Γ sHadBy [some (false, dW rows), some (false, .str x), some (false, .int t), none] = .ret true (.int (hadV rows x t)) env := by
  have big := sizeBig
  have k1 := lcRun_fm (el := evE Γ sHadBy_e1) (c := evC Γ (.some sHadBy_e2)) (t := .nm 3) (vs := [3]) (env1 := [some (false, dW rows), some (false, .str x), some (false, .int t), none])
    rw_ (fun r => decide (r.1 ≤ t) && decide (x ∈ r.2)) rw_ rows (by omega) rfl fun r m => by
      by_cases h : r.1 ≤ t
      · by_cases g : x ∈ r.2
        · simp [sHadBy_e1, sHadBy_e2, rw_, h, g]
        · simp [sHadBy_e1, sHadBy_e2, rw_, h, g]
      · simp [sHadBy_e1, sHadBy_e2, rw_, h]
  simp only [evC] at k1
  simp [sHadBy, k1, hadV]
def WitnessS (c : CF) : Prop := ∀ l rest b q (a t : List (Int × List Str)) r x, HOk l rest → QOk q → 0 ≤ b → IsRun l rest b q (a ++ r :: t) → x ∈ r.2 → (∀ r' ∈ t, x ∉ r'.2) → c [(false, dQ q), (false, insH l rest), (false, .int b), (false, .str x)] = .ok true (.lst true (((a ++ r :: t).filter fun p => decide (p.1 ≤ r.1)).map rw_)) [none, none, none, none]
theorem sWitnessRun_v {l : List (Int × Int)} {rest b : Int} {q : List (Str × Int)} {a t : List (Int × List Str)} {r : Int × List Str} {x : Str} {ca cr : Nat} (hio : Γ.io = []) (hc : LatestOfS (Γ.call ca)) (hr : RunOfS (Γ.call cr)) (hl : HOk l rest) (hq : QOk q) (hb : 0 ≤ b) (h : IsRun l rest b q (a ++ r :: t)) (h1 : x ∈ r.2) (h2 : ∀ r' ∈ t, x ∉ r'.2) :
    ∃ env, evSs Γ (sWitnessRun ca cr) [some (false, dQ q), some (false, insH l rest), some (false, .int b), some (false, .str x), none, none] = .ret true (.lst true (((a ++ r :: t).filter fun p => decide (p.1 ≤ r.1)).map rw_)) env := by
  have big := sizeBig
  have e2 := hc l rest b q a t r x hl hq hb h h1 h2
  obtain ⟨rs', h', lr, e1⟩ := hr l rest b q hl hq hb
  have := run_one _ _ _ _ h h'
  rw [← this] at e1 lr
  have k1 := lcRun_fm (el := evE Γ (sWitnessRun_e1 ca cr)) (c := evC Γ (.some (sWitnessRun_e2 ca cr))) (t := .nm 5) (vs := [5]) (env1 := [some (false, dQ q), some (false, insH l rest), some (false, .int b), some (false, .str x), some (false, .int r.1), none])
    rw_ (fun p => decide (p.1 ≤ r.1)) rw_ (a ++ r :: t) (by omega) rfl fun p m => by
      by_cases g : p.1 ≤ r.1
      · simp [sWitnessRun_e1, sWitnessRun_e2, rw_, g]
      · simp [sWitnessRun_e1, sWitnessRun_e2, rw_, g]
  simp only [evC] at k1
  generalize a ++ r :: t = rs at *
  simp [sWitnessRun, hio, e1, e2, k1]
def CutS (c : CF) : Prop := ∀ (rows : List (Int × List Str)) (N : List Str), rows.length ≤ 10000 → (∀ r ∈ rows, r.2.length ≤ 60) → ∃ d, stl (true, d) = dW (cutV N rows) ∧ c [(false, dW rows), (false, dS N)] = .ok true d [none, none]
theorem sCut_v {rows : List (Int × List Str)} {N : List Str} (hio : Γ.io = []) (hr : rows.length ≤ 10000) (hn : ∀ r ∈ rows, r.2.length ≤ 60) : ∃ d, stl (true, d) = dW (cutV N rows) ∧ ∃ env, evSs Γ sCut [some (false, dW rows), some (false, dS N), none, none, none] = .ret true d env := by
  have big := sizeBig
  have s2 : 2 ≤ sizeLine := by omega
  have k1 := lcRun_map (el := evE Γ sCut_e1) (c := fun x => (some true, x)) (t := .tup [.nm 3, .nm 4]) (vs := [3, 4]) (env1 := [some (false, dW rows), some (false, dS N), none, none, none])
    rw_ (fun r => .tup [.int r.1, .lst true ((r.2.filter fun x => decide (x ∈ N)).map .str)]) rows (by omega) rfl fun r m => by
      have k := lcRun_fm (el := evE Γ sCut_e2) (c := evC Γ (.some sCut_e3)) (t := .nm 2) (vs := [2]) (env1 := [some (false, dW rows), some (false, dS N), none, some (false, .int r.1), some (false, dS r.2)])
        D.str (fun x => decide (x ∈ N)) D.str r.2 (by have := hn r m; omega) rfl fun x mx => by
          by_cases g : x ∈ N
          · simp [sCut_e2, sCut_e3, g]
          · simp [sCut_e2, sCut_e3, g]
      simp only [evC] at k
      simp [sCut_e1, rw_, k, s2]
  refine ⟨.lst true (rows.map fun r => .tup [.int r.1, .lst true ((r.2.filter fun x => decide (x ∈ N)).map .str)]), ?_, ?_⟩
  · unfold cutV
    simp [rw_]
  · simp [sCut, k1]
def ChangedS (c : CF) : Prop := ∀ (q : List (Str × Int)) (n : Nat) (k : Int), QOk q → n < q.length → ∃ s, QOk (q.take (n + 1) ++ s) ∧ (∀ x ∈ nms s, x ∈ nms (q.drop (n + 1))) ∧ c [(false, dQ q), (false, .int n), (false, .int k)] = .ok true (.lst true ((q.take (n + 1) ++ s).map tk)) [none, none, none]
theorem sChanged_v {q : List (Str × Int)} {n : Nat} {k : Int} {cs : Nat} (hio : Γ.io = []) (hc : StirS (Γ.call cs)) (hq : QOk q) (hn : n < q.length) :
    ∃ s, QOk (q.take (n + 1) ++ s) ∧ (∀ x ∈ nms s, x ∈ nms (q.drop (n + 1))) ∧ ∃ env, evSs Γ (sChanged cs) [some (false, dQ q), some (false, .int n), some (false, .int k), none, none, none, none, none] = .ret true (.lst true ((q.take (n + 1) ++ s).map tk)) env := by
  have big := sizeBig
  have s2 : 2 ≤ sizeLine := by omega
  have lq := hq.1
  have lA : (q.take (n + 1)).length = n + 1 := by rw [List.length_take]; omega
  generalize hA : q.take (n + 1) = A at *
  obtain ⟨env', k1, w, he, s, hw, hl, hs1, hs2⟩ := forL_inv (b := evSs Γ (sChanged_l1 cs)) (set := tgSet [] (.nm 4)) (vs := [4, 5, 6, 7]) (fun i : Nat => .int ((n : Int) + 1 + (i : Int)))
    (fun i env => ∃ w : List (Str × Int), env = [some (false, dQ q), some (false, .int n), some (false, .int k), some (true, .lst true (w.map tk)), none, none, none, none] ∧ ∃ s, w = A ++ s ∧ s.length ≤ i ∧ (∀ x ∈ nms s, x ∈ nms (q.drop (n + 1))) ∧ ∀ p ∈ s, 1 ≤ p.2 ∧ p.2 ≤ 20 ∧ p.1.length ≤ 20)
    (List.range (q.length - (n + 1))) 0 _ ⟨A, rfl, [], by simp, Nat.le_refl _, fun x m => (List.not_mem_nil m).elim, fun p m => (List.not_mem_nil m).elim⟩ fun i env x hx ⟨w, he, s, hw, hl, hs1, hs2⟩ => by
      subst he
      have hx' := List.getElem?_eq_some_iff.mp hx
      have hi : i < q.length - (n + 1) := by simpa using hx'.1
      have ex : x = i := by simpa using hx'.2.symm
      subst ex
      have hb : n + 1 + x < q.length := by omega
      have e1 := hc k ((n : Int) + 1 + x)
      generalize hN : stirV k ((n : Int) + 1 + x) = N at *
      have ea : atI (q.map tk) ((n : Int) + 1 + x) = some (.tup [.str q[n + 1 + x].1, .int q[n + 1 + x].2]) := by
        rw [atI_nn (by omega) (by simp; omega), List.getElem?_map, show ((n : Int) + 1 + x).toNat = n + 1 + x by omega, List.getElem?_eq_getElem hb]
        rfl
      have hp := hq.2 _ (List.getElem_mem hb)
      have hm : q[n + 1 + x].1 ∈ nms (q.drop (n + 1)) := by
        refine List.mem_map_of_mem (f := fun p : Str × Int => p.1) ?_
        have : (q.drop (n + 1))[x]? = some q[n + 1 + x] := by
          rw [List.getElem?_drop, List.getElem?_eq_getElem hb]
        exact List.mem_of_getElem? this
      generalize q[n + 1 + x] = p at *
      have b20 := emod_row (x := N / 64) (b := 20) (by decide)
      have wl : w.length = n + 1 + s.length := by rw [hw, List.length_append, lA]
      by_cases g : 0 < N % 4
      · have lS : (n : Int) < (w.length : Int) := by omega
        have lS2 : n < w.length := by omega
        have bj := emod_row (x := N / 4) (b := (w.length : Int) - n) (by omega)
        generalize hJ : N / 4 % ((w.length : Int) - n) = J at *
        have z1 : 0 ≤ (n : Int) + 1 + J := by omega
        have z2 : (n : Int) + 1 + J < 1000000000 := by omega
        have z3 : w.length < sizeLine := by omega
        have hj : ((n : Int) + 1 + J).toNat = n + 1 + J.toNat := by omega
        refine ⟨[some (false, dQ q), some (false, .int n), some (false, .int k), some (true, .lst true (w.map tk)), some (false, .int ((n : Int) + 1 + x)), none, none, none], [some (false, dQ q), some (false, .int n), some (false, .int k), some (true, .lst true ((w.take ((n : Int) + 1 + J).toNat ++ [(p.1, 1 + N / 64 % 20)] ++ w.drop ((n : Int) + 1 + J).toNat).map tk)), some (false, .int ((n : Int) + 1 + x)), some (false, .int N), some (false, .str p.1), some (false, .int p.2)], by simp, .inl ?_, w.take ((n : Int) + 1 + J).toNat ++ [(p.1, 1 + N / 64 % 20)] ++ w.drop ((n : Int) + 1 + J).toNat, by simp, s.take J.toNat ++ [(p.1, 1 + N / 64 % 20)] ++ s.drop J.toNat, ?_, ?_, fun y m => ?_, fun y m => ?_⟩
        · have et : tk (p.1, 1 + N / 64 % 20) = .tup [.str p.1, .int (1 + N / 64 % 20)] := rfl
          simp [sChanged_l1, hio, e1, ea, g, lS, lS2, hJ, z1, z2, z3, s2, et]
        · rw [hj, hw, List.take_append, List.drop_append, lA, List.take_of_length_le (by omega : A.length ≤ n + 1 + J.toNat), List.drop_of_length_le (by omega : A.length ≤ n + 1 + J.toNat), show n + 1 + J.toNat - (n + 1) = J.toNat by omega]
          simp
        · simp
          omega
        · unfold nms at m
          simp only [List.map_append, List.map_cons, List.map_nil, List.mem_append, List.mem_singleton] at m
          rcases m with (m | m) | m
          · obtain ⟨p', m', rfl⟩ := List.mem_map.mp m
            exact hs1 _ (List.mem_map_of_mem (List.mem_of_mem_take m'))
          · rw [m]
            exact hm
          · obtain ⟨p', m', rfl⟩ := List.mem_map.mp m
            exact hs1 _ (List.mem_map_of_mem (List.mem_of_mem_drop m'))
        · rcases List.mem_append.mp m with m | m
          · rcases List.mem_append.mp m with m | m
            · exact hs2 y (List.mem_of_mem_take m)
            · rw [List.mem_singleton.mp m]
              exact ⟨by dsimp only; omega, by dsimp only; omega, hp.2.2⟩
          · exact hs2 y (List.mem_of_mem_drop m)
      · refine ⟨[some (false, dQ q), some (false, .int n), some (false, .int k), some (true, .lst true (w.map tk)), some (false, .int ((n : Int) + 1 + x)), none, none, none], [some (false, dQ q), some (false, .int n), some (false, .int k), some (true, .lst true (w.map tk)), some (false, .int ((n : Int) + 1 + x)), some (false, .int N), some (false, .str p.1), some (false, .int p.2)], by simp, .inl ?_, w, by simp, s, hw, by omega, hs1, hs2⟩
        simp [sChanged_l1, hio, e1, ea, g]
  subst he
  rw [List.length_range] at hl
  refine ⟨s, ⟨by rw [List.length_append, lA]; omega, fun p m => ?_⟩, hs1, ?_⟩
  · rcases List.mem_append.mp m with m | m
    · rw [← hA] at m
      exact hq.2 p (List.mem_of_mem_take m)
    · exact hs2 p m
  · rw [← hw]
    have r1 : rngOk ((n : Int) + 1) = true := rng_of (by omega) (by omega)
    have r2 : rngOk (q.length : Int) = true := rng_of (by omega) (by omega)
    have er : range2 ((n : Int) + 1) (q.length : Int) = (List.range (q.length - (n + 1))).map fun i : Nat => .int ((n : Int) + 1 + (i : Int)) := by
      unfold range2
      rw [show ((q.length : Int) - ((n : Int) + 1)).toNat = q.length - (n + 1) by omega]
    have ec : cutD (q.map tk) none (some ((n : Int) + 1)) = A.map tk := by
      have := cutD_hi q (n + 1)
      push_cast at this
      rw [cutD_map, this, hA]
    simp [sChanged, hio, ec, r1, r2, er, k1]
end Vm
/-! Vm: the law's two questions about those ahead. -/
namespace Vm
open PySem L2
open PyProof.Rows hiding St
variable {Γ : Cf}
def RunEx : Prop := ∀ l rest b q, HOk l rest → QOk q → 0 ≤ b → ∃ rs : List (Int × List Str), IsRun l rest b q rs ∧ rs.length ≤ 10000
theorem get_mem {d : List (Str × Int)} {p : Str × Int} (h : p ∈ d) : ∃ v, dgetV d p.1 = some v := by
  induction d with
  | nil => cases h
  | cons a d ih =>
    rw [get_cons]
    by_cases e : a.1 = p.1
    · exact ⟨a.2, if_pos e⟩
    · rw [if_neg e]
      rcases List.mem_cons.mp h with h | h
      · exact absurd (by rw [h]) e
      · exact ih h
def EasedS (c : CF) : Prop := ∀ l rest b q k, HOk l rest → QOk q → q ≠ [] → 0 ≤ b → c [(false, dQ q), (false, insH l rest), (false, .int b), (false, .int k)] = .ok false (.bl true) [none, none, none, none]
theorem sEased_v {l : List (Int × Int)} {rest b k : Int} {q : List (Str × Int)} {ca : Nat} (hio : Γ.io = []) (hx : RunEx) (hc : LatestAllS (Γ.call ca)) (hl : HOk l rest) (hq : QOk q) (hne : q ≠ []) (hb : 0 ≤ b) :
    ∃ env, evSs Γ (sEased ca) [some (false, dQ q), some (false, insH l rest), some (false, .int b), some (false, .int k), none, none, none, none, none, none, none] = .ret false (.bl true) env := by
  have big := sizeBig
  have s2 : 2 ≤ sizeLine := by omega
  have lq : 0 < q.length := List.length_pos_iff.mpr hne
  have lq60 := hq.1
  have ba := emod_row (x := k) (b := (q.length : Int)) (by omega)
  generalize hi : k % (q.length : Int) = i at *
  obtain ⟨n, hn⟩ : ∃ n : Nat, i = (n : Int) := ⟨i.toNat, (Int.toNat_of_nonneg ba.1).symm⟩
  have hnl : n < q.length := by omega
  have eq0 : q = q.take n ++ q[n] :: q.drop (n + 1) := by rw [← List.drop_eq_getElem_cons hnl, List.take_append_drop]
  have lA : (q.take n).length = n := by rw [List.length_take]; omega
  have c1 : cutD (q.map tk) none (some i) = (q.take n).map tk := by rw [hn, cutD_map, cutD_hi]
  have c2 : cutD (q.map tk) (some (i + 1)) none = (q.drop (n + 1)).map tk := by
    rw [hn]
    have := cutD_lo q (n + 1)
    push_cast at this
    rw [cutD_map, this]
  have ea : atI (q.map tk) i = some (.tup [.str q[n].1, .int q[n].2]) := by
    rw [hn, atI_nn (by omega) (by simp; omega), List.getElem?_map, Int.toNat_natCast, List.getElem?_eq_getElem hnl]
    rfl
  have hp := hq.2 _ (List.getElem_mem hnl)
  have hA : ∀ p ∈ q.take n, p ∈ q := fun p m => List.mem_of_mem_take m
  have hB : ∀ p ∈ q.drop (n + 1), p ∈ q := fun p m => List.mem_of_mem_drop m
  have lB : (q.drop (n + 1)).length ≤ 60 := by rw [List.length_drop]; omega
  generalize q.take n = A at *
  generalize q.drop (n + 1) = B at *
  generalize q[n] = p at *
  obtain ⟨x, v⟩ := p
  dsimp only at ea hp
  have lAB : A.length + B.length + 1 = q.length := by
    rw [eq0]
    simp
    omega
  -- what both are asked
  have fin : ∀ q' : List (Str × Int), QOk q' → Le q' q → ∃ env, evSs Γ (dropN 4 (sEased ca)) [some (false, dQ q), some (false, insH l rest), some (false, .int b), some (false, .int k), some (false, .int i), some (false, .str x), some (false, .int v), some (true, .lst true (q'.map tk)), none, none, none] = .ret false (.bl true) env := by
    intro q' hq' hle
    obtain ⟨rs, h, _⟩ := hx l rest b q hl hq hb
    obtain ⟨rs', h', _⟩ := hx l rest b q' hl hq' hb
    have e1 := hc l rest b q rs hl hq hb h
    have e2 := hc l rest b q' rs' hl hq' hb h'
    have k1 := lcRun_fm (el := evE Γ (sEased_e1 ca)) (c := evC Γ (.some (sEased_e2 ca))) (t := .nm 10) (vs := [10])
      (env1 := [some (false, dQ q), some (false, insH l rest), some (false, .int b), some (false, .int k), some (false, .int i), some (false, .str x), some (false, .int v), some (false, dQ q'), some (false, .dic false (dkv (endsV rs))), some (false, .dic false (dkv (endsV rs'))), none])
      (fun p : Str × Int => .str p.1) (fun _ => false) (fun p => .str p.1) (endsV rs') (by
        have : ∀ (rows : List (Int × List Str)) (d : List (Str × Int)), (∀ r ∈ rows, r.2.length ≤ 60) → (rows.foldl rowE d).length ≤ d.length + 60 * rows.length := by
          intro rows
          induction rows with
          | nil => intro d _; simp
          | cons r rows ih =>
            intro d hr
            rw [List.foldl_cons, List.length_cons]
            have h1 := ih (rowE d r) fun r' m => hr r' (List.mem_cons_of_mem _ m)
            have h2 := row_len r.1 r.2 d
            have h3 := hr r (List.mem_cons_self ..)
            unfold rowE at h1 ⊢
            omega
        have := this rs' [] (run_short _ _ _ (qg_of hq') h')
        have lr' : rs'.length ≤ 10000 := by
          obtain ⟨rs2, h2, l2⟩ := hx l rest b q' hl hq' hb
          rw [run_one _ _ _ _ h' h2]
          exact l2
        unfold endsV
        simp at this
        omega) rfl fun p m => by
        obtain ⟨v1, g1⟩ := get_mem m
        obtain ⟨w1, g2, g3⟩ := le_ends h' h hle g1
        have f1 := kfind_get (endsV rs') p.1
        have f2 := kfind_get (endsV rs) p.1
        rw [g1] at f1
        rw [g2] at f2
        have g4 : ¬ w1 < v1 := by omega
        simp [sEased_e1, sEased_e2, f1, f2, g4]
    have ff : (endsV rs').filter (fun _ => false) = [] := List.filter_eq_nil_iff.mpr fun _ _ => by simp
    rw [ff] at k1
    simp only [evC] at k1
    have en : opEq (.lst false []) (.lst false []) = some true := rfl
    simp [sEased, dropN, hio, e1, e2, k1, en]
  have q0 : QOk (A ++ B) := by
    refine ⟨by rw [List.length_append]; omega, fun p m => ?_⟩
    rcases List.mem_append.mp m with m | m
    · exact hq.2 p (hA p m)
    · exact hq.2 p (hB p m)
  have l0 : Le (A ++ B) q := by
    rw [eq0]
    exact Le.app A (.skip _ (Le.refl B))
  have z1 : A.length + B.length ≤ sizeLine := by omega
  have zl : (0 : Int) < (q.length : Int) := by omega
  by_cases hw : k / 64 % 2 = 1 ∧ 1 < v
  · have h1' : (k / 64 % 2 == 1) = true := by simpa using hw.1
    have bw := emod_row (x := k / 128) (b := v - 1) (by omega)
    have q1 : QOk (A ++ (x, 1 + k / 128 % (v - 1)) :: B) := by
      refine ⟨by rw [List.length_append, List.length_cons]; omega, fun p m => ?_⟩
      rcases List.mem_append.mp m with m | m
      · exact hq.2 p (hA p m)
      · rcases List.mem_cons.mp m with m | m
        · rw [m]
          exact ⟨by dsimp only; omega, by dsimp only; omega, hp.2.2⟩
        · exact hq.2 p (hB p m)
    have l1 : Le (A ++ (x, 1 + k / 128 % (v - 1)) :: B) q := by
      rw [eq0]
      exact Le.app A (.keep x (by omega) (Le.refl B))
    obtain ⟨env, e⟩ := fin _ q1 l1
    refine ⟨env, ?_⟩
    rw [ev_split Γ 4, ← e]
    generalize dropN 4 (sEased ca) = T
    have hv := hw.2
    have z2 : i < 1000000000 := by omega
    have z0 : 0 ≤ i := ba.1
    have hin : i.toNat = n := by omega
    have z3 : A.length + B.length < sizeLine := by omega
    have et : tk (x, 1 + k / 128 % (v - 1)) = .tup [.str x, .int (1 + k / 128 % (v - 1))] := rfl
    have t1 : (A.map tk ++ B.map tk).take n = A.map tk := by
      rw [List.take_append_of_le_length (by rw [List.length_map]; omega), List.take_of_length_le (by rw [List.length_map]; omega)]
    have t2 : (A.map tk ++ B.map tk).drop n = B.map tk := by
      rw [List.drop_append, List.drop_of_length_le (by rw [List.length_map]; omega), List.length_map, lA, Nat.sub_self]
      simp
    simp [sEased, takeN, hio, hi, zl, lq, ea, c1, c2, h1', hv, z1, z2, z0, z3, s2, et, hin, t1, t2]
  · obtain ⟨env, e⟩ := fin _ q0 l0
    refine ⟨env, ?_⟩
    rw [ev_split Γ 4, ← e]
    generalize dropN 4 (sEased ca) = T
    by_cases h1 : k / 64 % 2 = 1
    · have h1' : (k / 64 % 2 == 1) = true := by simpa using h1
      have hv : ¬ 1 < v := fun y => hw ⟨h1, y⟩
      simp [sEased, takeN, hio, hi, zl, lq, ea, c1, c2, h1', hv, z1]
    · have h1' : (k / 64 % 2 == 1) = false := by simpa using h1
      simp [sEased, takeN, hio, hi, zl, lq, ea, c1, c2, h1', z1]
end Vm
/-! Vm: those ahead are served the same. -/
namespace Vm
open PySem L2
open PyProof.Rows hiding St
variable {Γ : Cf}
def SameS (c : CF) : Prop := ∀ l rest b (a s s' : List (Str × Int)) (p : Str × Int), HOk l rest → QOk ((a ++ [p]) ++ s) → QOk ((a ++ [p]) ++ s') → (∀ y ∈ nms s, y ∉ nms (a ++ [p])) → (∀ y ∈ nms s', y ∉ nms (a ++ [p])) → 0 ≤ b → b ≤ 1000000 →
  c [(false, dQ ((a ++ [p]) ++ s)), (false, dQ ((a ++ [p]) ++ s')), (false, insH l rest), (false, .int b), (false, .int (a.length : Int))] = .ok false (.bl true) [none, none, none, none, none]
theorem filter_len {rs : List (Int × List Str)} {P : Int × List Str → Bool} (h : rs.length ≤ 10000) : (rs.filter P).length ≤ 10000 := Nat.le_trans (List.length_filter_le ..) h
theorem sSame_v {l : List (Int × Int)} {rest b : Int} {a s s' : List (Str × Int)} {p : Str × Int} {cc ch cl cr cw : Nat} (hio : Γ.io = []) (hx : RunEx) (hC : CutS (Γ.call cc)) (hH : HadByS (Γ.call ch)) (hL : LatestAllS (Γ.call cl)) (hR : RunOfS (Γ.call cr)) (hW : WitnessS (Γ.call cw))
    (hl : HOk l rest) (hq : QOk ((a ++ [p]) ++ s)) (hq' : QOk ((a ++ [p]) ++ s')) (hd : ∀ y ∈ nms s, y ∉ nms (a ++ [p])) (hd' : ∀ y ∈ nms s', y ∉ nms (a ++ [p])) (hb : 0 ≤ b) (hb2 : b ≤ 1000000) :
    ∃ env, evSs Γ (sSame cc ch cl cr cw) [some (false, dQ ((a ++ [p]) ++ s)), some (false, dQ ((a ++ [p]) ++ s')), some (false, insH l rest), some (false, .int b), some (false, .int (a.length : Int)), none, none, none, none, none, none, none, none, none] = .ret false (.bl true) env := by
  have big := sizeBig
  have lq := hq.1
  have lA0 : (a ++ [p]).length = a.length + 1 := by simp
  have ea : atI (((a ++ [p]) ++ s).map tk) (a.length : Int) = some (.tup [.str p.1, .int p.2]) := by
    rw [atI_nn (by omega) (by simp; omega), List.getElem?_map, Int.toNat_natCast, List.append_assoc, List.getElem?_append_right (by omega), Nat.sub_self]
    rfl
  have c1 : cutD (((a ++ [p]) ++ s).map tk) none (some ((a.length : Int) + 1)) = (a ++ [p]).map tk := by
    have := cutD_hi ((a ++ [p]) ++ s) (a.length + 1)
    push_cast at this
    rw [cutD_map, this, List.take_append_of_le_length (by omega), List.take_of_length_le (by omega)]
  have hpA : p.1 ∈ nms (a ++ [p]) := by
    unfold nms
    simp
  have qA : QOk (a ++ [p]) := by
    refine ⟨by rw [List.length_append] at lq; omega, fun x m => hq.2 x (List.mem_append_left _ m)⟩
  generalize (a.length : Int) = i at *
  generalize hA : a ++ [p] = A at *
  obtain ⟨rs, h, lr⟩ := hx l rest b (A ++ s) hl hq hb
  obtain ⟨rs', h', lr'⟩ := hx l rest b (A ++ s') hl hq' hb
  obtain ⟨ra, ha, lra⟩ := hx l rest b A hl qA hb
  have nA : ∀ x ∈ nms A, x ∈ nms (A ++ s) := fun x m => by
    unfold nms at *
    rw [List.map_append]
    exact List.mem_append_left _ m
  have nA' : ∀ x ∈ nms A, x ∈ nms (A ++ s') := fun x m => by
    unfold nms at *
    rw [List.map_append]
    exact List.mem_append_left _ m
  -- the last turns
  have e1 := hL l rest b _ rs hl hq hb h
  have e2 := hL l rest b _ rs' hl hq' hb h'
  have ends : ∀ x ∈ nms A, ∃ v, dgetV (endsV rs) x = some v ∧ dgetV (endsV rs') x = some v ∧ dgetV (endsV ra) x = some v := fun x m => by
    have g1 := ahead_ends h ha hd m
    have g2 := ahead_ends h' ha hd' m
    obtain ⟨a1, r, t, rfl, h1, h2⟩ := last_split ((run_names _ _ _ ha).mp m)
    have g3 := ends_at (a := a1) (r := r) h1 h2
    exact ⟨r.1, by rw [g1]; exact g3, by rw [g2]; exact g3, g3⟩
  obtain ⟨T, eT1, eT2, eT3⟩ := ends p.1 hpA
  obtain ⟨a1, r1, t1, f1, h1, h2⟩ := last_split ((run_names _ _ _ h).mp (nA _ hpA))
  obtain ⟨a2, r2, t2, f2, h3, h4⟩ := last_split ((run_names _ _ _ h').mp (nA' _ hpA))
  obtain ⟨a0, r0, t0, f0, h5, h6⟩ := last_split ((run_names _ _ _ ha).mp hpA)
  have er1 : r1.1 = T := by
    have := ends_at (a := a1) h1 h2
    rw [← f1, eT1] at this
    exact (Option.some.inj this).symm
  have er2 : r2.1 = T := by
    have := ends_at (a := a2) h3 h4
    rw [← f2, eT2] at this
    exact (Option.some.inj this).symm
  have er0 : r0.1 = T := by
    have := ends_at (a := a0) h5 h6
    rw [← f0, eT3] at this
    exact (Option.some.inj this).symm
  have tb : b ≤ T := by
    rw [← er1]
    exact run_low _ _ _ h r1 (by rw [f1]; simp)
  have tb2 : T < b + 10000 := by
    rw [← er1]
    have h0 : IsRun l rest b (A ++ s) (rs ++ []) := by simpa using h
    have := run_high rs _ _ _ h0 r1 (by rw [f1]; simp)
    omega
  have e3 := hW l rest b _ a1 t1 r1 p.1 hl hq hb (by rw [← f1]; exact h) h1 h2
  have e4 := hW l rest b _ a2 t2 r2 p.1 hl hq' hb (by rw [← f2]; exact h') h3 h4
  rw [← f1, er1] at e3
  rw [← f2, er2] at e4
  have ha' : IsRun l rest b A (a0 ++ r0 :: t0) := by rw [← f0]; exact ha
  have w1 := ahead_rows (rs := rs) h ha' hd
  have w2 := ahead_rows (rs := rs') h' ha' hd'
  rw [er0] at w1 w2
  obtain ⟨rs2, h7, lr2, e5⟩ := hR l rest b _ hl hq' hb
  have := run_one _ _ _ _ h' h7
  subst this
  have sh := run_short _ _ _ (qg_of hq) h
  have sh' := run_short _ _ _ (qg_of hq') h'
  obtain ⟨d1, sd1, e6⟩ := hC (rs.filter fun p => decide (p.1 ≤ T)) (nms A) (filter_len lr) fun r m => sh r (List.mem_filter.mp m).1
  obtain ⟨d2, sd2, e7⟩ := hC (rs'.filter fun p => decide (p.1 ≤ T)) (nms A) (filter_len lr') fun r m => sh' r (List.mem_filter.mp m).1
  rw [w1] at sd1
  rw [w2] at sd2
  -- how often
  have had : ∀ t, hadV rs' p.1 t = hadV (rs.filter fun p => decide (p.1 ≤ T)) p.1 t := fun t => by
    rw [ahead_had h' ha hd' hpA t, ← had_cut hpA t (rs.filter fun p => decide (p.1 ≤ T)), w1, f0, show a0 ++ r0 :: t0 = (a0 ++ [r0]) ++ t0 by simp, had_app, had_no (c := t0) fun r m y => h6 r m y]
    omega
  have lw := filter_len (P := fun p => decide (p.1 ≤ T)) lr
  generalize rs.filter (fun p => decide (p.1 ≤ T)) = W1 at *
  generalize rs'.filter (fun p => decide (p.1 ≤ T)) = W2 at *
  have er := eq_rws false false (a0 ++ [r0]) (a0 ++ [r0])
  rw [decide_eq_true rfl] at er
  have eo : opEq (clr d1) (clr d2) = some true := by
    rw [show clr d1 = _ from sd1, show clr d2 = _ from sd2]
    exact er
  have k1 := lcRun_map (el := evE Γ (sSame_e1 cc ch cl cr cw)) (c := fun x => (some true, x)) (t := .nm 7) (vs := [7]) (env1 := [some (false, dQ (A ++ s)), some (false, dQ (A ++ s')), some (false, insH l rest), some (false, .int b), some (false, .int i), some (false, .str p.1), none, none, none, none, none, none, none, none])
    tk (fun p => .str p.1) A (by have := qA.1; omega) rfl fun p m => by simp [sSame_e1, tk]
  have en : A.map (fun p => D.str p.1) = (nms A).map .str := by
    unfold nms
    rw [List.map_map]
    rfl
  rw [en] at k1
  have l1 := (forL_fold (α := Unit) (β := Str) (b := evSs Γ (sSame_l1 cc ch cl cr cw)) (set := tgSet [] (.nm 7)) (vs := [4, 7, 10, 11, 12, 13]) (fun _ => [some (false, dQ (A ++ s)), some (false, dQ (A ++ s')), some (false, insH l rest), some (false, .int b), none, some (false, .str p.1), some (false, dS (nms A)), none, some (false, .dic false (dkv (endsV rs))), some (false, .dic false (dkv (endsV rs'))), none, none, none, none]) .str (fun _ _ => ()) (fun _ _ => True)
    (nms A) 0 () trivial fun j _ x hj _ => by
      obtain ⟨v, g1, g2, _⟩ := ends x (List.mem_of_getElem? hj)
      have q1 := kfind_get (endsV rs) x
      have q2 := kfind_get (endsV rs') x
      rw [g1] at q1
      rw [g2] at q2
      refine ⟨trivial, ?_⟩
      simp [sSame_l1, q1, q2]).1
  have l2 := fun n : Nat => (forL_fold (α := Unit) (β := Nat) (b := evSs Γ (sSame_l2 cc ch cl cr cw)) (set := tgSet [] (.nm 13)) (vs := [0, 1, 2, 3, 4, 6, 7, 8, 9, 11, 13]) (fun _ => [none, none, none, none, none, some (false, .str p.1), none, none, none, none, some (false, dW W1), none, some (false, dW rs'), none]) (fun k : Nat => .int (b - 1 + (k : Int))) (fun _ _ => ()) (fun _ _ => True)
    (List.range n) 0 () trivial fun j _ k hj _ => by
      have g1 := hH rs' p.1 (b - 1 + (k : Int)) lr'
      have g2 := hH W1 p.1 (b - 1 + (k : Int)) lw
      rw [had] at g1
      refine ⟨trivial, ?_⟩
      simp [sSame_l2, g1, g2]).1
  have eT : kfind (dkv (endsV rs)) (.inr p.1) = some (.int T) := by rw [kfind_get, eT1]; rfl
  have r1' : rngOk (b - 1) = true := by
    unfold rngOk
    exact dec_of (by omega)
  have r2' : rngOk ((if b + 30 < T then b + 30 else T) + 1) = true := rng_of (by split <;> omega) (by split <;> omega)
  generalize A ++ s = Q at *
  generalize A ++ s' = Q' at *
  simp [sSame, hio, ea, c1, k1, e1, e2, l1, e3, e4, e6, e7, eo, e5, eT, r1', r2', range2, l2]
end Vm
/-! Vm: the drawn queues' names are unlike. -/
namespace Vm
open PySem L2
open PyProof.Rows hiding St
variable {Γ : Cf}
theorem cutS_len (z : Str) (k : Nat) : (cutS z none (some (k : Int))).length = min k z.length := by
  unfold cutS
  rw [HT.sIx_none, HT.sIx_nat]
  unfold Str.length
  simp
theorem sgn_inj : ∀ i < 36, ∀ j < 36, (signs.cps.toList[i]?).getD 0 = (signs.cps.toList[j]?).getD 0 → i = j := by decide +kernel
theorem sgC_inj {i j : Int} (h1 : 0 ≤ i ∧ i < 36) (h2 : 0 ≤ j ∧ j < 36) (h : sgC i = sgC j) : i = j := by
  have := sgn_inj i.toNat (by omega) j.toNat (by omega) h
  omega
theorem two_inj {a b c d : Nat} {r r' : Str} (h : (⟨#[a]⟩ : Str) ++ ⟨#[b]⟩ ++ r = (⟨#[c]⟩ : Str) ++ ⟨#[d]⟩ ++ r') : a = c ∧ b = d := by
  have h1 := congrArg (fun s : Str => s.cps.toList) h
  have e : ∀ (a b : Nat) (r : Str), ((⟨#[a]⟩ : Str) ++ ⟨#[b]⟩ ++ r).cps.toList = a :: b :: r.cps.toList := fun a b r => by
    show (#[a] ++ #[b] ++ r.cps).toList = _
    simp
  rw [e, e] at h1
  exact ⟨(List.cons.inj h1).1, (List.cons.inj (List.cons.inj h1).2).1⟩
theorem range_nodup {f : Nat → Str} {n : Nat} (h : ∀ i j, i < n → j < n → f i = f j → i = j) : ((List.range n).map f).Nodup := by
  refine List.pairwise_map.mpr (List.Pairwise.imp_of_mem ?_ List.nodup_range)
  intro i j mi mj hne e
  exact hne (h i j (by simpa using mi) (by simpa using mj) e)
theorem sNames_n {a k : Int} {cs : Nat} (hio : Γ.io = []) (hs : StirS (Γ.call cs)) (hk : 0 ≤ k) (hk2 : k ≤ 60) :
    ∃ xs : List Str, (xs.length : Int) = k ∧ (∀ x ∈ xs, x.length ≤ 20) ∧ xs.Nodup ∧ ∃ env, evSs Γ (sNames cs) [some (false, .int a), some (false, .int k), none, none, none, none, none, none, none] = .ret true (.lst true (xs.map .str)) env := by
  have hr : rngOk k = true := rng_of hk (by omega)
  have big := sizeBig
  -- the seven signs
  have m36 : ∀ x : Int, 0 ≤ x % 36 ∧ x % 36 < 36 := fun x => emod_row (by decide)
  have m26 : ∀ x : Int, 0 ≤ x % 26 ∧ x % 26 < 26 := fun x => emod_row (by decide)
  have at36 : ∀ x : Int, atI signs.cps.toList (x % 36) = some (sgC (x % 36)) := fun x => sg_at (m36 x).1 (m36 x).2
  have at26 : ∀ x : Int, atI signs.cps.toList (x % 26) = some (sgC (x % 26)) := fun x => sg_at (m26 x).1 (by have := (m26 x).2; omega)
  have e1 := lcRun_map (el := evE Γ (sNames_e1 cs)) (c := fun x => (some true, x)) (t := .nm 4) (vs := [4]) (env1 := [some (false, .int a), some (false, .int k), some (false, .str signs), none, none, none, none, none, none])
    (fun i : Nat => .int (i : Int)) (fun i => .str ⟨#[sgC (stirV a i % 36)]⟩) (List.range 7) (by simp; omega) rfl fun x m => by
      have q := hs a x
      simp [sNames_e1, q, at36, sg_len]
  generalize hB : Txt.join ("" : Str) ((List.range 7).map fun i : Nat => (⟨#[sgC (stirV a i % 36)]⟩ : Str)) = B at *
  have lB : B.length = 7 := by
    rw [← hB, join_len, List.map_map]
    exact sum_one _ _
  have lj : ((List.range 7).map (Str.length ∘ fun i : Nat => (⟨#[sgC (stirV a i % 36)]⟩ : Str))).sum ≤ 16777216 := by
    rw [show ((List.range 7).map (Str.length ∘ fun i : Nat => (⟨#[sgC (stirV a i % 36)]⟩ : Str))).sum = 7 from sum_one _ _]
    decide
  have l0 : Str.length ("" : Str) = 0 := by decide +kernel
  have f0 := hs a 8
  have r7 : rngOk 7 = true := rng_of (by decide) (by decide)
  by_cases hq : a % 3 = 0 ∧ k < 9
  · -- beginnings of one another
    have e2 := lcRun_map (el := evE Γ (sNames_e2 cs)) (c := fun x => (some true, x)) (t := .nm 6) (vs := [6]) (env1 := [some (false, .int a), some (false, .int k), some (false, .str signs), some (false, .str B), none, some (false, .int (stirV a 8 % 26)), none, none, none])
      (fun i : Nat => .int (i : Int)) (fun i => .str (⟨#[sgC (stirV a 8 % 26)]⟩ ++ cutS B none (some (i : Int)))) (List.range k.toNat) (by simp; omega) rfl fun x m => by
        have c1 := cut_len B none (some (x : Int))
        have c2 : 1 + (cutS B none (some (x : Int))).length ≤ sizeLine := by omega
        have c3 : B.length ≤ sizeLine := by omega
        simp [sNames_e2, at26, sg_len, c2, c3]
    refine ⟨(List.range k.toNat).map fun i : Nat => ⟨#[sgC (stirV a 8 % 26)]⟩ ++ cutS B none (some (i : Int)), by simp; omega, fun x m => ?_, ?_, ?_⟩
    · obtain ⟨i, _, rfl⟩ := List.mem_map.mp m
      have c1 := cut_len B none (some (i : Int))
      rw [app_len, one_len]
      omega
    · refine range_nodup fun i j hi hj e => ?_
      have h1 := congrArg Str.length e
      rw [app_len, app_len, cutS_len, cutS_len, lB] at h1
      have := hq.2
      omega
    · simp [sNames, range1, r7, e1, lj, l0, hB, f0, hq.1, hq.2, hr, e2, hio]
  · have key := forL_fold (α := List Str) (β := Nat) (b := evSs Γ (sNames_l1 cs)) (set := tgSet [] (.nm 6)) (vs := [1, 4, 6, 8])
      (fun s => [some (false, .int a), none, some (false, .str signs), some (false, .str B), none, some (false, .int (stirV a 8 % 26)), none, some (true, .lst true (s.map .str)), none]) (fun i => .int (i : Int))
      (fun s i => s ++ [⟨#[sgC ((stirV a 8 % 26 + (i : Int) / 36) % 26)]⟩ ++ ⟨#[sgC ((a / 3 + 7 * i) % 36)]⟩ ++ cutS B none (some (a / 108 % 7))]) (fun i s => s.length = i ∧ ∀ x ∈ s, x.length ≤ 20)
      (List.range k.toNat) 0 [] ⟨rfl, fun x m => by cases m⟩ fun i s x hx ⟨h1, h2⟩ => by
        have hi : i < k.toNat := by
          have := (List.getElem?_eq_some_iff.mp hx).1
          simpa using this
        have hz : s.length < sizeLine := by omega
        have c1 := cut_len B none (some (a / 108 % 7))
        have c2 : 1 + 1 + (cutS B none (some (a / 108 % 7))).length ≤ sizeLine := by omega
        have c3 : B.length ≤ sizeLine := by omega
        have c4 : 1 + 1 ≤ sizeLine := by omega
        refine ⟨⟨by simp; omega, fun y m => ?_⟩, ?_⟩
        · rcases List.mem_append.mp m with m | m
          · exact h2 y m
          · rw [List.mem_singleton.mp m, app_len, app_len, one_len, one_len]
            omega
        · simp [sNames_l1, at26, at36, sg_len, c2, c3, c4, hio, hz]
    obtain ⟨k1, k2, k3⟩ := key
    refine ⟨_, ?_, k3, ?_, ?_⟩
    · rw [k2]
      simp
      omega
    · have ef : ∀ (g : Nat → Str) (n : Nat), (List.range n).foldl (fun s i => s ++ [g i]) [] = (List.range n).map g := by
        intro g n
        induction n with
        | zero => rfl
        | succ n ih => rw [List.range_succ, List.foldl_append, ih, List.map_append]; rfl
      rw [ef fun i : Nat => ⟨#[sgC ((stirV a 8 % 26 + (i : Int) / 36) % 26)]⟩ ++ ⟨#[sgC ((a / 3 + 7 * i) % 36)]⟩ ++ cutS B none (some (a / 108 % 7))]
      refine range_nodup fun i j hi hj e => ?_
      obtain ⟨g1, g2⟩ := two_inj e
      have b1 := m26 (stirV a 8 % 26 + (i : Int) / 36)
      have b2 := m26 (stirV a 8 % 26 + (j : Int) / 36)
      have q1 := sgC_inj (by omega) (by omega) g1
      have q2 := sgC_inj (m36 _) (m36 _) g2
      have hi' : (i : Int) < 60 := by omega
      have hj' : (j : Int) < 60 := by omega
      omega
    · simp only [List.map_nil] at k1
      have hq2 : a % 3 = 0 → (decide (k < 9)) = false := fun h => by
        have : ¬ k < 9 := fun h2 => hq ⟨h, h2⟩
        simpa using this
      by_cases h3 : a % 3 = 0
      · simp [sNames, range1, r7, e1, lj, l0, hB, f0, h3, hq2 h3, hr, hio, k1]
      · have h3' : (a % 3 == 0) = false := by simpa using h3
        simp [sNames, range1, r7, e1, lj, l0, hB, f0, h3', hr, hio, k1]
def QueueNS (c : CF) : Prop := ∀ ns, ∃ q, QOk q ∧ (nms q).Nodup ∧ c [(false, dI ns)] = .ok true (.lst true (q.map tk)) [none]
theorem sQueue_n {ns : List Int} {cc cn cr : Nat} (hio : Γ.io = []) (hc : CellS (Γ.call cc)) (hn : NamesNS (Γ.call cn)) (hr : RowS (Γ.call cr)) :
    ∃ q, QOk q ∧ (nms q).Nodup ∧ ∃ env, evSs Γ (sQueue cc cn cr) [some (false, dI ns), none, none, none, none, none, none] = .ret true (.lst true (q.map tk)) env := by
  have big := sizeBig
  have main : ∀ (many size : Int), 0 ≤ many → many ≤ 60 → 0 < size → size ≤ 20 → ∃ q, QOk q ∧ (nms q).Nodup ∧ ∃ (xs : List Str) (ys : List Int), Γ.call cr [(false, dI ns), (false, .int 4), (false, .int size), (false, .int many)] = .ok true (.lst true (ys.map .int)) [none, none, none, none] ∧
      Γ.call cn [(false, .int (cellV ns 5)), (false, .int many)] = .ok true (.lst true (xs.map .str)) [none, none] ∧
      ∀ a b c : Int, lcRun (evE Γ (sQueue_e1 cc cn cr)) (fun x => (some true, x)) (.nm 6) [6] ((List.range many.toNat).map fun i : Nat => .int (i : Int)) [some (false, dI ns), some (false, .int a), some (false, .int many), some (false, .int c), some (false, dI ys), some (false, dS xs), none] =
        .ok (.v true (.lst true (q.map tk))) [some (false, dI ns), some (false, .int a), some (false, .int many), some (false, .int c), some (false, dI ys), some (false, dS xs), none] := by
    intro many size h1 h2 h3 h4
    obtain ⟨ys, ly, by_, ey⟩ := hr ns 4 size many (by omega) h3 (by omega) h1 (by omega)
    obtain ⟨xs, lx, bx, ndx, ex⟩ := hn (cellV ns 5) many h1 (by omega)
    refine ⟨(List.range many.toNat).map fun i => (xs.getD i "", 1 + ys.getD i 0), ⟨by simp; omega, fun p m => ?_⟩, ?_, xs, ys, ey, ex, fun a b c => ?_⟩
    · obtain ⟨i, hi, rfl⟩ := List.mem_map.mp m
      have hi : i < many.toNat := by simpa using hi
      have m1 : ys.getD i 0 ∈ ys := by
        rw [List.getD_eq_getElem?_getD, List.getElem?_eq_getElem (by omega)]
        exact List.getElem_mem _
      have m2 : xs.getD i "" ∈ xs := by
        rw [List.getD_eq_getElem?_getD, List.getElem?_eq_getElem (by omega)]
        exact List.getElem_mem _
      have q := by_ _ m1
      exact ⟨by show 1 ≤ 1 + ys.getD i 0; omega, by show 1 + ys.getD i 0 ≤ 20; omega, bx _ m2⟩
    · have e : nms ((List.range many.toNat).map fun i => (xs.getD i "", 1 + ys.getD i 0)) = xs := by
        unfold nms
        rw [List.map_map]
        refine List.ext_getElem (by simp; omega) fun i h1 h2 => ?_
        rw [List.getElem_map, List.getElem_range]
        show xs.getD i "" = _
        rw [List.getD_eq_getElem?_getD, List.getElem?_eq_getElem h2]
        rfl
      rw [e]
      exact ndx
    · have q := lcRun_map (el := evE Γ (sQueue_e1 cc cn cr)) (c := fun x => (some true, x)) (t := .nm 6) (vs := [6]) (env1 := [some (false, dI ns), some (false, .int a), some (false, .int many), some (false, .int c), some (false, dI ys), some (false, dS xs), none])
        (fun i : Nat => .int (i : Int)) (fun i => tk (xs.getD i "", 1 + ys.getD i 0)) (List.range many.toNat) (by simp; omega) rfl fun i m => by
          have hi : i < many.toNat := by simpa using m
          obtain ⟨e1, e2⟩ := zip_get lx ly hi
          have s2 : 2 ≤ sizeLine := by omega
          simp [sQueue_e1, e1, e2, s2, tk]
      rw [q, List.map_map]
      rfl
  have e3 := hc ns 3 (by omega)
  have e5 := hc ns 5 (by omega)
  have s2 : 2 ≤ sizeLine := by omega
  have h9 := emod_row (x := cellV ns 3) (b := 9) (by decide)
  have hsz : 0 < (if cellV ns 3 / 144 % 2 = 0 then (6 : Int) else 20) ∧ (if cellV ns 3 / 144 % 2 = 0 then (6 : Int) else 20) ≤ 20 := by split <;> omega
  have eI : (if cellV ns 3 / 144 % 2 = 0 then D.int 6 else D.int 20) = D.int (if cellV ns 3 / 144 % 2 = 0 then 6 else 20) := by split <;> rfl
  by_cases hq : cellV ns 3 / 9 % 16 = 1
  · obtain ⟨q, hQ, hN, xs, ys, k1, k2, k3⟩ := main 60 3 (by omega) (by omega) (by omega) (by omega)
    have k3' := k3 (cellV ns 3) 0 3
    have r60 : rngOk 60 = true := rng_of (by decide) (by decide)
    rw [show Int.toNat 60 = 60 from rfl] at k3'
    exact ⟨q, hQ, hN, by simp [sQueue, e3, e5, s2, two_at, eI, hq, k1, k2, k3', hio, range1, r60]⟩
  · have hq2 : (cellV ns 3 / 9 % 16 == 1) = false := by simpa using hq
    obtain ⟨q, hQ, hN, xs, ys, k1, k2, k3⟩ := main (cellV ns 3 % 9) _ h9.1 (by omega) hsz.1 hsz.2
    have k3' := k3 (cellV ns 3) 0 (if cellV ns 3 / 144 % 2 = 0 then 6 else 20)
    have hr2 : rngOk (cellV ns 3 % 9) = true := rng_of h9.1 (by omega)
    exact ⟨q, hQ, hN, by simp [sQueue, e3, e5, s2, two_at, eI, hq2, k1, k2, k3', hio, range1, hr2]⟩
end Vm
/-! Vm: what a queue tells. -/
namespace Vm
open PySem L2
open PyProof.Rows hiding St
variable {Γ : Cf}
/-! place_of, slots: 0 queue, 1 name, 2 place, 3 ticket -/
def sPlaceOf_l1 : Ss := .cons (.ife (.cmp .eq (.idx (.var 3) (.int 0)) (.var 1)) (.cons (.ret (.some (.var 2))) .nil) (.nil)) .nil
def sPlaceOf : Ss := .cons (.for (.tup [.nm 2, .nm 3]) (.enum (.var 0)) (sPlaceOf_l1) [0, 2, 3]) (.cons (.rse 28 [40] (.cons (.var 1) .nil)) .nil)
/-! left_of, slots: 0 queue, 1 name -/
def sLeftOf (c_place_of : Nat) : Ss := .cons (.ret (.some (.idx (.idx (.var 0) (.call c_place_of (.cons (.var 0) (.cons (.var 1) .nil)))) (.int 1)))) .nil
/-! _law_draw, slots: 0 _law_script, 1 _law_at, 2 _law_bases, 3 _law_cell_here, 4 _law_found, 5 _law_k, 6 _law_base -/
def sDraw_l1 (c_law_cell c_law_stir : Nat) : Ss := .cons (.ife (.cmp .eq (.bin .band (.bin .shr (.call c_law_cell (.cons (.var 0) (.cons (.int 0) .nil))) (.bin .mod (.var 1) (.int 8))) (.int 1)) (.int 0)) (.cons (.mut .append 4 [] (.cons (.bin .mod (.var 3) (.var 6)) .nil)) (.cons (.asg false 3 (.bin .fdiv (.var 3) (.var 6))) .nil)) (.cons (.mut .append 4 [] (.cons (.bin .mod (.bin .fdiv (.call c_law_stir (.cons (.var 3) (.cons (.var 5) .nil))) (.int 8)) (.var 6)) .nil)) .nil)) .nil
def sDraw (c_law_cell c_law_stir : Nat) : Ss := .cons (.asg false 3 (.call c_law_cell (.cons (.var 0) (.cons (.var 1) .nil)))) (.cons (.asg true 4 (.lst .nil)) (.cons (.for (.tup [.nm 5, .nm 6]) (.enum (.var 2)) (sDraw_l1 c_law_cell c_law_stir) [2, 5, 6]) (.cons (.ret (.some (.mv 4))) .nil)))
/-! _law_name, slots: 0 _law_cell_here, 1 _law_k, 2 _law_signs, 3 _law_size, 4 _law_at, 5 _law_left, 6 _law_word, 7 _law_j -/
def sName_l1 : Ss := .cons (.asg false 6 (.bin .add (.var 6) (.idx (.var 2) (.bin .mod (.var 5) (.idx (.lst (.cons (.int 36) (.cons (.int 26) .nil))) (.bcall .int1 (.cons (.cmp .eq (.var 7) (.int 0)) .nil))))))) (.cons (.asg false 5 (.bin .fdiv (.var 5) (.int 36))) .nil)
def sName : Ss := .cons (.asg false 2 (.str "abcdefghijklmnopqrstuvwxyz0123456789")) (.cons (.asg false 3 (.bin .mod (.var 0) (.int 8))) (.cons (.asg false 4 (.bin .mod (.bin .fdiv (.var 0) (.int 8)) (.bin .add (.var 3) (.int 1)))) (.cons (.asg false 5 (.bin .fdiv (.var 0) (.int 72))) (.cons (.asg false 6 (.str "")) (.cons (.for (.nm 7) (.rng1 (.var 3)) (sName_l1) [0, 3, 7]) (.cons (.ret (.some (.bin .add (.bin .add (.slc (.var 6) .none (.some (.var 4))) (.idx (.var 2) (.bin .mod (.bin .add (.var 5) (.var 1)) (.int 26)))) (.slc (.var 6) (.some (.var 4)) .none)))) .nil))))))
/-! _law_queue, slots: 0 _law_script, 1 _law_many, 2 _law_lefts, 3 _law_k, 4 _law_left -/
def sQueue3_e1 (c_law_cell c_law_draw c_law_name : Nat) : E := .tup (.cons (.call c_law_name (.cons (.bin .fdiv (.call c_law_cell (.cons (.var 0) (.cons (.int 1) .nil))) (.int 27)) (.cons (.var 3) .nil))) (.cons (.bin .add (.int 1) (.var 4)) .nil))
def sQueue3 (c_law_cell c_law_draw c_law_name : Nat) : Ss := .cons (.asg false 1 (.bin .mod (.call c_law_cell (.cons (.var 0) (.cons (.int 1) .nil))) (.int 27))) (.cons (.asg false 2 (.call c_law_draw (.cons (.var 0) (.cons (.int 2) (.cons (.rep (.cons (.int 20) .nil) (.var 1)) .nil))))) (.cons (.ret (.some (.lc (sQueue3_e1 c_law_cell c_law_draw c_law_name) (.tup [.nm 3, .nm 4]) (.enum (.var 2)) .none [3, 4]))) .nil))
/-! _law_told, slots: 0 _law_way, 1 _law_queue_here, 2 _law_name_here, 3 _law_told_here, 4 e -/
def sTold (c_left_of c_place_of : Nat) : Ss := .cons (.asg false 3 (.lst .nil)) (.cons (.try1 (.cons (.ife (.cmp .eq (.var 0) (.int 0)) (.cons (.asg false 3 (.lst (.cons (.str "told") (.cons (.call c_left_of (.cons (.var 1) (.cons (.var 2) .nil))) .nil)))) .nil) (.cons (.asg false 3 (.lst (.cons (.str "told") (.cons (.call c_place_of (.cons (.var 1) (.cons (.var 2) .nil))) .nil)))) .nil)) .nil) [28] [28] (.some 4) (.cons (.asg false 3 (.lst (.cons (.str "none") (.cons (.xf 40) (.cons (.xis [28]) .nil))))) .nil)) (.cons (.ret (.some (.var 3))) .nil))
/-! _law_whole, slots: 0 _law_found, 1 _law_due -/
def sWhole2 : Ss := .cons (.ret (.some (.and (.cons (.isi .int (.var 0)) (.cons (.not (.isi .bool (.var 0))) (.cons (.cmp .eq (.var 0) (.var 1)) .nil)))))) .nil
/-! _law_asked, slots: 0 _law_queue_here, 1 _law_name_here, 2 _law_names, 3 _law_ticket, 4 _law_way, 5 _law_told_here, 6 _law_place -/
def sAsked_e1 (c_law_told c_law_whole : Nat) : E := .idx (.var 3) (.int 0)
def sAsked_l1 (c_law_told c_law_whole : Nat) : Ss := .cons (.asg false 5 (.call c_law_told (.cons (.var 4) (.cons (.var 0) (.cons (.var 1) .nil))))) (.cons (.ife (.cmp .notin (.var 1) (.var 2)) (.cons (.ife (.cmp .ne (.var 5) (.lst (.cons (.str "none") (.cons (.var 1) (.cons (.bl true) .nil))))) (.cons (.ret (.some (.bl false))) .nil) (.nil)) .nil) (.cons (.asg false 6 (.bmeth .index (.var 2) (.cons (.var 1) .nil))) (.cons (.ife (.or (.cons (.cmp .ne (.idx (.var 5) (.int 0)) (.str "told")) (.cons (.not (.call c_law_whole (.cons (.idx (.var 5) (.int 1)) (.cons (.idx (.lst (.cons (.idx (.idx (.var 0) (.var 6)) (.int 1)) (.cons (.var 6) .nil))) (.var 4)) .nil)))) .nil))) (.cons (.ret (.some (.bl false))) .nil) (.nil)) .nil))) .nil)
def sAsked (c_law_told c_law_whole : Nat) : Ss := .cons (.asg false 2 (.lc (sAsked_e1 c_law_told c_law_whole) (.nm 3) (.seq (.var 0)) .none [3])) (.cons (.for (.nm 4) (.rng1 (.int 2)) (sAsked_l1 c_law_told c_law_whole) [3, 4, 5, 6]) (.cons (.ret (.some (.bl true))) .nil))
/-! ### exceptions, for plain proofs -/
@[simp] theorem R_ex (c : Nat) (fs : List (Nat × D)) (env : EnvD) (k : O → EnvD → R) : (R.ex c fs env).bind k = .ex c fs env := rfl
@[simp] theorem R_exS (c : Nat) (fs : List (Nat × D)) (env : EnvD) (k : O → EnvD → SR) : (R.ex c fs env).bindS k = .ex c fs env := rfl
@[simp] theorem Rs_ex (c : Nat) (fs : List (Nat × D)) (env : EnvD) (k : List O → EnvD → R) : (Rs.ex c fs env).bind k = .ex c fs env := rfl
@[simp] theorem Rs_exS (c : Nat) (fs : List (Nat × D)) (env : EnvD) (k : List O → EnvD → SR) : (Rs.ex c fs env).bindS k = .ex c fs env := rfl
@[simp] theorem RI_ex (c : Nat) (fs : List (Nat × D)) (env : EnvD) (k : List D → EnvD → R) : (RI.ex c fs env).bind k = .ex c fs env := rfl
@[simp] theorem RI_exS (c : Nat) (fs : List (Nat × D)) (env : EnvD) (k : List D → EnvD → SR) : (RI.ex c fs env).bindS k = .ex c fs env := rfl
@[simp] theorem killo_s (i : Nat) (env : EnvD) : killo (some i) env = env.set i none := rfl
@[simp] theorem killo_n (env : EnvD) : killo none env = env := rfl
@[simp] theorem slo_s (i : Nat) (io : List Nat) (env : EnvD) : slo (some i) io env = (!io.contains i && decide (i < env.length)) := rfl
@[simp] theorem slo_n (io : List Nat) (env : EnvD) : slo none io env = true := rfl
@[simp] theorem iox_s (i : Nat) (io : List Nat) : iox (some i) io = i :: io := rfl
@[simp] theorem iox_n (io : List Nat) : iox none io = io := rfl
@[simp] theorem out_next (ao : Option Nat) (env : EnvD) : (SR.next env).out ao = .next (killo ao env) := rfl
/-! ### a name, or what is none -/
/-- whether the text s is x -/
def nmEq (x : D) (s : Str) : Bool := match x with
  | .str y => s == y
  | _ => false
structure NmD (x : D) : Prop where
  eq : ∀ s : Str, opEq (.str s) x = some (nmEq x s)
  st : clr x = x
  mem : ∀ ns : List Str, dmem x (ns.map .str) = some (ns.any (nmEq x))
  self : opEq (.lst false [.str "none", x, .bl true]) (.lst false [.str "none", x, .bl true]) = some true
theorem nmD_str (y : Str) : NmD (.str y) where
  eq := fun s => rfl
  st := rfl
  mem := fun ns => by
    rw [dmem_str]
    congr 1
    rw [Bool.eq_iff_iff, decide_eq_true_eq, List.any_eq_true]
    constructor
    · exact fun m => ⟨y, m, by simp [nmEq]⟩
    · rintro ⟨s, m, e⟩
      have : s = y := by simpa [nmEq] using e
      exact this ▸ m
  self := opEq_refl rfl
theorem dmem_odd {x : D} (f : isFlat x = false) (h : ∀ s : Str, deq 40 (.str s) x = some false) (ns : List Str) : dmem x (ns.map .str) = some false := by
  unfold dmem
  rw [f]
  have e : ((ns.map D.str).all fun y => deq 40 y x == some false) = true := by
    rw [List.all_map, List.all_eq_true]
    intro s _
    show (deq 40 (.str s) x == some false) = true
    rw [h s]
    rfl
  rw [e]
  rfl
theorem dmem_flat {x : D} (f : isFlat x = true) (h : ∀ s : Str, feq (.str s) x = false) (ns : List Str) : dmem x (ns.map .str) = some false := by
  unfold dmem
  have e : (ns.map D.str).all isFlat = true := by
    rw [List.all_map, List.all_eq_true]
    exact fun s _ => rfl
  rw [f, e]
  have e2 : ((ns.map D.str).any fun y => feq y x) = false := by
    rw [List.any_map, Bool.eq_false_iff]
    intro q
    obtain ⟨s, _, q⟩ := List.any_eq_true.mp q
    have : feq (.str s) x = true := q
    rw [h s] at this
    cases this
  show some _ = _
  rw [e2]
theorem any_none {x : D} (h : ∀ s : Str, nmEq x s = false) (ns : List Str) : ns.any (nmEq x) = false := by
  rw [Bool.eq_false_iff]
  intro q
  obtain ⟨s, _, q⟩ := List.any_eq_true.mp q
  rw [h s] at q
  cases q
theorem nmD_non : NmD .non := ⟨fun _ => rfl, rfl, fun ns => by rw [dmem_flat rfl (fun _ => rfl), any_none fun _ => rfl], opEq_refl rfl⟩
theorem nmD_int (i : Int) : NmD (.int i) := ⟨fun _ => rfl, rfl, fun ns => by rw [dmem_flat rfl (fun _ => rfl), any_none fun _ => rfl], opEq_refl rfl⟩
theorem nmD_bl (i : Bool) : NmD (.bl i) := ⟨fun _ => rfl, rfl, fun ns => by rw [dmem_flat rfl (fun _ => rfl), any_none fun _ => rfl], opEq_refl rfl⟩
theorem nmD_tup (s : Str) : NmD (.tup [.str s]) := ⟨fun _ => rfl, rfl, fun ns => by rw [dmem_odd rfl (fun _ => rfl), any_none fun _ => rfl], opEq_refl rfl⟩
theorem nmD_lst (s : Str) : NmD (.lst false [.str s]) := ⟨fun _ => rfl, rfl, fun ns => by rw [dmem_odd rfl (fun _ => rfl), any_none fun _ => rfl], opEq_refl rfl⟩
theorem nmD_nil : NmD (.lst false []) := ⟨fun _ => rfl, rfl, fun ns => by rw [dmem_odd rfl (fun _ => rfl), any_none fun _ => rfl], opEq_refl rfl⟩
theorem nmD_dic : NmD (.dic false []) := ⟨fun _ => rfl, rfl, fun ns => by rw [dmem_odd rfl (fun _ => rfl), any_none fun _ => rfl], rfl⟩
/-- the place of x -/
def plV (x : D) : List (Str × Int) → Option Nat
  | [] => none
  | p :: q => if nmEq x p.1 then some 0 else (plV x q).map (· + 1)
def lfV (q : List (Str × Int)) (k : Nat) : Int := ((q[k]?).map (·.2)).getD 0
theorem pl_lt {x : D} : ∀ {q : List (Str × Int)} {k : Nat}, plV x q = some k → k < q.length
  | p :: q, k, h => by
    unfold plV at h
    split at h
    · cases h
      simp
    · cases e : plV x q with
      | none => rw [e] at h; cases h
      | some j =>
        rw [e] at h
        cases h
        have := pl_lt e
        simp
        omega
theorem pl_any {x : D} : ∀ q : List (Str × Int), (nms q).any (nmEq x) = (plV x q).isSome
  | [] => rfl
  | p :: q => by
    unfold plV
    show (nmEq x p.1 || (nms q).any (nmEq x)) = _
    rw [pl_any q]
    cases nmEq x p.1 <;> simp
theorem pl_cons (x : D) (p : Str × Int) (q : List (Str × Int)) : plV x (p :: q) = if nmEq x p.1 then some 0 else (plV x q).map (· + 1) := rfl
theorem pl_find {y : Str} : ∀ (q : List (Str × Int)) (k : Nat), dfind (.str y) ((nms q).map .str) k = (plV (.str y) q).map (· + k)
  | [], _ => rfl
  | p :: q, k => by
    show (if feq (.str p.1) (.str y) then some k else dfind (.str y) ((nms q).map .str) (k + 1)) = _
    rw [pl_find q (k + 1), pl_cons]
    have e : feq (.str p.1) (.str y) = nmEq (.str y) p.1 := rfl
    rw [e]
    cases nmEq (.str y) p.1 with
    | true => simp
    | false =>
      cases plV (.str y) q with
      | none => rfl
      | some j =>
        show some (j + (k + 1)) = some (j + 1 + k)
        congr 1
        omega
theorem pl_str {x : D} {q : List (Str × Int)} {k : Nat} (h : plV x q = some k) : ∃ y, x = .str y := by
  have a := pl_any (x := x) q
  rw [h] at a
  cases x with
  | str y => exact ⟨y, rfl⟩
  | _ =>
    rw [any_none fun _ => rfl] at a
    cases a
def exNone (x : D) : CR := .ex 28 [(40, x)] [none, none]
def PlaceS (c : CF) : Prop := ∀ q x, NmD x → c [(false, dQ q), (false, x)] = match plV x q with
  | some k => .ok false (.int (k : Int)) [none, none]
  | none => exNone x
def LeftOfS (c : CF) : Prop := ∀ q x, NmD x → c [(false, dQ q), (false, x)] = match plV x q with
  | some k => .ok false (.int (lfV q k)) [none, none]
  | none => exNone x
theorem enum_items {α : Type} (g : α → D) : ∀ (xs : List α) (k : Nat), ((xs.map g).zipIdx k).map (fun p => D.tup [.int (p.2 : Int), p.1]) = (xs.zipIdx k).map fun p => .tup [.int (p.2 : Int), g p.1]
  | [], _ => rfl
  | x :: xs, k => by
    rw [List.map_cons, List.zipIdx_cons, List.zipIdx_cons, List.map_cons, List.map_cons, enum_items g xs (k + 1)]
theorem place_loop {x : D} (hx : NmD x) (hio : Γ.io = []) : ∀ (q : List (Str × Int)) (k : Nat), ∃ env, forL (evSs Γ sPlaceOf_l1) (tgSet [] (.tup [.nm 2, .nm 3])) [0, 2, 3] ((q.zipIdx k).map fun p => .tup [.int (p.2 : Int), tk p.1]) [none, some (false, x), none, none] = match plV x q with
    | some j => .ret false (.int ((k + j : Nat) : Int)) env
    | none => .next [none, some (false, x), none, none]
  | [], k => ⟨[], rfl⟩
  | p :: q, k => by
    obtain ⟨env, ih⟩ := place_loop hx hio q (k + 1)
    have e := hx.eq p.1
    rw [List.zipIdx_cons, List.map_cons, pl_cons]
    have t1 : tgSet [] (.tup [.nm 2, .nm 3]) (.tup [.int (k : Int), tk p]) [none, some (false, x), none, none] = some [none, some (false, x), some (false, .int (k : Int)), some (false, tk p)] := by simp
    cases h : nmEq x p.1 with
    | true =>
      rw [h] at e
      have b1 : evSs Γ sPlaceOf_l1 [none, some (false, x), some (false, .int (k : Int)), some (false, tk p)] = .ret false (.int (k : Int)) [none, some (false, x), some (false, .int (k : Int)), some (false, tk p)] := by simp [sPlaceOf_l1, tk, e]
      refine ⟨[none, some (false, x), some (false, .int (k : Int)), some (false, tk p)], ?_⟩
      unfold forL
      rw [t1]
      dsimp only
      rw [b1]
      rfl
    | false =>
      rw [h] at e
      have b1 : evSs Γ sPlaceOf_l1 [none, some (false, x), some (false, .int (k : Int)), some (false, tk p)] = .next [none, some (false, x), some (false, .int (k : Int)), some (false, tk p)] := by simp [sPlaceOf_l1, tk, e]
      refine ⟨env, ?_⟩
      unfold forL
      rw [t1]
      dsimp only
      rw [b1]
      dsimp only
      refine Eq.trans ih ?_
      cases plV x q with
      | none => rfl
      | some j =>
        show SR.ret false (.int ((k + 1 + j : Nat) : Int)) env = SR.ret false (.int ((k + (j + 1) : Nat) : Int)) env
        rw [show k + 1 + j = k + (j + 1) by omega]
theorem sPlaceOf_v {q : List (Str × Int)} {x : D} (hio : Γ.io = []) (hx : NmD x) : ∃ env, evSs Γ sPlaceOf [some (false, dQ q), some (false, x), none, none] = match plV x q with
    | some k => .ret false (.int (k : Int)) env
    | none => .ex 28 [(40, x)] env := by
  obtain ⟨env, e⟩ := place_loop (Γ := Γ) hx hio q 0
  have ei := enum_items tk q 0
  cases h : plV x q with
  | none =>
    rw [h] at e
    dsimp only at e
    simp [sPlaceOf, hio, ei, e]
  | some k =>
    rw [h] at e
    dsimp only at e
    simp [sPlaceOf, hio, ei, e]
theorem at_q {q : List (Str × Int)} {k : Nat} (h : k < q.length) : atI (q.map tk) (k : Int) = some (tk (q[k]'h)) := by
  rw [atI_nn (by omega) (by simpa using h), List.getElem?_map, Int.toNat_natCast, List.getElem?_eq_getElem h]
  rfl
theorem lf_at {q : List (Str × Int)} {k : Nat} (h : k < q.length) : lfV q k = (q[k]'h).2 := by
  unfold lfV
  rw [List.getElem?_eq_getElem h]
  rfl
theorem sLeftOf_v {q : List (Str × Int)} {x : D} {cp : Nat} (hp : PlaceS (Γ.call cp)) (hx : NmD x) : ∃ env, evSs Γ (sLeftOf cp) [some (false, dQ q), some (false, x)] = match plV x q with
    | some k => .ret false (.int (lfV q k)) env
    | none => .ex 28 [(40, x)] env := by
  have e := hp q x hx
  cases h : plV x q with
  | none =>
    rw [h] at e
    simp [sLeftOf, e, exNone]
  | some k =>
    rw [h] at e
    have l := pl_lt h
    have e2 := at_q l
    dsimp only at e ⊢
    rw [lf_at l]
    simp [sLeftOf, e, e2, tk]
end Vm
/-! Vm: draws, names, a queue and what it tells. -/
namespace Vm
open PySem L2
open PyProof.Rows hiding St
variable {Γ : Cf}
/-! ### draws -/
def Drawn (xs bs : List Int) : Prop := xs.length = bs.length ∧ ∀ (i : Nat) (x b : Int), xs[i]? = some x → bs[i]? = some b → 0 ≤ x ∧ x < b
def DrawS (c : CF) : Prop := ∀ ns (a : Int) (bs : List Int), 0 ≤ a → bs.length ≤ 1000000 → (∀ b ∈ bs, 0 < b ∧ b < 1073741824) →
  ∃ xs : List Int, Drawn xs bs ∧ c [(false, dI ns), (false, .int a), (false, dI bs)] = .ok true (.lst true (xs.map .int)) [none, none, none]
theorem sDraw_v {ns bs : List Int} {a : Int} {cc cs : Nat} (hio : Γ.io = []) (hc : CellS (Γ.call cc)) (hs : StirS (Γ.call cs)) (ha : 0 ≤ a) (hl : bs.length ≤ 1000000) (hb : ∀ b ∈ bs, 0 < b ∧ b < 1073741824) :
    ∃ xs : List Int, Drawn xs bs ∧ ∃ env, evSs Γ (sDraw cc cs) [some (false, dI ns), some (false, .int a), some (false, dI bs), none, none, none, none] = .ret true (.lst true (xs.map .int)) env := by
  have big := sizeBig
  have key := forL_fold (α := Int × List Int) (β := Int × Nat) (b := evSs Γ (sDraw_l1 cc cs)) (set := tgSet [] (.tup [.nm 5, .nm 6])) (vs := [2, 5, 6])
    (fun s => [some (false, dI ns), some (false, .int a), none, some (false, .int s.1), some (true, .lst true (s.2.map .int)), none, none]) (fun p => .tup [.int (p.2 : Int), .int p.1])
    (fun s p => if Builtin.bitAnd (cellV ns 0 / 2 ^ (a % 8).toNat) 1 = 0 then (s.1 / p.1, s.2 ++ [s.1 % p.1]) else (s.1, s.2 ++ [stirV s.1 p.2 / 8 % p.1])) (fun i s => s.2.length = i ∧ ∀ (j : Nat) (x b : Int), s.2[j]? = some x → bs[j]? = some b → 0 ≤ x ∧ x < b)
    bs.zipIdx 0 (cellV ns a, []) ⟨rfl, fun j x b e => by simp at e⟩ fun i s p hx ⟨h1, h2⟩ => by
      obtain ⟨b, j⟩ := p
      rw [List.getElem?_zipIdx] at hx
      obtain ⟨b', eb, e'⟩ := Option.map_eq_some_iff.mp hx
      cases e'
      have hi : i < bs.length := (List.getElem?_eq_some_iff.mp eb).1
      obtain ⟨hb1, hb2⟩ := hb b (List.mem_of_getElem? eb)
      have hz : s.2.length < sizeLine := by omega
      have h8 : 0 ≤ a % 8 := Int.emod_nonneg a (by omega)
      have e1 := hc ns 0 (by omega)
      have e2 := hs s.1 ((0 + i : Nat) : Int)
      have app : ∀ (u w : Int), (s.2 ++ [w % b]).length = 0 + i + 1 ∧ ∀ (j : Nat) (x c : Int), (s.2 ++ [w % b])[j]? = some x → bs[j]? = some c → 0 ≤ x ∧ x < c := fun u w => by
        refine ⟨by simp; omega, fun j x c e e3 => ?_⟩
        by_cases q : j < s.2.length
        · rw [List.getElem?_append_left q] at e
          exact h2 j x c e e3
        · rw [List.getElem?_append_right (by omega)] at e
          have ej : j - s.2.length = 0 := by
            have := (List.getElem?_eq_some_iff.mp e).1
            simp at this
            omega
          rw [ej] at e
          simp at e
          have ji : j = i := by omega
          rw [ji, eb] at e3
          cases e3
          subst e
          exact emod_row hb1
      by_cases hq : Builtin.bitAnd (cellV ns 0 / 2 ^ (a % 8).toNat) 1 = 0
      · rw [if_pos hq]
        exact ⟨app 0 _, by simp [sDraw_l1, e1, e2, hq, hio, h8, hb1, hb2, hz]⟩
      · rw [if_neg hq]
        have hq2 : (Builtin.bitAnd (cellV ns 0 / 2 ^ (a % 8).toNat) 1 == 0) = false := by simpa using hq
        simp only [Nat.zero_add] at e2
        exact ⟨app 0 _, by simp [sDraw_l1, e1, e2, hq2, hio, h8, hb1, hb2, hz]⟩
  obtain ⟨k1, k2, k3⟩ := key
  have e0 := hc ns a ha
  have ei := enum_items D.int bs 0
  refine ⟨_, ⟨?_, k3⟩, ?_⟩
  · rw [k2]
    simp
  · simp only [List.map_nil] at k1
    simp [sDraw, e0, hio, ei, k1]
/-! ### names -/
def NameS (c : CF) : Prop := ∀ (a k : Int), ∃ s : Str, c [(false, .int a), (false, .int k)] = .ok true (.str s) [none, none]
theorem sName_v {a k : Int} (hio : Γ.io = []) : ∃ s : Str, ∃ env, evSs Γ sName [some (false, .int a), some (false, .int k), none, none, none, none, none, none] = .ret true (.str s) env := by
  have big := sizeBig
  have m36 : ∀ x : Int, 0 ≤ x % 36 ∧ x % 36 < 36 := fun x => emod_row (by decide)
  have m26 : ∀ x : Int, 0 ≤ x % 26 ∧ x % 26 < 26 := fun x => emod_row (by decide)
  have at36 : ∀ x : Int, atI signs.cps.toList (x % 36) = some (sgC (x % 36)) := fun x => sg_at (m36 x).1 (m36 x).2
  have at26 : ∀ x : Int, atI signs.cps.toList (x % 26) = some (sgC (x % 26)) := fun x => sg_at (m26 x).1 (by have := (m26 x).2; omega)
  have b8 := emod_row (x := a) (b := 8) (by decide)
  have l0 : Str.length ("" : Str) = 0 := by decide +kernel
  have s2 : 2 ≤ sizeLine := by omega
  have key := forL_fold (α := Int × Str) (β := Nat) (b := evSs Γ sName_l1) (set := tgSet [] (.nm 7)) (vs := [0, 3, 7])
    (fun s => [none, some (false, .int k), some (false, .str signs), none, some (false, .int (a / 8 % (a % 8 + 1))), some (false, .int s.1), some (false, .str s.2), none]) (fun i => .int (i : Int))
    (fun s i => (s.1 / 36, s.2 ++ ⟨#[sgC (s.1 % (if (i : Int) = 0 then 26 else 36))]⟩)) (fun i s => s.2.length = i)
    (List.range (a % 8).toNat) 0 (a / 72, "") l0 fun i s x hx h1 => by
      have hi : i < (a % 8).toNat := by
        have := (List.getElem?_eq_some_iff.mp hx).1
        simpa using this
      have hz : s.2.length + 1 ≤ sizeLine := by omega
      refine ⟨by rw [app_len, one_len]; omega, ?_⟩
      by_cases h0 : x = 0
      · subst h0
        simp [sName_l1, at26, sg_len, hz, hio, s2]
      · have h0' : ((x : Int) == 0) = false := by simpa using h0
        have h0'' : ¬ (x : Int) = 0 := by omega
        simp [sName_l1, at36, sg_len, hz, hio, h0, h0', h0'', s2]
  obtain ⟨k1, k2⟩ := key
  generalize hS : (List.range (a % 8).toNat).foldl (fun (s : Int × Str) (i : Nat) => (s.1 / 36, s.2 ++ ⟨#[sgC (s.1 % (if (i : Int) = 0 then 26 else 36))]⟩)) (a / 72, "") = S at *
  have lS : S.2.length ≤ 8 := by
    rw [k2]
    simp
    omega
  have c1 := cut_len S.2 none (some (a / 8 % (a % 8 + 1)))
  have c2 := cut_len S.2 (some (a / 8 % (a % 8 + 1))) none
  have c3 : (cutS S.2 none (some (a / 8 % (a % 8 + 1)))).length + 1 ≤ sizeLine := by omega
  have c4 : (cutS S.2 none (some (a / 8 % (a % 8 + 1)))).length + 1 + (cutS S.2 (some (a / 8 % (a % 8 + 1))) none).length ≤ sizeLine := by omega
  have c5 : S.2.length ≤ sizeLine := by omega
  have hr : rngOk (a % 8) = true := rng_of b8.1 (by omega)
  have p1 : (0 : Int) < a % 8 + 1 := by omega
  refine ⟨cutS S.2 none (some (a / 8 % (a % 8 + 1))) ++ ⟨#[sgC ((S.1 + k) % 26)]⟩ ++ cutS S.2 (some (a / 8 % (a % 8 + 1))) none, ?_⟩
  simp [sName, hio, hr, range1, k1, p1, c3, c4, c5, at26, sg_len]
/-! ### a queue -/
def Queue3S (c : CF) : Prop := ∀ ns : List Int, ∃ q : List (Str × Int), q.length ≤ 26 ∧ (∀ p ∈ q, 1 ≤ p.2 ∧ p.2 ≤ 20) ∧ c [(false, dI ns)] = .ok true (.lst true (q.map tk)) [none]
theorem sQueue3_v {ns : List Int} {cc cd cn : Nat} (hio : Γ.io = []) (hc : CellS (Γ.call cc)) (hd : DrawS (Γ.call cd)) (hn : NameS (Γ.call cn)) :
    ∃ q : List (Str × Int), q.length ≤ 26 ∧ (∀ p ∈ q, 1 ≤ p.2 ∧ p.2 ≤ 20) ∧ ∃ env, evSs Γ (sQueue3 cc cd cn) [some (false, dI ns), none, none, none, none] = .ret true (.lst true (q.map tk)) env := by
  have big := sizeBig
  have s2 : 2 ≤ sizeLine := by omega
  have b27 := emod_row (x := cellV ns 1) (b := 27) (by decide)
  have e1 := hc ns 1 (by omega)
  have lr : (List.replicate (cellV ns 1 % 27).toNat (20 : Int)).length ≤ 26 := by
    rw [List.length_replicate]
    omega
  obtain ⟨xs, ⟨lx, bx⟩, ed⟩ := hd ns 2 (List.replicate (cellV ns 1 % 27).toNat 20) (by omega) (by omega) fun b m => by
    rw [List.eq_of_mem_replicate m]
    decide
  have nm : ∀ k : Nat, ∃ s : Str, (Γ.call cn) [(false, .int (cellV ns 1 / 27)), (false, .int (k : Int))] = .ok true (.str s) [none, none] := fun k => hn _ _
  obtain ⟨N, hN⟩ := Classical.axiomOfChoice nm
  have k1 := lcRun_map (el := evE Γ (sQueue3_e1 cc cd cn)) (c := fun x => (some true, x)) (t := .tup [.nm 3, .nm 4]) (vs := [3, 4]) (env1 := [some (false, dI ns), some (false, .int (cellV ns 1 % 27)), some (false, dI xs), none, none])
    (fun p : Int × Nat => D.tup [.int (p.2 : Int), .int p.1]) (fun p => tk (N p.2, 1 + p.1)) xs.zipIdx (by simp; omega) rfl fun p m => by
      have := hN p.2
      simp [sQueue3_e1, e1, this, tk, s2]
  have ei := enum_items D.int xs 0
  have er : (List.replicate (cellV ns 1 % 27).toNat [D.int 20]).flatten = (List.replicate (cellV ns 1 % 27).toNat (20 : Int)).map D.int := by
    induction (cellV ns 1 % 27).toNat with
    | zero => rfl
    | succ n ih => rw [List.replicate_succ, List.flatten_cons, ih, List.replicate_succ]; rfl
  have l63 : -9223372036854775808 ≤ cellV ns 1 % 27 ∧ cellV ns 1 % 27 < 9223372036854775808 := by omega
  have l1 : cellV ns 1 % 27 ≤ (sizeLine : Int) := by omega
  have s1 : 1 ≤ sizeLine := by omega
  rw [show dI (List.replicate (cellV ns 1 % 27).toNat (20 : Int)) = .lst false (List.replicate (cellV ns 1 % 27).toNat (D.int 20)) by show D.lst false (List.map D.int _) = _; rw [List.map_replicate]] at ed
  refine ⟨xs.zipIdx.map fun p => (N p.2, 1 + p.1), ?_, fun p m => ?_, ?_⟩
  · rw [List.length_map, List.length_zipIdx]
    omega
  · obtain ⟨p0, hp, rfl⟩ := List.mem_map.mp m
    obtain ⟨i, hi⟩ := List.getElem?_of_mem hp
    rw [List.getElem?_zipIdx] at hi
    obtain ⟨x, ex, e'⟩ := Option.map_eq_some_iff.mp hi
    cases e'
    have li := (List.getElem?_eq_some_iff.mp ex).1
    have b := bx i x 20 ex (by rw [List.getElem?_replicate, if_pos (by rw [lx, List.length_replicate] at li; exact li)])
    dsimp only
    omega
  · have em : (xs.zipIdx.map fun p => (N p.2, 1 + p.1)).map tk = xs.zipIdx.map fun p => tk (N p.2, 1 + p.1) := by
      rw [List.map_map]
      rfl
    rw [em]
    simp [sQueue3, hio, e1, s1, er, l63, l1, ed, ei, k1]
theorem names_map (q : List (Str × Int)) : q.map (fun p => D.str p.1) = (nms q).map .str := by
  show _ = (q.map (·.1)).map D.str
  rw [List.map_map]
  rfl
/-! ### what is told -/
def toldV (w : Int) (q : List (Str × Int)) (x : D) : D := match plV x q with
  | some k => .lst false [.str "told", .int (if w = 0 then lfV q k else (k : Int))]
  | none => .lst false [.str "none", x, .bl true]
def ToldS (c : CF) : Prop := ∀ (w : Int) q x, NmD x → (w = 0 ∨ w = 1) → c [(false, .int w), (false, dQ q), (false, x)] = .ok false (toldV w q x) [none, none, none]
theorem sTold_v {w : Int} {q : List (Str × Int)} {x : D} {cl cp : Nat} (hio : Γ.io = []) (hl : LeftOfS (Γ.call cl)) (hp : PlaceS (Γ.call cp)) (hx : NmD x) (hw : w = 0 ∨ w = 1) :
    ∃ env, evSs Γ (sTold cl cp) [some (false, .int w), some (false, dQ q), some (false, x), none, none] = .ret false (toldV w q x) env := by
  have big := sizeBig
  have s0 : 0 ≤ sizeLine := by omega
  have s2 : 2 ≤ sizeLine := by omega
  have s3 : 3 ≤ sizeLine := by omega
  have e1 := hl q x hx
  have e2 := hp q x hx
  have es := hx.st
  unfold toldV
  rcases hw with rfl | rfl
  · cases h : plV x q with
    | none =>
      rw [h] at e1
      simp [sTold, hio, e1, exNone, s2, s3, fldD, es]
    | some k =>
      rw [h] at e1
      simp [sTold, hio, e1, s2]
  · cases h : plV x q with
    | none =>
      rw [h] at e2
      simp [sTold, hio, e2, exNone, s2, s3, fldD, es]
    | some k =>
      rw [h] at e2
      simp [sTold, hio, e2, s2]
theorem sWhole2_v {a b : Int} : evSs Γ sWhole2 [some (false, .int a), some (false, .int b)] = .ret false (.bl (a == b)) [some (false, .int a), some (false, .int b)] := by
  simp [sWhole2]
def Whole2S (c : CF) : Prop := ∀ a b : Int, c [(false, .int a), (false, .int b)] = .ok false (.bl (a == b)) [none, none]
def AskedS (c : CF) : Prop := ∀ q x, NmD x → q.length ≤ 1000000 → c [(false, dQ q), (false, x)] = .ok false (.bl true) [none, none]
theorem sAsked_l1_v {q : List (Str × Int)} {x : D} {ct cw : Nat} {w : Int} (hio : Γ.io = []) (ht : ToldS (Γ.call ct)) (hw : Whole2S (Γ.call cw)) (hx : NmD x) (hw01 : w = 0 ∨ w = 1) :
    ∃ env1 env2, tgSet [] (.nm 4) (.int w) [some (false, dQ q), some (false, x), some (false, dS (nms q)), none, none, none, none] = some env1 ∧ (evSs Γ (sAsked_l1 ct cw) env1 = .next env2 ∨ evSs Γ (sAsked_l1 ct cw) env1 = .cnt env2) ∧
      kill [3, 4, 5, 6] env2 = [some (false, dQ q), some (false, x), some (false, dS (nms q)), none, none, none, none] := by
  have big := sizeBig
  have s2 : 2 ≤ sizeLine := by omega
  have s3 : 3 ≤ sizeLine := by omega
  have e1 := ht w q x hx hw01
  have em := hx.mem (nms q)
  have ea := pl_any (x := x) q
  have es := hx.st
  cases h : plV x q with
  | none =>
    rw [h] at ea
    rw [ea] at em
    unfold toldV at e1
    rw [h] at e1
    have ee := hx.self
    simp [sAsked_l1, e1, em, s3, es, ee, hio]
  | some k =>
    obtain ⟨y, rfl⟩ := pl_str h
    rw [h] at ea
    rw [ea] at em
    unfold toldV at e1
    rw [h] at e1
    have l := pl_lt h
    have ef := pl_find (y := y) q 0
    rw [h] at ef
    have fl : ((nms q).map D.str).all isFlat = true := by
      rw [List.all_map, List.all_eq_true]
      exact fun s _ => rfl
    have eq1 := at_q l
    have hle := lf_at l
    rcases hw01 with rfl | rfl
    · have ew := hw (lfV q k) (lfV q k)
      simp [sAsked_l1, e1, em, s2, ef, fl, eq1, tk, ← hle, ew, hio]
    · have ew := hw (k : Int) (k : Int)
      simp [sAsked_l1, e1, em, s2, ef, fl, eq1, tk, ← hle, ew, hio]
theorem sAsked_v {q : List (Str × Int)} {x : D} {ct cw : Nat} (hio : Γ.io = []) (ht : ToldS (Γ.call ct)) (hw : Whole2S (Γ.call cw)) (hx : NmD x) (hl : q.length ≤ 1000000) :
    ∃ env, evSs Γ (sAsked ct cw) [some (false, dQ q), some (false, x), none, none, none, none, none] = .ret false (.bl true) env := by
  have big := sizeBig
  have key := forL_fold (α := Unit) (β := Nat) (b := evSs Γ (sAsked_l1 ct cw)) (set := tgSet [] (.nm 4)) (vs := [3, 4, 5, 6]) (fun _ => [some (false, dQ q), some (false, x), some (false, dS (nms q)), none, none, none, none]) (fun i : Nat => .int (i : Int)) (fun _ _ => ()) (fun _ _ => True)
    (List.range 2) 0 () trivial fun i s k hk _ => ⟨trivial, sAsked_l1_v hio ht hw hx (by
      have h1 := (List.getElem?_eq_some_iff.mp hk)
      obtain ⟨h1, h2⟩ := h1
      simp at h1 h2
      omega)⟩
  have k1 := key.1
  have k2 := lcRun_map (el := evE Γ (sAsked_e1 ct cw)) (c := fun x => (some true, x)) (t := .nm 3) (vs := [3]) (env1 := [some (false, dQ q), some (false, x), none, none, none, none, none]) tk (fun p => .str p.1) q (by omega) rfl fun p m => by
    simp [sAsked_e1, tk]
  rw [names_map] at k2
  have r2 : rngOk 2 = true := rng_of (by decide) (by decide)
  simp [sAsked, hio, k2, range1, r2, k1]
end Vm
namespace K12
open PySem L2 Vm
open PyProof.Rows hiding St
def top (i : Nat) : Stmt := PySem.Challenge.pw_latestturn_k12_what_a_queue_tells.main.body.getD i (.Pass ⟨0, 0, 0, 0⟩)
/-- names_of -/
def b0 : Ss := Vm.sNamesOf
def t0 : Df := ⟨⟨1, 3, [], b0⟩, ["queue", "name", "left"], ["queue"], ⟨("names_of", none), "names_of", "names_of", defArgs (top 4), defBody (top 4), defScope (top 4), [], []⟩⟩
theorem bn0 : Bnd t0 := fun _ _ _ _ _ _ us hl => match us, hl with | [_], _ => rfl
/-- place_of -/
def b1 : Ss := Vm.sPlaceOf
def t1 : Df := ⟨⟨2, 4, [], b1⟩, ["queue", "name", "place", "ticket"], ["queue", "name"], ⟨("place_of", none), "place_of", "place_of", defArgs (top 5), defBody (top 5), defScope (top 5), [], []⟩⟩
theorem bn1 : Bnd t1 := fun _ _ _ _ _ _ us hl => match us, hl with | [_, _], _ => rfl
/-- left_of -/
def b2 : Ss := Vm.sLeftOf 1
def t2 : Df := ⟨⟨2, 2, [], b2⟩, ["queue", "name"], ["queue", "name"], ⟨("left_of", none), "left_of", "left_of", defArgs (top 6), defBody (top 6), defScope (top 6), [], []⟩⟩
theorem bn2 : Bnd t2 := fun _ _ _ _ _ _ us hl => match us, hl with | [_, _], _ => rfl
/-- _law_cell -/
def b3 : Ss := Vm.sCell
def t3 : Df := ⟨⟨2, 2, [], b3⟩, ["_law_script", "_law_k"], ["_law_script", "_law_k"], ⟨("_law_cell", none), "_law_cell", "_law_cell", defArgs (top 8), defBody (top 8), defScope (top 8), [], []⟩⟩
theorem bn3 : Bnd t3 := fun _ _ _ _ _ _ us hl => match us, hl with | [_, _], _ => rfl
/-- _law_stir -/
def b4 : Ss := Vm.sStir
def t4 : Df := ⟨⟨2, 3, [], b4⟩, ["_law_cell_here", "_law_k", "_law_number"], ["_law_cell_here", "_law_k"], ⟨("_law_stir", none), "_law_stir", "_law_stir", defArgs (top 9), defBody (top 9), defScope (top 9), [], []⟩⟩
theorem bn4 : Bnd t4 := fun _ _ _ _ _ _ us hl => match us, hl with | [_, _], _ => rfl
/-- _law_draw -/
def b5 : Ss := Vm.sDraw 3 4
def t5 : Df := ⟨⟨3, 7, [], b5⟩, ["_law_script", "_law_at", "_law_bases", "_law_cell_here", "_law_found", "_law_k", "_law_base"], ["_law_script", "_law_at", "_law_bases"], ⟨("_law_draw", none), "_law_draw", "_law_draw", defArgs (top 10), defBody (top 10), defScope (top 10), [], []⟩⟩
theorem bn5 : Bnd t5 := fun _ _ _ _ _ _ us hl => match us, hl with | [_, _, _], _ => rfl
/-- _law_name -/
def b6 : Ss := Vm.sName
def t6 : Df := ⟨⟨2, 8, [], b6⟩, ["_law_cell_here", "_law_k", "_law_signs", "_law_size", "_law_at", "_law_left", "_law_word", "_law_j"], ["_law_cell_here", "_law_k"], ⟨("_law_name", none), "_law_name", "_law_name", defArgs (top 11), defBody (top 11), defScope (top 11), [], []⟩⟩
theorem bn6 : Bnd t6 := fun _ _ _ _ _ _ us hl => match us, hl with | [_, _], _ => rfl
/-- _law_queue -/
def b7 : Ss := Vm.sQueue3 3 5 6
def t7 : Df := ⟨⟨1, 5, [], b7⟩, ["_law_script", "_law_many", "_law_lefts", "_law_k", "_law_left"], ["_law_script"], ⟨("_law_queue", none), "_law_queue", "_law_queue", defArgs (top 12), defBody (top 12), defScope (top 12), [], []⟩⟩
theorem bn7 : Bnd t7 := fun _ _ _ _ _ _ us hl => match us, hl with | [_], _ => rfl
/-- _law_told -/
def b8 : Ss := Vm.sTold 2 1
def t8 : Df := ⟨⟨3, 5, [], b8⟩, ["_law_way", "_law_queue_here", "_law_name_here", "_law_told_here", "e"], ["_law_way", "_law_queue_here", "_law_name_here"], ⟨("_law_told", none), "_law_told", "_law_told", defArgs (top 13), defBody (top 13), defScope (top 13), [], []⟩⟩
theorem bn8 : Bnd t8 := fun _ _ _ _ _ _ us hl => match us, hl with | [_, _, _], _ => rfl
/-- _law_whole -/
def b9 : Ss := Vm.sWhole2
def t9 : Df := ⟨⟨2, 2, [], b9⟩, ["_law_found", "_law_due"], ["_law_found", "_law_due"], ⟨("_law_whole", none), "_law_whole", "_law_whole", defArgs (top 14), defBody (top 14), defScope (top 14), [], []⟩⟩
theorem bn9 : Bnd t9 := fun _ _ _ _ _ _ us hl => match us, hl with | [_, _], _ => rfl
/-- _law_asked -/
def b10 : Ss := Vm.sAsked 8 9
def t10 : Df := ⟨⟨2, 7, [], b10⟩, ["_law_queue_here", "_law_name_here", "_law_names", "_law_ticket", "_law_way", "_law_told_here", "_law_place"], ["_law_queue_here", "_law_name_here"], ⟨("_law_asked", none), "_law_asked", "_law_asked", defArgs (top 15), defBody (top 15), defScope (top 15), [], []⟩⟩
theorem bn10 : Bnd t10 := fun _ _ _ _ _ _ us hl => match us, hl with | [_, _], _ => rfl
/-- law -/
def b11_e1 : E := .idx (.var 4) (.int 0)
def b11_l1 : Ss := .cons (.asgt (.tup [.nm 6, .nm 7]) (.call 5 (.cons (.var 0) (.cons (.var 5) (.cons (.lst (.cons (.int 8) (.cons (.int 30) .nil))) .nil))))) (.cons (.asg false 8 (.idx (.bin .add (.var 3) (.lst (.cons (.str "") (.cons (.str "zz9") (.cons (.str "none") .nil))))) (.bin .mod (.var 7) (.bin .add (.bcall .len (.cons (.var 3) .nil)) (.int 3))))) (.cons (.ife (.cmp .eq (.var 6) (.int 7)) (.cons (.asg false 8 (.idx (.lst (.cons (.non) (.cons (.int 7) (.cons (.bl true) (.cons (.tup (.cons (.str "a") .nil)) (.cons (.int 1) (.cons (.lst (.cons (.str "a") .nil)) (.cons (.dsp .nil) (.cons (.lst .nil) .nil))))))))) (.bin .mod (.var 7) (.int 8)))) .nil) (.nil)) (.cons (.ife (.not (.call 10 (.cons (.var 2) (.cons (.var 8) .nil)))) (.cons (.ret (.some (.bl false))) .nil) (.nil)) (.cons (.asg true 9 (.call 0 (.cons (.var 2) .nil))) (.cons (.ife (.look (.or (.cons (.not (.isi .list (.var 9))) (.cons (.cmp .ne (.var 9) (.var 3)) .nil)))) (.cons (.ret (.some (.bl false))) .nil) (.nil)) (.cons (.mut .clear 9 [] .nil) .nil))))))
def b11 : Ss := .cons (.asg false 1 (.call 7 (.cons (.var 0) .nil))) (.cons (.asg false 2 (.bcall .list1 (.cons (.var 1) .nil))) (.cons (.asg false 3 (.lc (b11_e1) (.nm 4) (.seq (.var 1)) .none [4])) (.cons (.for (.nm 5) (.rng2 (.int 3) (.bcall .min2 (.cons (.bcall .len (.cons (.var 0) .nil)) (.cons (.int 63) .nil)))) (b11_l1) [4, 5, 6, 7, 8, 9]) (.cons (.ret (.some (.and (.cons (.cmp .eq (.var 2) (.var 1)) (.cons (.cmp .eq (.call 0 (.cons (.lst .nil) .nil)) (.lst .nil)) (.cons (.call 10 (.cons (.lst .nil) (.cons (.str "a") .nil))) (.cons (.cmp .eq (.call 0 (.cons (.var 2) .nil)) (.var 3)) .nil))))))) .nil))))
def t11 : Df := ⟨⟨1, 10, [], b11⟩, ["_law_script", "_law_queue_here", "_law_handed", "_law_names", "_law_ticket", "_law_at", "_law_way", "_law_which", "_law_name_here", "_law_found"], ["_law_script"], ⟨("law", none), "law", "law", defArgs (top 16), defBody (top 16), defScope (top 16), [], []⟩⟩
theorem bn11 : Bnd t11 := fun _ _ _ _ _ _ us hl => match us, hl with | [_], _ => rfl
def tbl : List Df := [t0, t1, t2, t3, t4, t5, t6, t7, t8, t9, t10, t11]
theorem bnd : AllB tbl := .cons bn0 (.cons bn1 (.cons bn2 (.cons bn3 (.cons bn4 (.cons bn5 (.cons bn6 (.cons bn7 (.cons bn8 (.cons bn9 (.cons bn10 (.cons bn11 (.nil))))))))))))
def pg : Pg := { tbl := tbl, gi := [], gs := [], nb := ["bool", "enumerate", "int", "isinstance", "len", "list", "min", "range"], mks := [], mts := [], cfs := [], cls := (["", "", "", "", "", "", "", "", "", ""] : List Str) ++ (["", "", "", "", "", "", "", "", "", ""] : List Str) ++ (["HallError", "NoName", "NoNumber", "NoHours", "NoLine", "TooMany", "Doubled", "Taken", "NoTicket", "NotBegun"] : List Str) ++ (["NoBooking", "NotKept", "NoBreak", "NoCounter"] : List Str), fds := (["?0", "?1", "?2", "?3", "?4", "?5", "?6", "?7", "?8", "?9"] : List Str) ++ (["?10", "?11", "?12", "?13", "?14", "?15", "?16", "?17", "?18", "?19"] : List Str) ++ (["?20", "?21", "?22", "?23", "?24", "?25", "?26", "?27", "?28", "?29"] : List Str) ++ (["?30", "?31", "?32", "?33", "?34", "?35", "?36", "?37", "?38", "?39"] : List Str) ++ (["name", "turn", "first", "last"] : List Str), xl := [(28, "NoTicket")], xfs := [(40, "name")], xcs := [([28], "HallError"), ([28], "NoTicket")], xrs := [(28, 40, "NoTicket")], ini := [⟨("NoTicket", some "__init__"), "__init__", "NoTicket.__init__", defArgs (inCls (top 2) 0), defBody (inCls (top 2) 0), defScope (inCls (top 2) 0), [], []⟩] }
theorem ok : okP pg = true := by decide +kernel
abbrev R : PySem.W.OpenRow := PySem.W.OpenLaw.row PySem.Challenge.rw_latestturn_k12_what_a_queue_tells
abbrev hk : PySem.W.Hook := hookE 4 pg
def ob (s : PySem.W.SharedT) : He.AlD := obsE 4 pg (HandSHeadRun.getT s)
theorem ob_eq (s : PySem.W.SharedT) : ob s = hk.obs s.abs := obsE_eq (HandSHeadRun.getT_eq s)
def loose0 : List Str := ["HallError", "NoTicket", "names_of", "place_of", "left_of", "_law_cell", "_law_stir", "_law_draw", "_law_name", "_law_queue", "_law_told", "_law_whole", "_law_asked"]
def loose : List Str := loose0
theorem run (w : World) : HandSHeadRun.RunEq R (PySem.W.view R.prog [16]) hk ob 2000 loose w := by
  intro os
  kernel_rfl
def wf : Nat := 5000
def Math : Prop := ∀ ns : List Int, ns.length ≤ 63 → ∃ f outs, callF pg.P (fun _ _ => none) wf 12 11 (lawArgs ns) = .ok f (.bl true) outs
theorem holds_of (math : Math) : PySem.Challenge.rw_latestturn_k12_what_a_queue_tells.Holds := by
  w_on; o_law
  refine HandSHeadRun.head_any (r := PySem.W.OpenLaw.row PySem.Challenge.rw_latestturn_k12_what_a_queue_tells) (q := PySem.W.view (PySem.W.OpenLaw.row PySem.Challenge.rw_latestturn_k12_what_a_queue_tells).prog [16]) (H := hk) (ob := ob) (M := 2000) (loose := loose) (d := HandSHeadRun.topDef (PySem.W.OpenLaw.row PySem.Challenge.rw_latestturn_k12_what_a_queue_tells).prog 16) (kwd := []) ob_eq
    (by kernel_rfl) (fun s => by kernel_rfl) run (by kernel_rfl) (by kernel_rfl) (by kernel_rfl) (by rfl) (by first | assumption | decide +kernel) (by decide +kernel) ⟨rfl, rfl, rfl, rfl, rfl, by decide +kernel⟩ ?hw ?hc
  case hw => w_witness2
  case hc =>
    exact Vm.vm_walk (l := PySem.Challenge.rw_latestturn_k12_what_a_queue_tells) (p := pg) (n := 63) (x := "_law_script") (M := 4) (tl := t11) (li := 11) (ms := fun _ _ => none) (wf := wf) (fuel := 12) rfl (by decide) (by kernel_rfl) ⟨rfl, by decide, by decide⟩ ok bnd rfl rfl (by kernel_rfl) rfl rfl rfl math
end K12
namespace K12
open PySem L2 Vm
open PyProof.Rows hiding St
noncomputable abbrev cf (n : Nat) (i : Nat) : CF := callF pg.P (fun _ _ => none) wf n i
noncomputable abbrev gm (n : Nat) (io : List Nat) : Cf := ⟨cf n, fun _ _ => none, wf, io, none⟩
theorem namesOfS (n : Nat) : NamesOfS (cf (n + 1) 0) := fun q hq => by
  obtain ⟨env, e⟩ := sNamesOf_v (Γ := gm n []) (q := q) rfl hq
  refine (callF_eq (fd := t0.fd) rfl rfl).trans ?_
  show finC t0.fd (evSs (gm n []) sNamesOf [some (false, dQ q), none, none]) = _
  rw [e]
  rfl
theorem placeS (n : Nat) : PlaceS (cf (n + 1) 1) := fun q x hx => by
  obtain ⟨env, e⟩ := sPlaceOf_v (Γ := gm n []) (q := q) rfl hx
  refine (callF_eq (fd := t1.fd) rfl rfl).trans ?_
  show finC t1.fd (evSs (gm n []) sPlaceOf [some (false, dQ q), some (false, x), none, none]) = _
  rw [e]
  cases plV x q <;> rfl
theorem leftOfS (n : Nat) : LeftOfS (cf (n + 2) 2) := fun q x hx => by
  obtain ⟨env, e⟩ := sLeftOf_v (Γ := gm (n + 1) []) (q := q) (cp := 1) (placeS n) hx
  refine (callF_eq (fd := t2.fd) rfl rfl).trans ?_
  show finC t2.fd (evSs (gm (n + 1) []) (sLeftOf 1) [some (false, dQ q), some (false, x)]) = _
  rw [e]
  cases plV x q <;> rfl
theorem cellS (n : Nat) : CellS (cf (n + 1) 3) := fun ns k h => by
  refine (callF_eq (fd := t3.fd) rfl rfl).trans ?_
  show finC t3.fd (evSs _ sCell [some (false, dI ns), some (false, .int k)]) = _
  rw [sCell_v h]
  rfl
theorem stirS (n : Nat) : StirS (cf (n + 1) 4) := fun a k => by
  refine (callF_eq (fd := t4.fd) rfl rfl).trans ?_
  obtain ⟨env, e⟩ := sStir_v (Γ := gm n []) (a := a) (k := k) rfl
  show finC t4.fd (evSs (gm n []) sStir [some (false, .int a), some (false, .int k), none]) = _
  rw [e]
  rfl
theorem drawS (n : Nat) : DrawS (cf (n + 2) 5) := fun ns a bs ha hl hb => by
  obtain ⟨xs, h, env, e⟩ := sDraw_v (Γ := gm (n + 1) []) (ns := ns) (cc := 3) (cs := 4) rfl (cellS n) (stirS n) ha hl hb
  refine ⟨xs, h, (callF_eq (fd := t5.fd) rfl rfl).trans ?_⟩
  show finC t5.fd (evSs (gm (n + 1) []) (sDraw 3 4) [some (false, dI ns), some (false, .int a), some (false, dI bs), none, none, none, none]) = _
  rw [e]
  rfl
theorem nameS (n : Nat) : NameS (cf (n + 1) 6) := fun a k => by
  obtain ⟨s, env, e⟩ := sName_v (Γ := gm n []) (a := a) (k := k) rfl
  refine ⟨s, (callF_eq (fd := t6.fd) rfl rfl).trans ?_⟩
  show finC t6.fd (evSs (gm n []) sName [some (false, .int a), some (false, .int k), none, none, none, none, none, none]) = _
  rw [e]
  rfl
theorem queueS (n : Nat) : Queue3S (cf (n + 3) 7) := fun ns => by
  obtain ⟨q, h, h2, env, e⟩ := sQueue3_v (Γ := gm (n + 2) []) (ns := ns) (cc := 3) (cd := 5) (cn := 6) rfl (cellS (n + 1)) (drawS n) (nameS (n + 1))
  refine ⟨q, h, h2, (callF_eq (fd := t7.fd) rfl rfl).trans ?_⟩
  show finC t7.fd (evSs (gm (n + 2) []) (sQueue3 3 5 6) [some (false, dI ns), none, none, none, none]) = _
  rw [e]
  rfl
theorem toldS (n : Nat) : ToldS (cf (n + 3) 8) := fun w q x hx hw => by
  obtain ⟨env, e⟩ := sTold_v (Γ := gm (n + 2) []) (w := w) (q := q) (cl := 2) (cp := 1) rfl (leftOfS n) (placeS (n + 1)) hx hw
  refine (callF_eq (fd := t8.fd) rfl rfl).trans ?_
  show finC t8.fd (evSs (gm (n + 2) []) (sTold 2 1) [some (false, .int w), some (false, dQ q), some (false, x), none, none]) = _
  rw [e]
  rfl
theorem whole2S (n : Nat) : Whole2S (cf (n + 1) 9) := fun a b => by
  refine (callF_eq (fd := t9.fd) rfl rfl).trans ?_
  show finC t9.fd (evSs (gm n []) sWhole2 [some (false, .int a), some (false, .int b)]) = _
  rw [sWhole2_v]
  rfl
theorem askedS (n : Nat) : AskedS (cf (n + 4) 10) := fun q x hx hl => by
  obtain ⟨env, e⟩ := sAsked_v (Γ := gm (n + 3) []) (q := q) (ct := 8) (cw := 9) rfl (toldS n) (whole2S (n + 2)) hx hl
  refine (callF_eq (fd := t10.fd) rfl rfl).trans ?_
  show finC t10.fd (evSs (gm (n + 3) []) (sAsked 8 9) [some (false, dQ q), some (false, x), none, none, none, none, none]) = _
  rw [e]
  rfl
-- depths: namesOfS 1, placeS 1, leftOfS 2, cellS 1, stirS 1, drawS 2, nameS 1, queueS 3, toldS 3, whole2S 1, askedS 4
end K12
namespace K12
open PySem L2 Vm
open PyProof.Rows hiding St
noncomputable abbrev G11 : Cf := gm 11 []
@[simp] theorem clr_dic0 (f : Bool) : clr (.dic f []) = .dic false [] := rfl
abbrev base (ns : List Int) (q : List (Str × Int)) : EnvD := [some (false, dI ns), some (false, dQ q), some (false, dQ q), some (false, dS (nms q)), none, none, none, none, none, none]
abbrev oddL : List D := [.non, .int 7, .bl true, .tup [.str "a"], .int 1, .lst false [.str "a"], .dic false [], .lst false []]
theorem odd_at (i : Int) : ∃ x, NmD x ∧ atI oddL (i % 8) = some x := by
  have b := emod_row (x := i) (b := 8) (by decide)
  have h : i % 8 = 0 ∨ i % 8 = 1 ∨ i % 8 = 2 ∨ i % 8 = 3 ∨ i % 8 = 4 ∨ i % 8 = 5 ∨ i % 8 = 6 ∨ i % 8 = 7 := by omega
  rcases h with h | h | h | h | h | h | h | h <;> rw [h]
  · exact ⟨_, nmD_non, rfl⟩
  · exact ⟨_, nmD_int 7, rfl⟩
  · exact ⟨_, nmD_bl true, rfl⟩
  · exact ⟨_, nmD_tup "a", rfl⟩
  · exact ⟨_, nmD_int 1, rfl⟩
  · exact ⟨_, nmD_lst "a", rfl⟩
  · exact ⟨_, nmD_dic, rfl⟩
  · exact ⟨_, nmD_nil, rfl⟩
theorem name_at (xs : List Str) (i : Int) : ∃ y, atI (xs.map D.str ++ [D.str "", D.str "zz9", D.str "none"]) (i % ((xs.length : Int) + 3)) = some (.str y) := by
  have b := emod_row (x := i) (b := (xs.length : Int) + 3) (by omega)
  have e : xs.map D.str ++ [D.str "", D.str "zz9", D.str "none"] = (xs ++ (["", "zz9", "none"] : List Str)).map D.str := by simp
  rw [e]
  have l : (i % ((xs.length : Int) + 3)).toNat < (xs ++ (["", "zz9", "none"] : List Str)).length := by simp; omega
  rw [atI_nn b.1 (by simp; omega), List.getElem?_map, List.getElem?_eq_getElem l]
  exact ⟨_, rfl⟩
theorem two_of {xs : List Int} {a b : Int} (h : Drawn xs [a, b]) : ∃ x y, xs = [x, y] := by
  obtain ⟨l, _⟩ := h
  match xs, l with
  | [x, y], _ => exact ⟨x, y, rfl⟩
theorem turn (ns : List Int) (q : List (Str × Int)) (hq : q.length ≤ 26) (k : Int) (hk : 0 ≤ k) :
    ∃ env1 env2, tgSet [] (.nm 5) (.int k) (base ns q) = some env1 ∧ (evSs G11 b11_l1 env1 = .next env2 ∨ evSs G11 b11_l1 env1 = .cnt env2) ∧ kill [4, 5, 6, 7, 8, 9] env2 = base ns q := by
  have big := sizeBig
  have s2 : 2 ≤ sizeLine := by omega
  have s3 : 3 ≤ sizeLine := by omega
  have s8 : 8 ≤ sizeLine := by omega
  have s1 : 1 ≤ sizeLine := by omega
  have s0 : 0 ≤ sizeLine := by omega
  obtain ⟨xs, hd, ed⟩ := drawS 9 ns k [8, 30] hk (by simp) (by simp)
  obtain ⟨w, i, rfl⟩ := two_of hd
  have e3 := namesOfS 10 q (by omega)
  have es := eq_dS (nms q) true false
  have es2 := eq_dS (nms q) false false
  have ln : (nms q).length + 3 ≤ sizeLine := by
    have : (nms q).length = q.length := List.length_map ..
    omega
  have lp : (0 : Int) < ((nms q).length : Int) + 3 := by omega
  obtain ⟨y, ey⟩ := name_at (nms q) i
  have ed : cf 11 5 [(false, dI ns), (false, .int k), (false, .lst false [.int 8, .int 30])] = .ok true (.lst true [.int w, .int i]) [none, none, none] := ed
  by_cases hw : w = 7
  · subst hw
    obtain ⟨x, hx, ex⟩ := odd_at i
    have e2 := askedS 7 q x hx (by omega)
    simp [b11_l1, ed, s2, s3, s8, s1, s0, ey, ex, e2, e3, es, es2, ln, lp]
  · have e2 := askedS 7 q (.str y) (nmD_str y) (by omega)
    have hw' : (w == 7) = false := by simpa using hw
    simp [b11_l1, ed, s2, s3, s8, s1, s0, ey, hw', e2, e3, es, es2, ln, lp]
theorem math : Math := fun ns hn => by
  have big := sizeBig
  have s0 : 0 ≤ sizeLine := by omega
  obtain ⟨q, hq, _, e1⟩ := queueS 8 ns
  have k1 := lcRun_map (el := evE G11 b11_e1) (c := fun x => (some true, x)) (t := .nm 4) (vs := [4]) (env1 := [some (false, dI ns), some (false, dQ q), some (false, dQ q), none, none, none, none, none, none, none]) tk (fun p => .str p.1) q (by omega) rfl fun p m => by
    simp [b11_e1, tk]
  rw [names_map] at k1
  have l2 := fun n : Nat => (forL_fold (α := Unit) (β := Nat) (b := evSs G11 b11_l1) (set := tgSet [] (.nm 5)) (vs := [4, 5, 6, 7, 8, 9]) (fun _ => base ns q) (fun k : Nat => .int (3 + (k : Int))) (fun _ _ => ()) (fun _ _ => True)
    (List.range n) 0 () trivial fun i s k ho _ => ⟨trivial, turn ns q hq (3 + (k : Int)) (by omega)⟩).1
  have r3 : rngOk 3 = true := rng_of (by decide) (by decide)
  have rhi : rngOk (if 63 < (ns.length : Int) then 63 else (ns.length : Int)) = true := by
    refine rng_of ?_ ?_ <;> split <;> omega
  have e3 := namesOfS 10 q (by omega)
  have e4 := namesOfS 10 [] (by simp)
  have e5 := askedS 7 [] (.str "a") (nmD_str "a") (by simp)
  have eq1 := eq_dQ q false false
  have es := eq_dS (nms q) true false
  have e4 : cf 11 0 [(false, .lst false [])] = .ok true (.lst true []) [none] := e4
  have e5 : cf 11 10 [(false, .lst false []), (false, .str "a")] = .ok false (.bl true) [none, none] := e5
  have tl : ∃ env, evSs G11 b11 [some (false, dI ns), none, none, none, none, none, none, none, none, none] = .ret false (.bl true) env := by
    simp [b11, e1, k1, r3, rhi, range2, l2, e3, e4, e5, eq1, es, s0]
  obtain ⟨env, e9⟩ := tl
  refine ⟨false, [none], (callF_eq (fd := t11.fd) rfl rfl).trans ?_⟩
  show finC t11.fd (evSs G11 b11 [some (false, dI ns), none, none, none, none, none, none, none, none, none]) = _
  rw [e9]
  rfl
theorem holds : PySem.Challenge.rw_latestturn_k12_what_a_queue_tells.Holds := holds_of math
end K12
theorem PySem.Challenge.cw_latestturn_k12_what_a_queue_tells_holds : PySem.Challenge.rw_latestturn_k12_what_a_queue_tells.Holds :=
  K12.holds
