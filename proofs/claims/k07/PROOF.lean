import PyProof.Rows.All
import Wide.All
import OpenK.AllK
import Wide.FinOn
import HandS.ForMost
import HandS.Exc
import HandS.Lambda
import KE.KDictKeyed
import HandS.IsInst
import HandS.Style
import HandS.TupMul
import KE.DataEq
import HandS.ExcOwn
import HandS.WordsExc
import HandS.TryOnly
import HandS.Defaults
import KE.KCompFold
import KE.GoesEnum
import HandS.Steps
import KE.DataCmp
import KE.DataMinMax
import PyProof.ReprRoads
import PyProof.ReprBulk
import PyProof.FitsInt
import HandS.ExcField
import HandS.ExcIs
import HandS.Conv
import HandS.OwnEq
import OpenK.KOps
import HandS.Text
import HandS.List
import PyProof.StrLawsIn
import PyProof.ListRange
import HandS.FStr
import HandS.SetTxt0
import HandS.TupSets
import KE.KCallOwn
import HandS.Flow
import HandS.RaiseMore
import HandS.Codes
import HandS.ExcInit
import KE.KDictPairs
import KE.KDictCopyH
import HandS.DictTup
import HandS.Iter
import HandS.DictEq
import HandS.EndTab
import HandS.DictComp
import HandS.TupLen
import HandS.Finally
import PyProof.ReprNest
import HandS.More
import KE.GoesEnumKw
import HandS.SortRule
import KE.KDictDisplayH
import HandS.SortInts
import KE.KDictWalk
import HandS.Deep
import KE.KExcInit
import HandS.SortKw
import HandS.Replace
import PyProof.SumWalkG
import PySem.Challenge.RW_everyhead_k07_heads_numbered
set_option Elab.async false
set_option linter.all false
set_option maxRecDepth 100000
namespace DL
open PySem L2

inductive D where
  | non | bl (b : Bool) | int (i : Int) | str (x : List Nat)
  | lst (o : Bool) (xs : List D)
  | tup (xs : List D)
  | dK (o : Bool) (ks : List Key) (xs : List D)
  | dT (o : Bool) (ks : List (List Key)) (xs : List D)
  | obj (o : Bool) (c : Str) (fs : List Str) (xs : List D)
  | scr (ns : List Int)
  | exc (c : Str) (fs : List Str) (xs : List D)
  /-- a dict by nested tuples -/
  | dN (o : Bool) (ks : List PySem.NestedKey) (xs : List D)
  /-- a thing of which nothing is known -/
  | any

mutual
def frz : D → D
  | .non => .non
  | .bl b => .bl b
  | .int i => .int i
  | .str x => .str x
  | .lst _ xs => .lst false (frzs xs)
  | .tup xs => .tup (frzs xs)
  | .dK _ ks xs => .dK false ks (frzs xs)
  | .dT _ ks xs => .dT false ks (frzs xs)
  | .obj _ c fs xs => .obj false c fs (frzs xs)
  | .scr ns => .scr ns
  | .exc c fs xs => .exc c fs (frzs xs)
  | .dN _ ks xs => .dN false ks (frzs xs)
  | .any => .any
def frzs : List D → List D
  | [] => []
  | x :: xs => frz x :: frzs xs
end
mutual
/-- something within is shared, and can be changed -/
def shr : D → Bool
  | .non => false
  | .bl _ => false
  | .int _ => false
  | .str _ => false
  | .lst o xs => !o || shrs xs
  | .tup xs => shrs xs
  | .dK o _ xs => !o || shrs xs
  | .dT o _ xs => !o || shrs xs
  | .obj o _ _ xs => !o || shrs xs
  | .scr _ => false
  | .exc _ _ xs => shrs xs
  | .dN o _ xs => !o || shrs xs
  | .any => false
def shrs : List D → Bool
  | [] => false
  | x :: xs => shr x || shrs xs
end
theorem frzs_map : ∀ xs : List D, frzs xs = xs.map frz
  | [] => rfl
  | x :: xs => by rw [frzs, frzs_map xs]; rfl
theorem shrs_any : ∀ xs : List D, shrs xs = xs.any shr
  | [] => rfl
  | x :: xs => by rw [shrs, shrs_any xs]; rfl

abbrev Env := List (Option D)
structure Xc where
  cls : Str
  fs : List Str
  ds : List D
inductive Out (α : Type) where
  | ok (a : α) | exn (x : Xc) (r : Env) | bad
def Out.bind {α β : Type} (o : Out α) (f : α → Out β) : Out β := match o with
  | .ok a => f a
  | .exn x r => .exn x r
  | .bad => .bad
def Post {α : Type} (o : Out α) (q : α → Prop) (e : Xc → Env → Prop) : Prop := match o with
  | .ok a => q a
  | .exn x r => e x r
  | .bad => False
theorem Post.bind {α β : Type} {o : Out α} {f : α → Out β} {q : β → Prop} {e : Xc → Env → Prop} (h : Post (o.bind f) q e) : Post o (fun a => Post (f a) q e) e := by
  cases o <;> exact h
theorem Post.mono {α : Type} {o : Out α} {q q' : α → Prop} {e e' : Xc → Env → Prop} (h : Post o q e) (hq : ∀ a, q a → q' a) (he : ∀ x r, e x r → e' x r) : Post o q' e' := by
  cases o with
  | ok a => exact hq a h
  | exn x r => exact he x r h
  | bad => exact h

def isTb : HO → Bool
  | .tbl _ => true
  | _ => false
theorem isTb_no {o : HO} (h : ∀ ps, o ≠ .tbl ps) : isTb o = false := by
  cases o <;> first | rfl | exact absurd rfl (h _)
class Tbs where
  T : List (Addr × Str)
  /-- how the world hashes nested keys -/
  hN : PySem.NestedKey → Int := fun _ => 0
instance (priority := low) ttNil : Tbs := { T := [] }
variable [Tbs]
structure Ex (H H' : Hp) : Prop where
  get : ∀ a o, H a = some o → (h : isTb o = false := by rfl) → H' a = some o
  bk : ∀ a, H' a = none → H a = none
  tb : LamX.Tabs Tbs.T H → LamX.Tabs Tbs.T H'
instance {H H' : Hp} : CoeFun (Ex H H') (fun _ => ∀ a o, H a = some o → (h : isTb o = false := by rfl) → H' a = some o) := ⟨fun e => @Ex.get _ _ _ e⟩
theorem Ex.refl (H : Hp) : Ex H H := ⟨fun _ _ h _ => h, fun _ h => h, fun h => h⟩
theorem Ex.trans {H H1 H2 : Hp} (a : Ex H H1) (b : Ex H1 H2) : Ex H H2 := ⟨fun x o h n => b.get x o (a.get x o h n) n, fun x h => a.bk x (b.bk x h), fun h => b.tb (a.tb h)⟩
theorem Ex.all {H H' : Hp} (h : ∀ a o, H a = some o → H' a = some o) : Ex H H' := ⟨fun a o q _ => h a o q, fun a q => (by
  cases h1 : H a with
  | none => rfl
  | some o => rw [h a o h1] at q; cases q), fun t => LamX.Tabs.ext t h⟩
theorem Ex.new {H : Hp} {p : Addr} {o : HO} (h : H p = none) : Ex H (upd H p o) := Ex.all fun a u e => by
  rw [upd_ne (ne_of_none e h)]
  exact e
theorem Ex.back {H H' : Hp} {p : Addr} (e : Ex H H') (h : H' p = none) : H p = none := e.bk p h

structure Cm where
  K : PySem.W.Frag
  cl : Str → Addr
  ok : Str → Prop

def ExK (cls : Value) (dx : Option Addr) (p : Addr) : HO := .ext fun h => ∃ oe vs, h.get? p = some oe ∧ Zc cls dx oe ∧ oe.data = .fields vs
mutual
inductive NK (W : Addr → Prop) (H : Hp) : PySem.NestedKey → V → Prop
  | num (i : Int) : NK W H (.num i) (.int i)
  | text (x : Str) : NK W H (.text x) (.str x)
  | none : NK W H .none .non
  | tup {p : Addr} {vs : List V} {ks : List PySem.NestedKey} : H p = some (.tup vs) → ¬ W p → NKs W H ks vs → NK W H (.tup ks) (.ref p)
inductive NKs (W : Addr → Prop) (H : Hp) : List PySem.NestedKey → List V → Prop
  | nil : NKs W H [] []
  | cons {k : PySem.NestedKey} {v : V} {ks : List PySem.NestedKey} {vs : List V} : NK W H k v → NKs W H ks vs → NKs W H (k :: ks) (v :: vs)
end
abbrev NEnt := PySem.NestedKey × Addr × Value
def NdO (xs : List NEnt) (o : Obj) : Prop := (o.ExactDict ∧ ∀ x ∈ xs, x.1.depth ≤ 8) ∧ (xs.map (·.1)).Nodup ∧ ∃ es ep, o.data = .dict es ep ∧ es.toList = xs.map fun x => (⟨Tbs.hN x.1, .ref x.2.1, x.2.2⟩ : DictEntry)
def NdP (p : Addr) (o : Obj) : Heap → Prop := fun h => h.get? p = some o
abbrev ndH (p : Addr) (o : Obj) : HO := .ext (NdP p o)
def IsDc (o : Obj) : Prop := ∃ es ep, o.data = .dict es ep
theorem NdO.dc {xs : List NEnt} {o : Obj} (h : NdO xs o) : IsDc o := let ⟨_, _, es, ep, e, _⟩ := h; ⟨es, ep, e⟩
theorem flds_nd {φ : Heap → Prop} {p q : Addr} {o : Obj} (hf : ∀ h : Heap, φ h → ∃ oe vs, h.get? p = some oe ∧ oe.data = .fields vs) (hd : IsDc o) : φ ≠ NdP q o := fun e => by
  obtain ⟨es, ep, hd⟩ := hd
  let h : Heap := ⟨(List.replicate (Nat.succ (Nat.add p q)) o).toArray, {}⟩
  have g : ∀ a : Nat, a < Nat.succ (Nat.add p q) → h.get? a = some o := fun a ha => by
    unfold Heap.get?
    have e1 : h.objs[a]? = some o := by
      show (List.replicate (Nat.succ (Nat.add p q)) o).toArray[a]? = some o
      rw [List.getElem?_toArray, List.getElem?_replicate, if_pos ha]
    rw [e1]
    obtain ⟨c, d, dt, sl⟩ := o
    cases hd
    rfl
  have h1 : NdP q o h := g q (Nat.lt_succ_of_le (Nat.le_add_left q p))
  rw [← e] at h1
  obtain ⟨oe, vs, a1, a3⟩ := hf h h1
  rw [g p (Nat.lt_succ_of_le (Nat.le_add_right p q))] at a1
  cases a1
  rw [hd] at a3
  cases a3
mutual
inductive Rep (cm : Cm) (W : Addr → Prop) (H : Hp) : V → D → List Addr → Prop
  | non : Rep cm W H .non .non []
  | bl (b : Bool) : Rep cm W H (.bl b) (.bl b) []
  | int (i : Int) : Rep cm W H (.int i) (.int i) []
  | str (x : List Nat) : Rep cm W H (.str ⟨x.toArray⟩) (.str x) []
  | lstO {p : Addr} {vs : List V} {ds : List D} {fp : List Addr} : H p = some (.lst vs) → Reps cm W H vs ds fp → Rep cm W H (.ref p) (.lst true ds) (p :: fp)
  | lstF {p : Addr} {vs : List V} {ds : List D} : H p = some (.lst vs) → ¬ W p → Reps cm W H vs ds [] → Rep cm W H (.ref p) (.lst false ds) []
  | tup {p : Addr} {vs : List V} {ds : List D} {fp : List Addr} : H p = some (.tup vs) → ¬ W p → Reps cm W H vs ds fp → Rep cm W H (.ref p) (.tup ds) fp
  | dKO {p : Addr} {ks : List Key} {vs : List V} {ds : List D} {fp : List Addr} : H p = some (.dK (ks.zip vs)) → ks.length = vs.length → Reps cm W H vs ds fp → Rep cm W H (.ref p) (.dK true ks ds) (p :: fp)
  | dKF {p : Addr} {ks : List Key} {vs : List V} {ds : List D} : Rd H p (.dK (ks.zip vs)) → ks.length = vs.length → ¬ W p → Reps cm W H vs ds [] → Rep cm W H (.ref p) (.dK false ks ds) []
  | dTO {p : Addr} {ks : List (List Key)} {vs : List V} {ds : List D} {fp : List Addr} : H p = some (.dT (ks.zip vs)) → ks.length = vs.length → Reps cm W H vs ds fp → Rep cm W H (.ref p) (.dT true ks ds) (p :: fp)
  | dTF {p : Addr} {ks : List (List Key)} {vs : List V} {ds : List D} : Rd H p (.dT (ks.zip vs)) → ks.length = vs.length → ¬ W p → Reps cm W H vs ds [] → Rep cm W H (.ref p) (.dT false ks ds) []
  | objO {p dx : Addr} {c : Str} {fs : List Str} {vs : List V} {ds : List D} {fp : List Addr} : H p = some (.ins (cm.cl c) dx (fs.zip vs)) → (fs.length = vs.length ∧ cm.ok c) → Reps cm W H vs ds fp → Rep cm W H (.ref p) (.obj true c fs ds) (p :: fp)
  | objF {p dx : Addr} {c : Str} {fs : List Str} {vs : List V} {ds : List D} : H p = some (.ins (cm.cl c) dx (fs.zip vs)) → (fs.length = vs.length ∧ cm.ok c) → ¬ W p → Reps cm W H vs ds [] → Rep cm W H (.ref p) (.obj false c fs ds) []
  | scrF {p : Addr} {o : Obj} {ns : List Int} : H p = some (.frz o (.lst (ns.map V.int))) → ¬ W p → Rep cm W H (.ref p) (.scr ns) []
  | scrK {p : Addr} {ns : List Int} : (∀ H', SqL cm.K H' p (ns.map V.int)) → Rep cm W H (.ref p) (.scr ns) []
  | exc {p : Addr} {dx : Option Addr} {c : Str} {fs : List Str} {vs : List V} {ds : List D} : H p = some (ExK (.ref (cm.cl c)) dx p) → ¬ W p → ((fs = [] ∧ dx = none) ∨ ∃ a, dx = some a ∧ H a = some (.xd (fs.zip vs)) ∧ ¬ W a) → fs.length = vs.length → Reps cm W H vs ds [] → Rep cm W H (.ref p) (.exc c fs ds) []
  | dNO {p : Addr} {o : Obj} {xs : List NEnt} {ks : List PySem.NestedKey} {vs : List V} {ds : List D} {fp : List Addr} : H p = some (ndH p o) → (ks = xs.map (·.1) ∧ NdO xs o ∧ (p == sysModules) = false ∧ Vals vs (xs.map (·.2.2))) → (∀ x ∈ xs, NK W H x.1 (.ref x.2.1)) → Reps cm W H vs ds fp → Rep cm W H (.ref p) (.dN true ks ds) (p :: fp)
  | dNF {p : Addr} {o : Obj} {xs : List NEnt} {ks : List PySem.NestedKey} {vs : List V} {ds : List D} : H p = some (ndH p o) → (ks = xs.map (·.1) ∧ NdO xs o ∧ (p == sysModules) = false ∧ Vals vs (xs.map (·.2.2))) → ¬ W p → (∀ x ∈ xs, NK W H x.1 (.ref x.2.1)) → Reps cm W H vs ds [] → Rep cm W H (.ref p) (.dN false ks ds) []
  | any {v : V} : Rep cm W H v .any []
inductive Reps (cm : Cm) (W : Addr → Prop) (H : Hp) : List V → List D → List Addr → Prop
  | nil : Reps cm W H [] [] []
  | cons {v : V} {d : D} {fp : List Addr} {vs : List V} {ds : List D} {fps : List Addr} : Rep cm W H v d fp → Reps cm W H vs ds fps → Reps cm W H (v :: vs) (d :: ds) (fp ++ fps)
end

section
variable {cm : Cm} {W W' : Addr → Prop} {H H' : Hp}
theorem Rd.ex {a : Addr} {u : HO} (h : Rd H a u) (e : ∀ o, H a = some o → isTb o = false → H' a = some o) (hu : isTb u = false := by rfl) : Rd H' a u := by
  rcases h with h | ⟨o, h⟩
  · exact .inl (e _ h hu)
  · exact .inr ⟨o, e _ h rfl⟩
theorem Rd.there {a : Addr} {u : HO} (h : Rd H a u) : H a ≠ none := by
  rcases h with h | ⟨o, h⟩ <;> rw [h] <;> exact fun q => nomatch q
mutual
theorem NK.move (hW : ∀ a, W' a → W a ∨ H a = none) (e : ∀ a o, H a = some o → isTb o = false → ¬ W a → H' a = some o) : ∀ {k : PySem.NestedKey} {v : V}, NK W H k v → NK W' H' k v
  | _, _, .num i => .num i
  | _, _, .text x => .text x
  | _, _, .none => .none
  | _, _, .tup h n r => .tup (e _ _ h rfl n) (fun w => (hW _ w).elim n (fun q => by rw [h] at q; cases q)) (NKs.move hW e r)
theorem NKs.move (hW : ∀ a, W' a → W a ∨ H a = none) (e : ∀ a o, H a = some o → isTb o = false → ¬ W a → H' a = some o) : ∀ {ks : List PySem.NestedKey} {vs : List V}, NKs W H ks vs → NKs W' H' ks vs
  | _, _, .nil => .nil
  | _, _, .cons h r => .cons (NK.move hW e h) (NKs.move hW e r)
end
mutual
theorem NK.cg (e : ∀ a o, H a = some (.tup o) → H' a = some (.tup o)) : ∀ {k : PySem.NestedKey} {v : V}, NK W H k v → NK W H' k v
  | _, _, .num i => .num i
  | _, _, .text x => .text x
  | _, _, .none => .none
  | _, _, .tup h n r => .tup (e _ _ h) n (NKs.cg e r)
theorem NKs.cg (e : ∀ a o, H a = some (.tup o) → H' a = some (.tup o)) : ∀ {ks : List PySem.NestedKey} {vs : List V}, NKs W H ks vs → NKs W H' ks vs
  | _, _, .nil => .nil
  | _, _, .cons h r => .cons (NK.cg e h) (NKs.cg e r)
end
mutual
theorem NK.wk (hW : ∀ a o, H a = some (.tup o) → ¬ W a → ¬ W' a) : ∀ {k : PySem.NestedKey} {v : V}, NK W H k v → NK W' H k v
  | _, _, .num i => .num i
  | _, _, .text x => .text x
  | _, _, .none => .none
  | _, _, .tup h n r => .tup h (hW _ _ h n) (NKs.wk hW r)
theorem NKs.wk (hW : ∀ a o, H a = some (.tup o) → ¬ W a → ¬ W' a) : ∀ {ks : List PySem.NestedKey} {vs : List V}, NKs W H ks vs → NKs W' H ks vs
  | _, _, .nil => .nil
  | _, _, .cons h r => .cons (NK.wk hW h) (NKs.wk hW r)
end
mutual
theorem Rep.move (hW : ∀ a, W' a → W a ∨ H a = none) : ∀ {v : V} {d : D} {fp : List Addr}, Rep cm W H v d fp → (∀ a o, H a = some o → isTb o = false → (¬ W a ∨ a ∈ fp) → H' a = some o) → Rep cm W' H' v d fp
  | _, _, _, .non, _ => .non
  | _, _, _, .bl b, _ => .bl b
  | _, _, _, .int i, _ => .int i
  | _, _, _, .str x, _ => .str x
  | _, _, _, .lstO h r, e => .lstO (e _ _ h rfl (.inr (List.mem_cons_self ..))) (Reps.move hW r fun a o q t w => e a o q t (w.imp id (List.mem_cons_of_mem _)))
  | _, _, _, .lstF h n r, e => .lstF (e _ _ h rfl (.inl n)) (fun w => (hW _ w).elim n (fun q => by rw [h] at q; cases q)) (Reps.move hW r e)
  | _, _, _, .scrF h n, e => .scrF (e _ _ h rfl (.inl n)) (fun w => (hW _ w).elim n (fun q => by rw [h] at q; cases q))
  | _, _, _, .scrK h, e => .scrK h
  | _, _, _, .exc h n q l r, e => .exc (e _ _ h rfl (.inl n)) (fun w => (hW _ w).elim n (fun q => by rw [h] at q; cases q)) (q.imp id fun ⟨a, h1, h2, h3⟩ => ⟨a, h1, e _ _ h2 rfl (.inl h3), fun w => (hW _ w).elim h3 (fun q => by rw [h2] at q; cases q)⟩) l (Reps.move hW r e)
  | _, _, _, .tup h n r, e => .tup (e _ _ h rfl (.inl n)) (fun w => (hW _ w).elim n (fun q => by rw [h] at q; cases q)) (Reps.move hW r e)
  | _, _, _, .dKO h l r, e => .dKO (e _ _ h rfl (.inr (List.mem_cons_self ..))) l (Reps.move hW r fun a o q t w => e a o q t (w.imp id (List.mem_cons_of_mem _)))
  | _, _, _, .dKF h l n r, e => .dKF (Rd.ex h fun o q t => e _ o q t (.inl n)) l (fun w => (hW _ w).elim n (Rd.there h)) (Reps.move hW r e)
  | _, _, _, .dTO h l r, e => .dTO (e _ _ h rfl (.inr (List.mem_cons_self ..))) l (Reps.move hW r fun a o q t w => e a o q t (w.imp id (List.mem_cons_of_mem _)))
  | _, _, _, .dTF h l n r, e => .dTF (Rd.ex h fun o q t => e _ o q t (.inl n)) l (fun w => (hW _ w).elim n (Rd.there h)) (Reps.move hW r e)
  | _, _, _, .objO h l r, e => .objO (e _ _ h rfl (.inr (List.mem_cons_self ..))) l (Reps.move hW r fun a o q t w => e a o q t (w.imp id (List.mem_cons_of_mem _)))
  | _, _, _, .objF h l n r, e => .objF (e _ _ h rfl (.inl n)) l (fun w => (hW _ w).elim n (fun q => by rw [h] at q; cases q)) (Reps.move hW r e)
  | _, _, _, .dNO h l k r, e => .dNO (e _ _ h rfl (.inr (List.mem_cons_self ..))) l (fun x m => NK.move hW (fun a o q t n => e a o q t (.inl n)) (k x m)) (Reps.move hW r fun a o q t w => e a o q t (w.imp id (List.mem_cons_of_mem _)))
  | _, _, _, .dNF h l n k r, e => .dNF (e _ _ h rfl (.inl n)) l (fun w => (hW _ w).elim n (fun q => by rw [h] at q; cases q)) (fun x m => NK.move hW (fun a o q t n => e a o q t (.inl n)) (k x m)) (Reps.move hW r e)
  | _, _, _, .any, _ => .any
theorem Reps.move (hW : ∀ a, W' a → W a ∨ H a = none) : ∀ {vs : List V} {ds : List D} {fp : List Addr}, Reps cm W H vs ds fp → (∀ a o, H a = some o → isTb o = false → (¬ W a ∨ a ∈ fp) → H' a = some o) → Reps cm W' H' vs ds fp
  | _, _, _, .nil, _ => .nil
  | _, _, _, .cons h r, e => .cons (Rep.move hW h fun a o q t w => e a o q t (w.imp id (List.mem_append_left _))) (Reps.move hW r fun a o q t w => e a o q t (w.imp id (List.mem_append_right _)))
end
noncomputable def isM : HO → Bool
  | .lst _ => true
  | .dK _ => true
  | .dT _ => true
  | .ins _ _ _ => true
  | .ext φ => @decide (∃ p o, IsDc o ∧ φ = NdP p o) (Classical.propDecidable _)
  | _ => false
theorem isM_nd {p : Addr} {o : Obj} (h : IsDc o) : isM (ndH p o) = true := @decide_eq_true _ (Classical.propDecidable _) ⟨p, o, h, rfl⟩
theorem isM_flds {φ : Heap → Prop} {p : Addr} (hf : ∀ h : Heap, φ h → ∃ oe vs, h.get? p = some oe ∧ oe.data = .fields vs) : isM (.ext φ) = false := @decide_eq_false _ (Classical.propDecidable _) fun ⟨_, _, hd, e⟩ => flds_nd hf hd e
theorem isM_code {c : Addr} {q : Str} : isM (LamX.CodeO c q) = false := isM_flds (p := c) fun _ ⟨oc, vs, _, a, b, _⟩ => ⟨oc, vs, a, b⟩
theorem isM_exk {cls : Value} {dx : Option Addr} {p : Addr} : isM (ExK cls dx p) = false := isM_flds (p := p) fun _ ⟨oe, vs, a, _, b⟩ => ⟨oe, vs, a, b⟩
def MutAt (H : Hp) (a : Addr) : Prop := ∃ o, H a = some o ∧ isM o = true
theorem MutAt.there {H : Hp} {a : Addr} (h : MutAt H a) : H a ≠ none := by
  obtain ⟨o, h, _⟩ := h
  rw [h]; exact fun q => nomatch q
theorem MutAt.noTb {H : Hp} {a : Addr} (h : MutAt H a) {o : HO} (e : H a = some o) : isM o = true := by
  obtain ⟨u, q, m⟩ := h
  rw [e] at q
  cases q
  exact m
theorem isM_tb {o : HO} (h : isM o = true) : isTb o = false := by cases o <;> first | rfl | cases h
theorem Tabs.updM {T : List (Addr × Str)} {H : Hp} {p : Addr} {o : HO} (t : LamX.Tabs T H) (hm : MutAt H p) : LamX.Tabs T (upd H p o) := fun q hq => by
  obtain ⟨ps, h1, h2, h3⟩ := t q hq
  refine ⟨ps, ?_, h2, fun pos cv hc => ?_⟩
  · rw [upd_ne]
    · exact h1
    · rintro rfl
      cases hm.noTb h1
  · obtain ⟨c, e1, e2⟩ := h3 pos cv hc
    refine ⟨c, e1, ?_⟩
    rw [upd_ne]
    · exact e2
    · rintro rfl
      have z := hm.noTb e2
      rw [isM_code] at z
      cases z
theorem Ex.updM {H H1 : Hp} {p : Addr} {o : HO} (e : Ex H H1) (h : H p = none) (hm : MutAt H1 p) : Ex H (upd H1 p o) := ⟨fun a u z t => by
  rw [upd_ne (ne_of_none z h)]
  exact e.get a u z t, fun a z => by
  by_cases q : a = p
  · rw [q]; exact h
  · rw [upd_ne q] at z; exact e.bk a z, fun t => Tabs.updM (e.tb t) hm⟩
mutual
theorem Rep.own : ∀ {v : V} {d : D} {fp : List Addr}, Rep cm W H v d fp → ∀ a ∈ fp, MutAt H a
  | _, _, _, .non, _, h => nomatch h
  | _, _, _, .bl _, _, h => nomatch h
  | _, _, _, .int _, _, h => nomatch h
  | _, _, _, .str _, _, h => nomatch h
  | _, _, _, .lstO h r, a, m => by
    rcases List.mem_cons.mp m with rfl | m
    · exact ⟨_, h, rfl⟩
    · exact Reps.own r a m
  | _, _, _, .lstF _ _ _, _, h => nomatch h
  | _, _, _, .tup _ _ r, a, m => Reps.own r a m
  | _, _, _, .dKO h _ r, a, m => by
    rcases List.mem_cons.mp m with rfl | m
    · exact ⟨_, h, rfl⟩
    · exact Reps.own r a m
  | _, _, _, .dKF _ _ _ _, _, h => nomatch h
  | _, _, _, .dTO h _ r, a, m => by
    rcases List.mem_cons.mp m with rfl | m
    · exact ⟨_, h, rfl⟩
    · exact Reps.own r a m
  | _, _, _, .dTF _ _ _ _, _, h => nomatch h
  | _, _, _, .objO h _ r, a, m => by
    rcases List.mem_cons.mp m with rfl | m
    · exact ⟨_, h, rfl⟩
    · exact Reps.own r a m
  | _, _, _, .objF _ _ _ _, _, h => nomatch h
  | _, _, _, .scrF _ _, _, h => nomatch h
  | _, _, _, .scrK _, _, h => nomatch h
  | _, _, _, .exc _ _ _ _ _, _, h => nomatch h
  | _, _, _, .dNO h l _ r, a, m => by
    rcases List.mem_cons.mp m with rfl | m
    · exact ⟨_, h, isM_nd l.2.1.dc⟩
    · exact Reps.own r a m
  | _, _, _, .dNF _ _ _ _ _, _, h => nomatch h
  | _, _, _, .any, _, h => nomatch h
theorem Reps.own : ∀ {vs : List V} {ds : List D} {fp : List Addr}, Reps cm W H vs ds fp → ∀ a ∈ fp, MutAt H a
  | _, _, _, .nil, _, h => nomatch h
  | _, _, _, .cons h r, a, m => by
    rcases List.mem_append.mp m with m | m
    · exact Rep.own h a m
    · exact Reps.own r a m
end
mutual
theorem Rep.frz (hW : ∀ a, W' a → W a) : ∀ {v : V} {d : D} {fp : List Addr}, Rep cm W H v d fp → (∀ a ∈ fp, ¬ W' a) → Rep cm W' H v (frz d) []
  | _, _, _, .non, _ => .non
  | _, _, _, .bl b, _ => .bl b
  | _, _, _, .int i, _ => .int i
  | _, _, _, .str x, _ => .str x
  | _, _, _, .lstO h r, e => .lstF h (e _ (List.mem_cons_self ..)) (Reps.frz hW r fun a m => e a (List.mem_cons_of_mem _ m))
  | _, _, _, .lstF h n r, e => .lstF h (fun w => n (hW _ w)) (Reps.frz hW r e)
  | _, _, _, .tup h n r, e => .tup h (fun w => n (hW _ w)) (Reps.frz hW r e)
  | _, _, _, .dKO h l r, e => .dKF (.inl h) l (e _ (List.mem_cons_self ..)) (Reps.frz hW r fun a m => e a (List.mem_cons_of_mem _ m))
  | _, _, _, .dKF h l n r, e => .dKF h l (fun w => n (hW _ w)) (Reps.frz hW r e)
  | _, _, _, .dTO h l r, e => .dTF (.inl h) l (e _ (List.mem_cons_self ..)) (Reps.frz hW r fun a m => e a (List.mem_cons_of_mem _ m))
  | _, _, _, .dTF h l n r, e => .dTF h l (fun w => n (hW _ w)) (Reps.frz hW r e)
  | _, _, _, .objO h l r, e => .objF h l (e _ (List.mem_cons_self ..)) (Reps.frz hW r fun a m => e a (List.mem_cons_of_mem _ m))
  | _, _, _, .objF h l n r, e => .objF h l (fun w => n (hW _ w)) (Reps.frz hW r e)
  | _, _, _, .scrF h n, e => .scrF h (fun w => n (hW _ w))
  | _, _, _, .scrK h, e => .scrK h
  | _, _, _, .exc h n q l r, e => .exc h (fun w => n (hW _ w)) (q.imp id fun ⟨a, h1, h2, h3⟩ => ⟨a, h1, h2, fun w => h3 (hW _ w)⟩) l (Reps.frz hW r e)
  | _, _, _, .dNO h l k r, e => .dNF h l (e _ (List.mem_cons_self ..)) (fun x m => NK.wk (fun a o _ n w => n (hW _ w)) (k x m)) (Reps.frz hW r fun a m => e a (List.mem_cons_of_mem _ m))
  | _, _, _, .dNF h l n k r, e => .dNF h l (fun w => n (hW _ w)) (fun x m => NK.wk (fun a o _ n w => n (hW _ w)) (k x m)) (Reps.frz hW r e)
  | _, _, _, .any, _ => .any
theorem Reps.frz (hW : ∀ a, W' a → W a) : ∀ {vs : List V} {ds : List D} {fp : List Addr}, Reps cm W H vs ds fp → (∀ a ∈ fp, ¬ W' a) → Reps cm W' H vs (frzs ds) []
  | _, _, _, .nil, _ => .nil
  | _, _, _, .cons h r, e => .cons (fp := []) (Rep.frz hW h fun a m => e a (List.mem_append_left _ m)) (Reps.frz hW r fun a m => e a (List.mem_append_right _ m))
end
def NoW (H : Hp) (W : Addr → Prop) : Prop := ∀ a o, H a = some o → isM o = false → ¬ W a
mutual
theorem Rep.anyW (hW : NoW H W') : ∀ {v : V} {d : D} {fp : List Addr}, Rep cm W H v d fp → shr d = false → Rep cm W' H v d fp
  | _, _, _, .non, _ => .non
  | _, _, _, .bl b, _ => .bl b
  | _, _, _, .int i, _ => .int i
  | _, _, _, .str x, _ => .str x
  | _, _, _, .lstO h r, e => .lstO h (Reps.anyW hW r (by simpa [shr] using e))
  | _, _, _, .lstF h n r, e => by simp [shr] at e
  | _, _, _, .tup h n r, e => .tup h (hW _ _ h rfl) (Reps.anyW hW r (by simpa [shr] using e))
  | _, _, _, .dKO h l r, e => .dKO h l (Reps.anyW hW r (by simpa [shr] using e))
  | _, _, _, .dKF h l n r, e => by simp [shr] at e
  | _, _, _, .dTO h l r, e => .dTO h l (Reps.anyW hW r (by simpa [shr] using e))
  | _, _, _, .dTF h l n r, e => by simp [shr] at e
  | _, _, _, .objO h l r, e => .objO h l (Reps.anyW hW r (by simpa [shr] using e))
  | _, _, _, .objF h l n r, e => by simp [shr] at e
  | _, _, _, .scrF h n, e => .scrF h (hW _ _ h rfl)
  | _, _, _, .scrK h, e => .scrK h
  | _, _, _, .exc h n q l r, e => .exc h (hW _ _ h isM_exk) (q.imp id fun ⟨a, h1, h2, h3⟩ => ⟨a, h1, h2, hW _ _ h2 rfl⟩) l (Reps.anyW hW r (by simpa [shr] using e))
  | _, _, _, .dNO h l k r, e => .dNO h l (fun x m => NK.wk (fun a o q _ => hW _ _ q rfl) (k x m)) (Reps.anyW hW r (by simpa [shr] using e))
  | _, _, _, .dNF h l n k r, e => by simp [shr] at e
  | _, _, _, .any, _ => .any
theorem Reps.anyW (hW : NoW H W') : ∀ {vs : List V} {ds : List D} {fp : List Addr}, Reps cm W H vs ds fp → shrs ds = false → Reps cm W' H vs ds fp
  | _, _, _, .nil, _ => .nil
  | _, _, _, .cons h r, e => by
    simp only [shrs, Bool.or_eq_false_iff] at e
    exact .cons (Rep.anyW hW h e.1) (Reps.anyW hW r e.2)
end
end
end DL

namespace DL
variable [Tbs]
open PySem L2

def WOk (cm : Cm) (W : Addr → Prop) (H : Hp) : Prop := (∀ a, W a → MutAt H a) ∧ LamX.Tabs Tbs.T H
theorem MutAt.ex {H H' : Hp} {a : Addr} (h : MutAt H a) (e : Ex H H') : MutAt H' a := by
  obtain ⟨o, h, m⟩ := h
  exact ⟨o, e.get _ _ h (by cases o <;> first | rfl | cases m), m⟩
theorem WOk.ex {cm : Cm} {W : Addr → Prop} {H H' : Hp} (h : WOk cm W H) (e : Ex H H') : WOk cm W H' := ⟨fun a w => (h.1 a w).ex e, e.tb h.2⟩
theorem Rep.ex {cm : Cm} {W : Addr → Prop} {H H' : Hp} {v : V} {d : D} {fp : List Addr} (h : Rep cm W H v d fp) (e : Ex H H') : Rep cm W H' v d fp := h.move (fun _ w => .inl w) fun a o q t _ => e.get a o q t
theorem Reps.ex {cm : Cm} {W : Addr → Prop} {H H' : Hp} {v : List V} {d : List D} {fp : List Addr} (h : Reps cm W H v d fp) (e : Ex H H') : Reps cm W H' v d fp := h.move (fun _ w => .inl w) fun a o q t _ => e.get a o q t

def FRep (cm : Cm) (W : Addr → Prop) (H : Hp) (σ : St) (r : Env) : Prop := σ.length = r.length ∧ ∀ (i : Nat) d, r[i]? = some (some d) → ∃ v, σ[i]? = some (some v) ∧ Rep cm W H v d []
theorem FRep.ex {cm : Cm} {W : Addr → Prop} {H H' : Hp} {σ : St} {r : Env} (h : FRep cm W H σ r) (e : Ex H H') : FRep cm W H' σ r := ⟨h.1, fun i d q => by
  obtain ⟨v, h1, h2⟩ := h.2 i d q
  exact ⟨v, h1, h2.ex e⟩⟩
def XRep (cm : Cm) (W : Addr → Prop) (H : Hp) (x : Xc) (dx : Option Addr) : Prop :=
  (x.fs = [] ∧ dx = none) ∨ ∃ a vs, dx = some a ∧ H a = some (.xd (x.fs.zip vs)) ∧ x.fs.length = vs.length ∧ Reps cm W H vs x.ds []
theorem XRep.weak {cm : Cm} {W W' : Addr → Prop} {H : Hp} {x : Xc} {dx : Option Addr} (h : XRep cm W H x dx) (hW : ∀ a, W' a → W a) : XRep cm W' H x dx := by
  rcases h with h | ⟨a, vs, h1, h2, h3, h4⟩
  · exact .inl h
  · exact .inr ⟨a, vs, h1, h2, h3, h4.move (fun a z => .inl (hW a z)) fun _ _ q _ _ => q⟩
abbrev XS := St → XK
def XPost (cm : Cm) (E : XK) (W : Addr → Prop) (H : Hp) : Xc → Env → Prop := fun x _ => ∀ H' dx, Ex H H' → XRep cm W H' x dx → E (.ref (cm.cl x.cls)) dx H'
theorem XPost.ex {cm : Cm} {E : XK} {W : Addr → Prop} {H H' : Hp} (e : Ex H H') {x : Xc} {r : Env} (h : XPost cm E W H x r) : XPost cm E W H' x r := fun H2 dx e2 q => h H2 dx (e.trans e2) q
def FpN (b : Bool) (H : Hp) (fp : List Addr) : Prop := match b with
  | false => fp = []
  | true => fp.Nodup ∧ ∀ a ∈ fp, H a = none
theorem FpN.nil {b : Bool} {H : Hp} : FpN b H [] := by
  cases b
  · rfl
  · exact ⟨List.nodup_nil, fun _ h => nomatch h⟩
theorem FpN.ex {b : Bool} {H H' : Hp} {fp : List Addr} (h : FpN b H' fp) (e : Ex H H') : FpN b H fp := by
  cases b
  · exact h
  · exact ⟨h.1, fun a m => e.back (h.2 a m)⟩
theorem FpN.up {b : Bool} {H : Hp} {fp : List Addr} (h : FpN b H fp) : FpN true H fp := by
  cases b
  · cases (show fp = [] from h); exact FpN.nil
  · exact h

abbrev F := Env → Out D
abbrev Wp (W : Addr → Prop) (fp : List Addr) : Addr → Prop := fun a => W a ∨ a ∈ fp
theorem Rep.toP {cm : Cm} {W : Addr → Prop} {H : Hp} {v : V} {d : D} {fp : List Addr} (h : Rep cm W H v d fp) : Rep cm (Wp W []) H v d fp := h.move (fun a z => .inl (z.resolve_right (fun m => nomatch m))) fun _ _ q _ _ => q
theorem Rep.ofP {cm : Cm} {W : Addr → Prop} {H : Hp} {v : V} {d : D} {fp fq : List Addr} (h : Rep cm (Wp W fq) H v d fp) : Rep cm W H v d fp := h.move (fun a z => .inl (.inl z)) fun _ _ q _ _ => q
theorem Reps.toP {cm : Cm} {W : Addr → Prop} {H : Hp} {v : List V} {d : List D} {fp : List Addr} (h : Reps cm W H v d fp) : Reps cm (Wp W []) H v d fp := h.move (fun a z => .inl (z.resolve_right (fun m => nomatch m))) fun _ _ q _ _ => q
theorem Reps.ofP {cm : Cm} {W : Addr → Prop} {H : Hp} {v : List V} {d : List D} {fp fq : List Addr} (h : Reps cm (Wp W fq) H v d fp) : Reps cm W H v d fp := h.move (fun a z => .inl (.inl z)) fun _ _ q _ _ => q
theorem WOk.p {cm : Cm} {W : Addr → Prop} {H : Hp} {fp : List Addr} (w : WOk cm W H) (own : ∀ a ∈ fp, MutAt H a) : WOk cm (Wp W fp) H := ⟨fun a z => z.elim (w.1 a) (own a), w.2⟩
theorem FRep.p {cm : Cm} {W : Addr → Prop} {H H' : Hp} {σ : St} {r : Env} {fp : List Addr} (fr : FRep cm W H σ r) (e : Ex H H') (hf : ∀ a ∈ fp, H a = none) : FRep cm (Wp W fp) H' σ r := ⟨fr.1, fun i d h => by
  obtain ⟨v, h1, h2⟩ := fr.2 i d h
  exact ⟨v, h1, h2.move (fun a z => z.imp id (hf a)) fun a o q t _ => e.get a o q t⟩⟩
abbrev QP (cm : Cm) (W : Addr → Prop) (b : Bool) (H : Hp) (Q : VK) : D → Prop := fun d => ∀ v H' fp, Ex H H' → Rep cm (Wp W fp) H' v d fp → FpN b H fp → Q v H'
def ECon (cm : Cm) (E : XS) (b : Bool) (te : TE) (f : F) : Prop := ∀ W H σ r, WOk cm W H → FRep cm W H σ r → ∀ Q : VK, Post (f r) (QP cm W b H Q) (XPost cm (E σ) W H) → te σ H Q
structure DE (X : Cx) (cm : Cm) (E : XS) (b : Bool) (e : Expr) (f : F) : Prop where
  ex : ∃ te, PE X e te ∧ ECon cm E b te f
abbrev QT (H : Hp) (Q : Bool → Hp → Prop) : Bool → Prop := fun b => ∀ H', Ex H H' → Q b H'
def TCon (cm : Cm) (E : XS) (tt : TT) (f : Env → Out Bool) : Prop := ∀ W H σ r, WOk cm W H → FRep cm W H σ r → ∀ Q, Post (f r) (QT H Q) (XPost cm (E σ) W H) → tt σ H Q
structure DT (X : Cx) (cm : Cm) (E : XS) (e : Expr) (f : Env → Out Bool) : Prop where
  ex : ∃ te, PT X e te ∧ TCon cm E te f
structure DW (X : Cx) (cm : Cm) (E : XS) (e : Expr) (f : Env → Out Bool) : Prop where
  ex : ∃ te, PW X e te ∧ TCon cm E te f
theorem DW.dt {X : Cx} {cm : Cm} {E : XS} {e : Expr} {f : Env → Out Bool} (h : DW X cm E e f) : DT X cm E e f := by
  obtain ⟨te, h1, h2⟩ := h.ex
  exact ⟨te, h1.pt, h2⟩
abbrev QA (cm : Cm) (W : Addr → Prop) (b : Bool) (H : Hp) (Q : List V → Hp → Prop) : List D → Prop := fun ds => ∀ vs H' fp, Ex H H' → Reps cm (Wp W fp) H' vs ds fp → FpN b H fp → Q vs H'
def ACon (cm : Cm) (E : XS) (b : Bool) (ta : TA) (f : Env → Out (List D)) : Prop := ∀ W H σ r, WOk cm W H → FRep cm W H σ r → ∀ Q, Post (f r) (QA cm W b H Q) (XPost cm (E σ) W H) → ta σ H Q
structure DA (X : Cx) (cm : Cm) (E : XS) (b : Bool) (es : List Expr) (f : Env → Out (List D)) : Prop where
  ex : ∃ ta, PA X es ta ∧ ACon cm E b ta f

def cV (i : Nat) : F := fun r => match r[i]? with
  | some (some d) => .ok d
  | _ => .bad
def cK (d : D) : F := fun _ => .ok d
def c1 (g : D → Out D) (fa : F) : F := fun r => (fa r).bind g
def c2 (g : D → D → Out D) (fa fb : F) : F := fun r => (fa r).bind fun a => (fb r).bind fun b => g a b
def cFz (fa : F) : F := fun r => (fa r).bind fun a => .ok (frz a)
def aNil : Env → Out (List D) := fun _ => .ok []
def aCons (f : F) (g : Env → Out (List D)) : Env → Out (List D) := fun r => (f r).bind fun d => (g r).bind fun ds => .ok (d :: ds)
def cLst (g : Env → Out (List D)) : F := fun r => (g r).bind fun ds => if ds.length ≤ 1000 then .ok (.lst true ds) else .bad
def cTup (g : Env → Out (List D)) : F := fun r => (g r).bind fun ds => if ds.length ≤ 1000 then .ok (.tup ds) else .bad
def isB : D → Out Bool
  | .bl b => .ok b
  | _ => .bad
def tB (f : F) : Env → Out Bool := fun r => (f r).bind isB
def tAnd (f g : Env → Out Bool) : Env → Out Bool := fun r => (f r).bind fun b => if b = true then g r else .ok false
def tOr (f g : Env → Out Bool) : Env → Out Bool := fun r => (f r).bind fun b => if b = true then .ok true else g r
def tNot (f : Env → Out Bool) : Env → Out Bool := fun r => (f r).bind fun b => .ok (!b)
def cIf (t : Env → Out Bool) (f g : F) : F := fun r => (t r).bind fun b => if b = true then f r else g r
def cAnd (f g : F) : F := fun r => (f r).bind fun a => (isB a).bind fun b => if b = true then g r else .ok (.bl false)
def cOr (f g : F) : F := fun r => (f r).bind fun a => (isB a).bind fun b => if b = true then .ok (.bl true) else g r
def cNot (f : F) : F := fun r => (f r).bind fun a => (isB a).bind fun b => .ok (.bl (!b))

section
variable {X : Cx} {cm : Cm} {E : XS} {b : Bool} {pos : Pos}
theorem DE.up {e : Expr} {f : F} (h : DE X cm E b e f) : DE X cm E true e f := by
  obtain ⟨te, h1, h2⟩ := h.ex
  exact ⟨te, h1, fun W H σ r w fr Q hp => h2 W H σ r w fr Q (hp.mono (fun d q v H' fp ex rp fn => q v H' fp ex rp fn.up) fun _ _ z => z)⟩
theorem WOk.fresh {cm : Cm} {W : Addr → Prop} {H : Hp} (w : WOk cm W H) {a : Addr} (h : H a = none) : ¬ W a := fun q => (w.1 a q).there h
theorem de_fz {e : Expr} {f : F} (h : DE X cm E true e f) : DE X cm E b e (cFz f) := by
  obtain ⟨te, h1, h2⟩ := h.ex
  refine ⟨te, h1, fun W H σ r w fr Q hp => h2 W H σ r w fr Q (hp.bind.mono (fun d q v H' fp ex rp fn => ?_) fun _ _ z => z)⟩
  exact q v H' [] ex (rp.ofP.frz (fun _ z => z) fun a m => w.fresh (fn.2 a m)).toP FpN.nil
theorem de_var {i : Nat} {e : Expr} (h : PE X e (tVar i)) : DE X cm E b e (cV i) := by
  refine ⟨_, h, fun W H σ r w fr Q hp => ?_⟩
  unfold cV at hp
  split at hp
  · rename_i d hd
    obtain ⟨v, h1, h2⟩ := fr.2 i d hd
    exact ⟨v, h1, hp v H [] (Ex.refl H) h2.toP FpN.nil⟩
  · exact hp.elim
theorem de_con {v : V} {d : D} {e : Expr} (h : PE X e (tC v)) (hr : ∀ W H, Rep cm W H v d []) : DE X cm E b e (cK d) := ⟨_, h, fun W H σ r w fr Q hp => hp v H [] (Ex.refl H) (hr _ H) FpN.nil⟩
theorem de_int {i : Int} {j : Nat} : DE X cm E b (.Constant (.int i) j pos) (cK (.int i)) := de_con pe_int fun _ _ => .int i
theorem de_bl {i : Bool} {j : Nat} : DE X cm E b (.Constant (.bool i) j pos) (cK (.bl i)) := de_con pe_bl fun _ _ => .bl i
theorem de_non {j : Nat} : DE X cm E b (.Constant .none j pos) (cK .non) := de_con pe_non fun _ _ => .non
theorem de_str (cs : List Nat) {x : Str} {j : Nat} (h : x = ⟨cs.toArray⟩ := by decide +kernel) : DE X cm E b (.Constant (.str x) j pos) (cK (.str cs)) := by
  subst h
  exact de_con pe_str fun _ _ => .str cs

def noX : Xc → Env → Prop := fun _ _ => False
def Op2' (cm : Cm) (b : Bool) (r : R2) (g : D → D → Out D) : Prop := ∀ W H x y dx dy, WOk cm W H → Rep cm W H x dx [] → Rep cm W H y dy [] → ∀ Q : VK, Post (g dx dy) (QP cm W b H Q) noX → r x y H Q
def NoEx (g : D → D → Out D) : Prop := ∀ a b x r, g a b ≠ .exn x r
theorem Post.noX {α : Type} {o : Out α} {q : α → Prop} {e : Xc → Env → Prop} (h : Post o q e) (n : ∀ x r, o ≠ .exn x r) : Post o q noX := by
  cases o with
  | ok a => exact h
  | exn x r => exact absurd rfl (n x r)
  | bad => exact h
theorem con2 {r : R2} {g : D → D → Out D} {ta tb : TE} {fa fb : F} (ho : Op2' cm b r g) (hn : NoEx g) (ha : ECon cm E false ta fa) (hb : ECon cm E false tb fb) : ECon cm E b (tOp r ta tb) (c2 g fa fb) := fun W H σ env w fr Q hp =>
  ha W H σ env w fr _ (hp.bind.mono (fun a q v H1 fp e1 r1 f1 => hb W H1 σ env (w.ex e1) (fr.ex e1) _ (q.bind.mono (fun c q2 u H2 fp2 e2 r2 f2 => by
    cases (show fp = [] from f1)
    cases (show fp2 = [] from f2)
    exact ho W H2 v u a c ((w.ex e1).ex e2) (r1.ex e2).ofP r2.ofP Q (Post.noX (q2.mono (fun d q3 z H3 fp3 e3 r3 f3 => q3 z H3 fp3 ((e1.trans e2).trans e3) r3 (f3.ex (e1.trans e2))) fun _ _ z => z) (hn a c))) fun x rr z => XPost.ex e1 z)) fun _ _ z => z)
theorem con1 {r : V → Hp → VK → Prop} {g : D → Out D} {ta : TE} {fa : F} (ho : ∀ W H x dx, WOk cm W H → Rep cm W H x dx [] → ∀ Q : VK, Post (g dx) (QP cm W b H Q) noX → r x H Q) (hn : ∀ a x rr, g a ≠ .exn x rr) (ha : ECon cm E false ta fa) : ECon cm E b (tUn r ta) (c1 g fa) := fun W H σ env w fr Q hp =>
  ha W H σ env w fr _ (hp.bind.mono (fun a q v H1 fp e1 r1 f1 => by
    cases (show fp = [] from f1)
    exact ho W H1 v a (w.ex e1) r1.ofP Q (Post.noX (q.mono (fun d q3 z H3 fp3 e3 r3 f3 => q3 z H3 fp3 (e1.trans e3) r3 (f3.ex e1)) fun _ _ z => z) (hn a))) fun _ _ z => z)
theorem de_op {a c : Expr} {op : Operator} {r : R2} {g : D → D → Out D} {fa fb : F} (hr : OpR X (binaryOp op) r) (ho : Op2' cm b r g) (hn : NoEx g) (ha : DE X cm E false a fa) (hb : DE X cm E false c fb) : DE X cm E b (.BinOp a op c pos) (c2 g fa fb) := by
  obtain ⟨ta, h1, h2⟩ := ha.ex
  obtain ⟨tb, h3, h4⟩ := hb.ex
  exact ⟨_, pe_op hr h1 h3, con2 ho hn h2 h4⟩
theorem de_cmp {a c : Expr} {op : CmpOp} {r : R2} {g : D → D → Out D} {fa fb : F} (hr : OpR X (compareOp op) r) (ho : Op2' cm b r g) (hn : NoEx g) (hm : behindInMarks op c = false) (ha : DE X cm E false a fa) (hb : DE X cm E false c fb) : DE X cm E b (.Compare a [op] [c] pos) (c2 g fa fb) := by
  obtain ⟨ta, h1, h2⟩ := ha.ex
  obtain ⟨tb, h3, h4⟩ := hb.ex
  exact ⟨_, pe_cmpR hr h1 h3 hm, con2 ho hn h2 h4⟩
theorem de_ix {a c : Expr} {r : R2} {g : D → D → Out D} {fa fb : F} (hr : IxR X r) (ho : Op2' cm b r g) (hn : NoEx g) (hs : PlainIx c) (ha : DE X cm E false a fa) (hb : DE X cm E false c fb) : DE X cm E b (.Subscript a c pos) (c2 g fa fb) := by
  obtain ⟨ta, h1, h2⟩ := ha.ex
  obtain ⟨tb, h3, h4⟩ := hb.ex
  exact ⟨_, pe_ix hr h1 h3 hs, con2 ho hn h2 h4⟩

theorem dt_B {e : Expr} {f : F} (h : DE X cm E false e f) (he : ∀ whole, isTrue e X.env whole = (do let v ← whole; standAt e.pos; holding [v] (truthy v)) := by intro _; rfl) : DT X cm E e (tB f) := by
  obtain ⟨te, h1, h2⟩ := h.ex
  refine ⟨_, pt_val h1 he, fun W H σ r w fr Q hp => h2 W H σ r w fr _ (hp.bind.mono (fun d q v H1 fp e1 r1 f1 => ?_) fun _ _ z => z)⟩
  cases d <;> first | exact q.elim | skip
  cases r1
  exact ⟨_, rfl, q H1 e1⟩
theorem dt_cmp {a c : Expr} {op : CmpOp} {r : R2} {g : D → D → Out D} {fa fb : F} (hr : OpR X (compareOp op) r) (ho : Op2' cm false r g) (hn : NoEx g) (hm : behindInMarks op c = false) (ha : DE X cm E false a fa) (hb : DE X cm E false c fb) : DT X cm E (.Compare a [op] [c] pos) (tB (c2 g fa fb)) := by
  obtain ⟨ta, h1, h2⟩ := ha.ex
  obtain ⟨tb, h3, h4⟩ := hb.ex
  refine ⟨_, pt_cmpR hr h1 h3 hm, fun W H σ r w fr Q hp => con2 ho hn h2 h4 W H σ r w fr _ (hp.bind.mono (fun d q v H1 fp e1 r1 f1 => ?_) fun _ _ z => z)⟩
  cases d <;> first | exact q.elim | skip
  cases r1
  exact ⟨_, rfl, q H1 e1⟩
theorem dt_not {e : Expr} {f : Env → Out Bool} (h : DT X cm E e f) : DT X cm E (.UnaryOp .Not e pos) (tNot f) := by
  obtain ⟨te, h1, h2⟩ := h.ex
  exact ⟨_, pt_not h1, fun W H σ r w fr Q hp => h2 W H σ r w fr _ (hp.bind.mono (fun d q H1 e1 => q H1 e1) fun _ _ z => z)⟩
theorem dw_or1 {a : Expr} {f : Env → Out Bool} (h : DT X cm E a f) : DW X cm E (.BoolOp .Or [a] pos) f := by
  obtain ⟨te, h1, h2⟩ := h.ex
  exact ⟨_, pw_or1 h1, h2⟩
theorem dw_or {a c : Expr} {rest : List Expr} {f g : Env → Out Bool} (h : DT X cm E a f) (k : DW X cm E (.BoolOp .Or (c :: rest) pos) g) : DW X cm E (.BoolOp .Or (a :: c :: rest) pos) (tOr f g) := by
  obtain ⟨te, h1, h2⟩ := h.ex
  obtain ⟨tf, k1, k2⟩ := k.ex
  refine ⟨_, pw_or h1 k1, fun W H σ r w fr Q hp => h2 W H σ r w fr _ (hp.bind.mono (fun d q H1 e1 => ?_) fun _ _ z => z)⟩
  cases d with
  | true => exact q H1 e1
  | false => exact k2 W H1 σ r (w.ex e1) (fr.ex e1) Q (q.mono (fun b q2 H2 e2 => q2 H2 (e1.trans e2)) fun x rr z => XPost.ex e1 z)
theorem de_one {op : BoolOp} {a : Expr} {f : F} (h : DE X cm E b a f) : DE X cm E b (.BoolOp op [a] pos) f := by
  obtain ⟨te, h1, h2⟩ := h.ex
  exact ⟨_, pe_one h1, h2⟩
theorem de_and {a c : Expr} {rest : List Expr} {f g : F} (h : DE X cm E false a f) (k : DE X cm E b (.BoolOp .And (c :: rest) pos) g) : DE X cm E b (.BoolOp .And (a :: c :: rest) pos) (cAnd f g) := by
  obtain ⟨te, h1, h2⟩ := h.ex
  obtain ⟨tf, k1, k2⟩ := k.ex
  refine ⟨_, pe_and h1 k1, fun W H σ r w fr Q hp => h2 W H σ r w fr _ (hp.bind.mono (fun d q v H1 fp e1 r1 f1 => ?_) fun _ _ z => z)⟩
  cases d <;> first | exact q.elim | skip
  cases r1
  rename_i t
  refine ⟨t, rfl, ?_⟩
  cases t with
  | true => exact k2 W H1 σ r (w.ex e1) (fr.ex e1) Q (Post.mono q (fun d q2 v H2 fp e2 r2 f2 => q2 v H2 fp (e1.trans e2) r2 (f2.ex e1)) fun x rr z => XPost.ex e1 z)
  | false => exact q (.bl false) H1 [] e1 (.bl false) FpN.nil
theorem de_or {a c : Expr} {rest : List Expr} {f g : F} (h : DE X cm E false a f) (k : DE X cm E b (.BoolOp .Or (c :: rest) pos) g) : DE X cm E b (.BoolOp .Or (a :: c :: rest) pos) (cOr f g) := by
  obtain ⟨te, h1, h2⟩ := h.ex
  obtain ⟨tf, k1, k2⟩ := k.ex
  refine ⟨_, pe_or h1 k1, fun W H σ r w fr Q hp => h2 W H σ r w fr _ (hp.bind.mono (fun d q v H1 fp e1 r1 f1 => ?_) fun _ _ z => z)⟩
  cases d <;> first | exact q.elim | skip
  cases r1
  rename_i t
  refine ⟨t, rfl, ?_⟩
  cases t with
  | false => exact k2 W H1 σ r (w.ex e1) (fr.ex e1) Q (Post.mono q (fun d q2 v H2 fp e2 r2 f2 => q2 v H2 fp (e1.trans e2) r2 (f2.ex e1)) fun x rr z => XPost.ex e1 z)
  | true => exact q (.bl true) H1 [] e1 (.bl true) FpN.nil
theorem de_not {a : Expr} {f : F} (h : DE X cm E false a f) : DE X cm E b (.UnaryOp .Not a pos) (cNot f) := by
  obtain ⟨te, h1, h2⟩ := h.ex
  refine ⟨_, pe_not h1, fun W H σ r w fr Q hp => h2 W H σ r w fr _ (hp.bind.mono (fun d q v H1 fp e1 r1 f1 => ?_) fun _ _ z => z)⟩
  cases d <;> first | exact q.elim | skip
  cases r1
  exact ⟨_, rfl, q _ H1 [] e1 (.bl _) FpN.nil⟩
theorem de_if {t a c : Expr} {ft : Env → Out Bool} {f g : F} (ht : DT X cm E t ft) (h : DE X cm E b a f) (k : DE X cm E b c g) : DE X cm E b (.IfExp t a c pos) (cIf ft f g) := by
  obtain ⟨tt, t1, t2⟩ := ht.ex
  obtain ⟨te, h1, h2⟩ := h.ex
  obtain ⟨tf, k1, k2⟩ := k.ex
  refine ⟨_, pe_ifExp t1 h1 k1, fun W H σ r w fr Q hp => t2 W H σ r w fr _ (hp.bind.mono (fun d q H1 e1 => ?_) fun _ _ z => z)⟩
  cases d with
  | true => exact h2 W H1 σ r (w.ex e1) (fr.ex e1) Q (Post.mono q (fun d q2 v H2 fp e2 r2 f2 => q2 v H2 fp (e1.trans e2) r2 (f2.ex e1)) fun x rr z => XPost.ex e1 z)
  | false => exact k2 W H1 σ r (w.ex e1) (fr.ex e1) Q (Post.mono q (fun d q2 v H2 fp e2 r2 f2 => q2 v H2 fp (e1.trans e2) r2 (f2.ex e1)) fun x rr z => XPost.ex e1 z)
theorem da_nil : DA X cm E b [] aNil := ⟨_, pa_nil, fun W H σ r w fr Q hp => hp [] H [] (Ex.refl H) .nil FpN.nil⟩
theorem fpN_app {b : Bool} {H H1 : Hp} {fp fps : List Addr} (h1 : FpN b H fp) (own : ∀ a ∈ fp, H1 a ≠ none) (e : Ex H H1) (h2 : FpN b H1 fps) : FpN b H (fp ++ fps) := by
  cases b with
  | false => cases (show fp = [] from h1); exact h2
  | true =>
    refine ⟨List.nodup_append.mpr ⟨h1.1, h2.1, fun a m c n z => ?_⟩, fun a m => ?_⟩
    · subst z
      exact own a m (h2.2 a n)
    · rcases List.mem_append.mp m with m | m
      · exact h1.2 a m
      · exact e.back (h2.2 a m)
theorem da_cons {e : Expr} {es : List Expr} {f : F} {g : Env → Out (List D)} (h : DE X cm E b e f) (k : DA X cm E b es g) (hs : starEach (e :: es) X.env = (false, eval e X.env) :: starEach es X.env := by rfl) : DA X cm E b (e :: es) (aCons f g) := by
  obtain ⟨te, h1, h2⟩ := h.ex
  obtain ⟨tf, k1, k2⟩ := k.ex
  refine ⟨_, pa_cons h1 k1 hs, fun W H σ r w fr Q hp => h2 W H σ r w fr _ (hp.bind.mono (fun d q v H1 fp e1 r1 f1 => ?_) fun _ _ z => z)⟩
  have own1 := fun a (m : a ∈ fp) => r1.own a m
  have hf : ∀ a ∈ fp, H a = none := f1.up.2
  refine k2 (Wp W fp) H1 σ r ((w.ex e1).p (cm := cm) own1) (fr.p e1 hf) _ (q.bind.mono (fun ds q2 vs H2 fps e2 r2 f2 => q2 (v :: vs) H2 (fp ++ fps) (e1.trans e2) (.cons (r1.move (fun a z => ?_) fun a o z t _ => e2.get a o z t) (r2.move (fun a z => .inl ?_) fun _ _ z _ _ => z)) (fpN_app f1 (fun a m => (own1 a m).there) e1 f2)) fun x rr z => ?_)
  · rcases z with z | z
    · exact .inl (.inl z)
    · rcases List.mem_append.mp z with z | z
      · exact .inl (.inr z)
      · exact .inr (f2.up.2 a z)
  · rcases z with z | z
    · exact .inl (.inl z)
    · rcases List.mem_append.mp z with z | z
      · exact .inl (.inr z)
      · exact .inr z
  · exact fun H2 dx e2 xr => z H2 dx (e1.trans e2) (xr.weak fun a z => .inl z)
theorem small1000' {n : Nat} (h : n ≤ 1000) : n ≤ sizeLine := Nat.le_trans h (by decide)
theorem Reps.len {cm : Cm} {W : Addr → Prop} {H : Hp} : ∀ {vs : List V} {ds : List D} {fp : List Addr}, Reps cm W H vs ds fp → vs.length = ds.length
  | _, _, _, .nil => rfl
  | _, _, _, .cons _ r => by rw [List.length_cons, List.length_cons, r.len]
theorem fpN_cons {H H' : Hp} {p : Addr} {fp : List Addr} (e : Ex H H') (hp : H' p = none) (own : ∀ a ∈ fp, H' a ≠ none) (h : FpN true H fp) : FpN true H (p :: fp) :=
  ⟨List.nodup_cons.mpr ⟨fun m => own p m hp, h.1⟩, fun a m => by
    rcases List.mem_cons.mp m with rfl | m
    · exact e.back hp
    · exact h.2 a m⟩
theorem wp_cons {W : Addr → Prop} {H : Hp} {p : Addr} {fp : List Addr} (hp : H p = none) {a : Addr} (z : Wp W (p :: fp) a) : Wp W fp a ∨ H a = none := by
  rcases z with z | z
  · exact .inl (.inl z)
  · rcases List.mem_cons.mp z with rfl | z
    · exact .inr hp
    · exact .inl (.inr z)
theorem de_lst {es : List Expr} {g : Env → Out (List D)} (h : DA X cm E true es g) : DE X cm E true (.List es pos) (cLst g) := by
  obtain ⟨te, h1, h2⟩ := h.ex
  refine ⟨_, pe_lst h1, fun W H σ r w fr Q hp => h2 W H σ r w fr _ (hp.bind.mono (fun ds q vs H1 fp e1 r1 f1 => ?_) fun _ _ z => z)⟩
  split at q
  · rename_i hl
    refine ⟨by rw [r1.len]; exact small1000' hl, fun p hp => q (.ref p) _ (p :: fp) (e1.trans (Ex.new hp)) (.lstO upd_same (r1.move (fun a z => wp_cons hp z) fun a o z t _ => (Ex.new hp).get a o z t)) (fpN_cons e1 hp (fun a m => (r1.own a m).there) f1)⟩
  · exact q.elim
theorem de_tup {es : List Expr} {g : Env → Out (List D)} {x1} (h : DA X cm E b es g) : DE X cm E b (.Tuple es x1 pos) (cTup g) := by
  obtain ⟨te, h1, h2⟩ := h.ex
  refine ⟨_, pe_tup h1, fun W H σ r w fr Q hp => h2 W H σ r w fr _ (hp.bind.mono (fun ds q vs H1 fp e1 r1 f1 => ?_) fun _ _ z => z)⟩
  split at q
  · rename_i hl
    refine ⟨by rw [r1.len]; exact small1000' hl, fun p hp => q (.ref p) _ fp (e1.trans (Ex.new hp)) (.tup upd_same (fun z => z.elim ((w.ex e1).fresh hp) fun m => (r1.own p m).there hp) (r1.ex (Ex.new hp))) f1⟩
  · exact q.elim
end
end DL

namespace DL
variable [Tbs]
open PySem L2

mutual
def plainD : D → Bool
  | .non => true
  | .bl _ => true
  | .int _ => true
  | .str _ => true
  | .lst _ xs => plainDs xs
  | .tup xs => plainDs xs
  | .dK _ _ _ => false
  | .dT _ _ _ => false
  | .dN _ _ _ => false
  | .obj _ _ _ _ => false
  | .scr _ => false
  | .exc _ _ _ => false
  | .any => false
def plainDs : List D → Bool
  | [] => true
  | x :: xs => plainD x && plainDs xs
end
mutual
def toPy : D → PyData
  | .non => .none
  | .bl b => .bool b
  | .int i => .int i
  | .str x => .str ⟨x.toArray⟩
  | .lst _ xs => .list (toPys xs)
  | .tup xs => .tuple (toPys xs)
  | .dK _ _ _ => .none
  | .dT _ _ _ => .none
  | .dN _ _ _ => .none
  | .obj _ _ _ _ => .none
  | .scr _ => .none
  | .exc _ _ _ => .none
  | .any => .none
def toPys : List D → List PyData
  | [] => []
  | x :: xs => toPy x :: toPys xs
end
mutual
/-- lists and tuples are at most n deep -/
def dle : Nat → D → Bool
  | _, .non => true
  | _, .bl _ => true
  | _, .int _ => true
  | _, .str _ => true
  | 0, .lst _ _ => false
  | n + 1, .lst _ xs => dles n xs
  | 0, .tup _ => false
  | n + 1, .tup xs => dles n xs
  | _, .dK _ _ _ => true
  | _, .dT _ _ _ => true
  | _, .dN _ _ _ => true
  | _, .obj _ _ _ _ => true
  | _, .scr _ => true
  | _, .exc _ _ _ => true
  | _, .any => true
def dles : Nat → List D → Bool
  | _, [] => true
  | n, x :: xs => dle n x && dles n xs
end
mutual
def eqD : D → D → Bool
  | .non, .non => true
  | .bl a, .bl b => a == b
  | .bl a, .int j => (if a then 1 else 0) == j
  | .int i, .bl b => i == (if b then 1 else 0)
  | .int i, .int j => i == j
  | .str x, .str y => x == y
  | .lst _ xs, .lst _ ys => eqDs xs ys
  | .tup xs, .tup ys => eqDs xs ys
  | _, _ => false
def eqDs : List D → List D → Bool
  | [], [] => true
  | x :: xs, y :: ys => eqD x y && eqDs xs ys
  | [], _ :: _ => false
  | _ :: _, [] => false
end
theorem strEq (x y : List Nat) : ((⟨x.toArray⟩ : Str) == ⟨y.toArray⟩) = (x == y) := by
  by_cases h : x = y
  · subst h; simp
  · have : (⟨x.toArray⟩ : Str) ≠ ⟨y.toArray⟩ := fun q => h (by simpa using q)
    rw [beq_eq_false_iff_ne.mpr this, beq_eq_false_iff_ne.mpr h]
mutual
theorem eqD_py : ∀ a b : D, plainD a = true → plainD b = true → PyData.eqv (toPy a) (toPy b) = eqD a b
  | .lst _ xs, b, ha, hb => by
    cases b <;> first | rfl | (exact eqDs_py xs _ ha hb) | (cases hb)
  | .tup xs, b, ha, hb => by
    cases b <;> first | rfl | (exact eqDs_py xs _ ha hb) | (cases hb)
  | .non, b, _, hb => by cases b <;> first | rfl | cases hb
  | .bl _, b, _, hb => by cases b <;> first | rfl | cases hb
  | .int _, b, _, hb => by cases b <;> first | rfl | cases hb
  | .str x, b, _, hb => by
    cases b <;> first | rfl | exact strEq _ _ | (cases hb; done)
  | .dK _ _ _, _, h, _ => nomatch h
  | .dT _ _ _, _, h, _ => nomatch h
  | .dN _ _ _, _, h, _ => nomatch h
  | .obj _ _ _ _, _, h, _ => nomatch h
  | .scr _, _, h, _ => nomatch h
theorem eqDs_py : ∀ a b : List D, plainDs a = true → plainDs b = true → PyData.eqvAll (toPys a) (toPys b) = eqDs a b
  | [], b, _, _ => by cases b <;> rfl
  | x :: xs, b, ha, hb => by
    cases b with
    | nil => rfl
    | cons y ys =>
      simp only [plainDs, Bool.and_eq_true] at ha hb
      show (PyData.eqv (toPy x) (toPy y) && PyData.eqvAll (toPys xs) (toPys ys)) = (eqD x y && eqDs xs ys)
      rw [eqD_py x y ha.1 hb.1, eqDs_py xs ys ha.2 hb.2]
end
mutual
theorem plain_py : ∀ a : D, plainD a = true → (toPy a).plain = true
  | .lst _ xs, h => by exact plains_py xs h
  | .tup xs, h => by exact plains_py xs h
  | .non, _ => rfl
  | .bl _, _ => rfl
  | .int _, _ => rfl
  | .str x, _ => rfl
  | .dK _ _ _, h => nomatch h
  | .dT _ _ _, h => nomatch h
  | .dN _ _ _, h => nomatch h
  | .obj _ _ _ _, h => nomatch h
  | .scr _, h => nomatch h
theorem plains_py : ∀ a : List D, plainDs a = true → PyData.plainAll (toPys a) = true
  | [], _ => rfl
  | x :: xs, h => by
    simp only [plainDs, Bool.and_eq_true] at h
    simp only [toPys, PyData.plainAll, plain_py x h.1, plains_py xs h.2, Bool.and_self]
end
mutual
theorem dle_py : ∀ (n : Nat) (a : D), plainD a = true → dle n a = true → (toPy a).depth ≤ n
  | n, .lst _ xs, hp, h => by
    cases n with
    | zero => cases h
    | succ n => have := dles_py n xs hp h; simp only [toPy, PyData.depth]; omega
  | n, .tup xs, hp, h => by
    cases n with
    | zero => cases h
    | succ n => have := dles_py n xs hp h; simp only [toPy, PyData.depth]; omega
  | n, .non, _, _ => by simp [toPy, PyData.depth]
  | n, .bl _, _, _ => by simp [toPy, PyData.depth]
  | n, .int _, _, _ => by simp [toPy, PyData.depth]
  | n, .str x, _, _ => by simp [toPy, PyData.depth]
  | _, .dK _ _ _, h, _ => nomatch h
  | _, .dT _ _ _, h, _ => nomatch h
  | _, .dN _ _ _, h, _ => nomatch h
  | _, .obj _ _ _ _, h, _ => nomatch h
  | _, .scr _, h, _ => nomatch h
theorem dles_py : ∀ (n : Nat) (a : List D), plainDs a = true → dles n a = true → PyData.depthAll (toPys a) ≤ n
  | n, [], _, _ => by simp [toPys, PyData.depthAll]
  | n, x :: xs, hp, h => by
    simp only [plainDs, dles, Bool.and_eq_true] at h hp
    have h1 := dle_py n x hp.1 h.1
    have h2 := dles_py n xs hp.2 h.2
    simp only [toPys, PyData.depthAll]
    omega
end
mutual
theorem Rep.dp {cm : Cm} {W : Addr → Prop} {H : Hp} {K : PySem.W.Frag} : ∀ {v : V} {d : D} {fp : List Addr}, Rep cm W H v d fp → plainD d = true → Dp K H v (toPy d)
  | _, _, _, .non, _ => .non
  | _, _, _, .bl b, _ => .bl b
  | _, _, _, .int i, _ => .int i
  | _, _, _, .str x, _ => .str _
  | _, _, _, .lstO h r, e => .lst (SqL.of h) (Reps.dp r e)
  | _, _, _, .lstF h n r, e => .lst (SqL.of h) (Reps.dp r e)
  | _, _, _, .tup h n r, e => .tup (SqT.of h) (Reps.dp r e)
  | _, _, _, .dKO h l r, e => nomatch e
  | _, _, _, .dKF h l n r, e => nomatch e
  | _, _, _, .dTO h l r, e => nomatch e
  | _, _, _, .dTF h l n r, e => nomatch e
  | _, _, _, .dNO _ _ _ _, e => nomatch e
  | _, _, _, .dNF _ _ _ _ _, e => nomatch e
  | _, _, _, .objO h l r, e => nomatch e
  | _, _, _, .objF h l n r, e => nomatch e
  | _, _, _, .scrF h n, e => nomatch e
  | _, _, _, .scrK h, e => nomatch e
theorem Reps.dp {cm : Cm} {W : Addr → Prop} {H : Hp} {K : PySem.W.Frag} : ∀ {v : List V} {d : List D} {fp : List Addr}, Reps cm W H v d fp → plainDs d = true → DpAll K H v (toPys d)
  | _, _, _, .nil, _ => .nil
  | _, _, _, .cons h r, e => by
    simp only [plainDs, Bool.and_eq_true] at e
    exact .cons (Rep.dp h e.1) (Reps.dp r e.2)
end

section
variable {X : Cx} {cm : Cm} {E : XS} {b : Bool} {pos : Pos}
def rEqP (K : PySem.W.Frag) (neg : Bool) : R2 := fun x y H Q => ∃ d e, Dp K H x d ∧ Dp K H y e ∧ d.plain = true ∧ e.plain = true ∧ d.depth ≤ 60 ∧ Q (.bl (PyData.eqv d e != neg)) H
theorem op_eqP (hu : X.A.units + 64 < cLine) : OpR X (compareOp .Eq) (rEqP X.K false) := by
  intro pins s σ H x y v u Q I rx ry h
  obtain ⟨d, e, hd, he, sd, se, hl, q⟩ := h
  obtain ⟨as, r1⟩ := Dp.reads I d x v hd rx
  obtain ⟨bs, r2⟩ := Dp.reads I e y u he ry
  have : min d.depth e.depth ≤ d.depth := Nat.min_le_left _ _
  exact SeqAt.eq_plain r1 r2 sd se (by omega) ⟨.bl _, H, I, rfl, by simpa using q⟩
theorem op_neP (hu : X.A.units + 64 < cLine) : OpR X (compareOp .NotEq) (rEqP X.K true) := by
  intro pins s σ H x y v u Q I rx ry h
  obtain ⟨d, e, hd, he, sd, se, hl, q⟩ := h
  obtain ⟨as, r1⟩ := Dp.reads I d x v hd rx
  obtain ⟨bs, r2⟩ := Dp.reads I e y u he ry
  have : min d.depth e.depth ≤ d.depth := Nat.min_le_left _ _
  exact SeqAt.ne_plain r1 r2 sd se (by omega) ⟨.bl _, H, I, rfl, by simpa using q⟩
def eqOk (x y : D) : Bool := plainD x && plainD y && dle 60 x
def gEq : D → D → Out D := fun x y => if eqOk x y = true then .ok (.bl (eqD x y)) else .bad
def gNe : D → D → Out D := fun x y => if eqOk x y = true then .ok (.bl (!eqD x y)) else .bad
theorem noEx_ite {c : D → D → Bool} {g : D → D → D} : NoEx (fun a b => if c a b = true then .ok (g a b) else .bad) := fun a b x r h => by
  dsimp only at h
  split at h <;> cases h
theorem o_eq : Op2' cm b (rEqP X.K false) gEq := fun W H x y dx dy w rx ry Q hp => by
  unfold gEq at hp
  split at hp
  · rename_i h
    simp only [eqOk, Bool.and_eq_true] at h
    refine ⟨toPy dx, toPy dy, rx.dp h.1.1, ry.dp h.1.2, plain_py _ h.1.1, plain_py _ h.1.2, dle_py _ _ h.1.1 h.2, ?_⟩
    rw [eqD_py _ _ h.1.1 h.1.2]
    simp only [Bool.bne_false]
    exact hp _ H [] (Ex.refl H) (.bl _) FpN.nil
  · exact hp.elim
theorem o_ne : Op2' cm b (rEqP X.K true) gNe := fun W H x y dx dy w rx ry Q hp => by
  unfold gNe at hp
  split at hp
  · rename_i h
    simp only [eqOk, Bool.and_eq_true] at h
    refine ⟨toPy dx, toPy dy, rx.dp h.1.1, ry.dp h.1.2, plain_py _ h.1.1, plain_py _ h.1.2, dle_py _ _ h.1.1 h.2, ?_⟩
    rw [eqD_py _ _ h.1.1 h.1.2]
    simp only [Bool.bne_true]
    exact hp _ H [] (Ex.refl H) (.bl _) FpN.nil
  · exact hp.elim
theorem de_eq {a c : Expr} {fa fb : F} (hu : X.A.units + 64 < cLine) (ha : DE X cm E false a fa) (hb : DE X cm E false c fb) : DE X cm E b (.Compare a [.Eq] [c] pos) (c2 gEq fa fb) := de_cmp (op_eqP hu) o_eq noEx_ite (nomark _) ha hb
theorem dt_eq {a c : Expr} {fa fb : F} (hu : X.A.units + 64 < cLine) (ha : DE X cm E false a fa) (hb : DE X cm E false c fb) : DT X cm E (.Compare a [.Eq] [c] pos) (tB (c2 gEq fa fb)) := dt_cmp (op_eqP hu) o_eq noEx_ite (nomark _) ha hb
theorem dt_ne {a c : Expr} {fa fb : F} (hu : X.A.units + 64 < cLine) (ha : DE X cm E false a fa) (hb : DE X cm E false c fb) : DT X cm E (.Compare a [.NotEq] [c] pos) (tB (c2 gNe fa fb)) := dt_cmp (op_neP hu) o_ne noEx_ite (nomark _) ha hb

def inD (x : D) (xs : List D) : Bool := xs.any fun y => eqD y x
def rInP (K : PySem.W.Frag) (neg : Bool) : R2 := fun x y H Q =>
  (∃ d ds, Dp K H x d ∧ (Dp K H y (.list ds) ∨ Dp K H y (.tuple ds)) ∧ d.plain = true ∧ PyData.plainAll ds = true ∧ d.depth ≤ 60 ∧ Q (.bl ((ds.any fun z => PyData.eqv z d) != neg)) H)
theorem op_inP (hu : X.A.units + 64 < cLine) : OpR X (compareOp .In) (rInP X.K false) := by
  intro pins s σ H x y v u Q I rx ry h
  obtain ⟨d, ds, hd, he, sd, se, hl, q⟩ := h
  obtain ⟨as, r1⟩ := Dp.reads I d x v hd rx
  have : min (PyData.depthAll ds) d.depth ≤ d.depth := Nat.min_le_right _ _
  rcases he with he | he
  · obtain ⟨bs, r2⟩ := Dp.reads I _ y u he ry
    exact SeqAt.in_list_data r2 r1 se sd (by omega) ⟨.bl _, H, I, rfl, by simpa using q⟩
  · obtain ⟨bs, r2⟩ := Dp.reads I _ y u he ry
    exact SeqAt.in_tuple_data r2 r1 se sd (by omega) ⟨.bl _, H, I, rfl, by simpa using q⟩
theorem op_niP (hu : X.A.units + 64 < cLine) : OpR X (compareOp .NotIn) (rInP X.K true) := by
  intro pins s σ H x y v u Q I rx ry h
  obtain ⟨d, ds, hd, he, sd, se, hl, q⟩ := h
  obtain ⟨as, r1⟩ := Dp.reads I d x v hd rx
  have : min (PyData.depthAll ds) d.depth ≤ d.depth := Nat.min_le_right _ _
  rcases he with he | he
  · obtain ⟨bs, r2⟩ := Dp.reads I _ y u he ry
    exact SeqAt.notIn_list_data r2 r1 se sd (by omega) ⟨.bl _, H, I, rfl, by simpa using q⟩
  · obtain ⟨bs, r2⟩ := Dp.reads I _ y u he ry
    exact SeqAt.notIn_tuple_data r2 r1 se sd (by omega) ⟨.bl _, H, I, rfl, by simpa using q⟩
theorem any_py (x : D) (hx : plainD x = true) : ∀ xs : List D, plainDs xs = true → ((toPys xs).any fun z => PyData.eqv z (toPy x)) = inD x xs
  | [], _ => rfl
  | y :: ys, h => by
    simp only [plainDs, Bool.and_eq_true] at h
    simp only [toPys, List.any_cons, inD, eqD_py y x h.1 hx]
    have := any_py x hx ys h.2
    simp only [inD] at this
    rw [this]
def gIn (neg : Bool) : D → D → Out D := fun x y => match y with
  | .lst _ xs => if (plainD x && plainDs xs && dle 60 x) = true then .ok (.bl (inD x xs != neg)) else .bad
  | .tup xs => if (plainD x && plainDs xs && dle 60 x) = true then .ok (.bl (inD x xs != neg)) else .bad
  | .str cs => match x with
    | .str [c] => .ok (.bl (cs.contains c != neg))
    | _ => .bad
  | _ => .bad
theorem noEx_in {neg : Bool} : NoEx (gIn neg) := fun a b x r h => by
  unfold gIn at h
  split at h
  · split at h <;> cases h
  · split at h <;> cases h
  · split at h <;> cases h
  · cases h
def rInS (K : PySem.W.Frag) (neg : Bool) : R2 := fun x y H Q => rInP K neg x y H Q ∨ ∃ (c : Nat) (z : Str), x = .str ⟨#[c]⟩ ∧ y = .str z ∧ Q (.bl (decide (c ∈ z.cps.toList) != neg)) H
theorem op_inS (hu : X.A.units + 64 < cLine) : OpR X (compareOp .In) (rInS X.K false) := (op_inP hu).or (by
  intro pins s σ H x y v u Q I rx ry h
  obtain ⟨c, z, e1, e2, q⟩ := h
  exact op_in_sign pins s σ H x y v u Q I rx ry ⟨c, z, e1, e2, by simpa using q⟩)
theorem op_niS (hu : X.A.units + 64 < cLine) : OpR X (compareOp .NotIn) (rInS X.K true) := (op_niP hu).or (by
  intro pins s σ H x y v u Q I rx ry h
  obtain ⟨c, z, e1, e2, q⟩ := h
  exact op_notIn_sign pins s σ H x y v u Q I rx ry ⟨c, z, e1, e2, by simpa using q⟩)
theorem o_in {neg : Bool} : Op2' cm b (rInS X.K neg) (gIn neg) := fun W H x y dx dy w rx ry Q hp => by
  unfold gIn at hp
  split at hp
  · split at hp
    · rename_i h
      simp only [Bool.and_eq_true] at h
      refine .inl ⟨toPy dx, toPys _, rx.dp h.1.1, .inl (ry.dp h.1.2), plain_py _ h.1.1, plains_py _ h.1.2, dle_py _ _ h.1.1 h.2, ?_⟩
      rw [any_py _ h.1.1 _ h.1.2]
      exact hp _ H [] (Ex.refl H) (.bl _) FpN.nil
    · exact hp.elim
  · split at hp
    · rename_i h
      simp only [Bool.and_eq_true] at h
      refine .inl ⟨toPy dx, toPys _, rx.dp h.1.1, .inr (ry.dp h.1.2), plain_py _ h.1.1, plains_py _ h.1.2, dle_py _ _ h.1.1 h.2, ?_⟩
      rw [any_py _ h.1.1 _ h.1.2]
      exact hp _ H [] (Ex.refl H) (.bl _) FpN.nil
    · exact hp.elim
  · split at hp
    · cases rx
      cases ry
      refine .inr ⟨_, _, rfl, rfl, ?_⟩
      rw [show ∀ (c : Nat) (cs : List Nat), decide (c ∈ cs.toArray.toList) = cs.contains c from fun c cs => by simp]
      exact hp _ H [] (Ex.refl H) (.bl _) FpN.nil
    · exact hp.elim
  · exact hp.elim
theorem de_in {a c : Expr} {fa fb : F} (hu : X.A.units + 64 < cLine) (ha : DE X cm E false a fa) (hb : DE X cm E false c fb) (hm : behindInMarks .In c = false := by rfl) : DE X cm E b (.Compare a [.In] [c] pos) (c2 (gIn false) fa fb) := de_cmp (op_inS hu) o_in noEx_in hm ha hb
theorem dt_in {a c : Expr} {fa fb : F} (hu : X.A.units + 64 < cLine) (ha : DE X cm E false a fa) (hb : DE X cm E false c fb) (hm : behindInMarks .In c = false := by rfl) : DT X cm E (.Compare a [.In] [c] pos) (tB (c2 (gIn false) fa fb)) := dt_cmp (op_inS hu) o_in noEx_in hm ha hb
theorem dt_ni {a c : Expr} {fa fb : F} (hu : X.A.units + 64 < cLine) (ha : DE X cm E false a fa) (hb : DE X cm E false c fb) (hm : behindInMarks .NotIn c = false := by rfl) : DT X cm E (.Compare a [.NotIn] [c] pos) (tB (c2 (gIn true) fa fb)) := dt_cmp (op_niS hu) o_in noEx_in hm ha hb
end
end DL

namespace DL
variable [Tbs]
open PySem L2
section
variable {X : Cx} {cm : Cm} {E : XS} {b : Bool} {pos : Pos}

instance instCMul (i j : Int) : Decidable (CMul i j) := by unfold CMul; infer_instance
instance instCDiv (i j : Int) : Decidable (CDiv i j) := by unfold CDiv; infer_instance
instance instCPow (i j : Int) : Decidable (CPow i j) := by unfold CPow; infer_instance
def gI (C : Int → Int → Prop) [∀ i j, Decidable (C i j)] (g : Int → Int → D) : D → D → Out D := fun x y => match x, y with
  | .int i, .int j => if C i j then .ok (g i j) else .bad
  | _, _ => .bad
def gI0 (g : Int → Int → D) : D → D → Out D := fun x y => match x, y with
  | .int i, .int j => .ok (g i j)
  | _, _ => .bad
theorem noEx_I {C : Int → Int → Prop} [∀ i j, Decidable (C i j)] {g : Int → Int → D} : NoEx (gI C g) := fun a b x r h => by
  unfold gI at h
  split at h
  · split at h <;> cases h
  · cases h
theorem noEx_I0 {g : Int → Int → D} : NoEx (gI0 g) := fun a b x r h => by
  unfold gI0 at h
  split at h <;> cases h
theorem o_I {C : Int → Int → Prop} [∀ i j, Decidable (C i j)] {g : Int → Int → Int} : Op2' cm b (rI C fun i j => .int (g i j)) (gI C fun i j => .int (g i j)) := fun W H x y dx dy w rx ry Q hp => by
  unfold gI at hp
  split at hp
  · split at hp
    · cases rx; cases ry
      exact ⟨_, _, rfl, rfl, by assumption, hp _ H [] (Ex.refl H) (.int _) FpN.nil⟩
    · exact hp.elim
  · exact hp.elim
theorem o_I0 {g : Int → Int → Int} : Op2' cm b (rI0 fun i j => .int (g i j)) (gI0 fun i j => .int (g i j)) := fun W H x y dx dy w rx ry Q hp => by
  unfold gI0 at hp
  split at hp
  · cases rx; cases ry
    exact ⟨_, _, rfl, rfl, hp _ H [] (Ex.refl H) (.int _) FpN.nil⟩
  · exact hp.elim
theorem o_B0 {g : Int → Int → Bool} : Op2' cm b (rI0 fun i j => .bl (g i j)) (gI0 fun i j => .bl (g i j)) := fun W H x y dx dy w rx ry Q hp => by
  unfold gI0 at hp
  split at hp
  · cases rx; cases ry
    exact ⟨_, _, rfl, rfl, hp _ H [] (Ex.refl H) (.bl _) FpN.nil⟩
  · exact hp.elim
abbrev gAddI := gI0 fun i j => .int (i + j)
abbrev gSubI := gI0 fun i j => .int (i - j)
abbrev gMulI := gI CMul fun i j => .int (i * j)
abbrev gModI := gI (fun _ j => 0 < j) fun i j => .int (i % j)
abbrev gFdvI := gI CDiv fun i j => .int (i / j)
abbrev gPowI := gI CPow fun i j => .int (i ^ j.toNat)
abbrev gShlI := gI CPow fun i j => .int (i * 2 ^ j.toNat)
abbrev gLt := gI0 fun i j => .bl (decide (i < j))
abbrev gLe := gI0 fun i j => .bl (decide (i ≤ j))
abbrev gGt := gI0 fun i j => .bl (decide (j < i))
variable {a c : Expr} {fa fb : F}
theorem de_addI (ha : DE X cm E false a fa) (hb : DE X cm E false c fb) : DE X cm E b (.BinOp a .Add c pos) (c2 gAddI fa fb) := de_op op_add o_I0 noEx_I0 ha hb
theorem de_subI (ha : DE X cm E false a fa) (hb : DE X cm E false c fb) : DE X cm E b (.BinOp a .Sub c pos) (c2 gSubI fa fb) := de_op op_sub o_I0 noEx_I0 ha hb
theorem de_mulI (ha : DE X cm E false a fa) (hb : DE X cm E false c fb) : DE X cm E b (.BinOp a .Mult c pos) (c2 gMulI fa fb) := de_op op_mul o_I noEx_I ha hb
theorem de_modI (ha : DE X cm E false a fa) (hb : DE X cm E false c fb) : DE X cm E b (.BinOp a .Mod c pos) (c2 gModI fa fb) := de_op op_mod o_I noEx_I ha hb
theorem de_fdvI (ha : DE X cm E false a fa) (hb : DE X cm E false c fb) : DE X cm E b (.BinOp a .FloorDiv c pos) (c2 gFdvI fa fb) := de_op op_fdiv o_I noEx_I ha hb
theorem de_powI (ha : DE X cm E false a fa) (hb : DE X cm E false c fb) : DE X cm E b (.BinOp a .Pow c pos) (c2 gPowI fa fb) := de_op op_pow o_I noEx_I ha hb
theorem de_shlI (ha : DE X cm E false a fa) (hb : DE X cm E false c fb) : DE X cm E b (.BinOp a .LShift c pos) (c2 gShlI fa fb) := de_op op_shl o_I noEx_I ha hb
theorem dt_lt (ha : DE X cm E false a fa) (hb : DE X cm E false c fb) : DT X cm E (.Compare a [.Lt] [c] pos) (tB (c2 gLt fa fb)) := dt_cmp op_lt o_B0 noEx_I0 (nomark _) ha hb
theorem dt_gt (ha : DE X cm E false a fa) (hb : DE X cm E false c fb) : DT X cm E (.Compare a [.Gt] [c] pos) (tB (c2 gGt fa fb)) := dt_cmp op_gt o_B0 noEx_I0 (nomark _) ha hb
def gNeg : D → Out D
  | .int i => .ok (.int (-i))
  | _ => .bad
theorem de_neg (ha : DE X cm E false a fa) : DE X cm E b (.UnaryOp .USub a pos) (c1 gNeg fa) := by
  obtain ⟨ta, h1, h2⟩ := ha.ex
  refine ⟨_, pe_un un_neg h1, con1 (fun W H x dx w rx Q hp => ?_) (fun a x rr h => by unfold gNeg at h; split at h <;> cases h) h2⟩
  unfold gNeg at hp
  split at hp
  · cases rx
    exact ⟨_, rfl, hp _ H [] (Ex.refl H) (.int _) FpN.nil⟩
  · exact hp.elim
def c3 (g g' : D → D → Out D) (fa fb fc : F) : F := fun r => (fa r).bind fun a => (fb r).bind fun b => (g a b).bind fun z => (isB z).bind fun k => if k = true then (fc r).bind fun c => g' b c else .ok (.bl false)
theorem con3 {ta tb tc : TE} {fc : F} {r r' : R2} {g g' : D → D → Out D} (ho : Op2' cm false r g) (ho' : Op2' cm b r' g') (hn : NoEx g) (hn' : NoEx g') (h2 : ECon cm E false ta fa) (h4 : ECon cm E false tb fb) (h6 : ECon cm E false tc fc) : ECon cm E b (tChain r r' ta tb tc) (c3 g g' fa fb fc) := by
  refine fun W H σ env w fr Q hp => h2 W H σ env w fr _ (hp.bind.mono (fun a q v H1 fp e1 r1 f1 => h4 W H1 σ env (w.ex e1) (fr.ex e1) _ (q.bind.mono (fun c q2 u H2 fp2 e2 r2 f2 => ?_) fun x rr z => XPost.ex e1 z)) fun _ _ z => z)
  cases (show fp = [] from f1)
  cases (show fp2 = [] from f2)
  refine ho W H2 v u a c ((w.ex e1).ex e2) (r1.ex e2).ofP r2.ofP _ (Post.noX (q2.bind.mono (fun d q3 z H3 fp3 e3 r3 f3 => ?_) fun _ _ z => z) (hn a c))
  cases d <;> first | exact q3.elim | skip
  cases r3
  rename_i k
  refine ⟨k, rfl, ?_⟩
  cases k with
  | true =>
    refine h6 W H3 σ env (((w.ex e1).ex e2).ex e3) (((fr.ex e1).ex e2).ex e3) _ ((Post.bind (o := fc env) q3).mono (fun d q4 v4 H4 fp4 e4 r4 f4 => ?_) fun x rr z => XPost.ex ((e1.trans e2).trans e3) z)
    cases (show fp4 = [] from f4)
    exact ho' W H4 u v4 c d ((((w.ex e1).ex e2).ex e3).ex e4) ((r2.ex e3).ex e4).ofP r4.ofP Q (Post.noX (q4.mono (fun d q5 z H5 fp5 e5 r5 f5 => q5 z H5 fp5 ((((e1.trans e2).trans e3).trans e4).trans e5) r5 (f5.ex (((e1.trans e2).trans e3).trans e4))) fun _ _ z => z) (hn' c d))
  | false => exact q3 (.bl false) H3 [] ((e1.trans e2).trans e3) (.bl false) FpN.nil
theorem de_chain {d : Expr} {fc : F} {op op' : CmpOp} {r r' : R2} {g g' : D → D → Out D} (hr : OpR X (compareOp op) r) (hr' : OpR X (compareOp op') r') (ho : Op2' cm false r g) (ho' : Op2' cm b r' g') (hn : NoEx g) (hn' : NoEx g') (ha : DE X cm E false a fa) (hb : DE X cm E false c fb) (hd : DE X cm E false d fc)
    (hm : lastMarks [op, op'] [c, d] = false := by with_unfolding_all rfl) : DE X cm E b (.Compare a [op, op'] [c, d] pos) (c3 g g' fa fb fc) := by
  obtain ⟨ta, h1, h2⟩ := ha.ex
  obtain ⟨tb, h3, h4⟩ := hb.ex
  obtain ⟨tc, h5, h6⟩ := hd.ex
  exact ⟨_, pe_chain hr hr' h1 h3 h5 hm, con3 ho ho' hn hn' h2 h4 h6⟩
theorem dt_chain {d : Expr} {fc : F} {op op' : CmpOp} {r r' : R2} {g g' : D → D → Out D} (hr : OpR X (compareOp op) r) (hr' : OpR X (compareOp op') r') (ho : Op2' cm false r g) (ho' : Op2' cm false r' g') (hn : NoEx g) (hn' : NoEx g') (ha : DE X cm E false a fa) (hb : DE X cm E false c fb) (hd : DE X cm E false d fc)
    (hm : lastMarks [op, op'] [c, d] = false := by with_unfolding_all rfl) : DT X cm E (.Compare a [op, op'] [c, d] pos) (tB (c3 g g' fa fb fc)) := by
  obtain ⟨ta, h1, h2⟩ := ha.ex
  obtain ⟨tb, h3, h4⟩ := hb.ex
  obtain ⟨tc, h5, h6⟩ := hd.ex
  refine ⟨_, pt_chain hr hr' h1 h3 h5 hm, fun W H σ r w fr Q hp => con3 ho ho' hn hn' h2 h4 h6 W H σ r w fr _ (hp.bind.mono (fun d q v H1 fp e1 r1 f1 => ?_) fun _ _ z => z)⟩
  cases d <;> first | exact q.elim | skip
  cases r1
  exact ⟨_, rfl, q H1 e1⟩
theorem dt_lelt {d : Expr} {fc : F} (ha : DE X cm E false a fa) (hb : DE X cm E false c fb) (hd : DE X cm E false d fc) (hm : lastMarks [.LtE, .Lt] [c, d] = false := by with_unfolding_all rfl) : DT X cm E (.Compare a [.LtE, .Lt] [c, d] pos) (tB (c3 gLe gLt fa fb fc)) := dt_chain op_le op_lt o_B0 o_B0 noEx_I0 noEx_I0 ha hb hd hm
theorem de_lele {d : Expr} {fc : F} (ha : DE X cm E false a fa) (hb : DE X cm E false c fb) (hd : DE X cm E false d fc) (hm : lastMarks [.LtE, .LtE] [c, d] = false := by with_unfolding_all rfl) : DE X cm E b (.Compare a [.LtE, .LtE] [c, d] pos) (c3 gLe gLe fa fb fc) := de_chain op_le op_le o_B0 o_B0 noEx_I0 noEx_I0 ha hb hd hm
theorem strApp (x y : List Nat) : (⟨x.toArray⟩ : Str) ++ ⟨y.toArray⟩ = ⟨(x ++ y).toArray⟩ := by
  show (⟨x.toArray ++ y.toArray⟩ : Str) = _
  rw [List.append_toArray]
theorem strLen (x : List Nat) : (⟨x.toArray⟩ : Str).length = x.length := by
  show x.toArray.size = _
  simp
theorem line6 {n : Nat} (h : n ≤ 1000000) : n ≤ sizeLine := Nat.le_trans h (by decide)
def gAddS : D → D → Out D := fun x y => match x, y with
  | .str u, .str v => if u.length + v.length ≤ 1000000 then .ok (.str (u ++ v)) else .bad
  | _, _ => .bad
theorem noEx_addS : NoEx gAddS := fun a b x r h => by
  unfold gAddS at h
  split at h
  · split at h <;> cases h
  · cases h
theorem o_addS : Op2' cm b (fun x y H Q => ∃ i j, x = .str i ∧ y = .str j ∧ i.length + j.length ≤ sizeLine ∧ Q (.str (i ++ j)) H) gAddS := fun W H x y dx dy w rx ry Q hp => by
  unfold gAddS at hp
  split at hp
  · split at hp
    · cases rx; cases ry
      refine ⟨_, _, rfl, rfl, by rw [strLen, strLen]; exact line6 (by assumption), ?_⟩
      rw [strApp]
      exact hp _ H [] (Ex.refl H) (.str _) FpN.nil
    · exact hp.elim
  · exact hp.elim
theorem de_addS (ha : DE X cm E false a fa) (hb : DE X cm E false c fb) : DE X cm E b (.BinOp a .Add c pos) (c2 gAddS fa fb) := de_op op_add_str o_addS noEx_addS ha hb
theorem strMul (x : List Nat) (n : Int) : Txt.mul ⟨x.toArray⟩ n = ⟨(List.replicate n.toNat x).flatten.toArray⟩ := by
  have fold : ∀ (m : Nat), (List.foldl (fun x1 x2 => x1 ++ x2) #[] (List.replicate m x.toArray)) = (List.replicate m x).flatten.toArray := by
    have gen : ∀ (m : Nat) (acc : List Nat), (List.foldl (fun x1 x2 => x1 ++ x2) acc.toArray (List.replicate m x.toArray)) = (acc ++ (List.replicate m x).flatten).toArray := by
      intro m
      induction m with
      | zero => intro acc; simp
      | succ m ih =>
        intro acc
        rw [List.replicate_succ, List.replicate_succ, List.foldl_cons, List.append_toArray, ih, List.flatten_cons, List.append_assoc]
    intro m
    have := gen m []
    rw [List.nil_append] at this
    exact this
  unfold Txt.mul
  split
  · have : n.toNat = 0 := by omega
    rw [this]; rfl
  · split
    · rename_i h1 h
      have h : n = 1 ∨ x.length = 0 := by simpa [strLen] using h
      rcases h with h | h
      · subst h; simp
      · have : x = [] := List.eq_nil_of_length_eq_zero h
        subst this; simp
    · rw [fold]
def gMulS : D → D → Out D := fun x y => match x, y with
  | .str u, .int n => if u.length ≤ 1000 ∧ -1000 ≤ n ∧ n ≤ 1000 then .ok (.str (List.replicate n.toNat u).flatten) else .bad
  | _, _ => .bad
theorem op_mulS : OpR X (binaryOp .Mult) (fun x y H Q => ∃ u n, x = .str u ∧ y = .int n ∧ MulOk u n ∧ Q (.str (Txt.mul u n)) H) := by
  intro pins s σ H x y v u Q I rx ry h
  obtain ⟨z, n, rfl, rfl, ok, q⟩ := h
  obtain ⟨t, rfl⟩ := rx
  obtain ⟨t', rfl⟩ := ry
  exact SB.mul ok fun t' k => ⟨.str _, H, I.tok k, ⟨_, rfl⟩, q⟩
theorem noEx_mulS : NoEx gMulS := fun a b x r h => by
  unfold gMulS at h
  split at h
  · split at h <;> cases h
  · cases h
theorem o_mulS : Op2' cm b (fun x y H Q => ∃ u n, x = .str u ∧ y = .int n ∧ MulOk u n ∧ Q (.str (Txt.mul u n)) H) gMulS := fun W H x y dx dy w rx ry Q hp => by
  unfold gMulS at hp
  split at hp
  · split at hp
    · rename_i h
      cases rx; cases ry
      refine ⟨_, _, rfl, rfl, PyProof.Rows.mulOk_of 1000 1000 (by rw [strLen]; exact h.1) (by omega) (by omega) (by decide) (by decide), ?_⟩
      rw [strMul]
      exact hp _ H [] (Ex.refl H) (.str _) FpN.nil
    · exact hp.elim
  · exact hp.elim
theorem de_mulS (ha : DE X cm E false a fa) (hb : DE X cm E false c fb) : DE X cm E b (.BinOp a .Mult c pos) (c2 gMulS fa fb) := de_op op_mulS o_mulS noEx_mulS ha hb

theorem app_nil {α : Type} {x y : List α} (h : [] = x ++ y) : x = [] ∧ y = [] := List.append_eq_nil_iff.mp h.symm
theorem Reps.at {W : Addr → Prop} {H : Hp} : ∀ {vs : List V} {ds : List D} {fp : List Addr}, Reps cm W H vs ds fp → fp = [] → ∀ {i : Nat} {d : D}, ds[i]? = some d → ∃ v, vs[i]? = some v ∧ Rep cm W H v d []
  | _, _, _, .nil, _, i, d, h => by simp at h
  | _, _, _, .cons (fp := fp1) (fps := fp2) h1 h2, hf, i, d, h => by
    obtain ⟨rfl, rfl⟩ := app_nil hf.symm
    cases i with
    | zero =>
      simp at h; subst h
      exact ⟨_, rfl, h1⟩
    | succ i => exact Reps.at h2 rfl (i := i) (by simpa using h)
theorem atI_map {α β : Type} {xs : List α} {ys : List β} (hl : xs.length = ys.length) {i : Int} {y : β} (h : atI ys i = some y) : ∃ j : Nat, ys[j]? = some y ∧ ∀ x, xs[j]? = some x → atI xs i = some x := by
  unfold atI at h ⊢
  cases e : ixN ys.length i with
  | none => rw [e] at h; cases h
  | some j =>
    rw [e] at h
    refine ⟨j, h, fun x hx => ?_⟩
    rw [hl, e]
    exact hx
theorem Reps.atI {W : Addr → Prop} {H : Hp} {vs : List V} {ds : List D} {i : Int} {d : D} (r : Reps cm W H vs ds []) (h : L2.atI ds i = some d) : ∃ v, L2.atI vs i = some v ∧ Rep cm W H v d [] := by
  obtain ⟨j, h1, h2⟩ := atI_map r.len h
  obtain ⟨v, h3, h4⟩ := r.at rfl h1
  exact ⟨v, h2 v h3, h4⟩
def ofO {α : Type} : Option α → Out α
  | some a => .ok a
  | none => .bad
def gIx : D → D → Out D := fun x y => match x, y with
  | .lst _ xs, .int i => ofO (atI xs i)
  | .tup xs, .int i => ofO (atI xs i)
  | .str cs, .int i => if cs.length ≤ 1000000 then ofO ((atI cs i).map fun c => .str [c]) else .bad
  | .scr ns, .int i => ofO ((atI ns i).map fun n => .int n)
  | _, _ => .bad
theorem noEx_ix : NoEx gIx := fun a b x r h => by
  unfold gIx at h
  split at h
  · unfold ofO at h; split at h <;> cases h
  · unfold ofO at h; split at h <;> cases h
  · split at h
    · unfold ofO at h; split at h <;> cases h
    · cases h
  · unfold ofO at h; split at h <;> cases h
  · cases h
theorem Post.ofO {α : Type} {o : Option α} {q : α → Prop} {e : Xc → Env → Prop} (h : Post (ofO o) q e) : ∃ a, o = some a ∧ q a := by
  cases o with
  | none => exact h.elim
  | some a => exact ⟨a, rfl, h⟩
theorem o_ix (hk : X.K = cm.K) : Op2' cm b (rIx X.K) gIx := fun W H x y dx dy w rx ry Q hp => by
  unfold gIx at hp
  split at hp
  · obtain ⟨d, h1, h2⟩ := hp.ofO
    cases ry
    generalize hf : ([] : List Addr) = fp at rx
    cases rx with
    | lstO => cases hf
    | lstF h n r =>
      obtain ⟨v, h3, h4⟩ := r.atI h1
      exact .inl ⟨_, _, _, v, rfl, rfl, SqL.of h, h3, h2 v H [] (Ex.refl H) h4.toP FpN.nil⟩
  · obtain ⟨d, h1, h2⟩ := hp.ofO
    cases ry
    generalize hf : ([] : List Addr) = fp at rx
    cases rx with
    | tup h n r =>
      subst hf
      obtain ⟨v, h3, h4⟩ := r.atI h1
      exact .inr (.inl ⟨_, _, _, v, rfl, rfl, SqT.of h, h3, h2 v H [] (Ex.refl H) h4.toP FpN.nil⟩)
  · split at hp
    · obtain ⟨d, h1, h2⟩ := hp.ofO
      cases ry
      cases rx
      rename_i hz
      obtain ⟨cc, h3, rfl⟩ := Option.map_eq_some_iff.mp h1
      exact .inr (.inr ⟨_, _, cc, rfl, rfl, by rw [strLen]; exact line6 hz, h3, h2 _ H [] (Ex.refl H) (.str _) FpN.nil⟩)
    · exact hp.elim
  · obtain ⟨d, h1, h2⟩ := hp.ofO
    cases ry
    obtain ⟨n, h3, rfl⟩ := Option.map_eq_some_iff.mp h1
    rename_i ns i
    have h4 : L2.atI (ns.map V.int) i = some (.int n) := by
      obtain ⟨j, q1, q2⟩ := atI_map (xs := ns.map V.int) (by simp) h3
      exact q2 _ (by simp [q1])
    cases rx with
    | scrF h nw => exact .inl ⟨_, _, _, _, rfl, rfl, .inl (.inr ⟨_, h⟩), h4, h2 _ H [] (Ex.refl H) (.int _) FpN.nil⟩
    | scrK h => exact .inl ⟨_, _, _, _, rfl, rfl, by rw [hk]; exact h H, h4, h2 _ H [] (Ex.refl H) (.int _) FpN.nil⟩
  · exact hp.elim
theorem de_item (hk : X.K = cm.K) (ha : DE X cm E false a fa) (hb : DE X cm E false c fb) (hs : PlainIx c := by exact fun _ _ => rfl) : DE X cm E b (.Subscript a c pos) (c2 gIx fa fb) := de_ix ix_seq (o_ix hk) noEx_ix hs ha hb

def cA (g : List D → Out D) (fs : Env → Out (List D)) : F := fun r => (fs r).bind g
def RA (cm : Cm) (b : Bool) (r : List V → Hp → VK → Prop) (g : List D → Out D) : Prop := ∀ W H vs ds, WOk cm W H → Reps cm W H vs ds [] → ∀ Q : VK, Post (g ds) (QP cm W b H Q) noX → r vs H Q
def NoExA (g : List D → Out D) : Prop := ∀ a x r, g a ≠ .exn x r
theorem conA {r : List V → Hp → VK → Prop} {g : List D → Out D} {ta : TA} {fs : Env → Out (List D)} (ho : RA cm b r g) (hn : NoExA g) (ha : ACon cm E false ta fs) : ECon cm E b (tCB r ta) (cA g fs) := fun W H σ env w fr Q hp =>
  ha W H σ env w fr _ (hp.bind.mono (fun ds q vs H1 fp e1 r1 f1 => by
    cases (show fp = [] from f1)
    exact ho W H1 vs ds (w.ex e1) r1.ofP Q (Post.noX (q.mono (fun d q3 z H3 fp3 e3 r3 f3 => q3 z H3 fp3 (e1.trans e3) r3 (f3.ex e1)) fun _ _ z => z) (hn ds))) fun _ _ z => z)
theorem de_blt {id : String} {x : Str} {p : Pos} {e : Expr} {es : List Expr} {r : List V → Hp → VK → Prop} {g : List D → Out D} {fs : Env → Out (List D)} (hc : CallR X (.builtin id) r) (ho : RA cm b r g) (hn : NoExA g) (hg : Gl X x) (hm : X.mg x = none) (hv : bootBuiltins x = some (.builtin id)) (ha : DA X cm E false (e :: es) fs)
    (hnn : x ≠ "__name__" := by decide) (hdb : (x == ("__debug__" : Str)) = false := by decide) (he : starEach (e :: es) X.env = (false, eval e X.env) :: starEach es X.env := by rfl) (hpl : (backTo pos (starEach es X.env)).any (·.1) = false := by rfl) : DE X cm E b (.Call (.Name x p) (e :: es) [] pos) (cA g fs) := by
  obtain ⟨ta, h1, h2⟩ := ha.ex
  exact ⟨_, pe_callB hc hg hm hv h1 hnn hdb he hpl, conA ho hn h2⟩
def g1 (g : D → Out D) : List D → Out D
  | [d] => g d
  | _ => .bad
theorem noEx_g1 {g : D → Out D} (h : ∀ a x r, g a ≠ .exn x r) : NoExA (g1 g) := fun a x r q => by
  unfold g1 at q
  split at q
  · exact h _ _ _ q
  · cases q
theorem ra_1 {r : List V → Hp → VK → Prop} {g : D → Out D} (h : ∀ W H v d, WOk cm W H → Rep cm W H v d [] → ∀ Q : VK, Post (g d) (QP cm W b H Q) noX → r [v] H Q) : RA cm b r (g1 g) := fun W H vs ds w rp Q hp => by
  unfold g1 at hp
  split at hp
  · generalize hf : ([] : List Addr) = fp at rp
    cases rp with
    | cons h1 h2 =>
      cases h2
      rw [List.append_nil] at hf
      subst hf
      exact h W H _ _ w h1 Q hp
  · exact hp.elim
def gLen : D → Out D
  | .str cs => if cs.length ≤ 1000000 then .ok (.int cs.length) else .bad
  | .lst _ xs => .ok (.int xs.length)
  | .tup xs => .ok (.int xs.length)
  | .scr ns => .ok (.int ns.length)
  | _ => .bad
theorem noEx_len : ∀ a x r, gLen a ≠ .exn x r := fun a x r h => by
  unfold gLen at h
  split at h
  · split at h <;> cases h
  all_goals cases h
theorem ra_len (hk : X.K = cm.K) : RA cm b (fun xs H Q => ∃ x n, xs = [x] ∧ LenV X.K x H n ∧ Q (.int n) H) (g1 gLen) := ra_1 fun W H v d w rp Q hp => by
  unfold gLen at hp
  split at hp
  · split at hp
    · cases rp
      rename_i hz
      exact ⟨_, _, rfl, ⟨by rw [strLen]; exact line6 hz, rfl⟩, by rw [strLen]; exact hp _ H [] (Ex.refl H) (.int _) FpN.nil⟩
    · exact hp.elim
  · generalize hf : ([] : List Addr) = fp at rp
    cases rp with
    | lstO => cases hf
    | lstF h n r => exact ⟨_, _, rfl, .inl ⟨_, SqL.of h, rfl⟩, by rw [r.len]; exact hp _ H [] (Ex.refl H) (.int _) FpN.nil⟩
  · generalize hf : ([] : List Addr) = fp at rp
    cases rp with
    | tup h n r => exact ⟨_, _, rfl, .inr ⟨_, SqT.of h, rfl⟩, by rw [r.len]; exact hp _ H [] (Ex.refl H) (.int _) FpN.nil⟩
  · rename_i ns
    have hl : (ns.map V.int).length = ns.length := List.length_map ..
    cases rp with
    | scrF h n => exact ⟨_, _, rfl, .inl ⟨_, .inl (.inr ⟨_, h⟩), rfl⟩, by rw [hl]; exact hp _ H [] (Ex.refl H) (.int _) FpN.nil⟩
    | scrK h => exact ⟨_, _, rfl, .inl ⟨_, by rw [hk]; exact h H, rfl⟩, by rw [hl]; exact hp _ H [] (Ex.refl H) (.int _) FpN.nil⟩
  · exact hp.elim
theorem de_len {p : Pos} {e : Expr} {fs : Env → Out (List D)} (hk : X.K = cm.K) (hg : Gl X "len") (hm : X.mg "len" = none) (ha : DA X cm E false [e] fs) (he : starEach [e] X.env = (false, eval e X.env) :: starEach [] X.env := by rfl) (hpl : (backTo pos (starEach [] X.env)).any (·.1) = false := by rfl) : DE X cm E b (.Call (.Name "len" p) [e] [] pos) (cA (g1 gLen) fs) :=
  de_blt call_len (ra_len hk) (noEx_g1 noEx_len) hg hm PySem.boot_len ha (by decide) (by decide) he hpl
end
end DL

namespace DL
variable [Tbs]
open PySem L2
inductive Ty where
  | int | bool | str | list | tuple | dict
def Ty.nm : Ty → String
  | .int => "int" | .bool => "bool" | .str => "str" | .list => "list" | .tuple => "tuple" | .dict => "dict"
def isTy : Ty → D → Bool
  | .int, .int _ => true
  | .int, .bl _ => true
  | .bool, .bl _ => true
  | .str, .str _ => true
  | .list, .lst _ _ => true
  | .list, .scr _ => true
  | .tuple, .tup _ => true
  | .dict, .dK _ _ _ => true
  | .dict, .dT _ _ _ => true
  | _, _ => false
structure ObC (K : PySem.W.Frag) (C : Addr) : Prop where
  cl : Cls K C
  ha : PySem.W.findIn K (.ref C) "__class__" = some (some (.builtin "object.__class__"))
  hn : PySem.W.specialIn K (.builtin "object.__class__") "__get__" = some (some (.builtin "getset_descriptor.__get__"))
  htk : PySem.W.takesIn K (.builtin "object.__class__") = some true
  hm : PySem.W.mroIn K C (.type "object") = some true
  nb : ∀ t : Ty, PySem.W.kitOne K (.ref C) (.type t.nm) = some false
def CmOk (cm : Cm) : Prop := ∀ c, cm.ok c → ObC cm.K (cm.cl c)
theorem kb_non (t : Ty) : kitB "NoneType" t.nm = some false := by cases t <;> decide +kernel
def bInt : Ty → Bool
  | .int => true | _ => false
def bBool : Ty → Bool
  | .int => true | .bool => true | _ => false
def bStr : Ty → Bool
  | .str => true | _ => false
def bList : Ty → Bool
  | .list => true | _ => false
def bTup : Ty → Bool
  | .tuple => true | _ => false
def bDict : Ty → Bool
  | .dict => true | _ => false
theorem kb_bool (t : Ty) : kitB "bool" t.nm = some (bBool t) := by cases t <;> decide +kernel
theorem kb_int (t : Ty) : kitB "int" t.nm = some (bInt t) := by cases t <;> decide +kernel
theorem kb_str (t : Ty) : kitB "str" t.nm = some (bStr t) := by cases t <;> decide +kernel
theorem kb_list (t : Ty) : kitB "list" t.nm = some (bList t) := by cases t <;> decide +kernel
theorem kb_tup (t : Ty) : kitB "tuple" t.nm = some (bTup t) := by cases t <;> decide +kernel
theorem kb_dict (t : Ty) : kitB "dict" t.nm = some (bDict t) := by cases t <;> decide +kernel
theorem Rep.ty {cm : Cm} (hC : CmOk cm) (t : Ty) {W : Addr → Prop} {H : Hp} {v : V} {d : D} {fp : List Addr} (h : Rep cm W H v d fp) (nd : ∀ ks xs o, d ≠ .dT o ks xs ∨ ∃ p kvs, v = .ref p ∧ H p = some (.dT kvs)) (ns : ∀ ns, d ≠ .scr ns ∨ ∃ p o xs, v = .ref p ∧ H p = some (.frz o (.lst xs))) (ne : ∀ c fs xs, d ≠ .exc c fs xs) (na : d ≠ .any) (nn : ∀ o ks xs, d ≠ .dN o ks xs) :
    ∃ ty, TyX cm.K H v ty ∧ PySem.W.kitOne cm.K ty (.type t.nm) = some (isTy t d) := by
  cases h with
  | non => exact ⟨_, .base .non, by rw [kit_ty (kb_non t)]; cases t <;> rfl⟩
  | bl b => exact ⟨_, .base (.bl b), by rw [kit_ty (kb_bool t)]; cases t <;> rfl⟩
  | int b => exact ⟨_, .base (.int b), by rw [kit_ty (kb_int t)]; cases t <;> rfl⟩
  | str b => exact ⟨_, .base (.str _), by rw [kit_ty (kb_str t)]; cases t <;> rfl⟩
  | lstO h r => exact ⟨_, .base (.lst h), by rw [kit_ty (kb_list t)]; cases t <;> rfl⟩
  | lstF h n r => exact ⟨_, .base (.lst h), by rw [kit_ty (kb_list t)]; cases t <;> rfl⟩
  | tup h n r => exact ⟨_, .base (.tup h), by rw [kit_ty (kb_tup t)]; cases t <;> rfl⟩
  | dKO h l r => exact ⟨_, .base (.dK h), by rw [kit_ty (kb_dict t)]; cases t <;> rfl⟩
  | dKF h l n r =>
    rcases h with h | ⟨o, h⟩
    · exact ⟨_, .base (.dK h), by rw [kit_ty (kb_dict t)]; cases t <;> rfl⟩
    · exact ⟨_, .fDict h, by rw [kit_ty (kb_dict t)]; cases t <;> rfl⟩
  | dTO h l r => exact ⟨_, .base (.dT h), by rw [kit_ty (kb_dict t)]; cases t <;> rfl⟩
  | dTF h l n r =>
    rcases nd _ _ _ with q | ⟨p, kvs, e, q⟩
    · exact absurd rfl q
    · cases e
      exact ⟨_, .base (.dT q), by rw [kit_ty (kb_dict t)]; cases t <;> rfl⟩
  | objO h l r =>
    have c := hC _ l.2
    exact ⟨_, .base (.ins h c.cl c.ha c.hn c.htk c.hm), by cases t <;> exact c.nb _⟩
  | objF h l n r =>
    have c := hC _ l.2
    exact ⟨_, .base (.ins h c.cl c.ha c.hn c.htk c.hm), by cases t <;> exact c.nb _⟩
  | scrF h n => exact ⟨_, .base (.frz h), by rw [kit_ty (kb_list t)]; cases t <;> rfl⟩
  | scrK h =>
    rcases ns _ with q | ⟨p, o, xs, e, q⟩
    · exact absurd rfl q
    · cases e
      exact ⟨_, .base (.frz q), by rw [kit_ty (kb_list t)]; cases t <;> rfl⟩
  | exc => exact absurd rfl (ne _ _ _)
  | any => exact absurd rfl na
  | dNO => exact absurd rfl (nn _ _ _)
  | dNF => exact absurd rfl (nn _ _ _)
def gIsi (t : Ty) : D → Out D := fun d => match d with
  | .dT false _ _ => .bad
  | .scr _ => .bad
  | .exc _ _ _ => .bad
  | .any => .bad
  | .dN _ _ _ => .bad
  | _ => .ok (.bl (isTy t d))
section
variable {X : Cx} {cm : Cm} {E : XS} {b : Bool} {pos : Pos} {a c : Expr} {fa fb : F}
theorem de_isi (t : Ty) {x : Str} {p p2 : Pos} (hk : X.K = cm.K) (hC : CmOk cm) (hg : Gl X "isinstance") (hm : X.mg "isinstance" = none) (hg2 : Gl X x) (hm2 : X.mg x = none) (ha : DE X cm E false a fa) (hv : bootBuiltins x = some (.type t.nm) := by decide +kernel)
    (hnn : x ≠ "__name__" := by decide) (hdb : (x == ("__debug__" : Str)) = false := by decide) (hs1 : starEach [a, .Name x p2] X.env = (false, eval a X.env) :: starEach [.Name x p2] X.env := by rfl) (hs2 : starEach [.Name x p2] X.env = (false, eval (.Name x p2) X.env) :: starEach [] X.env := by rfl) (hpl : (backTo pos (starEach [.Name x p2] X.env)).any (·.1) = false := by rfl) :
    DE X cm E b (.Call (.Name "isinstance" p) [a, .Name x p2] [] pos) (c1 (gIsi t) fa) := by
  obtain ⟨ta, h1, h2⟩ := ha.ex
  refine ⟨_, pe_callB call_isi hg hm PyProof.Rows.boot_isinstance (pa_cons h1 (pa_cons (pe_bltn (v := .ty t.nm) hg2 hm2 hv rfl hnn hdb) pa_nil hs2) hs1) (by decide) (by decide) hs1 hpl, fun W H σ env w fr Q hp => h2 W H σ env w fr _ (hp.bind.mono (fun d q v H1 fp e1 r1 f1 => ?_) fun _ _ z => z)⟩
  show rIsi X.K [v, .ty t.nm] H1 Q
  have q' : gIsi t d = .ok (.bl (isTy t d)) ∧ ((∀ ks xs o, d ≠ .dT o ks xs ∨ ∃ p kvs, v = .ref p ∧ H1 p = some (.dT kvs)) ∧ (∀ ns, d ≠ .scr ns ∨ ∃ p o xs, v = .ref p ∧ H1 p = some (.frz o (.lst xs))) ∧ (∀ c fs xs, d ≠ .exc c fs xs) ∧ d ≠ .any ∧ ∀ o ks xs, d ≠ .dN o ks xs) := by
    unfold gIsi at q ⊢
    split at q
    · exact q.elim
    · exact q.elim
    · exact q.elim
    · exact q.elim
    · exact q.elim
    · rename_i n1 n2 n3 n4 n5
      refine ⟨rfl, fun ks xs o => ?_, fun ns => .inl (n2 ns), n3, n4, n5⟩
      cases o with
      | false => exact .inl (n1 ks xs)
      | true =>
        by_cases hd : d = .dT true ks xs
        · subst hd
          cases (show fp = [] from f1)
          cases r1
        · exact .inl hd
  obtain ⟨qe, q1, q2, q3, q4, q5⟩ := q'
  rw [qe] at q
  obtain ⟨ty, k1, k2⟩ := r1.ofP.ty hC t q1 q2 q3 q4 q5
  exact ⟨v, .ty t.nm, ty, .type t.nm, isTy t d, rfl, .ty _, by rw [hk]; exact k1, by rw [hk]; exact k2, q _ H1 [] e1 (.bl _) FpN.nil⟩

def gIsN (neg : Bool) : D → D → Out D := fun x y => match y with
  | .non => match x with
    | .non => .ok (.bl (true != neg))
    | .any => .bad
    | _ => .ok (.bl (false != neg))
  | .bl k => match x with
    | .bl j => .ok (.bl ((j == k) != neg))
    | _ => .bad
  | _ => .bad
theorem noEx_isN {neg : Bool} : NoEx (gIsN neg) := fun a b x r h => by
  unfold gIsN at h
  split at h <;> first | cases h | (split at h <;> cases h)
theorem Rep.nonIff {W : Addr → Prop} {H : Hp} {v : V} {d : D} {fp : List Addr} (h : Rep cm W H v d fp) (na : d ≠ .any) : decide (v = .non) = (match d with | .non => true | _ => false) := by
  cases h <;> first | rfl | exact absurd rfl na
def rIsA (neg : Bool) : R2 := fun x y H Q => (y = .non ∧ Q (.bl (decide (x = .non) != neg)) H) ∨ ∃ i j : Bool, x = .bl i ∧ y = .bl j ∧ Q (.bl (decide (i = j) != neg)) H
theorem op_isA : OpR X (compareOp .Is) (rIsA false) := by
  intro pins s σ H x y v u Q I rx ry h
  rcases h with ⟨e, q⟩ | ⟨i, j, e1, e2, q⟩
  · exact op_isN pins s σ H x y v u Q I rx ry ⟨e, by simpa using q⟩
  · exact op_isBl pins s σ H x y v u Q I rx ry ⟨i, j, e1, e2, by simpa using q⟩
theorem o_is {neg : Bool} : Op2' cm b (rIsA neg) (gIsN neg) := fun W H x y dx dy w rx ry Q hp => by
  unfold gIsN at hp
  split at hp
  · cases ry
    refine .inl ⟨rfl, ?_⟩
    have na : dx ≠ .any := fun z => by subst z; exact hp.elim
    rw [rx.nonIff na]
    cases dx <;> first | exact absurd rfl na | exact hp _ H [] (Ex.refl H) (.bl _) FpN.nil
  · split at hp
    · cases rx; cases ry
      refine .inr ⟨_, _, rfl, rfl, ?_⟩
      rw [show ∀ i j : Bool, decide (i = j) = (i == j) from fun i j => by cases i <;> cases j <;> rfl]
      exact hp _ H [] (Ex.refl H) (.bl _) FpN.nil
    · exact hp.elim
  · exact hp.elim
theorem dt_is (ha : DE X cm E false a fa) (hb : DE X cm E false c fb) : DT X cm E (.Compare a [.Is] [c] pos) (tB (c2 (gIsN false) fa fb)) := dt_cmp op_isA o_is noEx_isN (nomark _) ha hb
theorem Reps.newW {W : Addr → Prop} {H : Hp} {vs : List V} {ds : List D} {fp : List Addr} {p : Addr} {o : HO} (r : Reps cm W H vs ds fp) (hp : H p = none) : Reps cm (Wp W [p]) (upd H p o) vs ds fp :=
  r.move (fun a z => z.imp id fun m => by rw [List.mem_singleton.mp m]; exact hp) fun a o q t _ => (Ex.new hp).get a o q t
theorem fpN_new {H : Hp} {p : Addr} (h : H p = none) : FpN true H [p] := ⟨by simp, fun a m => by rw [List.mem_singleton.mp m]; exact h⟩
theorem Reps.app {W : Addr → Prop} {H : Hp} : ∀ {vs : List V} {ds : List D} {fp : List Addr}, Reps cm W H vs ds fp → ∀ {us : List V} {es : List D} {fq : List Addr}, Reps cm W H us es fq → Reps cm W H (vs ++ us) (ds ++ es) (fp ++ fq)
  | _, _, _, .nil, _, _, _, q => q
  | _, _, _, .cons h r, us, es, fq, q => by
    rw [List.append_assoc]
    exact .cons h (Reps.app r q)
def gCat : D → D → Out D := fun x y => match x, y with
  | .lst _ u, .lst _ v => if u.length + v.length ≤ 1000000 then .ok (.lst true (u ++ v)) else .bad
  | _, _ => .bad
theorem o_cat : Op2' cm true rCat gCat := fun W H x y dx dy w rx ry Q hp => by
  unfold gCat at hp
  split at hp
  · split at hp
    · rename_i hz
      generalize hf : ([] : List Addr) = fp at rx
      generalize hg : ([] : List Addr) = fq at ry
      cases rx with
      | lstO => cases hf
      | lstF h n r =>
        cases ry with
        | lstO => cases hg
        | lstF h' n' r' =>
          exact ⟨_, _, _, _, rfl, rfl, h, h', by rw [r.len, r'.len]; exact line6 hz, fun p hp' => hp (.ref p) _ [p] (Ex.new hp') (.lstO (fp := []) upd_same (Reps.app (r.newW hp') (r'.newW hp'))) (fpN_new hp')⟩
    · exact hp.elim
  · exact hp.elim
theorem noEx_cat : NoEx gCat := fun a b x r h => by
    unfold gCat at h
    split at h
    · split at h <;> cases h
    · cases h
theorem de_cat (ha : DE X cm E false a fa) (hb : DE X cm E false c fb) : DE X cm E true (.BinOp a .Add c pos) (c2 gCat fa fb) := de_op op_cat o_cat noEx_cat ha hb
theorem Reps.rep {W : Addr → Prop} {H : Hp} {vs : List V} {ds : List D} (r : Reps cm W H vs ds []) : ∀ k : Nat, Reps cm W H (List.replicate k vs).flatten (List.replicate k ds).flatten []
  | 0 => .nil
  | k + 1 => by
    rw [List.replicate_succ, List.replicate_succ, List.flatten_cons, List.flatten_cons]
    exact Reps.app r (Reps.rep r k)
def gMulL : D → D → Out D := fun x y => match x, y with
  | .lst _ u, .int n => if u.length ≤ 1000 ∧ -1000 ≤ n ∧ n ≤ 1000 then .ok (.lst true (List.replicate n.toNat u).flatten) else .bad
  | _, _ => .bad
theorem o_mulL : Op2' cm true rRep gMulL := fun W H x y dx dy w rx ry Q hp => by
  unfold gMulL at hp
  split at hp
  · split at hp
    · rename_i hz
      cases ry
      generalize hf : ([] : List Addr) = fp at rx
      cases rx with
      | lstO => cases hf
      | lstF h n r =>
        refine ⟨_, _, _, rfl, rfl, h, by omega, by omega, ?_, fun p hp' => hp (.ref p) _ [p] (Ex.new hp') (.lstO (fp := []) upd_same ((r.rep _).newW hp')) (fpN_new hp')⟩
        rw [r.len]
        exact line6 (Nat.le_trans (Nat.mul_le_mul hz.1 (show Int.toNat _ ≤ 1000 by omega)) (by decide))
    · exact hp.elim
  · exact hp.elim
theorem noEx_mulL : NoEx gMulL := fun a b x r h => by
    unfold gMulL at h
    split at h
    · split at h <;> cases h
    · cases h
theorem de_mulL (ha : DE X cm E false a fa) (hb : DE X cm E false c fb) : DE X cm E true (.BinOp a .Mult c pos) (c2 gMulL fa fb) := de_op op_rep o_mulL noEx_mulL ha hb
structure DO (X : Cx) (cm : Cm) (E : XS) (e : Option Expr) (f : Env → Out (Option Int)) : Prop where
  ex : ∃ t, PO X e t ∧ ∀ W H σ r, WOk cm W H → FRep cm W H σ r → ∀ Q : Option Int → Hp → Prop, Post (f r) (fun o => ∀ H', Ex H H' → Q o H') (XPost cm (E σ) W H) → t σ H Q
def oNone : Env → Out (Option Int) := fun _ => .ok none
def isI : D → Out Int
  | .int i => .ok i
  | _ => .bad
def oSome (f : F) : Env → Out (Option Int) := fun r => (f r).bind fun d => (isI d).bind fun i => .ok (some i)
theorem do_none : DO X cm E none oNone := ⟨_, po_none, fun W H σ r w fr Q hp => hp H (Ex.refl H)⟩
theorem do_some (ha : DE X cm E false a fa) : DO X cm E (some a) (oSome fa) := by
  obtain ⟨ta, h1, h2⟩ := ha.ex
  refine ⟨_, po_some h1, fun W H σ r w fr Q hp => h2 W H σ r w fr _ (hp.bind.mono (fun d q v H1 fp e1 r1 f1 => ?_) fun _ _ z => z)⟩
  cases d <;> first | exact q.elim | skip
  cases r1
  exact ⟨_, rfl, q H1 e1⟩
def cut {α : Type} (xs : List α) (lo hi : Option Int) : List α := (xs.drop (HT.sIx xs.length 0 lo)).take (HT.sIx xs.length xs.length hi - HT.sIx xs.length 0 lo)
def cSl (g : D → Option Int → Option Int → Out D) (f : F) (l h : Env → Out (Option Int)) : F := fun r => (f r).bind fun d => (l r).bind fun i => (h r).bind fun j => g d i j
def gSl : D → Option Int → Option Int → Out D := fun d lo hi => match d with
  | .str cs => if cs.length ≤ 1000000 then .ok (.str (cut cs lo hi)) else .bad
  | .lst _ xs => .ok (.lst true (cut xs lo hi))
  | .tup xs => if HT.sIx xs.length 0 lo = 0 ∧ HT.sIx xs.length xs.length hi = xs.length then .bad else .ok (.tup (cut xs lo hi))
  | _ => .bad
def gSlS : D → Option Int → Option Int → Out D := fun d lo hi => match d with
  | .str cs => if cs.length ≤ 1000000 then .ok (.str (cut cs lo hi)) else .bad
  | .tup xs => if HT.sIx xs.length 0 lo = 0 ∧ HT.sIx xs.length xs.length hi = xs.length then .bad else .ok (.tup (cut xs lo hi))
  | _ => .bad
theorem Reps.drop {W : Addr → Prop} {H : Hp} : ∀ (n : Nat) {vs : List V} {ds : List D} {fp : List Addr}, Reps cm W H vs ds fp → fp = [] → Reps cm W H (vs.drop n) (ds.drop n) []
  | 0, _, _, _, r, e => by subst e; exact r
  | n + 1, _, _, _, .nil, _ => .nil
  | n + 1, _, _, _, .cons h r, e => by
    obtain ⟨rfl, rfl⟩ := app_nil e.symm
    exact Reps.drop n r rfl
theorem Reps.take {W : Addr → Prop} {H : Hp} : ∀ (n : Nat) {vs : List V} {ds : List D} {fp : List Addr}, Reps cm W H vs ds fp → fp = [] → Reps cm W H (vs.take n) (ds.take n) []
  | 0, _, _, _, r, e => .nil
  | n + 1, _, _, _, .nil, _ => .nil
  | n + 1, _, _, _, .cons h r, e => by
    obtain ⟨rfl, rfl⟩ := app_nil e.symm
    exact .cons (fp := []) h (Reps.take n r rfl)
theorem Reps.cut {W : Addr → Prop} {H : Hp} {vs : List V} {ds : List D} (r : Reps cm W H vs ds []) (lo hi : Option Int) : Reps cm W H (cutV vs lo hi) (DL.cut ds lo hi) [] := by
  unfold cutV DL.cut
  rw [r.len]
  exact (r.drop _ rfl).take _ rfl
theorem strCut (cs : List Nat) (lo hi : Option Int) : cutS ⟨cs.toArray⟩ lo hi = ⟨(cut cs lo hi).toArray⟩ := by
  unfold cutS cut
  rw [strLen]
def rSlA (K : PySem.W.Frag) : V → Option Int → Option Int → Hp → VK → Prop := fun x lo hi H Q => rSlS x lo hi H Q ∨ rSlL K x lo hi H Q ∨ rSlT K x lo hi H Q
theorem sl_all : SlR X (rSlA X.K) := sl_str.or (sl_list.or sl_tup)
theorem conSl {g : D → Option Int → Option Int → Out D} {ta : TE} {t1 t2 : TO} {f1 f2 : Env → Out (Option Int)} (hn : ∀ d i j x r, g d i j ≠ .exn x r)
    (ho : ∀ W H v d lo hi, WOk cm W H → Rep cm W H v d [] → ∀ Q : VK, Post (g d lo hi) (QP cm W b H Q) noX → rSlA X.K v lo hi H Q) (ha : ECon cm E false ta fa)
    (h1 : ∀ W H σ r, WOk cm W H → FRep cm W H σ r → ∀ Q : Option Int → Hp → Prop, Post (f1 r) (fun o => ∀ H', Ex H H' → Q o H') (XPost cm (E σ) W H) → t1 σ H Q)
    (h2 : ∀ W H σ r, WOk cm W H → FRep cm W H σ r → ∀ Q : Option Int → Hp → Prop, Post (f2 r) (fun o => ∀ H', Ex H H' → Q o H') (XPost cm (E σ) W H) → t2 σ H Q) : ECon cm E b (tSl (rSlA X.K) ta t1 t2) (cSl g fa f1 f2) := fun W H σ env w fr Q hp =>
  ha W H σ env w fr _ (hp.bind.mono (fun d q v H1 fp e1 r1 q1 => h1 W H1 σ env (w.ex e1) (fr.ex e1) _ (q.bind.mono (fun lo q2 H2 e2 => h2 W H2 σ env ((w.ex e1).ex e2) ((fr.ex e1).ex e2) _ (q2.bind.mono (fun hi q3 H3 e3 => by
    cases (show fp = [] from q1)
    exact ho W H3 v d lo hi (((w.ex e1).ex e2).ex e3) ((r1.ex e2).ex e3).ofP Q (Post.noX (q3.mono (fun d q4 z H4 fp4 e4 r4 f4 => q4 z H4 fp4 (((e1.trans e2).trans e3).trans e4) r4 (f4.ex ((e1.trans e2).trans e3))) fun _ _ z => z) (hn d lo hi))) fun x rr z => XPost.ex (e1.trans e2) z)) fun x rr z => XPost.ex e1 z)) fun _ _ z => z)
theorem de_sl {lo hi : Option Expr} {f1 f2 : Env → Out (Option Int)} {p2 : Pos} (ha : DE X cm E false a fa) (h1 : DO X cm E lo f1) (h2 : DO X cm E hi f2) : DE X cm E true (.Subscript a (.Slice lo hi none p2) pos) (cSl gSl fa f1 f2) := by
  obtain ⟨ta, a1, a2⟩ := ha.ex
  obtain ⟨t1, b1, b2⟩ := h1.ex
  obtain ⟨t2, c1, c2⟩ := h2.ex
  refine ⟨_, pe_slice sl_all a1 b1 c1, conSl (fun d i j x r h => ?_) (fun W H v d lo hi w rp Q hp => ?_) a2 b2 c2⟩
  · unfold gSl at h
    split at h
    · split at h <;> cases h
    · cases h
    · split at h <;> cases h
    · cases h
  · unfold gSl at hp
    split at hp
    · split at hp
      · cases rp
        rename_i hz
        exact .inl ⟨_, rfl, by rw [strLen]; exact line6 hz, by rw [strCut]; exact hp _ H [] (Ex.refl H) (.str _) FpN.nil⟩
      · exact hp.elim
    · generalize hf : ([] : List Addr) = fp at rp
      cases rp with
      | lstO => cases hf
      | lstF h n r => exact .inr (.inl ⟨_, _, rfl, SqL.of h, fun p hp' => hp (.ref p) _ [p] (Ex.new hp') (.lstO (fp := []) upd_same ((r.cut lo hi).newW hp')) (fpN_new hp')⟩)
    · split at hp
      · exact hp.elim
      · rename_i hw
        generalize hf : ([] : List Addr) = fp at rp
        cases rp with
        | tup h n r =>
          subst hf
          refine .inr (.inr ⟨_, _, rfl, SqT.of h, by rw [r.len]; exact hw, fun p hp' => hp (.ref p) _ [] (Ex.new hp') (.tup upd_same (fun z => z.elim (w.fresh hp') fun m => nomatch m) ((r.cut lo hi).ex (Ex.new hp')).toP) FpN.nil⟩)
    · exact hp.elim
theorem de_slS {lo hi : Option Expr} {f1 f2 : Env → Out (Option Int)} {p2 : Pos} (ha : DE X cm E false a fa) (h1 : DO X cm E lo f1) (h2 : DO X cm E hi f2) : DE X cm E b (.Subscript a (.Slice lo hi none p2) pos) (cSl gSlS fa f1 f2) := by
  obtain ⟨ta, a1, a2⟩ := ha.ex
  obtain ⟨t1, b1, b2⟩ := h1.ex
  obtain ⟨t2, c1, c2⟩ := h2.ex
  refine ⟨_, pe_slice sl_all a1 b1 c1, conSl (fun d i j x r h => ?_) (fun W H v d lo hi w rp Q hp => ?_) a2 b2 c2⟩
  · unfold gSlS at h
    split at h
    · split at h <;> cases h
    · split at h <;> cases h
    · cases h
  · unfold gSlS at hp
    split at hp
    · split at hp
      · cases rp
        rename_i hz
        exact .inl ⟨_, rfl, by rw [strLen]; exact line6 hz, by rw [strCut]; exact hp _ H [] (Ex.refl H) (.str _) FpN.nil⟩
      · exact hp.elim
    · split at hp
      · exact hp.elim
      · rename_i hw
        generalize hf : ([] : List Addr) = fp at rp
        cases rp with
        | tup h n r =>
          subst hf
          refine .inr (.inr ⟨_, _, rfl, SqT.of h, by rw [r.len]; exact hw, fun p hp' => hp (.ref p) _ [] (Ex.new hp') (.tup upd_same (fun z => z.elim (w.fresh hp') fun m => nomatch m) ((r.cut lo hi).ex (Ex.new hp')).toP) FpN.nil⟩)
    · exact hp.elim
end
end DL

namespace DL
variable [Tbs]
open PySem L2

def teOf (cm : Cm) (E : XS) (b : Bool) (f : F) : TE := fun σ H Q => ∃ W r, WOk cm W H ∧ FRep cm W H σ r ∧ Post (f r) (QP cm W b H Q) (XPost cm (E σ) W H)
def ttOf (cm : Cm) (E : XS) (f : Env → Out Bool) : TT := fun σ H Q => ∃ W r, WOk cm W H ∧ FRep cm W H σ r ∧ Post (f r) (QT H Q) (XPost cm (E σ) W H)
theorem DE.pe {X : Cx} {cm : Cm} {E : XS} {b : Bool} {e : Expr} {f : F} (h : DE X cm E b e f) : PE X e (teOf cm E b f) := by
  obtain ⟨te, h1, h2⟩ := h.ex
  exact ⟨fun pins s σ H Q I ⟨W, r, w, fr, hp⟩ => h1.run pins s σ H Q I (h2 W H σ r w fr Q hp)⟩
theorem DT.pt {X : Cx} {cm : Cm} {E : XS} {e : Expr} {f : Env → Out Bool} (h : DT X cm E e f) : PT X e (ttOf cm E f) := by
  obtain ⟨te, h1, h2⟩ := h.ex
  exact ⟨fun pins s σ H Q I ⟨W, r, w, fr, hp⟩ => h1.run pins s σ H Q I (h2 W H σ r w fr Q hp)⟩

def Later (cm : Cm) (W : Addr → Prop) (H1 : Hp) (W' : Addr → Prop) (H2 : Hp) : Prop := (∀ a, W' a → W a ∨ H1 a = none) ∧ (∀ a o, H1 a = some o → ¬ W a → (t : isTb o = false := by rfl) → H2 a = some o) ∧ WOk cm W' H2
def IsIt (cm : Cm) (J : It) (items : List D) (W : Addr → Prop) (H1 : Hp) : Prop := ∀ W' H2 i, Later cm W H1 W' H2 → (∀ d, items[i]? = some d → J.go i H2 ∧ ∀ x H3, J.yld i H2 x H3 → Ex H2 H3 ∧ Rep cm W' H3 x d []) ∧ (items[i]? = none → J.stop i H2)
theorem Later.refl {cm : Cm} {W : Addr → Prop} {H : Hp} (w : WOk cm W H) : Later cm W H W H := ⟨fun _ h => .inl h, fun _ _ h _ _ => h, w⟩
structure DI (X : Cx) (cm : Cm) (E : XS) (tg iter : Expr) (f : Env → Out (List D)) : Prop where
  ex : ∃ wi, PI X tg iter wi ∧ ∀ W H σ r, WOk cm W H → FRep cm W H σ r → ∀ R, Post (f r) (fun items => ∀ J H1, Ex H H1 → IsIt cm J items W H1 → R J H1) (XPost cm (E σ) W H) → wi σ H R
theorem Rep.later {cm : Cm} {W W' : Addr → Prop} {H1 H2 : Hp} {v : V} {d : D} (h : Rep cm W H1 v d []) (l : Later cm W H1 W' H2) : Rep cm W' H2 v d [] := h.move l.1 fun a o q t w => by
  rcases w with w | w
  · exact l.2.1 a o q w t
  · cases w

section
variable {X : Cx} {cm : Cm} {E : XS} {b : Bool} {pos : Pos} {a c tg : Expr} {fa fb : F}
def iL (f : F) : Env → Out (List D) := fun r => (f r).bind fun d => match d with
  | .lst _ xs => .ok xs
  | _ => .bad
theorem di_list (ha : DE X cm E false a fa) : DI X cm E tg a (iL fa) := by
  obtain ⟨ta, h1, h2⟩ := ha.ex
  refine ⟨_, pi_list h1, fun W H σ r w fr R hp => h2 W H σ r w fr _ (hp.bind.mono (fun d q v H1 fp e1 r1 f1 => ?_) fun _ _ z => z)⟩
  split at q
  · cases (show fp = [] from f1)
    generalize hf : ([] : List Addr) = fp at r1
    cases r1 with
    | lstO => cases hf
    | lstF h n rs =>
      have n := fun z => n (.inl z)
      refine ⟨_, rfl, ⟨_, SqL.of h⟩, q _ H1 e1 fun W' H2 i l => ?_⟩
      have h2' := l.2.1 _ _ h n
      refine ⟨fun d hd => ?_, fun hd => ⟨_, SqL.of h2', by rw [rs.len]; exact List.getElem?_eq_none_iff.mp hd⟩⟩
      obtain ⟨u, hu, ru⟩ := rs.at rfl hd
      refine ⟨⟨_, _, SqL.of h2', hu⟩, fun x H3 y => ?_⟩
      obtain ⟨rfl, y⟩ := y
      have := y _ (SqL.of h2')
      rw [hu] at this
      cases this
      exact ⟨Ex.refl _, ru.ofP.later l⟩
  · exact q.elim
def iT (f : F) : Env → Out (List D) := fun r => (f r).bind fun d => match d with
  | .tup xs => .ok xs
  | _ => .bad
def iS (f : F) : Env → Out (List D) := fun r => (f r).bind fun d => match d with
  | .str cs => .ok (cs.map fun c => .str [c])
  | _ => .bad
theorem di_str (ha : DE X cm E false a fa) : DI X cm E tg a (iS fa) := by
  obtain ⟨ta, h1, h2⟩ := ha.ex
  refine ⟨_, pi_str h1, fun W H σ r w fr R hp => h2 W H σ r w fr _ (hp.bind.mono (fun d q v H1 fp e1 r1 f1 => ?_) fun _ _ z => z)⟩
  split at q
  · cases r1
    rename_i cs
    refine ⟨_, rfl, q _ H1 e1 fun W' H2 i l => ⟨fun d hd => ?_, fun hd => ?_⟩⟩
    · rw [List.getElem?_map] at hd
      obtain ⟨c, hc, rfl⟩ := Option.map_eq_some_iff.mp hd
      have hi : i < cs.length := (List.getElem?_eq_some_iff.mp hc).1
      refine ⟨by show i < cs.toArray.size; simpa using hi, fun x H3 y => ?_⟩
      obtain ⟨rfl, c', hc', rfl⟩ := y
      have : cs[i]? = some c' := by simpa using hc'
      rw [hc] at this
      cases this
      exact ⟨Ex.refl _, .str [c]⟩
    · rw [List.getElem?_map, Option.map_eq_none_iff] at hd
      show cs.toArray.size ≤ i
      simpa using List.getElem?_eq_none_iff.mp hd
  · exact q.elim
def rng (lo : Int) (n : Nat) : List D := (List.range n).map fun i => .int (lo + (i : Nat))
theorem isIt_rng {lo : Int} {n : Nat} {W : Addr → Prop} {H1 : Hp} : IsIt cm (Itr lo n) (rng lo n) W H1 := fun W' H2 i l => by
  refine ⟨fun d hd => ?_, fun hd => ?_⟩
  · unfold rng at hd
    rw [List.getElem?_map] at hd
    obtain ⟨k, hk, rfl⟩ := Option.map_eq_some_iff.mp hd
    have hi : i < n := by
      have := (List.getElem?_eq_some_iff.mp hk).1
      simpa using this
    have hk' : k = i := by
      rw [List.getElem?_range hi] at hk
      exact (Option.some.inj hk).symm
    subst hk'
    refine ⟨hi, fun x H3 y => ?_⟩
    obtain ⟨rfl, rfl⟩ := y
    exact ⟨Ex.refl _, .int _⟩
  · unfold rng at hd
    rw [List.getElem?_map, Option.map_eq_none_iff] at hd
    have := List.getElem?_eq_none_iff.mp hd
    show n ≤ i
    simpa using this
def iR1 (fs : Env → Out (List D)) : Env → Out (List D) := fun r => (fs r).bind fun ds => match ds with
  | [.int j] => if -1000000 ≤ j ∧ j ≤ 1000000 then .ok (rng 0 j.toNat) else .bad
  | _ => .bad
def iR2 (fs : Env → Out (List D)) : Env → Out (List D) := fun r => (fs r).bind fun ds => match ds with
  | [.int i, .int j] => if (-1000000 ≤ i ∧ i ≤ 1000000) ∧ -1000000 ≤ j ∧ j ≤ 1000000 then .ok (rng i (j - i).toNat) else .bad
  | _ => .bad
theorem di_range1 {p : Pos} {fs : Env → Out (List D)} (hg : Gl X "range") (hm : X.mg "range" = none) (ha : DA X cm E false [a] fs) (hs : starEach [a] X.env = [(false, eval a X.env)] := by rfl) : DI X cm E tg (.Call (.Name "range" p) [a] [] pos) (iR1 fs) := by
  obtain ⟨ta, h1, h2⟩ := ha.ex
  refine ⟨_, pi_range1 hg hm h1 hs, fun W H σ r w fr R hp => h2 W H σ r w fr _ (hp.bind.mono (fun ds q vs H1 fp e1 r1 f1 => ?_) fun _ _ z => z)⟩
  split at q
  · split at q
    · rename_i hz
      cases r1 with
      | cons k1 k2 =>
        cases k1; cases k2
        exact ⟨_, rfl, by omega, by omega, q _ H1 e1 isIt_rng⟩
    · exact q.elim
  · exact q.elim
structure DG (X : Cx) (cm : Cm) (tg : Expr) (ts : List Nat) (g : D → Env → Out Env) : Prop where
  ex : ∃ t, PG X tg t ∧ ∀ W H σ r v d, FRep cm W H σ r → Rep cm W H v d [] → ∀ Q : St → Hp → Prop, Post (g d r) (fun r' => ∀ σ', FRep cm W H σ' r' → wipe σ' ts = wipe σ ts → Q σ' H) noX → t v σ H Q
structure DGs (X : Cx) (cm : Cm) (tgs : List Expr) (ts : List Nat) (g : List D → Env → Out Env) : Prop where
  ex : ∃ t, PGs X tgs t ∧ ∀ W H σ r vs ds, FRep cm W H σ r → Reps cm W H vs ds [] → ∀ Q : St → Hp → Prop, Post (g ds r) (fun r' => ∀ σ', FRep cm W H σ' r' → wipe σ' ts = wipe σ ts → Q σ' H) noX → t vs σ H Q
def sN (i : Nat) : D → Env → Out Env := fun d r => if i < r.length then .ok (r.set i (some d)) else .bad
def sNil : List D → Env → Out Env := fun ds r => match ds with
  | [] => .ok r
  | _ => .bad
def sCons (g : D → Env → Out Env) (h : List D → Env → Out Env) : List D → Env → Out Env := fun ds r => match ds with
  | d :: ds => (g d r).bind fun r1 => h ds r1
  | [] => .bad
def sT (n : Nat) (g : List D → Env → Out Env) : D → Env → Out Env := fun d r => match d with
  | .tup ds => if ds.length = n then g ds r else .bad
  | _ => .bad
theorem FRep.set {W : Addr → Prop} {H : Hp} {σ : St} {r : Env} {v : V} {d : D} (fr : FRep cm W H σ r) (rp : Rep cm W H v d []) (i : Nat) : FRep cm W H (σ.set i (some v)) (r.set i (some d)) := by
  refine ⟨by rw [List.length_set, List.length_set, fr.1], fun j d' h => ?_⟩
  rw [List.getElem?_set] at h ⊢
  by_cases e : i = j
  · subst e
    rw [if_pos rfl] at h ⊢
    split at h
    · rename_i hl
      cases h
      rw [if_pos (by rw [fr.1]; exact hl)]
      exact ⟨v, rfl, rp⟩
    · cases h
  · rw [if_neg e] at h ⊢
    exact fr.2 j d' h
theorem wipe_set {σ : St} {i : Nat} {x : Option V} : ∀ {ts : List Nat}, i ∈ ts → wipe (σ.set i x) ts = wipe σ ts
  | [], h => nomatch h
  | t :: ts, h => by
    show (wipe (σ.set i x) ts).set t none = (wipe σ ts).set t none
    by_cases e : i ∈ ts
    · rw [wipe_set e]
    · have : i = t := (List.mem_cons.mp h).resolve_right e
      subst this
      clear h
      have gen : ∀ ts : List Nat, i ∉ ts → wipe (σ.set i x) ts = (wipe σ ts).set i x := by
        intro ts
        induction ts with
        | nil => intro _; rfl
        | cons u us ih =>
          intro hu
          have h1 : i ≠ u := fun z => hu (by simp [z])
          have h2 : i ∉ us := fun z => hu (by simp [z])
          show (wipe (σ.set i x) us).set u none = ((wipe σ us).set u none).set i x
          rw [ih h2, List.set_comm _ _ h1]
      rw [gen ts e, List.set_set]
theorem wipe_sub {σ σ' : St} {us : List Nat} : ∀ {ts : List Nat}, wipe σ' us = wipe σ us → (∀ i ∈ us, i ∈ ts) → wipe σ' ts = wipe σ ts := by
  have gen : ∀ (ts : List Nat) (τ : St) (j : Nat), (wipe τ ts)[j]? = if j ∈ ts ∧ j < τ.length then some none else τ[j]? := by
    intro ts τ j
    induction ts with
    | nil => simp [wipe]
    | cons t ts ih =>
      show ((wipe τ ts).set t none)[j]? = _
      rw [List.getElem?_set, wipe_length]
      by_cases e : t = j
      · subst e
        simp
        split
        · rfl
        · rename_i h
          rw [List.getElem?_eq_none (by omega)]
      · rw [if_neg e, ih]
        have : j ≠ t := fun z => e z.symm
        simp [this]
  intro ts h hs
  have hl : σ'.length = σ.length := by
    have := congrArg List.length h
    rwa [wipe_length, wipe_length] at this
  apply List.ext_getElem?
  intro j
  rw [gen, gen, hl]
  by_cases hj : j ∈ ts ∧ j < σ.length
  · rw [if_pos hj, if_pos hj]
  · rw [if_neg hj, if_neg hj]
    have h2 := congrArg (fun l : St => l[j]?) h
    simp only [gen, hl] at h2
    by_cases hu : j ∈ us ∧ j < σ.length
    · exact absurd ⟨hs j hu.1, hu.2⟩ hj
    · rw [if_neg hu, if_neg hu] at h2
      exact h2
theorem dg_name (i : Nat) {x : Str} (hN : X.N.Nodup) (hi : X.N[i]? = some x := by rfl) (hx : Loc X.env.scope x := by first | exact Or.inl rfl | exact Or.inr rfl) (hf : X.fn x = true ∨ X.env.scope.names.lookup x = some .local := by first | exact .inl rfl | exact .inr rfl | assumption) : DG X cm (.Name x pos) [i] (sN i) := by
  refine ⟨_, pg_name hN hi hx hf, fun W H σ r v d fr rp Q hp => ?_⟩
  unfold sN at hp
  split at hp
  · exact hp _ (fr.set rp i) (wipe_set (by simp))
  · exact hp.elim
theorem dgs_nil : DGs X cm [] [] sNil := by
  refine ⟨_, pgs_nil, fun W H σ r vs ds fr rp Q hp => ?_⟩
  unfold sNil at hp
  split at hp
  · cases rp
    exact ⟨rfl, hp σ fr rfl⟩
  · exact hp.elim
theorem dgs_cons {e : Expr} {es : List Expr} {ts us : List Nat} {g : D → Env → Out Env} {h : List D → Env → Out Env} (h1 : DG X cm e ts g) (h2 : DGs X cm es us h)
    (hs : (assignEach (e :: es) X.env).map (·.2) = assign e X.env :: (assignEach es X.env).map (·.2) := by rfl) : DGs X cm (e :: es) (ts ++ us) (sCons g h) := by
  obtain ⟨t, a1, a2⟩ := h1.ex
  obtain ⟨u, b1, b2⟩ := h2.ex
  refine ⟨_, pgs_cons a1 b1 hs, fun W H σ r vs ds fr rp Q hp => ?_⟩
  unfold sCons at hp
  split at hp
  · generalize hf : ([] : List Addr) = fp at rp
    cases rp with
    | cons k1 k2 =>
      obtain ⟨rfl, rfl⟩ := app_nil hf
      refine ⟨_, _, rfl, a2 W H σ r _ _ fr k1 _ (hp.bind.mono (fun r1 q σ1 fr1 w1 => ?_) fun _ _ z => z)⟩
      refine b2 W H σ1 r1 _ _ fr1 k2 _ (q.mono (fun r2 q2 σ2 fr2 w2 => q2 σ2 fr2 ?_) fun _ _ z => z)
      rw [wipe_sub w2 (fun i hi => List.mem_append_right _ hi), wipe_sub w1 (fun i hi => List.mem_append_left _ hi)]
  · exact hp.elim
theorem dg_tup {es : List Expr} {k : Nat} {ts : List Nat} {g : List D → Env → Out Env} {n : Nat} (hc : X.calm = true) (h : DGs X cm es ts g) (hn : (assignEach es X.env).length = n := by rfl) (hst : (assignEach es X.env).findIdx? (·.1) = none := by rfl) : DG X cm (.Tuple es k pos) ts (sT n g) := by
  obtain ⟨t, a1, a2⟩ := h.ex
  refine ⟨_, pg_tup hc a1 hn hst, fun W H σ r v d fr rp Q hp => ?_⟩
  unfold sT at hp
  split at hp
  · split at hp
    · rename_i hl
      generalize hf : ([] : List Addr) = fp at rp
      cases rp with
      | tup h n rs =>
        subst hf
        exact ⟨_, _, rfl, SqT.of h, by rw [rs.len]; exact hl, a2 W H σ r _ _ fr rs Q hp⟩
    · exact hp.elim
  · exact hp.elim
def tgOf (cm : Cm) (ts : List Nat) (g : D → Env → Out Env) : TG := fun v σ H Q => ∃ W r d, FRep cm W H σ r ∧ Rep cm W H v d [] ∧ Post (g d r) (fun r' => ∀ σ', FRep cm W H σ' r' → wipe σ' ts = wipe σ ts → Q σ' H) noX
theorem DG.pg {ts : List Nat} {g : D → Env → Out Env} (h : DG X cm tg ts g) : PG X tg (tgOf cm ts g) := by
  obtain ⟨t, a1, a2⟩ := h.ex
  exact ⟨fun pins s σ H v u Q I r ⟨W, rr, d, fr, rp, hp⟩ => a1.run pins s σ H v u Q I r (a2 W H σ rr v d fr rp Q hp)⟩

structure DTs (X : Cx) (cm : Cm) (E : XS) (es : List Expr) (f : Env → Out Bool) : Prop where
  ex : ∃ te, PTs X es te ∧ TCon cm E te f
def tYes' : Env → Out Bool := fun _ => .ok true
theorem dts_nil : DTs X cm E [] tYes' := ⟨_, pts_nil, fun W H σ r w fr Q hp => hp H (Ex.refl H)⟩
theorem dts_one {f : Env → Out Bool} (h : DT X cm E a f) : DTs X cm E [a] f := by
  obtain ⟨te, h1, h2⟩ := h.ex
  exact ⟨_, pts_one h1, h2⟩
theorem DTs.pts {es : List Expr} {f : Env → Out Bool} (h : DTs X cm E es f) : PTs X es (ttOf cm E f) := by
  obtain ⟨te, h1, h2⟩ := h.ex
  exact ⟨fun pins s σ H Q I ⟨W, r, w, fr, hp⟩ => h1.run pins s σ H Q I (h2 W H σ r w fr Q hp)⟩
def wipeE (r : Env) : List Nat → Env
  | [] => r
  | v :: vs => (wipeE r vs).set v none
def turn (vs : List Nat) (g : D → Env → Out Env) (tt : Env → Out Bool) (el : F) (r : Env) (d : D) : Out (Option D) :=
  (g d (wipeE r vs)).bind fun r2 => (tt r2).bind fun b => if b = true then (el r2).bind fun y => .ok (some y) else .ok none
def turns (h : D → Out (Option D)) : List D → Out (List D)
  | [] => .ok []
  | d :: ds => (h d).bind fun o => (turns h ds).bind fun ys => .ok (match o with | some y => y :: ys | none => ys)
def safe {α : Type} : Out α → Out α
  | .ok a => .ok a
  | _ => .bad
theorem Post.safe {α : Type} {o : Out α} {q : α → Prop} {e : Xc → Env → Prop} (h : Post (DL.safe o) q e) : Post o q DL.noX := by
  cases o <;> exact h
def cLc (it : Env → Out (List D)) (vs : List Nat) (g : D → Env → Out Env) (tt : Env → Out Bool) (el : F) : F := fun r => (it r).bind fun ds => if ds.length ≤ 1000000 then (safe (turns (turn vs g tt el r) ds)).bind fun ys => .ok (.lst true ys) else .bad
theorem FRep.wipe {W : Addr → Prop} {H : Hp} {σ : St} {r : Env} (fr : FRep cm W H σ r) : ∀ vs : List Nat, FRep cm W H (L2.wipe σ vs) (wipeE r vs)
  | [] => fr
  | v :: vs => by
    have ih := FRep.wipe fr vs
    refine ⟨by show ((L2.wipe σ vs).set v none).length = ((wipeE r vs).set v none).length; rw [List.length_set, List.length_set, ih.1], fun j d h => ?_⟩
    have h : ((wipeE r vs).set v none)[j]? = some (some d) := h
    show ∃ u, ((L2.wipe σ vs).set v none)[j]? = some (some u) ∧ _
    rw [List.getElem?_set] at h ⊢
    by_cases e : v = j
    · rw [if_pos e] at h
      split at h <;> cases h
    · rw [if_neg e] at h ⊢
      exact ih.2 j d h
theorem wipe_wipe (σ : St) (vs : List Nat) : wipe (wipe σ vs) vs = wipe σ vs := by
  have gen : ∀ (us : List Nat) (τ : St), (∀ i ∈ us, i ∈ vs) → wipe (wipe τ us) vs = wipe τ vs := by
    intro us
    induction us with
    | nil => intro τ _; rfl
    | cons u us ih =>
      intro τ h
      show wipe ((wipe τ us).set u none) vs = wipe τ vs
      rw [wipe_set (h u (by simp)), ih τ fun i hi => h i (by simp [hi])]
  exact gen vs σ fun _ h => h
abbrev E0' : XS := fun _ _ _ _ => False
theorem lc_con {ts : List Nat} {it : Env → Out (List D)} {g : D → Env → Out Env} {tt : Env → Out Bool} {el : F} {wi : TI} (i2 : ∀ W H σ r, WOk cm W H → FRep cm W H σ r → ∀ R, Post (it r) (fun items => ∀ J H1, Ex H H1 → IsIt cm J items W H1 → R J H1) (XPost cm (E σ) W H) → wi σ H R) :
    ECon cm E true (tLc wi (tgOf cm ts g) (ttOf cm E0' tt) (teOf cm E0' true el) ts) (cLc it ts g tt el) := by
  intro W H σ r w fr Q hp
  refine i2 W H σ r w fr _ (hp.bind.mono (fun ds q J H1 e1 isit => ?_) fun _ _ z => z)
  split at q
  case isFalse => exact q.elim
  rename_i hlen
  intro Dl hD
  have q := (Post.bind q).safe
  let W2 : List Addr → Addr → Prop := fun fp a => W a ∨ a = Dl ∨ a ∈ fp
  have hW2 : ∀ fp, FpN true H1 fp → ∀ a, W2 fp a → W a ∨ H1 a = none := fun fp hf a z => by
    rcases z with z | z | z
    · exact .inl z
    · exact .inr (by rw [z]; exact hD)
    · exact .inr (hf.2 a z)
  have ag : ∀ H2 fp, Ex H1 H2 → (∃ vs, H2 Dl = some (.lst vs)) → FpN true H1 fp → (∀ a ∈ fp, MutAt H2 a) → Later cm W H1 (W2 fp) H2 := fun H2 fp e2 hv hf hm => ⟨hW2 fp hf, fun a o z _ t => e2.get a o z t, fun a z => by
    rcases z with z | z | z
    · exact ((w.ex e1).ex e2).1 a z
    · obtain ⟨vs, hv⟩ := hv
      rw [z]
      exact ⟨_, hv, rfl⟩
    · exact hm a z, ((w.ex e1).ex e2).2⟩
  have frW : ∀ H2 fp, Ex H1 H2 → FpN true H1 fp → FRep cm (W2 fp) H2 (wipe σ ts) (wipeE r ts) := fun H2 fp e2 hf => by
    have f1 := (fr.wipe ts).ex e1
    refine ⟨f1.1, fun i d h => ?_⟩
    obtain ⟨v, k1, k2⟩ := f1.2 i d h
    exact ⟨v, k1, k2.move (hW2 fp hf) fun a o z t _ => e2.get a o z t⟩
  refine ⟨fun i m H' => m = ds.length - i ∧ i ≤ ds.length ∧ Ex H1 H' ∧ ∃ ys vs fp, ys.length ≤ i ∧ H' Dl = some (.lst vs) ∧ Reps cm (W2 fp) H' vs ys fp ∧ FpN true H1 fp ∧ Dl ∉ fp ∧
      Post (turns (turn ts g tt el r) (ds.drop i)) (fun zs => QP cm W true H Q (.lst true (ys ++ zs))) noX, ⟨ds.length, by simp, Nat.zero_le _, Ex.new hD, [], [], [], Nat.le_refl _, upd_same, .nil, FpN.nil, by simp, q⟩, ?_⟩
  rintro i m H' ⟨rfl, hi, e2, ys, vs, fp, hy, hDl, hr, hf, hDf, hq⟩
  have hl := ag H' fp e2 ⟨_, hDl⟩ hf fun a m => hr.own a m
  by_cases hlt : i < ds.length
  · right
    obtain ⟨d, hd⟩ : ∃ d, ds[i]? = some d := ⟨ds[i], by simp [hlt]⟩
    obtain ⟨go, yl⟩ := (isit (W2 fp) H' i hl).1 d hd
    refine ⟨go, fun H5 => Ex H1 H5 ∧ ∃ ys vs fp, ys.length ≤ i + 1 ∧ H5 Dl = some (.lst vs) ∧ Reps cm (W2 fp) H5 vs ys fp ∧ FpN true H1 fp ∧ Dl ∉ fp ∧
      Post (turns (turn ts g tt el r) (ds.drop (i + 1))) (fun zs => QP cm W true H Q (.lst true (ys ++ zs))) noX, fun H5 h5 => ⟨ds.length - (i + 1), by omega, rfl, hlt, h5⟩, fun x H3 y => ?_⟩
    obtain ⟨e3, r3⟩ := yl x H3 y
    have w3 : WOk cm (W2 fp) H3 := (hl.2.2).ex e3
    have eH : Ex H1 H3 := e2.trans e3
    have hdrop : ds.drop i = d :: ds.drop (i + 1) := by
      rw [List.drop_eq_getElem_cons hlt]
      congr 1
      have := List.getElem?_eq_getElem hlt
      rw [this] at hd
      exact Option.some.inj hd
    rw [hdrop] at hq
    have hq := Post.bind hq
    refine ⟨W2 fp, wipeE r ts, d, frW H3 fp (e2.trans e3) hf, r3, (Post.bind hq).mono (fun r2 q2 σ2 fr2 w2 => ⟨by rw [w2, wipe_wipe], ?_⟩) fun _ _ z => z⟩
    refine ⟨W2 fp, r2, w3, fr2, (Post.bind q2).mono (fun bb q3 H4 e4 => ?_) fun _ _ z => z.elim⟩
    cases bb with
    | false =>
      refine ⟨(e2.trans e3).trans e4, ys, vs, fp, by omega, e4 _ _ (e3 _ _ hDl), (hr.ex e3).ex e4, hf, hDf, ?_⟩
      exact (Post.bind q3).mono (fun zs z => z) fun _ _ z => z
    | true =>
      refine ⟨W2 fp, r2, w3.ex e4, fr2.ex e4, (Post.bind (o := el r2) q3).mono (fun y q4 v5 H5 fp5 e5 r5 f5 => ?_) fun _ _ z => z.elim⟩
      have hD5 : H5 Dl = some (.lst vs) := e5 _ _ (e4 _ _ (e3 _ _ hDl))
      have hvl := hr.len
      refine ⟨vs, hD5, Nat.lt_of_lt_of_le (show vs.length < 1000000 by omega) (by decide), ?_⟩
      have hnD : ∀ a ∈ fp5, a ≠ Dl := fun a m z => by
        subst z
        have := f5.2 _ m
        rw [e4 _ _ (e3 _ _ hDl)] at this
        cases this
      have nDn : ∀ a ∈ fp ++ fp5, a ≠ Dl := fun a m z => by
        rcases List.mem_append.mp m with m | m
        · subst z; exact hDf m
        · exact hnD a m z
      refine ⟨Ex.updM (((e2.trans e3).trans e4).trans e5) hD ⟨_, ((e3.trans e4).trans e5) _ _ hDl, rfl⟩, ys ++ [y], vs ++ [v5], fp ++ fp5, by simp; omega, upd_same, ?_, ?_, ?_, ?_⟩
      · have keep : ∀ a o, H5 a = some o → isTb o = false → (¬ W2 (fp ++ fp5) a ∨ a ∈ fp ++ fp5) → upd H5 Dl (.lst (vs ++ [v5])) a = some o := fun a o z _ c => by
          rw [upd_ne]
          · exact z
          · rcases c with c | c
            · exact fun q => c (.inr (.inl q))
            · exact nDn a c
        have up : ∀ a, W2 (fp ++ fp5) a → W2 fp a ∨ a ∈ fp5 := fun a z => by
          rcases z with z | z | z
          · exact .inl (.inl z)
          · exact .inl (.inr (.inl z))
          · rcases List.mem_append.mp z with z | z
            · exact .inl (.inr (.inr z))
            · exact .inr z
        have h1 : Reps cm (W2 (fp ++ fp5)) H5 vs ys fp := ((hr.ex e3).ex e4).move (fun a z => (up a z).imp id (f5.2 a)) fun a o z t _ => e5.get a o z t
        have h2 : Rep cm (W2 (fp ++ fp5)) H5 v5 y fp5 := r5.move (fun a z => .inl (up a z)) fun _ _ z _ _ => z
        have all : Reps cm (W2 (fp ++ fp5)) H5 (vs ++ [v5]) (ys ++ [y]) (fp ++ (fp5 ++ [])) := Reps.app h1 (.cons h2 .nil)
        rw [List.append_nil] at all
        exact all.move (fun a z => .inl z) keep
      · exact fpN_app hf (fun a m => (((hr.ex e3).ex e4).own a m).there) (eH.trans e4) f5
      · exact fun m => nDn _ m rfl
      · refine (Post.bind q4).mono (fun zs z => ?_) fun _ _ z => z
        rw [List.append_assoc]
        exact z
  · left
    have e : i = ds.length := by omega
    subst e
    refine ⟨(isit (W2 fp) H' _ hl).2 (by simp), ?_⟩
    rw [List.drop_length] at hq
    have hq : QP cm W true H Q (.lst true (ys ++ [])) := hq
    rw [List.append_nil] at hq
    refine hq (.ref Dl) H' (Dl :: fp) (e1.trans e2) (.lstO hDl (hr.move (fun a z => .inl ?_) fun a o z _ _ => z)) ⟨List.nodup_cons.mpr ⟨hDf, hf.1⟩, fun a m => ?_⟩
    · rcases z with z | z
      · exact .inl z
      · exact .inr (List.mem_cons.mp z)
    · rcases List.mem_cons.mp m with rfl | m
      · exact e1.back hD
      · exact e1.back (hf.2 a m)
theorem de_lc {elt iter : Expr} {ifs : List Expr} {scope : Scope} {own : List (Str × Nat)} {ts : List Nat} {it : Env → Out (List D)} {g : D → Env → Out Env} {tt : Env → Out Bool} {el : F} (hc : X.calm = true) (hN : X.N.Nodup) (hi : DI X cm E tg iter it) (ok : BlkOk X.N X.env.scope scope own) (hts : own.map (·.2) = ts)
    (hg : ∀ (s : Shared) (H : Hp) (C : Addr) (cl : List (Str × Addr)) (fp : List Addr), DG (X.blk s H scope (compEnvC scope cl C X.env) fp) cm tg ts g) (ht : ∀ (s : Shared) (H : Hp) (C : Addr) (cl : List (Str × Addr)) (fp : List Addr), DTs (X.blk s H scope (compEnvC scope cl C X.env) fp) cm E0' ifs tt)
    (he : ∀ (s : Shared) (H : Hp) (C : Addr) (cl : List (Str × Addr)) (fp : List Addr), DE (X.blk s H scope (compEnvC scope cl C X.env) fp) cm E0' true elt el) (hs : ∀ x, foldedSetIterable iter X.env x = pure x := by intro _; rfl) :
    DE X cm E true (.ListComp elt [⟨tg, iter, ifs, 0⟩] scope pos) (cLc it ts g tt el) := by
  obtain ⟨wi, i1, i2⟩ := hi.ex
  refine ⟨_, pe_lc hc hN i1 ok (fun s H C cl fp => (hg s H C cl fp).pg) (fun s H C cl fp => (ht s H C cl fp).pts) (fun s H C cl fp => (he s H C cl fp).pe) hs, ?_⟩
  rw [hts]
  exact lc_con i2
end
end DL

namespace DL
variable [Tbs]
open PySem L2

abbrev Fps := Nat → List Addr
abbrev Wof (W0 : Addr → Prop) (fps : Fps) : Addr → Prop := fun a => W0 a ∨ ∃ j, a ∈ fps j
structure Good (cm : Cm) (W0 : Addr → Prop) (H : Hp) (σ : St) (r : Env) (fps : Fps) : Prop where
  len : σ.length = r.length
  w0 : WOk cm W0 H
  sl : ∀ (i : Nat) d, r[i]? = some (some d) → ∃ v, σ[i]? = some (some v) ∧ Rep cm (Wof W0 fps) H v d (fps i)
  nd : ∀ i, (fps i).Nodup
  dj : ∀ i j a, a ∈ fps i → a ∈ fps j → i = j
  nw : ∀ i a, a ∈ fps i → ¬ W0 a
  mu : ∀ i a, a ∈ fps i → MutAt H a
structure Fram (H : Hp) (fps : Fps) (H' : Hp) (fps' : Fps) (fpv : List Addr) : Prop where
  keep : ∀ a o, H a = some o → (∀ i, a ∉ fps i) → (t : isTb o = false := by rfl) → H' a = some o
  old : ∀ i a, a ∈ fps' i → (∃ j, a ∈ fps j) ∨ H a = none
  oldv : ∀ a ∈ fpv, (∃ j, a ∈ fps j) ∨ H a = none
  back : ∀ a, H' a = none → H a = none
  tb : LamX.Tabs Tbs.T H → LamX.Tabs Tbs.T H'
theorem Fram.refl (H : Hp) (fps : Fps) : Fram H fps H fps [] := ⟨fun _ _ h _ _ => h, fun i a h => .inl ⟨i, h⟩, fun _ h => (nomatch h), fun _ h => h, fun h => h⟩
theorem Fram.of_ex {H H' : Hp} {fps : Fps} {fpv : List Addr} (e : Ex H H') (hf : ∀ a ∈ fpv, H a = none) : Fram H fps H' fps fpv := ⟨fun a o h _ t => e.get a o h t, fun i a h => .inl ⟨i, h⟩, fun a m => .inr (hf a m), fun _ h => e.back h, e.tb⟩
theorem Fram.trans {H H1 H2 : Hp} {fps f1 f2 : Fps} {v1 v2 : List Addr} (a : Fram H fps H1 f1 v1) (b : Fram H1 f1 H2 f2 v2) : Fram H fps H2 f2 v2 where
  keep := fun c o h n t => b.keep c o (a.keep c o h n t) (fun i m => by
    rcases a.old i c m with ⟨j, q⟩ | q
    · exact n j q
    · rw [h] at q; cases q) t
  tb := fun h => b.tb (a.tb h)
  old := fun i c m => by
    rcases b.old i c m with ⟨j, q⟩ | q
    · exact a.old j c q
    · exact .inr (a.back c q)
  oldv := fun c m => by
    rcases b.oldv c m with ⟨j, q⟩ | q
    · exact a.old j c q
    · exact .inr (a.back c q)
  back := fun c h => a.back c (b.back c h)
theorem Fram.addv {H H1 : Hp} {fps f1 : Fps} {v1 v2 : List Addr} (a : Fram H fps H1 f1 v1) (h : ∀ c ∈ v2, (∃ j, c ∈ fps j) ∨ H c = none) : Fram H fps H1 f1 v2 := ⟨@Fram.keep _ _ _ _ _ _ a, a.old, h, a.back, a.tb⟩

abbrev FX := Env → Out (D × Env)
abbrev QX (cm : Cm) (W0 : Addr → Prop) (H : Hp) (σ : St) (fps : Fps) (Q : VK) : D × Env → Prop := fun p => ∀ v H' fps' fpv, Good cm (Wp W0 fpv) H' σ p.2 fps' → Rep cm (Wof (Wp W0 fpv) fps') H' v p.1 fpv → fpv.Nodup → (∀ a ∈ fpv, ¬ W0 a) → Fram H fps H' fps' fpv → Q v H'
abbrev QXT (cm : Cm) (W0 : Addr → Prop) (H : Hp) (σ : St) (fps : Fps) (Q : Bool → Hp → Prop) : Bool × Env → Prop := fun p => ∀ H' fps', Good cm W0 H' σ p.2 fps' → Fram H fps H' fps' [] → Q p.1 H'
abbrev QXA (cm : Cm) (W0 : Addr → Prop) (H : Hp) (σ : St) (fps : Fps) (Q : List V → Hp → Prop) : List D × Env → Prop := fun p => ∀ vs H' fps' fpv, Good cm (Wp W0 fpv) H' σ p.2 fps' → Reps cm (Wof (Wp W0 fpv) fps') H' vs p.1 fpv → fpv.Nodup → (∀ a ∈ fpv, ¬ W0 a) → Fram H fps H' fps' fpv → Q vs H'
def XX (cm : Cm) (E : XS) (W0 : Addr → Prop) (H : Hp) (σ : St) (fps : Fps) : Xc → Env → Prop := fun x r' => ∀ H' fps' dx, Good cm W0 H' σ r' fps' → Fram H fps H' fps' [] → XRep cm (Wof W0 fps') H' x dx → E σ (.ref (cm.cl x.cls)) dx H'
structure XE (X : Cx) (cm : Cm) (E : XS) (e : Expr) (f : FX) : Prop where
  ex : ∃ te, PE X e te ∧ ∀ W0 H σ r fps, Good cm W0 H σ r fps → ∀ Q, Post (f r) (QX cm W0 H σ fps Q) (XX cm E W0 H σ fps) → te σ H Q
structure XT (X : Cx) (cm : Cm) (E : XS) (e : Expr) (f : Env → Out (Bool × Env)) : Prop where
  ex : ∃ te, PT X e te ∧ ∀ W0 H σ r fps, Good cm W0 H σ r fps → ∀ Q, Post (f r) (QXT cm W0 H σ fps Q) (XX cm E W0 H σ fps) → te σ H Q
structure XW (X : Cx) (cm : Cm) (E : XS) (e : Expr) (f : Env → Out (Bool × Env)) : Prop where
  ex : ∃ te, PW X e te ∧ ∀ W0 H σ r fps, Good cm W0 H σ r fps → ∀ Q, Post (f r) (QXT cm W0 H σ fps Q) (XX cm E W0 H σ fps) → te σ H Q
structure XA (X : Cx) (cm : Cm) (E : XS) (es : List Expr) (f : Env → Out (List D × Env)) : Prop where
  ex : ∃ te, PA X es te ∧ ∀ W0 H σ r fps, Good cm W0 H σ r fps → ∀ Q, Post (f r) (QXA cm W0 H σ fps Q) (XX cm E W0 H σ fps) → te σ H Q

def viewF (p : Nat → Bool) : Nat → Env → Env
  | _, [] => []
  | k, o :: r => (if p k = true then o.map frz else none) :: viewF p (k + 1) r
def frzF (p : Nat → Bool) : Nat → Env → Env
  | _, [] => []
  | k, o :: r => (if p k = true then o.map frz else o) :: frzF p (k + 1) r
abbrev view (ns : List Nat) (r : Env) : Env := viewF (fun k => ns.contains k) 0 r
abbrev frzN (ns : List Nat) (r : Env) : Env := frzF (fun k => ns.contains k) 0 r
theorem viewF_get (p : Nat → Bool) : ∀ (r : Env) (k i : Nat), (viewF p k r)[i]? = (r[i]?).map fun o => if p (k + i) = true then o.map frz else none
  | [], k, i => by simp [viewF]
  | o :: r, k, 0 => by simp [viewF]
  | o :: r, k, i + 1 => by
    simp only [viewF, List.getElem?_cons_succ, viewF_get p r (k + 1) i]
    rw [show k + 1 + i = k + (i + 1) by omega]
theorem frzF_get (p : Nat → Bool) : ∀ (r : Env) (k i : Nat), (frzF p k r)[i]? = (r[i]?).map fun o => if p (k + i) = true then o.map frz else o
  | [], k, i => by simp [frzF]
  | o :: r, k, 0 => by simp [frzF]
  | o :: r, k, i + 1 => by
    simp only [frzF, List.getElem?_cons_succ, frzF_get p r (k + 1) i]
    rw [show k + 1 + i = k + (i + 1) by omega]
theorem viewF_len (p : Nat → Bool) : ∀ (r : Env) (k : Nat), (viewF p k r).length = r.length
  | [], k => rfl
  | o :: r, k => by simp [viewF, viewF_len p r]
theorem frzF_len (p : Nat → Bool) : ∀ (r : Env) (k : Nat), (frzF p k r).length = r.length
  | [], k => rfl
  | o :: r, k => by simp [frzF, frzF_len p r]
def lift (ns : List Nat) (f : F) : FX := fun r => match f (view ns r) with
  | .ok d => .ok (d, if shr d = true then frzN ns r else r)
  | .exn x _ => .exn x (if shrs x.ds = true then frzN ns r else r)
  | .bad => .bad
def liftT (ns : List Nat) (f : Env → Out Bool) : Env → Out (Bool × Env) := fun r => match f (view ns r) with
  | .ok b => .ok (b, r)
  | .exn x _ => .exn x (if shrs x.ds = true then frzN ns r else r)
  | .bad => .bad
def liftA (ns : List Nat) (f : Env → Out (List D)) : Env → Out (List D × Env) := fun r => match f (view ns r) with
  | .ok ds => .ok (ds, if shrs ds = true then frzN ns r else r)
  | .exn x _ => .exn x (if shrs x.ds = true then frzN ns r else r)
  | .bad => .bad

section
variable {X : Cx} {cm : Cm} {E : XS} {b : Bool} {pos : Pos} {W0 : Addr → Prop} {H H' : Hp} {σ : St} {r : Env} {fps : Fps}
theorem Good.wof (g : Good cm W0 H σ r fps) : WOk cm (Wof W0 fps) H := ⟨fun a z => by
  rcases z with z | ⟨j, z⟩
  · exact g.w0.1 a z
  · exact g.mu j a z, g.w0.2⟩
theorem Good.ex (g : Good cm W0 H σ r fps) (e : Ex H H') : Good cm W0 H' σ r fps where
  len := g.len
  w0 := g.w0.ex e
  sl := fun i d h => by
    obtain ⟨v, h1, h2⟩ := g.sl i d h
    exact ⟨v, h1, h2.ex e⟩
  nd := g.nd
  dj := g.dj
  nw := g.nw
  mu := fun i a m => (g.mu i a m).ex e
abbrev Wr (W0 : Addr → Prop) (fps : Fps) (ns : List Nat) : Addr → Prop := fun a => W0 a ∨ ∃ j, ns.contains j = false ∧ a ∈ fps j
theorem Wr.sub {ns : List Nat} {a : Addr} (z : Wr W0 fps ns a) : Wof W0 fps a := z.imp id fun ⟨j, _, m⟩ => ⟨j, m⟩
theorem Good.view (g : Good cm W0 H σ r fps) (ns : List Nat) : FRep cm (Wr W0 fps ns) H σ (view ns r) := by
  refine ⟨by rw [viewF_len, g.len], fun i d h => ?_⟩
  rw [viewF_get, Nat.zero_add] at h
  obtain ⟨o, h1, h2⟩ := Option.map_eq_some_iff.mp h
  split at h2
  · rename_i hc
    obtain ⟨d', rfl, rfl⟩ := Option.map_eq_some_iff.mp h2
    obtain ⟨v, q1, q2⟩ := g.sl i d' h1
    refine ⟨v, q1, q2.frz (fun a z => z.sub) fun a m z => ?_⟩
    rcases z with z | ⟨j, hj, m'⟩
    · exact g.nw i a m z
    · have := g.dj i j a m m'
      subst this
      rw [hc] at hj; cases hj
  · cases h2
theorem Good.wr (g : Good cm W0 H σ r fps) (ns : List Nat) : WOk cm (Wr W0 fps ns) H := ⟨fun a z => g.wof.1 a z.sub, g.w0.2⟩
theorem Good.addv (g : Good cm W0 H σ r fps) {fpv : List Addr} (e : Ex H H') (hf : ∀ a ∈ fpv, H a = none) (hm : ∀ a ∈ fpv, MutAt H' a) : Good cm (Wp W0 fpv) H' σ r fps where
  len := g.len
  w0 := (g.w0.ex e).p (cm := cm) hm
  sl := fun i d h => by
    obtain ⟨v, h1, h2⟩ := g.sl i d h
    refine ⟨v, h1, h2.move (fun a z => ?_) fun a o q t _ => e.get a o q t⟩
    rcases z with (z | z) | z
    · exact .inl (.inl z)
    · exact .inr (hf a z)
    · exact .inl (.inr z)
  nd := g.nd
  dj := g.dj
  nw := fun i a m z => z.elim (g.nw i a m) fun z => (g.mu i a m).there (hf a z)
  mu := fun i a m => (g.mu i a m).ex e
theorem Good.frzN (g : Good cm W0 H σ r fps) (ns : List Nat) : Good cm W0 H σ (frzN ns r) (fun j => if ns.contains j = true then [] else fps j) := by
  have sub : ∀ {j a}, a ∈ (if ns.contains j = true then [] else fps j) → ns.contains j = false ∧ a ∈ fps j := fun {j a} m => by
    split at m
    · cases m
    · rename_i h
      exact ⟨by simpa using h, m⟩
  refine ⟨by rw [frzF_len, g.len], g.w0, fun i d h => ?_, fun i => ?_, fun i j a m m' => g.dj i j a (sub m).2 (sub m').2, fun i a m => g.nw i a (sub m).2, fun i a m => g.mu i a (sub m).2⟩
  · rw [frzF_get, Nat.zero_add] at h
    obtain ⟨o, h1, h2⟩ := Option.map_eq_some_iff.mp h
    have wsub : ∀ a, Wof W0 (fun j => if ns.contains j = true then [] else fps j) a → Wof W0 fps a := fun a z => z.imp id fun ⟨j, m⟩ => ⟨j, (sub m).2⟩
    split at h2
    · rename_i hc
      obtain ⟨d', rfl, rfl⟩ := Option.map_eq_some_iff.mp h2
      obtain ⟨v, q1, q2⟩ := g.sl i d' h1
      rw [if_pos hc]
      refine ⟨v, q1, q2.frz wsub fun a m z => ?_⟩
      rcases z with z | ⟨j, m'⟩
      · exact g.nw i a m z
      · have := g.dj i j a m (sub m').2
        subst this
        have := (sub m').1
        rw [hc] at this; cases this
    · rename_i hc
      subst h2
      obtain ⟨v, q1, q2⟩ := g.sl i d h1
      rw [if_neg hc]
      exact ⟨v, q1, q2.move (fun a z => .inl (wsub a z)) fun _ _ q _ _ => q⟩
  · split
    · exact List.nodup_nil
    · exact g.nd i
theorem noW_of {W : Addr → Prop} (h : WOk cm W H) : NoW H W := fun a o e m z => by
  obtain ⟨o', h1, h2⟩ := h.1 a z
  rw [e] at h1; cases h1
  rw [m] at h2; cases h2
theorem Good.settle (g : Good cm W0 H σ r fps) (ns : List Nat) {vs : List V} {ds : List D} {fpv : List Addr} (e : Ex H H') (rp : Reps cm (Wp (Wr W0 fps ns) fpv) H' vs ds fpv) (fn : FpN true H fpv) :
    ∃ fps', Good cm (Wp W0 fpv) H' σ (if shrs ds = true then DL.frzN ns r else r) fps' ∧ Reps cm (Wof (Wp W0 fpv) fps') H' vs ds fpv ∧ (∀ a ∈ fpv, ¬ W0 a) ∧ Fram H fps H' fps' fpv := by
  have hm : ∀ a ∈ fpv, MutAt H' a := fun a m => rp.own a m
  have hw : ∀ a ∈ fpv, ¬ W0 a := fun a m z => (g.w0.1 a z).there (fn.2 a m)
  split
  · have g2 := (g.frzN ns).addv e fn.2 hm
    refine ⟨_, g2, rp.move (fun a z => ?_) fun _ _ q _ _ => q, hw, ⟨fun a o h _ t => e.get a o h t, fun i a m => ?_, fun a m => .inr (fn.2 a m), fun _ h => e.back h, e.tb⟩⟩
    · rcases z with (z | z) | ⟨j, m⟩
      · exact .inl (.inl (.inl z))
      · exact .inl (.inr z)
      · dsimp only at m
        split at m
        · cases m
        · rename_i h
          exact .inl (.inl (.inr ⟨j, by simpa using h, m⟩))
    · split at m
      · cases m
      · exact .inl ⟨i, m⟩
  · rename_i hs
    have g2 := g.addv e fn.2 hm
    exact ⟨fps, g2, rp.anyW (noW_of g2.wof) (by simpa using hs), hw, Fram.of_ex e fn.2⟩
theorem Reps.one {W : Addr → Prop} {v : V} {d : D} {fp : List Addr} (h : Rep cm W H v d fp) : Reps cm W H [v] [d] fp := by
  have := Reps.cons h (Reps.nil (cm := cm) (W := W) (H := H))
  rwa [List.append_nil] at this
theorem Reps.the {W : Addr → Prop} {v : V} {d : D} {fp : List Addr} (h : Reps cm W H [v] [d] fp) : Rep cm W H v d fp := by
  cases h with
  | cons h1 h2 =>
    cases h2
    rwa [List.append_nil]
theorem XX.of_x (g : Good cm W0 H σ r fps) {x : Xc} (ns : List Nat) (h : XX cm E W0 H σ fps x (if shrs x.ds = true then DL.frzN ns r else r)) : ∀ r', XPost cm (E σ) (Wr W0 fps ns) H x r' := fun r' H' dx e xr => by
  have w0 : ∀ {fps'}, Good cm (Wp W0 []) H' σ (if shrs x.ds = true then DL.frzN ns r else r) fps' → Good cm W0 H' σ (if shrs x.ds = true then DL.frzN ns r else r) fps' := fun {fps'} g' =>
    ⟨g'.len, ⟨fun a z => g'.w0.1 a (.inl z), g'.w0.2⟩, fun i d q => by
      obtain ⟨v, k1, k2⟩ := g'.sl i d q
      exact ⟨v, k1, k2.move (fun a z => .inl (z.imp .inl id)) fun _ _ q _ _ => q⟩, g'.nd, g'.dj, fun i a m z => g'.nw i a m (.inl z), g'.mu⟩
  rcases xr with ⟨xr, rfl⟩ | ⟨a, vs, rfl, h2, h3, h4⟩
  · obtain ⟨fps', g', _, _, fm⟩ := g.settle ns (vs := []) (ds := []) (fpv := []) e .nil FpN.nil
    cases hx : shrs x.ds with
    | false =>
      rw [hx] at h
      exact h H' fps none (g.ex e) (Fram.of_ex e fun _ m => (nomatch m)) (.inl ⟨xr, rfl⟩)
    | true =>
      rw [hx] at h
      exact h H' _ none ((g.frzN ns).ex e) ⟨fun a o q _ t => e.get a o q t, fun i a m => by
        split at m
        · cases m
        · exact .inl ⟨i, m⟩, fun _ m => (nomatch m), fun _ q => e.back q, e.tb⟩ (.inl ⟨xr, rfl⟩)
  · obtain ⟨fps', g', rp', _, fm⟩ := g.settle ns (fpv := []) e h4.toP FpN.nil
    exact h H' fps' _ (w0 g') fm (.inr ⟨a, vs, rfl, h2, h3, rp'.move (fun a z => .inl (z.imp .inl id)) fun _ _ q _ _ => q⟩)
theorem xe_lift {e : Expr} {f : F} (ns : List Nat) (h : DE X cm E true e f) : XE X cm E e (lift ns f) := by
  obtain ⟨te, h1, h2⟩ := h.ex
  refine ⟨te, h1, fun W0 H σ r fps g Q hp => h2 (Wr W0 fps ns) H σ (view ns r) (g.wr ns) (g.view ns) Q ?_⟩
  unfold lift at hp
  split at hp
  · rename_i d hd
    rw [hd]
    intro v H' fpv e1 rp fn
    obtain ⟨fps', g', rp', hw, fm⟩ := g.settle ns e1 (Reps.one rp) fn
    have hs : shrs [d] = shr d := by simp [shrs]
    rw [hs] at g'
    exact hp v H' fps' fpv g' rp'.the fn.1 hw fm
  · rename_i x r' hd
    rw [hd]
    exact XX.of_x g ns hp r'
  · exact hp.elim
theorem xa_lift {es : List Expr} {f : Env → Out (List D)} (ns : List Nat) (h : DA X cm E true es f) : XA X cm E es (liftA ns f) := by
  obtain ⟨te, h1, h2⟩ := h.ex
  refine ⟨te, h1, fun W0 H σ r fps g Q hp => h2 (Wr W0 fps ns) H σ (view ns r) (g.wr ns) (g.view ns) Q ?_⟩
  unfold liftA at hp
  split at hp
  · rename_i d hd
    rw [hd]
    intro v H' fpv e1 rp fn
    obtain ⟨fps', g', rp', hw, fm⟩ := g.settle ns e1 rp fn
    exact hp v H' fps' fpv g' rp' fn.1 hw fm
  · rename_i x r' hd
    rw [hd]
    exact XX.of_x g ns hp r'
  · exact hp.elim
theorem xt_lift {e : Expr} {f : Env → Out Bool} (ns : List Nat) (h : DT X cm E e f) : XT X cm E e (liftT ns f) := by
  obtain ⟨te, h1, h2⟩ := h.ex
  refine ⟨te, h1, fun W0 H σ r fps g Q hp => h2 (Wr W0 fps ns) H σ (view ns r) (g.wr ns) (g.view ns) Q ?_⟩
  unfold liftT at hp
  split at hp
  · rename_i d hd
    rw [hd]
    exact fun H' e1 => hp H' fps (g.ex e1) (Fram.of_ex e1 fun _ m => (nomatch m))
  · rename_i x r' hd
    rw [hd]
    exact XX.of_x g ns hp r'
  · exact hp.elim
theorem Good.drop {fpv : List Addr} (g : Good cm (Wp W0 fpv) H σ r fps) : Good cm W0 H σ r fps :=
  ⟨g.len, ⟨fun a z => g.w0.1 a (.inl z), g.w0.2⟩, fun i d q => by
    obtain ⟨v, k1, k2⟩ := g.sl i d q
    exact ⟨v, k1, k2.move (fun a z => .inl (z.imp .inl id)) fun _ _ q _ _ => q⟩, g.nd, g.dj, fun i a m z => g.nw i a m (.inl z), g.mu⟩
theorem Rep.over {W0 : Addr → Prop} {H1 H2 : Hp} {f1 f2 : Fps} {v : V} {d : D} {fpv fq : List Addr} (h : Rep cm (Wof (Wp W0 fpv) f1) H1 v d fpv) (nd : ∀ i, ∀ a ∈ f1 i, a ∉ fpv) (fm : Fram H1 f1 H2 f2 fq) : Rep cm (Wof (Wp W0 (fpv ++ fq)) f2) H2 v d fpv := by
  refine h.move (fun a z => ?_) fun a o q t c => fm.keep a o q (fun i m => ?_) t
  · rcases z with (z | z) | ⟨j, z⟩
    · exact .inl (.inl (.inl z))
    · rcases List.mem_append.mp z with z | z
      · exact .inl (.inl (.inr z))
      · rcases fm.oldv a z with ⟨j, q⟩ | q
        · exact .inl (.inr ⟨j, q⟩)
        · exact .inr q
    · rcases fm.old j a z with ⟨j, q⟩ | q
      · exact .inl (.inr ⟨j, q⟩)
      · exact .inr q
  · rcases c with c | c
    · exact c (.inr ⟨i, m⟩)
    · exact nd i a m c
theorem wp_wp (f1 f2 : List Addr) : Wp (Wp W0 f1) f2 = Wp W0 (f1 ++ f2) := by
  funext a
  apply propext
  show ((W0 a ∨ a ∈ f1) ∨ a ∈ f2) ↔ (W0 a ∨ a ∈ f1 ++ f2)
  rw [List.mem_append, or_assoc]
theorem wp_nil : Wp W0 [] = W0 := by
  funext a
  apply propext
  show (W0 a ∨ a ∈ []) ↔ W0 a
  simp
theorem two {H1 H2 : Hp} {f1 f2 : Fps} {v1 : V} {d1 : D} {p1 p2 : List Addr} {r1 r2 : Env} {vs : List V} {ds : List D} (g1 : Good cm (Wp W0 p1) H1 σ r1 f1) (k1 : Rep cm (Wof (Wp W0 p1) f1) H1 v1 d1 p1) (n1 : p1.Nodup) (w1 : ∀ a ∈ p1, ¬ W0 a) (m1 : Fram H fps H1 f1 p1)
    (g2 : Good cm (Wp (Wp W0 p1) p2) H2 σ r2 f2) (k2 : Reps cm (Wof (Wp (Wp W0 p1) p2) f2) H2 vs ds p2) (n2 : p2.Nodup) (w2 : ∀ a ∈ p2, ¬ Wp W0 p1 a) (m2 : Fram H1 f1 H2 f2 p2) :
    Good cm (Wp W0 (p1 ++ p2)) H2 σ r2 f2 ∧ Reps cm (Wof (Wp W0 (p1 ++ p2)) f2) H2 (v1 :: vs) (d1 :: ds) (p1 ++ p2) ∧ (p1 ++ p2).Nodup ∧ (∀ a ∈ p1 ++ p2, ¬ W0 a) ∧ Fram H fps H2 f2 (p1 ++ p2) := by
  rw [wp_wp] at g2 k2
  refine ⟨g2, .cons (k1.over (fun i a m z => g1.nw i a m (.inr z)) m2) k2, List.nodup_append.mpr ⟨n1, n2, fun a m c m' z => w2 c m' (.inr (z ▸ m))⟩, fun a m => ?_, (m1.trans m2).addv fun a m => ?_⟩
  · rcases List.mem_append.mp m with m | m
    · exact w1 a m
    · exact fun z => w2 a m (.inl z)
  · rcases List.mem_append.mp m with m | m
    · exact m1.oldv a m
    · exact (m1.trans m2).oldv a m
def xNil : Env → Out (List D × Env) := fun r => .ok ([], r)
def xCons (f : FX) (h : Env → Out (List D × Env)) : Env → Out (List D × Env) := fun r => (f r).bind fun p => (h p.2).bind fun q => .ok (p.1 :: q.1, q.2)
theorem xa_nil : XA X cm E [] xNil := ⟨_, pa_nil, fun W0 H σ r fps g Q hp => hp [] H fps [] (by rw [wp_nil]; exact g) .nil List.nodup_nil (fun _ m => (nomatch m)) (Fram.refl H fps)⟩
theorem XX.later {H1 : Hp} {f1 : Fps} {p1 : List Addr} {x : Xc} {rr : Env} (m1 : Fram H fps H1 f1 p1) (h : XX cm E W0 H σ fps x rr) : XX cm E (Wp W0 p1) H1 σ f1 x rr := fun H' fps' dx g fm xr => h H' fps' dx g.drop ((m1.trans fm).addv fun _ m => (nomatch m)) (xr.weak fun a z => z.imp .inl id)
theorem xa_cons {e : Expr} {es : List Expr} {f : FX} {h : Env → Out (List D × Env)} (h1 : XE X cm E e f) (h2 : XA X cm E es h) (hs : starEach (e :: es) X.env = (false, eval e X.env) :: starEach es X.env := by rfl) : XA X cm E (e :: es) (xCons f h) := by
  obtain ⟨ta, a1, a2⟩ := h1.ex
  obtain ⟨tb, b1, b2⟩ := h2.ex
  refine ⟨_, pa_cons a1 b1 hs, fun W0 H σ r fps g Q hp => a2 W0 H σ r fps g _ (hp.bind.mono (fun p q v H1 f1 p1 g1 k1 n1 w1 m1 => ?_) fun _ _ z => z)⟩
  refine b2 (Wp W0 p1) H1 σ p.2 f1 g1 _ (q.bind.mono (fun p' q' vs H2 f2 p2 g2 k2 n2 w2 m2 => ?_) fun x rr z => XX.later m1 z)
  obtain ⟨z1, z2, z3, z4, z5⟩ := two g1 k1 n1 w1 m1 g2 k2 n2 w2 m2
  exact q' _ H2 f2 _ z1 z2 z3 z4 z5
def xLst (h : Env → Out (List D × Env)) : FX := fun r => (h r).bind fun p => if p.1.length ≤ 1000 then .ok (.lst true p.1, p.2) else .bad
def xTup (h : Env → Out (List D × Env)) : FX := fun r => (h r).bind fun p => if p.1.length ≤ 1000 then .ok (.tup p.1, p.2) else .bad
theorem laid {H1 : Hp} {f1 : Fps} {p1 fpv' : List Addr} {r1 : Env} {p : Addr} {o : HO} (g1 : Good cm (Wp W0 p1) H1 σ r1 f1) (m1 : Fram H fps H1 f1 p1) (hp : H1 p = none) (hsub : ∀ a ∈ fpv', a = p ∨ a ∈ p1) (hm : ∀ a ∈ fpv', MutAt (upd H1 p o) a) :
    Good cm (Wp W0 fpv') (upd H1 p o) σ r1 f1 ∧ Fram H fps (upd H1 p o) f1 fpv' := by
  have g2 := g1.drop
  refine ⟨⟨g2.len, ⟨fun a z => ?_, (Ex.new hp).tb g2.w0.2⟩, fun i d q => ?_, g2.nd, g2.dj, fun i a m z => ?_, fun i a m => (g2.mu i a m).ex (Ex.new hp)⟩, ⟨fun a o' q n t => ?_, m1.old, fun a m => ?_, fun a q => m1.back a ((Ex.new hp).back q), fun h => (Ex.new hp).tb (m1.tb h)⟩⟩
  · rcases z with z | z
    · exact (g2.w0.1 a z).ex (Ex.new hp)
    · exact hm a z
  · obtain ⟨v, k1, k2⟩ := g1.sl i d q
    refine ⟨v, k1, k2.move (fun a z => ?_) fun a o' q t _ => (Ex.new hp).get a o' q t⟩
    rcases z with (z | z) | z
    · exact .inl (.inl (.inl z))
    · rcases hsub a z with rfl | z
      · exact .inr hp
      · exact .inl (.inl (.inr z))
    · exact .inl (.inr z)
  · rcases z with z | z
    · exact g2.nw i a m z
    · rcases hsub a z with rfl | z
      · exact (g2.mu i a m).there hp
      · exact g1.nw i a m (.inr z)
  · rw [upd_ne (ne_of_none (m1.keep a o' q n t) hp)]
    exact m1.keep a o' q n t
  · rcases hsub a m with rfl | m
    · exact .inr (m1.back _ hp)
    · exact m1.oldv a m
def x2 (gg : D → D → Out D) (f h : FX) : FX := fun r => (f r).bind fun p => (h p.2).bind fun q => (gg (frz p.1) (frz q.1)).bind fun d => .ok (d, q.2)
def x1 (gg : D → Out D) (f : FX) : FX := fun r => (f r).bind fun p => (gg (frz p.1)).bind fun d => .ok (d, p.2)
theorem opened {H1 : Hp} {f1 : Fps} {p1 : List Addr} {r1 : Env} {Q : VK} {o : Out D} (g1 : Good cm (Wp W0 p1) H1 σ r1 f1) (m1 : Fram H fps H1 f1 p1) (q : Post (o.bind fun d => .ok (d, r1)) (QX cm W0 H σ fps Q) (XX cm E W0 H σ fps)) (hn : ∀ x rr, o ≠ .exn x rr) :
    Post o (QP cm (Wof W0 f1) true H1 Q) noX := by
  refine Post.noX ((Post.bind q).mono (fun d z v H2 fpv e2 rp fn => ?_) fun x rr z => z) hn
  have hm : ∀ a ∈ fpv, MutAt H2 a := fun a m => rp.own a m
  refine z v H2 f1 fpv (g1.drop.addv e2 fn.2 hm) (rp.move (fun a z => .inl ?_) fun _ _ q _ _ => q) fn.1 (fun a m z => (g1.w0.1 a (.inl z)).there (fn.2 a m)) ((m1.trans (Fram.of_ex e2 fn.2)).addv fun a m => .inr (m1.back a (fn.2 a m)))
  rcases z with (z | z) | z
  · exact .inl (.inl z)
  · exact .inr z
  · exact .inl (.inr z)
theorem Rep.open {H1 : Hp} {f1 : Fps} {p1 p2 : List Addr} {v : V} {d : D} {r1 : Env} (g1 : Good cm (Wp W0 p1) H1 σ r1 f1) (w1 : ∀ a ∈ p1, ¬ W0 a) (k : Rep cm (Wof (Wp W0 p1) f1) H1 v d p2) (hs : ∀ a ∈ p2, a ∈ p1) : Rep cm (Wof W0 f1) H1 v (DL.frz d) [] := k.frz (fun a z => z.imp .inl id) fun a m z => by
  rcases z with z | ⟨j, z⟩
  · exact w1 a (hs a m) z
  · exact g1.nw j a z (.inr (hs a m))
theorem Reps.open {H1 : Hp} {f1 : Fps} {p1 p2 : List Addr} {v : List V} {d : List D} {r1 : Env} (g1 : Good cm (Wp W0 p1) H1 σ r1 f1) (w1 : ∀ a ∈ p1, ¬ W0 a) (k : Reps cm (Wof (Wp W0 p1) f1) H1 v d p2) (hs : ∀ a ∈ p2, a ∈ p1) : Reps cm (Wof W0 f1) H1 v (DL.frzs d) [] := k.frz (fun a z => z.imp .inl id) fun a m z => by
  rcases z with z | ⟨j, z⟩
  · exact w1 a (hs a m) z
  · exact g1.nw j a z (.inr (hs a m))
theorem xcon2 {rr : R2} {gg : D → D → Out D} {ta tb : TE} {f h : FX} (ho : Op2' cm true rr gg) (hn : NoEx gg) (ha : ∀ W0 H σ r fps, Good cm W0 H σ r fps → ∀ Q, Post (f r) (QX cm W0 H σ fps Q) (XX cm E W0 H σ fps) → ta σ H Q) (hb : ∀ W0 H σ r fps, Good cm W0 H σ r fps → ∀ Q, Post (h r) (QX cm W0 H σ fps Q) (XX cm E W0 H σ fps) → tb σ H Q) :
    ∀ W0 H σ r fps, Good cm W0 H σ r fps → ∀ Q, Post (x2 gg f h r) (QX cm W0 H σ fps Q) (XX cm E W0 H σ fps) → tOp rr ta tb σ H Q := fun W0 H σ r fps g Q hp =>
  ha W0 H σ r fps g _ (hp.bind.mono (fun p q v H1 f1 p1 g1 k1 n1 w1 m1 => hb (Wp W0 p1) H1 σ p.2 f1 g1 _ (q.bind.mono (fun p' q' u H2 f2 p2 g2 k2 n2 w2 m2 => by
    obtain ⟨z1, z2, z3, z4, z5⟩ := two g1 k1 n1 w1 m1 g2 (Reps.one k2) n2 w2 m2
    have o2 := z2.open z1 z4 fun _ m => m
    obtain ⟨a', e1, e2⟩ := o2.at rfl (i := 0) (d := frz p.1) rfl
    obtain ⟨b', e3, e4⟩ := o2.at rfl (i := 1) (d := frz p'.1) rfl
    cases e1; cases e3
    exact ho (Wof W0 f2) H2 v u _ _ z1.drop.wof e2 e4 Q (opened z1 z5 q' (hn _ _))) fun x rr z => XX.later m1 z)) fun _ _ z => z)
variable {a c : Expr} {fa fb : FX}
theorem xe_op {op : Operator} {rr : R2} {gg : D → D → Out D} (hr : OpR X (binaryOp op) rr) (ho : Op2' cm true rr gg) (hn : NoEx gg) (ha : XE X cm E a fa) (hb : XE X cm E c fb) : XE X cm E (.BinOp a op c pos) (x2 gg fa fb) := by
  obtain ⟨ta, h1, h2⟩ := ha.ex
  obtain ⟨tb, h3, h4⟩ := hb.ex
  exact ⟨_, pe_op hr h1 h3, xcon2 ho hn h2 h4⟩
theorem xe_ix {rr : R2} {gg : D → D → Out D} (hr : IxR X rr) (ho : Op2' cm true rr gg) (hn : NoEx gg) (hs : PlainIx c) (ha : XE X cm E a fa) (hb : XE X cm E c fb) : XE X cm E (.Subscript a c pos) (x2 gg fa fb) := by
  obtain ⟨ta, h1, h2⟩ := ha.ex
  obtain ⟨tb, h3, h4⟩ := hb.ex
  exact ⟨_, pe_ix hr h1 h3 hs, xcon2 ho hn h2 h4⟩
end
end DL

namespace DL
variable [Tbs]
open PySem L2

inductive SO where
  | nx (r : Env) | rt (d : D) (r : Env) | bk (r : Env) | ct (r : Env) | exn (x : Xc) (r : Env) | bad
abbrev FS := Env → SO
abbrev k0 : Nat → Bool := fun _ => false
abbrev k1 : Nat → Bool := fun j => j == 0
abbrev kx (ts : List Nat) : Nat → Bool := fun j => !ts.contains j
def Keep (ks : Nat → Bool) (σ σ' : St) : Prop := σ'.length = σ.length ∧ ∀ (j : Nat), ks j = true → σ'[j]? = σ[j]?
theorem Keep.refl (ks : Nat → Bool) (σ : St) : Keep ks σ σ := ⟨rfl, fun _ _ => rfl⟩
theorem Keep.trans {ks : Nat → Bool} {σ σ1 σ2 : St} (a : Keep ks σ σ1) (b : Keep ks σ1 σ2) : Keep ks σ σ2 := ⟨b.1.trans a.1, fun j h => (b.2 j h).trans (a.2 j h)⟩
def SPost (cm : Cm) (E : XS) (W0 : Addr → Prop) (H : Hp) (σ : St) (fps : Fps) (ks : Nat → Bool) (D : Ends) : SO → Prop
  | .nx r' => ∀ σ' H' fps', Good cm W0 H' σ' r' fps' → Fram H fps H' fps' [] → Keep ks σ σ' → D.nx σ' H'
  | .bk r' => ∀ σ' H' fps', Good cm W0 H' σ' r' fps' → Fram H fps H' fps' [] → Keep ks σ σ' → D.bk σ' H'
  | .ct r' => ∀ σ' H' fps', Good cm W0 H' σ' r' fps' → Fram H fps H' fps' [] → Keep ks σ σ' → D.ct σ' H'
  | .rt d r' => ∀ v σ' H' fps' fpv, Good cm (Wp W0 fpv) H' σ' r' fps' → Rep cm (Wof (Wp W0 fpv) fps') H' v d fpv → fpv.Nodup → (∀ a ∈ fpv, ¬ W0 a) → Fram H fps H' fps' fpv → Keep ks σ σ' → D.rt v H'
  | .exn x r' => ∀ σ' H' fps' dx, Good cm W0 H' σ' r' fps' → Fram H fps H' fps' [] → Keep ks σ σ' → XRep cm (Wof W0 fps') H' x dx → E σ' (.ref (cm.cl x.cls)) dx H'
  | .bad => False
def SCon (cm : Cm) (E : XS) (ks : Nat → Bool) (ts : TS) (g : FS) : Prop := ∀ W0 H σ r fps, Good cm W0 H σ r fps → ∀ D, SPost cm E W0 H σ fps ks D (g r) → ts D σ H
structure DS (X : Cx) (cm : Cm) (E : XS) (ks : Nat → Bool) (st : Stmt) (g : FS) : Prop where
  ex : ∃ ts, PS X st ts ∧ SCon cm E ks ts g
structure DSs (X : Cx) (cm : Cm) (E : XS) (ks : Nat → Bool) (st : List Stmt) (g : FS) : Prop where
  ex : ∃ ts, PSs X st ts ∧ SCon cm E ks ts g
theorem SPost.later {cm : Cm} {E : XS} {W0 : Addr → Prop} {H H1 : Hp} {σ σ1 : St} {fps f1 : Fps} {ks : Nat → Bool} {D : Ends} {o : SO} (fm : Fram H fps H1 f1 []) (k : Keep ks σ σ1) (h : SPost cm E W0 H σ fps ks D o) : SPost cm E W0 H1 σ1 f1 ks D o := by
  cases o with
  | nx r => exact fun σ' H' fps' g f2 k2 => h σ' H' fps' g (fm.trans f2) (k.trans k2)
  | bk r => exact fun σ' H' fps' g f2 k2 => h σ' H' fps' g (fm.trans f2) (k.trans k2)
  | ct r => exact fun σ' H' fps' g f2 k2 => h σ' H' fps' g (fm.trans f2) (k.trans k2)
  | rt d r => exact fun v σ' H' fps' fpv g rp nd nw f2 k2 => h v σ' H' fps' fpv g rp nd nw (fm.trans f2) (k.trans k2)
  | exn x r => exact fun σ' H' fps' dx g f2 k2 xr => h σ' H' fps' dx g (fm.trans f2) (k.trans k2) xr
  | bad => exact h
def sNext : FS := fun r => .nx r
def sSeq (f g : FS) : FS := fun r => match f r with
  | .nx r1 => g r1
  | o => o
def sBreak : FS := fun r => .bk r
def sCont : FS := fun r => .ct r
def sRet (f : FX) : FS := fun r => match f r with
  | .ok p => .rt p.1 p.2
  | .exn x r' => .exn x r'
  | .bad => .bad
def sDrop (f : FX) : FS := fun r => match f r with
  | .ok p => .nx p.2
  | .exn x r' => .exn x r'
  | .bad => .bad
def sSet (i : Nat) (f : FX) : FS := fun r => match f r with
  | .ok p => if i < p.2.length then .nx (p.2.set i (some p.1)) else .bad
  | .exn x r' => .exn x r'
  | .bad => .bad
def sIf (t : Env → Out (Bool × Env)) (f g : FS) : FS := fun r => match t r with
  | .ok p => if p.1 = true then f p.2 else g p.2
  | .exn x r' => .exn x r'
  | .bad => .bad
def forS (tg : D → Env → Out Env) (body : FS) : List D → FS
  | [], r => .nx r
  | d :: ds, r => match tg d r with
    | .ok r1 => match body r1 with
      | .nx r2 => forS tg body ds r2
      | .ct r2 => forS tg body ds r2
      | .bk r2 => .nx r2
      | o => o
    | _ => .bad
def sFor (it : Env → Out (List D × Env)) (tg : D → Env → Out Env) (body : FS) : FS := fun r => match it r with
  | .ok p => forS tg body p.1 p.2
  | .exn x r' => .exn x r'
  | .bad => .bad
def whileS (t : Env → Out (Bool × Env)) (body : FS) : Nat → FS
  | 0, _ => .bad
  | n + 1, r => match t r with
    | .ok p => if p.1 = true then (match body p.2 with
      | .nx r2 => whileS t body n r2
      | .ct r2 => whileS t body n r2
      | .bk r2 => .nx r2
      | o => o) else .nx p.2
    | .exn x r' => .exn x r'
    | .bad => .bad

section
variable {X : Cx} {cm : Cm} {E : XS} {ks : Nat → Bool} {pos : Pos} {st : Stmt} {sts : List Stmt} {e tg : Expr} {f : FX} {g h : FS}
theorem ds_nil : DSs X cm E ks [] sNext := ⟨_, pss_nil, fun W0 H σ r fps g D hp => hp σ H fps g (Fram.refl H fps) (Keep.refl ks σ)⟩
theorem ds_cons (h1 : DS X cm E ks st g) (h2 : DSs X cm E ks sts h) : DSs X cm E ks (st :: sts) (sSeq g h) := by
  obtain ⟨t, a1, a2⟩ := h1.ex
  obtain ⟨u, b1, b2⟩ := h2.ex
  refine ⟨_, pss_cons a1 b1, fun W0 H σ r fps gd D hp => a2 W0 H σ r fps gd _ ?_⟩
  unfold sSeq at hp
  cases hg : g r with
  | nx r1 =>
    rw [hg] at hp
    exact fun σ' H' fps' g' fm k => b2 W0 H' σ' r1 fps' g' D (SPost.later fm k hp)
  | rt d r' => rw [hg] at hp; exact hp
  | bk r' => rw [hg] at hp; exact hp
  | ct r' => rw [hg] at hp; exact hp
  | exn x r' => rw [hg] at hp; exact hp
  | bad => rw [hg] at hp; exact hp.elim
theorem ds_one (h1 : DS X cm E ks st g) : DSs X cm E ks [st] g := by
  obtain ⟨t, a1, a2⟩ := h1.ex
  exact ⟨_, pss_one a1, a2⟩
theorem ds_never : DS X cm E ks st (fun _ => .bad) := ⟨_, ps_never, fun W0 H σ r fps g D hp => hp⟩
theorem ds_ret (h1 : XE X cm E e f) : DS X cm E ks (.Return (some e) pos) (sRet f) := by
  obtain ⟨t, a1, a2⟩ := h1.ex
  refine ⟨_, ps_ret a1, fun W0 H σ r fps g D hp => a2 W0 H σ r fps g _ ?_⟩
  unfold sRet at hp
  split at hp
  · rename_i p hr
    rw [hr]
    exact fun v H' fps' fpv g' rp nd nw fm => hp v σ H' fps' fpv g' rp nd nw fm (Keep.refl ks σ)
  · rename_i x r' hr
    rw [hr]
    exact fun H' fps' dx g' fm xr => hp σ H' fps' dx g' fm (Keep.refl ks σ) xr
  · exact hp.elim
theorem Good.put {W0 : Addr → Prop} {H : Hp} {σ : St} {r : Env} {fps : Fps} {v : V} {d : D} {fpv : List Addr} (g : Good cm (Wp W0 fpv) H σ r fps) (rp : Rep cm (Wof (Wp W0 fpv) fps) H v d fpv) (nd : fpv.Nodup) (nw : ∀ a ∈ fpv, ¬ W0 a) (i : Nat) :
    Good cm W0 H (σ.set i (some v)) (r.set i (some d)) (fun j => if j = i then fpv else fps j) := by
  have sub : ∀ {j a}, a ∈ (if j = i then fpv else fps j) → (j = i ∧ a ∈ fpv) ∨ (j ≠ i ∧ a ∈ fps j) := fun {j a} m => by
    split at m
    · exact .inl ⟨by assumption, m⟩
    · exact .inr ⟨by assumption, m⟩
  have wsub : ∀ a, Wof W0 (fun j => if j = i then fpv else fps j) a → Wof (Wp W0 fpv) fps a := fun a z => by
    rcases z with z | ⟨j, m⟩
    · exact .inl (.inl z)
    · rcases sub m with ⟨_, m⟩ | ⟨_, m⟩
      · exact .inl (.inr m)
      · exact .inr ⟨j, m⟩
  refine ⟨by rw [List.length_set, List.length_set, g.len], ⟨fun a z => g.w0.1 a (.inl z), g.w0.2⟩, fun j d' q => ?_, fun j => ?_, fun j k a m m' => ?_, fun j a m => ?_, fun j a m => ?_⟩
  · rw [List.getElem?_set] at q ⊢
    by_cases e : i = j
    · subst e
      rw [if_pos rfl] at q ⊢
      split at q
      · rename_i hl
        cases q
        rw [if_pos (by rw [g.len]; exact hl), if_pos rfl]
        exact ⟨v, rfl, rp.move (fun a z => .inl (wsub a z)) fun _ _ q _ _ => q⟩
      · cases q
    · rw [if_neg e] at q ⊢
      rw [if_neg (Ne.symm e)]
      obtain ⟨u, k1, k2⟩ := g.sl j d' q
      exact ⟨u, k1, k2.move (fun a z => .inl (wsub a z)) fun _ _ q _ _ => q⟩
  · split
    · exact nd
    · exact g.nd j
  · rcases sub m with ⟨e, m⟩ | ⟨e, m⟩ <;> rcases sub m' with ⟨e', m'⟩ | ⟨e', m'⟩
    · rw [e, e']
    · exact absurd (Or.inr m) (g.nw k a m')
    · exact absurd (Or.inr m') (g.nw j a m)
    · exact g.dj j k a m m'
  · rcases sub m with ⟨e, m⟩ | ⟨e, m⟩
    · exact nw a m
    · exact fun z => g.nw j a m (.inl z)
  · rcases sub m with ⟨e, m⟩ | ⟨e, m⟩
    · exact g.w0.1 a (.inr m)
    · exact g.mu j a m
theorem Fram.put {H H' : Hp} {fps fps' : Fps} {fpv : List Addr} {i : Nat} (fm : Fram H fps H' fps' fpv) : Fram H fps H' (fun j => if j = i then fpv else fps' j) [] :=
  ⟨@Fram.keep _ _ _ _ _ _ fm, fun j a m => by
    split at m
    · exact fm.oldv a m
    · exact fm.old j a m, fun _ m => (nomatch m), fm.back, fm.tb⟩
theorem Keep.set {ks : Nat → Bool} {σ : St} {i : Nat} {x : Option V} (h : ks i = false) : Keep ks σ (σ.set i x) := ⟨by rw [List.length_set], fun j m => by
  rw [List.getElem?_set, if_neg]
  intro z
  subst z
  rw [h] at m; cases m⟩
theorem setCon {te : TE} {i : Nat} (hk : ks i = false) (a2 : ∀ W0 H σ r fps, Good cm W0 H σ r fps → ∀ Q, Post (f r) (QX cm W0 H σ fps Q) (XX cm E W0 H σ fps) → te σ H Q) : SCon cm E ks (tAsg te (gName i)) (sSet i f) := fun W0 H σ r fps g D hp => by
  refine a2 W0 H σ r fps g _ ?_
  unfold sSet at hp
  split at hp
  · rename_i p hr
    rw [hr]
    split at hp
    · exact fun v H' fps' fpv g' rp nd nw fm => hp _ H' _ (g'.put rp nd nw i) fm.put (Keep.set hk)
    · exact hp.elim
  · rename_i x r' hr
    rw [hr]
    exact fun H' fps' dx g' fm xr => hp σ H' fps' dx g' fm (Keep.refl ks σ) xr
  · exact hp.elim
theorem ds_set (i : Nat) {x : Str} {pos' : Pos} (hN : X.N.Nodup) (h1 : XE X cm E e f) (hk : ks i = false := by rfl) (hi : X.N[i]? = some x := by rfl) (hx : Loc X.env.scope x := by first | exact Or.inl rfl | exact Or.inr rfl) (hs : swapsWith e (some (.Name x pos')) pos.line X.env = pure false := by rfl) (hf : X.fn x = true ∨ X.env.scope.names.lookup x = some .local := by first | exact .inl rfl | exact .inr rfl) :
    DS X cm E ks (.Assign [.Name x pos'] e pos) (sSet i f) := by
  obtain ⟨t, a1, a2⟩ := h1.ex
  exact ⟨_, ps_set hN hi hx a1 hs hf, setCon hk a2⟩
theorem ds_if {c : Expr} {a b : List Stmt} {t : Env → Out (Bool × Env)} (hc : XT X cm E c t) (ha : DSs X cm E ks a g) (hb : DSs X cm E ks b h) : DS X cm E ks (.If c a b pos) (sIf t g h) := by
  obtain ⟨tt, t1, t2⟩ := hc.ex
  obtain ⟨ta, a1, a2⟩ := ha.ex
  obtain ⟨tb, b1, b2⟩ := hb.ex
  refine ⟨_, ps_if t1 a1 b1, fun W0 H σ r fps gd D hp => t2 W0 H σ r fps gd _ ?_⟩
  unfold sIf at hp
  split at hp
  · rename_i p hr
    rw [hr]
    intro H' fps' g' fm
    obtain ⟨b, r'⟩ := p
    cases b with
    | true => exact a2 W0 H' σ r' fps' g' D (SPost.later fm (Keep.refl ks σ) hp)
    | false => exact b2 W0 H' σ r' fps' g' D (SPost.later fm (Keep.refl ks σ) hp)
  · rename_i x r' hr
    rw [hr]
    exact fun H' fps' dx g' fm xr => hp σ H' fps' dx g' fm (Keep.refl ks σ) xr
  · exact hp.elim
structure XG (X : Cx) (cm : Cm) (ks : Nat → Bool) (tg : Expr) (g : D → Env → Out Env) : Prop where
  ex : ∃ t, PG X tg t ∧ ∀ W0 H σ r fps v d, Good cm W0 H σ r fps → Rep cm (Wof W0 fps) H v d [] → ∀ Q : St → Hp → Prop, Post (g d r) (fun r' => ∀ σ' fps', Good cm W0 H σ' r' fps' → (∀ j a, a ∈ fps' j → a ∈ fps j) → Keep ks σ σ' → Q σ' H) noX → t v σ H Q
structure XGs (X : Cx) (cm : Cm) (ks : Nat → Bool) (tgs : List Expr) (g : List D → Env → Out Env) : Prop where
  ex : ∃ t, PGs X tgs t ∧ ∀ W0 H σ r fps vs ds, Good cm W0 H σ r fps → Reps cm (Wof W0 fps) H vs ds [] → ∀ Q : St → Hp → Prop, Post (g ds r) (fun r' => ∀ σ' fps', Good cm W0 H σ' r' fps' → (∀ j a, a ∈ fps' j → a ∈ fps j) → Keep ks σ σ' → Q σ' H) noX → t vs σ H Q
theorem xg_name (i : Nat) {x : Str} (hN : X.N.Nodup) (hk : ks i = false := by rfl) (hi : X.N[i]? = some x := by rfl) (hx : Loc X.env.scope x := by first | exact Or.inl rfl | exact Or.inr rfl) (hf : X.fn x = true ∨ X.env.scope.names.lookup x = some .local := by first | exact .inl rfl | exact .inr rfl) : XG X cm ks (.Name x pos) (sN i) := by
  refine ⟨_, pg_name hN hi hx hf, fun W0 H σ r fps v d gd rp Q hp => ?_⟩
  unfold sN at hp
  split at hp
  · refine hp _ _ (Good.put (fpv := []) (by rw [wp_nil]; exact gd) (by rw [wp_nil]; exact rp) List.nodup_nil (fun _ m => (nomatch m)) i) (fun j a m => ?_) (Keep.set hk)
    split at m
    · cases m
    · exact m
  · exact hp.elim
theorem xgs_nil : XGs X cm ks [] sNil := by
  refine ⟨_, pgs_nil, fun W0 H σ r fps vs ds gd rp Q hp => ?_⟩
  unfold sNil at hp
  split at hp
  · cases rp
    exact ⟨rfl, hp σ fps gd (fun _ _ m => m) (Keep.refl ks σ)⟩
  · exact hp.elim
theorem xgs_cons {e : Expr} {es : List Expr} {g : D → Env → Out Env} {h : List D → Env → Out Env} (h1 : XG X cm ks e g) (h2 : XGs X cm ks es h) (hs : (assignEach (e :: es) X.env).map (·.2) = assign e X.env :: (assignEach es X.env).map (·.2) := by rfl) : XGs X cm ks (e :: es) (sCons g h) := by
  obtain ⟨t, a1, a2⟩ := h1.ex
  obtain ⟨u, b1, b2⟩ := h2.ex
  refine ⟨_, pgs_cons a1 b1 hs, fun W0 H σ r fps vs ds gd rp Q hp => ?_⟩
  unfold sCons at hp
  split at hp
  · generalize hf : ([] : List Addr) = fp at rp
    cases rp with
    | cons k1 k2 =>
      obtain ⟨rfl, rfl⟩ := app_nil hf
      refine ⟨_, _, rfl, a2 W0 H σ r fps _ _ gd k1 _ (hp.bind.mono (fun r1 q σ1 f1 g1 s1 w1 => ?_) fun _ _ z => z)⟩
      exact b2 W0 H σ1 r1 f1 _ _ g1 (k2.move (fun a z => .inl (z.imp id fun ⟨j, m⟩ => ⟨j, s1 j a m⟩)) fun _ _ q _ _ => q) _ (q.mono (fun r2 q2 σ2 f2 g2 s2 w2 => q2 σ2 f2 g2 (fun j a m => s1 j a (s2 j a m)) (w1.trans w2)) fun _ _ z => z)
  · exact hp.elim
theorem xg_tup {es : List Expr} {k : Nat} {g : List D → Env → Out Env} {n : Nat} (hc : X.calm = true) (h : XGs X cm ks es g) (hn : (assignEach es X.env).length = n := by rfl) (hst : (assignEach es X.env).findIdx? (·.1) = none := by rfl) : XG X cm ks (.Tuple es k pos) (sT n g) := by
  obtain ⟨t, a1, a2⟩ := h.ex
  refine ⟨_, pg_tup hc a1 hn hst, fun W0 H σ r fps v d gd rp Q hp => ?_⟩
  unfold sT at hp
  split at hp
  · split at hp
    · rename_i hl
      generalize hf : ([] : List Addr) = fp at rp
      cases rp with
      | tup h n rs =>
        subst hf
        exact ⟨_, _, rfl, SqT.of h, by rw [rs.len]; exact hl, a2 W0 H σ r fps _ _ gd rs Q hp⟩
    · exact hp.elim
  · exact hp.elim
def sAsg (f : FX) (g : D → Env → Out Env) : FS := fun r => match f r with
  | .ok p => match g (frz p.1) p.2 with
    | .ok r' => .nx r'
    | _ => .bad
  | .exn x r' => .exn x r'
  | .bad => .bad
structure XI (X : Cx) (cm : Cm) (E : XS) (tg iter : Expr) (f : Env → Out (List D × Env)) : Prop where
  ex : ∃ wi, PI X tg iter wi ∧ ∀ W0 H σ r fps, Good cm W0 H σ r fps → ∀ R, Post (f r) (fun p => ∀ J H1 f1, Good cm W0 H1 σ p.2 f1 → Fram H fps H1 f1 [] → IsIt cm J p.1 (Wof W0 f1) H1 → R J H1) (XX cm E W0 H σ fps) → wi σ H R
def liftI (ns : List Nat) (f : Env → Out (List D)) : Env → Out (List D × Env) := fun r => match f (view ns r) with
  | .ok ds => .ok (ds, frzN ns r)
  | .exn x _ => .exn x (if shrs x.ds = true then frzN ns r else r)
  | .bad => .bad
theorem xi_lift {iter : Expr} {it : Env → Out (List D)} (ns : List Nat) (h : DI X cm E tg iter it) : XI X cm E tg iter (liftI ns it) := by
  obtain ⟨wi, h1, h2⟩ := h.ex
  refine ⟨wi, h1, fun W0 H σ r fps g R hp => h2 (Wr W0 fps ns) H σ (view ns r) (g.wr ns) (g.view ns) R ?_⟩
  unfold liftI at hp
  split at hp
  · rename_i ds hd
    rw [hd]
    intro J H1 e1 isit
    have hW : ∀ a, Wof W0 (fun j => if ns.contains j = true then [] else fps j) a → Wr W0 fps ns a := fun a z => by
      rcases z with z | ⟨j, m⟩
      · exact .inl z
      · dsimp only at m
        split at m
        · cases m
        · rename_i h
          exact .inr ⟨j, by simpa using h, m⟩
    have hW' : ∀ a, Wr W0 fps ns a → Wof W0 (fun j => if ns.contains j = true then [] else fps j) a := fun a z => by
      rcases z with z | ⟨j, hj, m⟩
      · exact .inl z
      · exact .inr ⟨j, by dsimp only; rw [if_neg (by rw [hj]; simp)]; exact m⟩
    refine hp J H1 _ ((g.frzN ns).ex e1) ⟨fun a o q _ t => e1.get a o q t, fun i a m => ?_, fun _ m => (nomatch m), fun _ q => e1.back q, e1.tb⟩ fun W' H2 i l => isit W' H2 i ⟨fun a z => (l.1 a z).imp (hW a) id, fun a o q n t => l.2.1 a o q (fun z => n (hW a z)) t, l.2.2⟩
    split at m
    · cases m
    · exact .inl ⟨i, m⟩
  · rename_i x r' hd
    rw [hd]
    exact XX.of_x g ns hp r'
  · exact hp.elim
def iXR1 (h : Env → Out (List D × Env)) : Env → Out (List D × Env) := fun r => (h r).bind fun p => match p.1 with
  | [.int j] => if -1000000 ≤ j ∧ j ≤ 1000000 then .ok (rng 0 j.toNat, p.2) else .bad
  | _ => .bad
def iXR2 (h : Env → Out (List D × Env)) : Env → Out (List D × Env) := fun r => (h r).bind fun p => match p.1 with
  | [.int i, .int j] => if (-1000000 ≤ i ∧ i ≤ 1000000) ∧ -1000000 ≤ j ∧ j ≤ 1000000 then .ok (rng i (j - i).toNat, p.2) else .bad
  | _ => .bad
theorem xi_range1 {a : Expr} {p : Pos} {fs : Env → Out (List D × Env)} (hg : Gl X "range") (hm : X.mg "range" = none) (ha : XA X cm E [a] fs) (hs : starEach [a] X.env = [(false, eval a X.env)] := by rfl) : XI X cm E tg (.Call (.Name "range" p) [a] [] pos) (iXR1 fs) := by
  obtain ⟨ta, h1, h2⟩ := ha.ex
  refine ⟨_, pi_range1 hg hm h1 hs, fun W0 H σ r fps g R hp => h2 W0 H σ r fps g _ (hp.bind.mono (fun p q vs H1 f1 p1 g1 k1 n1 w1 m1 => ?_) fun _ _ z => z)⟩
  obtain ⟨ds, r'⟩ := p
  dsimp only at q k1 g1
  split at q
  · split at q
    · rename_i hz
      cases k1 with
      | cons k1 k2 =>
        cases k1; cases k2
        exact ⟨_, rfl, by omega, by omega, q _ H1 f1 g1.drop (m1.addv fun _ m => (nomatch m)) isIt_rng⟩
    · exact q.elim
  · exact q.elim
theorem ds_for {iter : Expr} {body : List Stmt} {it : Env → Out (List D × Env)} {gg : D → Env → Out Env} (hp' : PassesOwn (model X.prog X.w) X.A X.env X.xe) (hc : X.calm = true) (hi : XI X cm E tg iter it) (hg : XG X cm ks tg gg) (hb : DSs X cm E ks body g) (hs : ∀ x, foldedSetIterable iter X.env x = pure x := by intro _; rfl) : DS X cm E ks (.For tg iter body [] pos) (sFor it gg g) := by
  obtain ⟨wi, i1, i2⟩ := hi.ex
  obtain ⟨gt, g1, g2⟩ := hg.ex
  obtain ⟨tb, b1, b2⟩ := hb.ex
  refine ⟨_, ps_for hp' hc i1 g1 b1 hs, fun W0 H σ r fps gd D hp => i2 W0 H σ r fps gd _ ?_⟩
  unfold sFor at hp
  split at hp
  · rename_i p hr
    rw [hr]
    obtain ⟨ds, r1⟩ := p
    intro J H1 f1 gd1 fm1 isit
    have hp : SPost cm E W0 H1 σ f1 ks D (forS gg g ds r1) := SPost.later fm1 (Keep.refl ks σ) hp
    refine ⟨fun i m σ' H' => m = ds.length - i ∧ i ≤ ds.length ∧ ∃ r' f', Good cm W0 H' σ' r' f' ∧ Fram H1 f1 H' f' [] ∧ Keep ks σ σ' ∧ SPost cm E W0 H1 σ f1 ks D (forS gg g (ds.drop i) r'), ⟨ds.length, by simp, Nat.zero_le _, r1, f1, gd1, Fram.refl _ _, Keep.refl ks σ, hp⟩, ?_⟩
    rintro i m σ' H' ⟨rfl, hi, r', f', g', fm', k', hq⟩
    have hl : Later cm (Wof W0 f1) H1 (Wof W0 f') H' := ⟨fun a z => by
      rcases z with z | ⟨j, z⟩
      · exact .inl (.inl z)
      · rcases fm'.old j a z with ⟨j, q⟩ | q
        · exact .inl (.inr ⟨j, q⟩)
        · exact .inr q, fun a o q n t => fm'.keep a o q (fun j m => n (.inr ⟨j, m⟩)) t, g'.wof⟩
    by_cases hlt : i < ds.length
    · right
      obtain ⟨d, hd⟩ : ∃ d, ds[i]? = some d := ⟨ds[i], by simp [hlt]⟩
      obtain ⟨go, yl⟩ := (isit _ H' i hl).1 d hd
      have hdrop : ds.drop i = d :: ds.drop (i + 1) := by
        rw [List.drop_eq_getElem_cons hlt]
        congr 1
        have := List.getElem?_eq_getElem hlt
        rw [this] at hd
        exact Option.some.inj hd
      rw [hdrop] at hq
      refine ⟨go, fun σ5 H5 => ∃ r' f', Good cm W0 H5 σ5 r' f' ∧ Fram H1 f1 H5 f' [] ∧ Keep ks σ σ5 ∧ SPost cm E W0 H1 σ f1 ks D (forS gg g (ds.drop (i + 1)) r'), fun σ5 H5 h5 => ⟨ds.length - (i + 1), by omega, rfl, hlt, h5⟩, fun x H3 y => ?_⟩
      obtain ⟨e3, r3⟩ := yl x H3 y
      have fm3 : Fram H1 f1 H3 f' [] := fm'.trans (Fram.of_ex e3 fun _ m => (nomatch m))
      refine g2 W0 H3 σ' r' f' x d (g'.ex e3) r3 _ ?_
      unfold forS at hq
      split at hq
      · rename_i r2 hr2
        rw [hr2]
        intro σ2 f2 gd2 sub2 k2
        have fm2 : Fram H1 f1 H3 f2 [] := ⟨@Fram.keep _ _ _ _ _ _ fm3, fun j a m => fm3.old j a (sub2 j a m), fun _ m => (nomatch m), fm3.back, fm3.tb⟩
        refine b2 W0 H3 σ2 r2 f2 gd2 _ ?_
        cases hb : g r2 with
        | nx r4 =>
          rw [hb] at hq
          exact fun σ4 H4 f4 g4 fm4 k4 => ⟨r4, f4, g4, fm2.trans fm4, (k'.trans k2).trans k4, hq⟩
        | ct r4 =>
          rw [hb] at hq
          exact fun σ4 H4 f4 g4 fm4 k4 => ⟨r4, f4, g4, fm2.trans fm4, (k'.trans k2).trans k4, hq⟩
        | bk r4 =>
          rw [hb] at hq
          exact fun σ4 H4 f4 g4 fm4 k4 => hq σ4 H4 f4 g4 (fm2.trans fm4) ((k'.trans k2).trans k4)
        | rt d4 r4 =>
          rw [hb] at hq
          exact fun v σ4 H4 f4 p4 g4 rp nd nw fm4 k4 => hq v σ4 H4 f4 p4 g4 rp nd nw (fm2.trans fm4) ((k'.trans k2).trans k4)
        | exn x4 r4 =>
          rw [hb] at hq
          exact fun σ4 H4 f4 dx g4 fm4 k4 xr => hq σ4 H4 f4 dx g4 (fm2.trans fm4) ((k'.trans k2).trans k4) xr
        | bad => rw [hb] at hq; exact hq.elim
      · exact hq.elim
    · left
      have e : i = ds.length := by omega
      subst e
      refine ⟨(isit _ H' _ hl).2 (by simp), ?_⟩
      rw [List.drop_length] at hq
      exact hq σ' H' f' g' fm' k'
  · rename_i x r' hr
    rw [hr]
    exact fun H' fps' dx g' fm xr => hp σ H' fps' dx g' fm (Keep.refl ks σ) xr
  · exact hp.elim
end
end DL

namespace DL
variable [Tbs]
open PySem L2
open PyProof.Rows (envOfC)

structure RoomG (k : Nat) (A : Around) : Prop where
  rm : Room k A
  gd : A.guards = some []
theorem RoomG.mono {j k : Nat} {A : Around} (r : RoomG k A) (h : j ≤ k) : RoomG j A := ⟨r.rm.mono h, r.gd⟩
theorem RoomG.units {k : Nat} {A : Around} (r : RoomG k A) : A.units + 64 < cLine := r.rm.units
theorem RoomG.down {k : Nat} {A : Around} (r : RoomG (k + 1) A) (e : PySem.Env) : RoomG k (A.deeper e) := ⟨r.rm.deeper e, r.gd⟩
structure FnG (P : Program) (w : World) (K : PySem.W.Frag) (mg : Str → Option Value) (base : Heap) (k : Nat) (f : Addr) (fd : FuncData) (ps : List Str) (sp : Sp) : Prop where
  len : ∀ vs H Q E, sp vs H Q E → vs.length = ps.length
  go : ∀ (A : Around) (outer : List PySem.Env) (s : Shared) (H : Hp) (args : Args) (us : List Value) (vs : List V) (Q : VK) (E : XK), RoomG k A → Env0 P w K mg base A outer s H → BindsTo s fd args (ps.zip us) → Vals vs us → sp vs H Q E →
    codeAny (model P w) A (.call (.ref f) args) (CR (L2.CX P w) outer P w H s Q E) s
theorem FnG.mono {P : Program} {w : World} {K : PySem.W.Frag} {mg : Str → Option Value} {base : Heap} {j k : Nat} {f : Addr} {fd : FuncData} {ps : List Str} {sp : Sp} (F : FnG P w K mg base j f fd ps sp) (h : j ≤ k) : FnG P w K mg base k f fd ps sp :=
  ⟨F.len, fun A o s H ar us vs Q E hr => F.go A o s H ar us vs Q E (hr.mono h)⟩
theorem FnG.imp {P : Program} {w : World} {K : PySem.W.Frag} {mg : Str → Option Value} {base : Heap} {k : Nat} {f : Addr} {fd : FuncData} {ps : List Str} {sp sp' : Sp} (F : FnG P w K mg base k f fd ps sp) (h : ∀ vs H Q E, sp' vs H Q E → sp vs H Q E) : FnG P w K mg base k f fd ps sp' :=
  ⟨fun vs H Q E z => F.len vs H Q E (h vs H Q E z), fun A o s H ar us vs Q E hr e0 hb hv z => F.go A o s H ar us vs Q E hr e0 hb hv (h vs H Q E z)⟩
abbrev cxB (P : Program) (w : World) (K : PySem.W.Frag) (mg : Str → Option Value) (base : Heap) (N : List Str) (qual : Str) (sc : Scope) (f : Addr) (cdv : Value) (A : Around) (outer : List PySem.Env) (s : Shared) (H : Hp) (E : XK) : Cx := cxOf (L2.CX P w) P w K mg base N qual sc f cdv A outer s H E
structure FunE (K : PySem.W.Frag) (x qual : Str) (st : Stmt) (dvs : List V) (f : Addr) (fd : FuncData) : Prop where
  ex : ∃ (oc : Value) (od : Option Addr) (dV kV doc pm : Value) (an : Option Addr) (cdv ct : Value) (osl : Array (Option Value)),
    fd = PySem.W.fnOf x qual (defArgs st) (defBody st) (defScope st) dV kV doc pm an cdv ct ∧ K.lookup f = some ⟨oc, od, .func fd, osl⟩ ∧ PySem.W.codeIn K cdv qual = true ∧ DflV K dV dvs
  kp : PySem.W.keepIn K (.ref f) = true
theorem funE_mk {K : PySem.W.Frag} {x qual : Str} {st : Stmt} {f T : Addr} {oc oT : Value} {od an dT : Option Addr} {osl slT : Array (Option Value)} {kV doc pm cdv ct : Value} {its : List Value} {n : Nat} {dvs : List V} (l : K.lookup f = some ⟨oc, od, .func (PySem.W.fnOf x qual (defArgs st) (defBody st) (defScope st) (.ref T) kV doc pm an cdv ct), osl⟩)
    (c : PySem.W.codeIn K cdv qual = true) (k : PySem.W.keepIn K (.ref f) = true) (lT : K.lookup T = some ⟨oT, dT, .seq its.toArray n, slT⟩) (hv : Vals dvs its) (hne : dvs ≠ []) : FunE K x qual st dvs f (PySem.W.fnOf x qual (defArgs st) (defBody st) (defScope st) (.ref T) kV doc pm an cdv ct) :=
  ⟨⟨oc, od, .ref T, kV, doc, pm, an, cdv, ct, osl, rfl, l, c, .inr ⟨hne, T, _, its, n, rfl, lT, rfl, hv⟩⟩, k⟩
theorem toE {K : PySem.W.Frag} {x qual : Str} {st : Stmt} {f : Addr} {fd : FuncData} (F : Fun K x qual st f fd) : FunE K x qual st [] f fd := by
  obtain ⟨oc, od, kV, doc, pm, an, cdv, ct, osl, rfl, lk, hcd⟩ := F.ex
  exact ⟨⟨oc, od, .none, kV, doc, pm, an, cdv, ct, osl, rfl, lk, hcd, .inl ⟨rfl, rfl⟩⟩, F.kp⟩
theorem FunE.all {K : PySem.W.Frag} {x qual : Str} {st : Stmt} {dvs : List V} {f : Addr} {fd : FuncData} {ps : List Str} (F : FunE K x qual st dvs f fd)
    (h : ∀ (dV kV doc pm : Value) (an : Option Addr) (cdv ct : Value) (us : List Value), us.length = ps.length → bindArgs (PySem.W.fnOf x qual (defArgs st) (defBody st) (defScope st) dV kV doc pm an cdv ct) ⟨us, []⟩ = pure (ps.zip us)) : Binds K fd ps [] := by
  obtain ⟨oc, od, dV, kV, doc, pm, an, cdv, ct, osl, rfl, lk, hcd, _⟩ := F.ex
  exact .all (h dV kV doc pm an cdv ct)
theorem FunE.some {K : PySem.W.Frag} {x qual : Str} {st : Stmt} {dvs : List V} {f : Addr} {fd : FuncData} {ps : List Str} (F : FunE K x qual st dvs f fd) (n j : Nat) (hd : dvs ≠ []) (hn : n + (dvs.length - j) = ps.length)
    (h : ∀ (T : Addr) (kV doc pm : Value) (an : Option Addr) (cdv ct : Value) (us its : List Value), us.length = n → its.length = dvs.length →
      ∃ k, bindArgs (PySem.W.fnOf x qual (defArgs st) (defBody st) (defScope st) (.ref T) kV doc pm an cdv ct) ⟨us, []⟩ = seqItems? (.ref T) >>= k ∧ k (some its.toArray) = pure (ps.zip (us ++ its.drop j))) : ∃ ds, Vals (dvs.drop j) ds ∧ Binds K fd ps ds := by
  obtain ⟨oc, od, dV, kV, doc, pm, an, cdv, ct, osl, rfl, lk, hcd, hD⟩ := F.ex
  rcases hD with ⟨e, _⟩ | ⟨_, T, o, its, m, rfl, lT, oT, rT⟩
  · exact absurd e hd
  · refine ⟨its.drop j, rT.drop j, fun s us X hlen => ?_⟩
    have l1 : its.length = dvs.length := rT.length.symm
    have l2 : us.length = n := by
      rw [List.length_append, List.length_drop, l1] at hlen
      omega
    obtain ⟨k, e1, e2⟩ := h T kV doc pm an cdv ct us its l2 l1
    refine BindsTo.of_looks fun M => ?_
    rw [e1]
    exact looks_items X lT oT (.of_pure e2)
theorem fnE_ofc {P : Program} {w : World} {K : PySem.W.Frag} {mg : Str → Option Value} {base : Heap} {x qual : Str} {st : Stmt} {dvs : List V} {f : Addr} {fd : FuncData} {N ps : List Str} {k : Nat} {sp : Sp} (F : FunE K x qual st dvs f fd) (S : FnScope N ps (defScope st)) (len : ∀ vs H Q E, sp vs H Q E → vs.length = ps.length)
    (hb : ∀ (cdv : Value), fd.code = cdv → ∀ (A : Around) (outer : List PySem.Env) (s : Shared) (H : Hp) (vs : List V) (Q : VK) (E : XK), RoomG k (A.deeper (envOfC qual (defScope st) s.heap.objs.size f cdv)) → sp vs H Q E →
      ∃ t, PSs (cxB P w K mg base N qual (defScope st) f cdv A outer s H E) (defBody st) t ∧ t { nx := fun _ H' => Q .non H', rt := Q } (L2.start N vs) H) : FnG P w K mg base (k + 1) f fd ps sp := by
  obtain ⟨oc, od, dV, kV, doc, pm, an, cdv, ct, osl, rfl, lk, hcd, _⟩ := F.ex
  refine ⟨len, fun A o s H ar us vs Q E hr e0 bd rv z => ?_⟩
  have keepB : ∀ a u, base.get? a = some u → s.heap.get? a = some u := fun a u h => (e0.bs a u h).1
  have kin := e0.mod.kin.keeps keepB
  have nol := e0.mod.nolimit.keeps keepB
  have par : ∀ y ∈ ps.zip us, (defScope st).names.lookup y.1 = some .local ∨ ((defScope st).names.lookup y.1 = some .cell ∧ ((cellsFrom (s.heap.objs.size + 1) (defScope st).names []).lookup y.1).isSome = true) := by
    rintro ⟨n, v⟩ hy
    exact (S.par n (List.of_mem_zip hy).1).imp id fun q => ⟨q, PySem.W.cellsFrom_some _ _ _ (.inl q)⟩
  apply codeAny_call_function hr.rm.depth (kin _ _ lk) rfl S.co S.gen rfl (PySem.W.codeRec_of kin hcd)
  apply bd
  apply wpAny_newFunctionEnv_cells S.kind par
  rintro env rfl s1 x
  refine ⟨nol.keeps x.toInCall.keep, codeAny_func ?_⟩
  obtain ⟨t, ht, q⟩ := hb cdv rfl A o s H vs Q E (hr.down _) z
  have I := inv_start (CX := L2.CX P w) (E := E) S hr.rm.hd e0 (len _ _ _ _ z) rv x
  refine wpAny_mono (ht.run [] s1 _ H _ I q) ?_ fun _ _ h => h
  intro fl s' hs
  match fl, hs with
  | .ret u, ⟨v, σ', H', J, rv, q⟩ => exact ⟨v, H', J.os, J.bare, J.base, J.hok, rv, q⟩
  | .next, ⟨σ', H', J, q⟩ => exact ⟨V.non, H', J.os, J.bare, J.base, J.hok, rfl, q⟩
  | .brk, ⟨_, _, _, q⟩ => exact q.elim
  | .cont, ⟨_, _, _, q⟩ => exact q.elim
theorem fnE_of {P : Program} {w : World} {K : PySem.W.Frag} {mg : Str → Option Value} {base : Heap} {x qual : Str} {st : Stmt} {dvs : List V} {f : Addr} {fd : FuncData} {N ps : List Str} {k : Nat} {sp : Sp} (F : FunE K x qual st dvs f fd) (S : FnScope N ps (defScope st)) (len : ∀ vs H Q E, sp vs H Q E → vs.length = ps.length)
    (hb : ∀ (cdv : Value) (A : Around) (outer : List PySem.Env) (s : Shared) (H : Hp) (vs : List V) (Q : VK) (E : XK), RoomG k (A.deeper (envOfC qual (defScope st) s.heap.objs.size f cdv)) → sp vs H Q E →
      ∃ t, PSs (cxB P w K mg base N qual (defScope st) f cdv A outer s H E) (defBody st) t ∧ t { nx := fun _ H' => Q .non H', rt := Q } (L2.start N vs) H) : FnG P w K mg base (k + 1) f fd ps sp := fnE_ofc F S len fun cdv _ => hb cdv
abbrev PassG (X : Cx) (E : XS) : Prop := ∀ σ, PassesAt (L2.CX X.prog X.w) X σ (E σ)
theorem pass_none {X : Cx} : PassG X E0' := fun σ _ _ _ _ _ _ h => by
  obtain ⟨_, _, _, _, _, _, _, _, _, _, _, _, z⟩ := h
  exact z.elim
theorem run_fnG {X : Cx} {k : Nat} {f : Addr} {fd : FuncData} {ps : List Str} {sp : Sp} {E : XS} {dvs : List V} {ds : List Value} {pins : List (Addr × Obj)} {σ : St} {H : Hp} {s : Shared} {Q : VK} {us : List Value} {vs : List V} (F : FnG X.prog X.w X.K X.mg X.base k f fd ps sp) (hr : RoomG k X.A) (hb : Binds X.K fd ps ds) (hd : Vals dvs ds) (hx : PassG X E)
    (I : Inv X pins σ H s) (r : Vals vs us) (h : sp (vs ++ dvs) H Q (E σ)) : wpAny (model X.prog X.w) X.A (call (.ref f) us) (EP X pins σ Q) X.xe s := by
  have r2 := r.append hd
  have hl : (us ++ ds).length = ps.length := r2.length.symm.trans (F.len _ _ _ _ h)
  apply wpAny_call
  apply codeAny_mono (F.go X.A X.stack s H ⟨us, []⟩ (us ++ ds) (vs ++ dvs) Q (E σ) hr I.env0 (hb s us I.kIn hl) r2 h)
  intro res s' hq
  match res, hq with
  | .error e, hq => exact hx σ pins H s e s' I hq
  | .ok (.ret u), hq => exact I.after hq
def tCallG (sp : Sp) (dvs : List V) (E : XS) (t : TA) : TE := fun σ H Q => t σ H fun vs H1 => sp (vs ++ dvs) H1 Q (E σ)
theorem pe_callG {X : Cx} {k : Nat} {f : Addr} {fd : FuncData} {ps : List Str} {sp : Sp} {E : XS} {dvs : List V} {ds : List Value} {x : Str} {p pos : Pos} {e : Expr} {es : List Expr} {t : TA} (F : FnG X.prog X.w X.K X.mg X.base k f fd ps sp) (hr : RoomG k X.A) (hg : Gl X x) (hm : X.mg x = some (.ref f)) (hk : PySem.W.keepIn X.K (.ref f) = true) (hb : Binds X.K fd ps ds) (hd : Vals dvs ds) (hx : PassG X E)
    (ha : PA X (e :: es) t) (hdb : (x == ("__debug__" : Str)) = false := by decide) (he : starEach (e :: es) X.env = (false, eval e X.env) :: starEach es X.env := by rfl) (hpl : (backTo pos (starEach es X.env)).any (·.1) = false := by rfl) :
    PE X (.Call (.Name x p) (e :: es) [] pos) (tCallG sp dvs E t) := ⟨fun pins s σ H Q I h => wpAny_Call_Name_kw (ld_glob I hg hm (PySem.W.callWith_K (h₀ := X.base) I.ok.mod.kin hk (thn (ha.run pos pins s σ H _ I h) fun us s1 z => by
      obtain ⟨vs, H1, I1, r, q⟩ := z
      exact ⟨I1.kIn, run_fnG F hr hb hd hx I1 r q⟩) he hpl) hdb)⟩
def runP (n N : Nat) (g : FS) (ds : List D) : Out D := if ds.length = n then (match g (ds.map some ++ List.replicate (N - n) none) with
  | .nx _ => .ok .non
  | .rt d _ => .ok d
  | .exn x _ => .exn x []
  | _ => .bad) else .bad
def spP (cm : Cm) (n : Nat) (m : List D → Out D) : Sp := fun vs H Q E => ∃ W ds, WOk cm W H ∧ Reps cm W H vs ds [] ∧ ds.length = n ∧ Post (m ds) (QP cm W true H Q) (XPost cm E W H)
theorem good_start {cm : Cm} {W : Addr → Prop} {H : Hp} {vs : List V} {ds : List D} (N : List Str) (w : WOk cm W H) (rp : Reps cm W H vs ds []) : Good cm W H (L2.start N vs) (ds.map some ++ List.replicate (N.length - ds.length) none) (fun _ => []) := by
  have hl := rp.len
  refine ⟨by unfold L2.start; simp [hl], w, fun i d h => ?_, fun _ => List.nodup_nil, fun _ _ _ m => (nomatch m), fun _ _ m => (nomatch m), fun _ _ m => (nomatch m)⟩
  rw [List.getElem?_append] at h
  unfold L2.start
  rw [List.getElem?_append]
  split at h
  · rename_i hi
    rw [List.length_map] at hi
    rw [List.getElem?_map] at h
    obtain ⟨d', h1, h2⟩ := Option.map_eq_some_iff.mp h
    cases h2
    obtain ⟨v, h3, h4⟩ := rp.at rfl h1
    refine ⟨v, ?_, h4.move (fun a z => .inl (z.resolve_right fun ⟨_, m⟩ => (nomatch m))) fun _ _ q _ _ => q⟩
    rw [if_pos (by rw [List.length_map, hl]; exact hi), List.getElem?_map, h3]
    rfl
  · rw [List.getElem?_replicate] at h
    split at h <;> cases h
theorem ex_of_fram {H H' : Hp} {fps' : Fps} {fpv : List Addr} (fm : Fram H (fun _ => []) H' fps' fpv) : Ex H H' := ⟨fun a o h t => fm.keep a o h (fun _ m => (nomatch m)) t, fm.back, fm.tb⟩
theorem fn_pureE {P : Program} {w : World} {K : PySem.W.Frag} {mg : Str → Option Value} {base : Heap} {cm : Cm} {x qual : Str} {st : Stmt} {dvs : List V} {f : Addr} {fd : FuncData} {N ps : List Str} {k : Nat} {g : FS} (F : FunE K x qual st dvs f fd) (S : FnScope N ps (defScope st))
    (hb : ∀ (cdv : Value) (A : Around) (outer : List PySem.Env) (s : Shared) (H : Hp) (E : XK), RoomG k (A.deeper (envOfC qual (defScope st) s.heap.objs.size f cdv)) → DSs (cxB P w K mg base N qual (defScope st) f cdv A outer s H E) cm (fun _ => E) k0 (defBody st) g) :
    FnG P w K mg base (k + 1) f fd ps (spP cm ps.length (runP ps.length N.length g)) := by
  refine fnE_of F S (fun vs H Q E h => ?_) (fun cdv A outer s H vs Q E hr h => ?_)
  · obtain ⟨W, ds, _, rp, hl, _⟩ := h
    rw [rp.len, hl]
  · obtain ⟨W, ds, w, rp, hl, hp⟩ := h
    obtain ⟨ts, h1, h2⟩ := (hb cdv A outer s H E hr).ex
    refine ⟨ts, h1, h2 W H (L2.start N vs) _ _ (good_start N w rp) _ ?_⟩
    unfold runP at hp
    rw [if_pos hl] at hp
    rw [hl]
    split at hp
    · rename_i r' hr'
      rw [hr']
      intro σ' H' fps' g' fm k'
      exact hp .non H' [] (ex_of_fram fm) .non FpN.nil
    · rename_i d r' hr'
      rw [hr']
      intro v σ' H' fps' fpv g' rp' nd nw fm k'
      refine hp v H' fpv (ex_of_fram fm) (rp'.move (fun a z => .inl (.inl z)) fun _ _ q _ _ => q) ⟨nd, fun a m => ?_⟩
      rcases fm.oldv a m with ⟨_, m⟩ | q
      · cases m
      · exact q
    · rename_i x r' hr'
      rw [hr']
      exact fun σ' H' fps' dx g' fm k' xr => hp H' dx (ex_of_fram fm) (xr.weak fun a z => .inl z)
    · exact hp.elim

theorem fn_pure {P : Program} {w : World} {K : PySem.W.Frag} {mg : Str → Option Value} {base : Heap} {cm : Cm} {x qual : Str} {st : Stmt} {f : Addr} {fd : FuncData} {N ps : List Str} {k : Nat} {g : FS} (F : Fun K x qual st f fd) (S : FnScope N ps (defScope st))
    (hb : ∀ (cdv : Value) (A : Around) (outer : List PySem.Env) (s : Shared) (H : Hp) (E : XK), RoomG k (A.deeper (envOfC qual (defScope st) s.heap.objs.size f cdv)) → DSs (cxB P w K mg base N qual (defScope st) f cdv A outer s H E) cm (fun _ => E) k0 (defBody st) g) :
    FnG P w K mg base (k + 1) f fd ps (spP cm ps.length (runP ps.length N.length g)) := fn_pureE (toE F) S hb

section
variable {X : Cx} {cm : Cm} {E : XS} {b : Bool} {pos p : Pos} {ks : Nat → Bool} {a c e : Expr} {es : List Expr} {x : Str} {k n : Nat} {f : Addr} {fd : FuncData} {ps : List Str} {m : List D → Out D}
theorem de_call {fs : Env → Out (List D)} (Fo : FnG X.prog X.w X.K X.mg X.base k f fd ps (spP cm n m)) (hr : RoomG k X.A) (hg : Gl X x) (hm : X.mg x = some (.ref f)) (hk : PySem.W.keepIn X.K (.ref f) = true) (hb : Binds X.K fd ps []) (hx : PassG X E) (ha : DA X cm E false (e :: es) fs) (hn : ps.length = n := by rfl) (hdb : (x == ("__debug__" : Str)) = false := by decide)
    (he : starEach (e :: es) X.env = (false, eval e X.env) :: starEach es X.env := by rfl) (hpl : (backTo pos (starEach es X.env)).any (·.1) = false := by rfl) : DE X cm E true (.Call (.Name x p) (e :: es) [] pos) (cA (fun ds => if ds.length = n then m ds else .bad) fs) := by
  obtain ⟨ta, h1, h2⟩ := ha.ex
  refine ⟨_, pe_callG Fo hr hg hm hk hb .nil hx h1 hdb he hpl, fun W H σ env w fr Q hp => h2 W H σ env w fr _ (hp.bind.mono (fun ds q vs H1 fp e1 r1 f1 => ?_) fun _ _ z => z)⟩
  split at q
  · rename_i hl
    cases (show fp = [] from f1)
    refine ⟨W, ds, w.ex e1, by rw [List.append_nil]; exact r1.ofP, hl, q.mono (fun d q3 z H3 fp3 e3 r3 f3 => q3 z H3 fp3 (e1.trans e3) r3 (f3.ex e1)) fun x rr z => XPost.ex e1 z⟩
  · exact q.elim
def xC (m : List D → Out D) (h : Env → Out (List D × Env)) : FX := fun r => (h r).bind fun p => match m (frzs p.1) with
  | .ok d => .ok (d, p.2)
  | .exn x _ => .exn x p.2
  | .bad => .bad
abbrev fps0 (fp : List Addr) : Fps := fun j => if j = 0 then fp else []
abbrev QIO (cm : Cm) (W0 : Addr → Prop) (H : Hp) (fp : List Addr) (v0 : V) (Q : VK) : D × D → Prop := fun p => ∀ v H' fp' fpv, Rep cm (Wp W0 (fp' ++ fpv)) H' v0 p.2 fp' → Rep cm (Wp W0 (fp' ++ fpv)) H' v p.1 fpv → (fp' ++ fpv).Nodup → (∀ a ∈ fp' ++ fpv, ¬ W0 a) → Fram H (fps0 fp) H' (fps0 fp') fpv → Q v H'
abbrev XIO (cm : Cm) (W0 : Addr → Prop) (H : Hp) (fp : List Addr) (v0 : V) (E : XK) : Xc → Env → Prop := fun x r => ∀ d1 H' fp' dx, r = [some d1] → Rep cm (Wp W0 fp') H' v0 d1 fp' → fp'.Nodup → (∀ a ∈ fp', ¬ W0 a) → Fram H (fps0 fp) H' (fps0 fp') [] → XRep cm (Wp W0 fp') H' x dx → E (.ref (cm.cl x.cls)) dx H'
def spX (cm : Cm) (n : Nat) (m : List D → Out (D × D)) : Sp := fun vs H Q E => ∃ W0 v0 d0 fp vs' ds', vs = v0 :: vs' ∧ WOk cm (Wp W0 fp) H ∧ fp.Nodup ∧ (∀ a ∈ fp, ¬ W0 a) ∧ Rep cm (Wp W0 fp) H v0 d0 fp ∧ Reps cm (Wp W0 fp) H vs' ds' [] ∧ ds'.length + 1 = n ∧ Post (m (d0 :: ds')) (QIO cm W0 H fp v0 Q) (XIO cm W0 H fp v0 E)
def runX (n N : Nat) (g : FS) (ds : List D) : Out (D × D) := if ds.length = n then (match g (ds.map some ++ List.replicate (N - n) none) with
  | .nx r => match r[0]? with
    | some (some d0) => .ok (.non, d0)
    | _ => .bad
  | .rt d r => match r[0]? with
    | some (some d0) => .ok (d, d0)
    | _ => .bad
  | .exn x r => match r[0]? with
    | some (some d0) => .exn x [some d0]
    | _ => .bad
  | _ => .bad) else .bad
theorem fn_ioE {P : Program} {w : World} {K : PySem.W.Frag} {mg : Str → Option Value} {base : Heap} {cm : Cm} {x qual : Str} {st : Stmt} {dvs : List V} {f : Addr} {fd : FuncData} {N ps : List Str} {k : Nat} {g : FS} (F : FunE K x qual st dvs f fd) (S : FnScope N ps (defScope st))
    (hb : ∀ (cdv : Value) (A : Around) (outer : List PySem.Env) (s : Shared) (H : Hp) (E : XK), RoomG k (A.deeper (envOfC qual (defScope st) s.heap.objs.size f cdv)) → DSs (cxB P w K mg base N qual (defScope st) f cdv A outer s H E) cm (fun _ => E) k1 (defBody st) g) :
    FnG P w K mg base (k + 1) f fd ps (spX cm ps.length (runX ps.length N.length g)) := by
  refine fnE_of F S (fun vs H Q E h => ?_) (fun cdv A outer s H vs Q E hr h => ?_)
  · obtain ⟨W0, v0, d0, fp, vs', ds', rfl, _, _, _, _, rp, hl, _⟩ := h
    rw [List.length_cons, rp.len, hl]
  · obtain ⟨W0, v0, d0, fp, vs', ds', rfl, w, nd, nw, rp0, rp, hl, hp⟩ := h
    obtain ⟨ts, h1, h2⟩ := (hb cdv A outer s H E hr).ex
    have hvl := rp.len
    have gd : Good cm W0 H (L2.start N (v0 :: vs')) ((d0 :: ds').map some ++ List.replicate (N.length - (d0 :: ds').length) none) (fps0 fp) := by
      have hw : ∀ a, Wof W0 (fps0 fp) a → Wp W0 fp a := fun a z => by
        rcases z with z | ⟨j, m⟩
        · exact .inl z
        · by_cases hj : j = 0
          · subst hj; exact .inr m
          · rw [show fps0 fp j = [] from if_neg hj] at m; cases m
      have f0 : ∀ {j a}, a ∈ fps0 fp j → j = 0 ∧ a ∈ fp := fun {j a} m => by
        by_cases hj : j = 0
        · subst hj; exact ⟨rfl, m⟩
        · rw [show fps0 fp j = [] from if_neg hj] at m; cases m
      refine ⟨by unfold L2.start; simp [hvl], ⟨fun a z => w.1 a (.inl z), w.2⟩, fun i d h => ?_, fun i => ?_, fun i j a m m' => by rw [(f0 m).1, (f0 m').1], fun i a m => nw a (f0 m).2, fun i a m => w.1 a (.inr (f0 m).2)⟩
      · cases i with
        | zero =>
          simp at h
          subst h
          exact ⟨v0, by simp [L2.start], rp0.move (fun a z => .inl (hw a z)) fun _ _ q _ _ => q⟩
        | succ i =>
          rw [List.map_cons, List.cons_append, List.getElem?_cons_succ, List.getElem?_append] at h
          unfold L2.start
          rw [List.map_cons, List.cons_append, List.getElem?_cons_succ, List.getElem?_append]
          split at h
          · rename_i hi
            rw [List.length_map] at hi
            rw [List.getElem?_map] at h
            obtain ⟨d', q1, q2⟩ := Option.map_eq_some_iff.mp h
            cases q2
            obtain ⟨v, q3, q4⟩ := rp.at rfl q1
            refine ⟨v, ?_, ?_⟩
            · rw [if_pos (by rw [List.length_map, hvl]; exact hi), List.getElem?_map, q3]
              rfl
            · rw [show fps0 fp (i + 1) = [] from rfl]
              exact q4.move (fun a z => .inl (hw a z)) fun _ _ q _ _ => q
          · rw [List.getElem?_replicate] at h
            split at h <;> cases h
      · by_cases hi : i = 0
        · subst hi; exact nd
        · rw [show fps0 fp i = [] from if_neg hi]; exact List.nodup_nil
    refine ⟨ts, h1, h2 W0 H (L2.start N (v0 :: vs')) _ (fps0 fp) gd _ ?_⟩
    unfold runX at hp
    have hl' : (d0 :: ds').length = ps.length := hl
    rw [if_pos hl'] at hp
    rw [hl']
    have h0 : (L2.start N (v0 :: vs'))[0]? = some (some v0) := by simp [L2.start]
    have fin : ∀ {v : V} {d d1 : D} {σ' : St} {H' : Hp} {fps' : Fps} {fpv : List Addr} {r' : Env}, Good cm (Wp W0 fpv) H' σ' r' fps' → Rep cm (Wof (Wp W0 fpv) fps') H' v d fpv → fpv.Nodup → (∀ a ∈ fpv, ¬ W0 a) → Fram H (fps0 fp) H' fps' fpv → Keep k1 (L2.start N (v0 :: vs')) σ' → r'[0]? = some (some d1) → QIO cm W0 H fp v0 Q (d, d1) → Q v H' := by
      intro v d d1 σ' H' fps' fpv r' g' rp' nd' nw' fm k' hr0 hq
      obtain ⟨u, k1, k2⟩ := g'.sl 0 d1 hr0
      rw [k'.2 0 rfl, h0] at k1
      cases k1
      have sub : ∀ a, Wp W0 (fps' 0 ++ fpv) a → Wof (Wp W0 fpv) fps' a := fun a z => by
        rcases z with z | z
        · exact .inl (.inl z)
        · rcases List.mem_append.mp z with z | z
          · exact .inr ⟨0, z⟩
          · exact .inl (.inr z)
      refine hq v H' (fps' 0) fpv (k2.move (fun a z => .inl (sub a z)) fun _ _ q _ _ => q) (rp'.move (fun a z => .inl (sub a z)) fun _ _ q _ _ => q) (List.nodup_append.mpr ⟨g'.nd 0, nd', fun a m c m' z => g'.nw 0 a m (.inr (z ▸ m'))⟩) (fun a m => ?_) ⟨@Fram.keep _ _ _ _ _ _ fm, fun j a m => ?_, fm.oldv, fm.back, fm.tb⟩
      · rcases List.mem_append.mp m with m | m
        · exact fun z => g'.nw 0 a m (.inl z)
        · exact nw' a m
      · by_cases hj : j = 0
        · subst hj; exact fm.old 0 a m
        · rw [show fps0 (fps' 0) j = [] from if_neg hj] at m; cases m
    split at hp
    · rename_i r' hr'
      rw [hr']
      split at hp
      · rename_i d1 hd1
        exact fun σ' H' fps' g' fm k' => fin (v := .non) (fpv := []) (by rw [wp_nil]; exact g') .non List.nodup_nil (fun _ m => (nomatch m)) fm k' hd1 hp
      · exact hp.elim
    · rename_i d r' hr'
      rw [hr']
      split at hp
      · rename_i d1 hd1
        exact fun v σ' H' fps' fpv g' rp' nd' nw' fm k' => fin g' rp' nd' nw' fm k' hd1 hp
      · exact hp.elim
    · rename_i x r' hr'
      rw [hr']
      split at hp
      · rename_i d1 hd1
        intro σ' H' fps' dx g' fm k' xr
        obtain ⟨u, k1, k2⟩ := g'.sl 0 d1 hd1
        rw [k'.2 0 rfl, h0] at k1
        cases k1
        have sub : ∀ a, Wp W0 (fps' 0) a → Wof W0 fps' a := fun a z => z.imp id fun z => ⟨0, z⟩
        refine hp d1 H' (fps' 0) dx rfl (k2.move (fun a z => .inl (sub a z)) fun _ _ q _ _ => q) (g'.nd 0) (fun a m => g'.nw 0 a m) ⟨@Fram.keep _ _ _ _ _ _ fm, fun j a m => ?_, fm.oldv, fm.back, fm.tb⟩ (xr.weak sub)
        by_cases hj : j = 0
        · subst hj; exact fm.old 0 a m
        · rw [show fps0 (fps' 0) j = [] from if_neg hj] at m; cases m
      · exact hp.elim
    · exact hp.elim
theorem fn_io {P : Program} {w : World} {K : PySem.W.Frag} {mg : Str → Option Value} {base : Heap} {cm : Cm} {x qual : Str} {st : Stmt} {f : Addr} {fd : FuncData} {N ps : List Str} {k : Nat} {g : FS} (F : Fun K x qual st f fd) (S : FnScope N ps (defScope st))
    (hb : ∀ (cdv : Value) (A : Around) (outer : List PySem.Env) (s : Shared) (H : Hp) (E : XK), RoomG k (A.deeper (envOfC qual (defScope st) s.heap.objs.size f cdv)) → DSs (cxB P w K mg base N qual (defScope st) f cdv A outer s H E) cm (fun _ => E) k1 (defBody st) g) :
    FnG P w K mg base (k + 1) f fd ps (spX cm ps.length (runX ps.length N.length g)) := fn_ioE (toE F) S hb
def xIO (i n : Nat) (m : List D → Out (D × D)) (h : Env → Out (List D × Env)) : FX := fun r => match r[i]? with
  | some (some _) => (h r).bind fun p => match p.2[i]? with
    | some (some d0) => if p.1.length + 1 = n then (match m (d0 :: frzs p.1) with
      | .ok q => .ok (q.1, p.2.set i (some q.2))
      | .exn x [some d1] => .exn x (p.2.set i (some d1))
      | _ => .bad) else .bad
    | _ => .bad
  | _ => .bad
theorem frzs_len : ∀ ds : List D, (frzs ds).length = ds.length
  | [] => rfl
  | d :: ds => by rw [frzs, List.length_cons, List.length_cons, frzs_len ds]
theorem io_back {W0 : Addr → Prop} {H H1 H2 : Hp} {σ : St} {r1 : Env} {fps f1 : Fps} {p1 fp' fpv : List Addr} {i : Nat} {v0 : V} {d1 : D} (g1' : Good cm W0 H1 σ r1 f1) (hv0 : σ[i]? = some (some v0)) (r0 : Rep cm (Wp (fun a => W0 a ∨ ∃ j, j ≠ i ∧ a ∈ f1 j) (fp' ++ fpv)) H2 v0 d1 fp') (own : ∀ a ∈ fpv, MutAt H2 a) (nd : (fp' ++ fpv).Nodup) (nw : ∀ a ∈ fp' ++ fpv, ¬ (W0 a ∨ ∃ j, j ≠ i ∧ a ∈ f1 j)) (fm : Fram H1 (fps0 (f1 i)) H2 (fps0 fp') fpv) (m1 : Fram H fps H1 f1 p1) :
    Good cm (Wp W0 fpv) H2 σ (r1.set i (some d1)) (fun j => if j = i then fp' else f1 j) ∧ Fram H fps H2 (fun j => if j = i then fp' else f1 j) fpv ∧ ∀ a, Wof (Wp W0 fpv) (fun j => if j = i then fp' else f1 j) a → Wp (fun a => W0 a ∨ ∃ j, j ≠ i ∧ a ∈ f1 j) (fp' ++ fpv) a := by
  have nd' := List.nodup_append.mp nd
  have hkeep : ∀ a o, H1 a = some o → a ∉ f1 i → (t : isTb o = false := by rfl) → H2 a = some o := fun a o q n t => fm.keep a o q (fun j m => by
    by_cases hj : j = 0
    · subst hj; exact n m
    · rw [show fps0 (f1 i) j = [] from if_neg hj] at m; cases m) t
  have hold : ∀ a, a ∈ fp' → a ∈ f1 i ∨ H1 a = none := fun a m => (fm.old 0 a m).imp (fun ⟨j, m⟩ => by
    by_cases hj : j = 0
    · subst hj; exact m
    · rw [show fps0 (f1 i) j = [] from if_neg hj] at m; cases m) id
  have holdv : ∀ a, a ∈ fpv → a ∈ f1 i ∨ H1 a = none := fun a m => (fm.oldv a m).imp (fun ⟨j, m⟩ => by
    by_cases hj : j = 0
    · subst hj; exact m
    · rw [show fps0 (f1 i) j = [] from if_neg hj] at m; cases m) id
  have hother : ∀ j a, j ≠ i → a ∈ f1 j → a ∉ fp' ∧ a ∉ fpv := fun j a hj m =>
    ⟨fun z => nw a (List.mem_append_left _ z) (.inr ⟨j, hj, m⟩), fun z => nw a (List.mem_append_right _ z) (.inr ⟨j, hj, m⟩)⟩
  have sub2 : ∀ {j a}, a ∈ (if j = i then fp' else f1 j) → (j = i ∧ a ∈ fp') ∨ (j ≠ i ∧ a ∈ f1 j) := fun {j a} m => by
    split at m
    · exact .inl ⟨by assumption, m⟩
    · exact .inr ⟨by assumption, m⟩
  have wback : ∀ a, Wof (Wp W0 fpv) (fun j => if j = i then fp' else f1 j) a → Wp (fun a => W0 a ∨ ∃ j, j ≠ i ∧ a ∈ f1 j) (fp' ++ fpv) a := fun a z => by
    rcases z with (z | z) | ⟨j, m⟩
    · exact .inl (.inl z)
    · exact .inr (List.mem_append_right _ z)
    · rcases sub2 m with ⟨_, m⟩ | ⟨hj, m⟩
      · exact .inr (List.mem_append_left _ m)
      · exact .inl (.inr ⟨j, hj, m⟩)
  have wold : ∀ a, Wof (Wp W0 fpv) (fun j => if j = i then fp' else f1 j) a → Wof W0 f1 a ∨ H1 a = none := fun a z => by
    rcases z with (z | z) | ⟨j, m⟩
    · exact .inl (.inl z)
    · exact (holdv a z).imp (fun m => .inr ⟨i, m⟩) id
    · rcases sub2 m with ⟨_, m⟩ | ⟨hj, m⟩
      · exact (hold a m).imp (fun m => .inr ⟨i, m⟩) id
      · exact .inl (.inr ⟨j, m⟩)
  have gd : Good cm (Wp W0 fpv) H2 σ (r1.set i (some d1)) (fun j => if j = i then fp' else f1 j) := by
    refine ⟨by rw [List.length_set]; exact g1'.len, ⟨fun a z => ?_, fm.tb g1'.w0.2⟩, fun j d hj => ?_, fun j => ?_, fun j j' a m m' => ?_, fun j a m z => ?_, fun j a m => ?_⟩
    · rcases z with z | z
      · obtain ⟨o, h1, h2⟩ := g1'.w0.1 a z
        exact ⟨o, hkeep a o h1 (fun m => g1'.nw i a m z) (isM_tb h2), h2⟩
      · exact own a z
    · rw [List.getElem?_set] at hj
      by_cases e : i = j
      · subst e
        rw [if_pos rfl] at hj
        split at hj
        · cases hj
          rw [if_pos rfl]
          exact ⟨v0, hv0, r0.move (fun a z => .inl (wback a z)) fun _ _ q _ _ => q⟩
        · cases hj
      · rw [if_neg e] at hj
        rw [if_neg (Ne.symm e)]
        obtain ⟨u, e1, e2⟩ := g1'.sl j d hj
        refine ⟨u, e1, e2.move (fun a z => wold a z) fun a o q t c => hkeep a o q (fun m => ?_) t⟩
        rcases c with c | c
        · exact c (.inr ⟨i, m⟩)
        · exact e (g1'.dj i j a m c)
    · split
      · exact nd'.1
      · exact g1'.nd j
    · rcases sub2 m with ⟨e, m⟩ | ⟨e, m⟩ <;> rcases sub2 m' with ⟨e', m'⟩ | ⟨e', m'⟩
      · rw [e, e']
      · exact absurd m (hother j' a e' m').1
      · exact absurd m' (hother j a e m).1
      · exact g1'.dj j j' a m m'
    · rcases sub2 m with ⟨e, m⟩ | ⟨e, m⟩
      · rcases z with z | z
        · exact nw a (List.mem_append_left _ m) (.inl z)
        · exact nd'.2.2 a m a z rfl
      · rcases z with z | z
        · exact g1'.nw j a m z
        · exact (hother j a e m).2 z
    · rcases sub2 m with ⟨e, m⟩ | ⟨e, m⟩
      · exact r0.own a m
      · obtain ⟨o, h1, h2⟩ := g1'.mu j a m
        exact ⟨o, hkeep a o h1 (fun m' => e (g1'.dj j i a m m')) (isM_tb h2), h2⟩
  refine ⟨gd, ⟨fun a o q n t => ?_, fun j a m => ?_, fun a m => ?_, fun a q => m1.back a (fm.back a q), fun h => fm.tb (m1.tb h)⟩, wback⟩
  · refine hkeep a o (m1.keep a o q n t) (fun m => ?_) t
    rcases m1.old i a m with ⟨j, m⟩ | z
    · exact n j m
    · rw [q] at z; cases z
  · rcases sub2 m with ⟨e, m⟩ | ⟨e, m⟩
    · rcases hold a m with m | z
      · exact m1.old i a m
      · exact .inr (m1.back a z)
    · exact m1.old j a m
  · rcases holdv a m with m | z
    · exact m1.old i a m
    · exact .inr (m1.back a z)
theorem io_con {mm : List D → Out (D × D)} {i : Nat} {ta : TA} {fs : Env → Out (List D × Env)} (h2 : ∀ W0 H σ r fps, Good cm W0 H σ r fps → ∀ Q, Post (fs r) (QXA cm W0 H σ fps Q) (XX cm E W0 H σ fps) → ta σ H Q) :
    ∀ W0 H σ r fps, Good cm W0 H σ r fps → ∀ Q, Post (xIO i n mm fs r) (QX cm W0 H σ fps Q) (XX cm E W0 H σ fps) → ∃ v0, σ[i]? = some (some v0) ∧ ta σ H fun vs H1 => spX cm n mm (v0 :: vs) H1 Q (E σ) := by
  intro W0 H σ r fps g Q hp
  unfold xIO at hp
  split at hp
  · rename_i d00 hd00
    obtain ⟨v0, hv0, _⟩ := g.sl i d00 hd00
    refine ⟨v0, hv0, h2 W0 H σ r fps g _ ((Post.bind hp).mono (fun p q vs H1 f1 p1 g1 k1 n1 w1 m1 => ?_) fun _ _ z => z)⟩
    have ko := k1.open g1 w1 fun _ m => m
    have g1' := g1.drop
    split at q
    · rename_i d0 hd0
      split at q
      · rename_i hl
        split at q
        · rename_i q' hq'
          obtain ⟨u, e1, e2⟩ := g1'.sl i d0 hd0
          rw [hv0] at e1
          cases e1
          have hsub : ∀ a, Wp (fun a => W0 a ∨ ∃ j, j ≠ i ∧ a ∈ f1 j) (f1 i) a → Wof W0 f1 a := fun a z => by
            rcases z with (z | ⟨j, _, m⟩) | z
            · exact .inl z
            · exact .inr ⟨j, m⟩
            · exact .inr ⟨i, z⟩
          refine ⟨fun a => W0 a ∨ ∃ j, j ≠ i ∧ a ∈ f1 j, v0, d0, f1 i, vs, frzs p.1, rfl, ⟨fun a z => g1'.wof.1 a (hsub a z), g1'.w0.2⟩, g1'.nd i, fun a m z => ?_, e2.move (fun a z => .inl (hsub a z)) fun _ _ q _ _ => q, ko.move (fun a z => .inl (hsub a z)) fun _ _ q _ _ => q, by rw [frzs_len]; exact hl, ?_⟩
          · rcases z with z | ⟨j, hj, m'⟩
            · exact g1'.nw i a m z
            · exact hj (g1'.dj j i a m' m)
          · rw [hq']
            intro v H2 fp' fpv r0 rv nd nw fm
            obtain ⟨gd, fr, wback⟩ := io_back g1' hv0 r0 (fun a m => rv.own a m) nd nw fm m1
            exact q v H2 _ fpv gd (rv.move (fun a z => .inl (wback a z)) fun _ _ q _ _ => q) (List.nodup_append.mp nd).2.1 (fun a m z => nw a (List.mem_append_right _ m) (.inl z)) fr
        · rename_i x1 d1 hq'
          obtain ⟨u, e1, e2⟩ := g1'.sl i d0 hd0
          rw [hv0] at e1
          cases e1
          have hsub : ∀ a, Wp (fun a => W0 a ∨ ∃ j, j ≠ i ∧ a ∈ f1 j) (f1 i) a → Wof W0 f1 a := fun a z => by
            rcases z with (z | ⟨j, _, m⟩) | z
            · exact .inl z
            · exact .inr ⟨j, m⟩
            · exact .inr ⟨i, z⟩
          refine ⟨fun a => W0 a ∨ ∃ j, j ≠ i ∧ a ∈ f1 j, v0, d0, f1 i, vs, frzs p.1, rfl, ⟨fun a z => g1'.wof.1 a (hsub a z), g1'.w0.2⟩, g1'.nd i, fun a m z => ?_, e2.move (fun a z => .inl (hsub a z)) fun _ _ q _ _ => q, ko.move (fun a z => .inl (hsub a z)) fun _ _ q _ _ => q, by rw [frzs_len]; exact hl, ?_⟩
          · rcases z with z | ⟨j, hj, m'⟩
            · exact g1'.nw i a m z
            · exact hj (g1'.dj j i a m' m)
          · rw [hq']
            intro d2 H2 fp' dx e r0 nd nw fm xr
            cases e
            obtain ⟨gd, fr, wback⟩ := io_back (fpv := []) g1' hv0 (by rw [List.append_nil]; exact r0) (fun _ m => nomatch m) (by rw [List.append_nil]; exact nd) (by rw [List.append_nil]; exact nw) fm m1
            rw [wp_nil] at gd
            refine q H2 _ dx gd fr (xr.weak fun a z => ?_)
            have := wback a (z.imp (fun z => .inl z) id)
            rw [List.append_nil] at this
            exact this
        · exact q.elim
      · exact q.elim
    · exact q.elim
  · exact hp.elim
theorem xe_io {mm : List D → Out (D × D)} (i : Nat) {fs : Env → Out (List D × Env)} (Fo : FnG X.prog X.w X.K X.mg X.base k f fd ps (spX cm n mm)) (hr : RoomG k X.A) (hg : Gl X x) (hm : X.mg x = some (.ref f)) (hk : PySem.W.keepIn X.K (.ref f) = true) (hb : Binds X.K fd ps []) (hx : PassG X E) (hv : PE X e (tVar i)) (ha : XA X cm E es fs) (hdb : (x == ("__debug__" : Str)) = false := by decide)
    (he : starEach (e :: es) X.env = (false, eval e X.env) :: starEach es X.env := by rfl) (hpl : (backTo pos (starEach es X.env)).any (·.1) = false := by rfl) : XE X cm E (.Call (.Name x p) (e :: es) [] pos) (xIO i n mm fs) := by
  obtain ⟨ta, h1, h2⟩ := ha.ex
  refine ⟨_, pe_callG Fo hr hg hm hk hb .nil hx (pa_cons hv h1 he) hdb he hpl, fun W0 H σ r fps g Q hp => ?_⟩
  obtain ⟨v0, q1, q2⟩ := io_con h2 W0 H σ r fps g Q hp
  refine ⟨v0, q1, ?_⟩
  show ta σ H fun vs H2 => spX cm n mm ((v0 :: vs) ++ []) H2 Q (E σ)
  simp only [List.append_nil]
  exact q2
end
end DL

namespace DL
variable [Tbs]
open PySem L2
section
variable {X : Cx} {cm : Cm} {E : XS} {b : Bool} {pos p : Pos} {ks : Nat → Bool} {a c e : Expr} {es : List Expr} {fa fb : F}

def joinL (sep : List Nat) : List (List Nat) → List Nat
  | [] => []
  | x :: xs => x ++ (xs.map fun y => sep ++ y).flatten
def strsD : List D → Option (List (List Nat))
  | [] => some []
  | .str x :: ds => (strsD ds).map (x :: ·)
  | _ => none
theorem glued_fold (sep : List Nat) : ∀ (xs : List (List Nat)) (acc : List Nat), (xs.map fun y => (⟨y.toArray⟩ : Str)).foldl (fun acc p => acc ++ (⟨sep.toArray⟩ : Str).cps ++ p.cps) acc.toArray = (acc ++ (xs.map fun y => sep ++ y).flatten).toArray
  | [], acc => by simp
  | y :: ys, acc => by
    rw [List.map_cons, List.foldl_cons]
    show List.foldl _ (acc.toArray ++ sep.toArray ++ y.toArray) _ = _
    rw [List.append_toArray, List.append_toArray, glued_fold sep ys, List.map_cons, List.flatten_cons, List.append_assoc, List.append_assoc, List.append_assoc]
theorem txtJoin (sep : List Nat) (xs : List (List Nat)) : Txt.join ⟨sep.toArray⟩ (xs.map fun y => ⟨y.toArray⟩) = ⟨(joinL sep xs).toArray⟩ := by
  cases xs with
  | nil => rfl
  | cons x xs =>
    show Builtin.Str.glued _ _ = _
    unfold Builtin.Str.glued joinL
    congr 1
    exact glued_fold sep xs x
theorem strsD_reps {W : Addr → Prop} {H : Hp} : ∀ {vs : List V} {ds : List D} {fp : List Addr}, Reps cm W H vs ds fp → ∀ {xs : List (List Nat)}, strsD ds = some xs → vs = (xs.map fun y => (⟨y.toArray⟩ : Str)).map V.str
  | _, _, _, .nil, xs, h => by cases h; rfl
  | _, _, _, .cons (d := d) r rs, xs, h => by
    cases d <;> first | (cases h; done) | skip
    obtain ⟨ys, h1, rfl⟩ := Option.map_eq_some_iff.mp h
    cases r
    rw [strsD_reps rs h1]
    rfl
def lenSum (xs : List (List Nat)) : Nat := (xs.map List.length).sum
def gJoin : D → D → Out D := fun s l => match s, l with
  | .str sep, .lst _ ds => match strsD ds with
    | some xs => if lenSum xs + xs.length * sep.length ≤ 1000000 then .ok (.str (joinL sep xs)) else .bad
    | none => .bad
  | _, _ => .bad
abbrev rJoin (K : PySem.W.Frag) : V → List V → Hp → VK → Prop := fun x xs H Q => ∃ a p, ∃ ys : List Str, x = .str a ∧ xs = [.ref p] ∧ (SqL K H p (ys.map V.str) ∨ SqT K H p (ys.map V.str)) ∧ (ys.map (·.length)).sum + ys.length * a.length ≤ 16777216 ∧ Q (.str (Txt.join a ys)) H
theorem o_join {W : Addr → Prop} {H : Hp} {x y : V} {dx dy : D} {Q : VK} (rx : Rep cm W H x dx []) (ry : Rep cm W H y dy []) (hp : Post (gJoin dx dy) (QP cm W b H Q) noX) : (∃ a, x = .str a) ∧ rJoin X.K x [y] H Q := by
  unfold gJoin at hp
  split at hp
  · split at hp
    · rename_i xs hxs
      split at hp
      · rename_i hz
        cases rx
        generalize hf : ([] : List Addr) = fp at ry
        cases ry with
        | lstO => cases hf
        | lstF h n r =>
          have e := strsD_reps r hxs
          subst e
          refine ⟨⟨_, rfl⟩, _, _, _, rfl, rfl, .inl (SqL.of h), ?_, ?_⟩
          · have e1 : ((xs.map fun y => (⟨y.toArray⟩ : Str)).map (·.length)) = xs.map List.length := by
              rw [List.map_map]
              exact List.map_congr_left fun y _ => strLen y
            rw [e1, List.length_map, strLen]
            exact Nat.le_trans hz (by decide)
          · rw [txtJoin]
            exact hp _ H [] (Ex.refl H) (.str _) FpN.nil
      · exact hp.elim
    · exact hp.elim
  · exact hp.elim
theorem noEx_join : NoEx gJoin := fun a b x r h => by
  unfold gJoin at h
  split at h
  · split at h
    · split at h <;> cases h
    · cases h
  · cases h
def isStrB : D → Bool
  | .str _ => true
  | _ => false
def c2S (g : D → D → Out D) (fa fb : F) : F := fun r => (fa r).bind fun a => if isStrB a = true then (fb r).bind fun b => g a b else .bad
theorem Rep.isStr {W : Addr → Prop} {H : Hp} {v : V} {d : D} {fp : List Addr} (r : Rep cm W H v d fp) (h : isStrB d = true) : ∃ a, v = .str a := by
  cases d <;> first | (cases h; done) | skip
  cases r
  exact ⟨_, rfl⟩
theorem de_m1 {te : TE → TE → TE} {r : V → List V → Hp → VK → Prop} {g : D → D → Out D} (hpe : ∀ ta tb, PE X a ta → PE X c tb → PE X e (tM1 r ta tb)) (ho : ∀ W H x y dx dy, WOk cm W H → Rep cm W H x dx [] → Rep cm W H y dy [] → ∀ Q : VK, Post (g dx dy) (QP cm W b H Q) noX → r x [y] H Q) (hn : NoEx g) (ha : DE X cm E false a fa) (hb : DE X cm E false c fb) : DE X cm E b e (c2S g fa fb) := by
  obtain ⟨ta, h1, h2⟩ := ha.ex
  obtain ⟨tb, h3, h4⟩ := hb.ex
  refine ⟨_, hpe ta tb h1 h3, fun W H σ env w fr Q hp => h2 W H σ env w fr _ (hp.bind.mono (fun d q v H1 fp e1 r1 f1 => ?_) fun _ _ z => z)⟩
  cases (show fp = [] from f1)
  split at q
  · rename_i hs
    refine ⟨r1.isStr hs, h4 W H1 σ env (w.ex e1) (fr.ex e1) _ (q.bind.mono (fun d2 q2 u H2 fp2 e2 r2 f2 => ?_) fun x rr z => XPost.ex e1 z)⟩
    cases (show fp2 = [] from f2)
    exact ho W H2 v u d d2 ((w.ex e1).ex e2) (r1.ex e2).ofP r2.ofP Q (Post.noX (q2.mono (fun d q3 z H3 fp3 e3 r3 f3 => q3 z H3 fp3 ((e1.trans e2).trans e3) r3 (f3.ex (e1.trans e2))) fun _ _ z => z) (hn d d2))
  · exact q.elim
def x2S (gg : D → D → Out D) (f h : FX) : FX := fun r => (f r).bind fun p => if isStrB p.1 = true then (h p.2).bind fun q => (gg (frz p.1) (frz q.1)).bind fun d => .ok (d, q.2) else .bad
theorem xe_m1 {f h : FX} {r : V → List V → Hp → VK → Prop} {g : D → D → Out D} (hpe : ∀ ta tb, PE X a ta → PE X c tb → PE X e (tM1 r ta tb)) (ho : ∀ W H x y dx dy, WOk cm W H → Rep cm W H x dx [] → Rep cm W H y dy [] → ∀ Q : VK, Post (g dx dy) (QP cm W true H Q) noX → r x [y] H Q) (hn : NoEx g) (ha : XE X cm E a f) (hb : XE X cm E c h) : XE X cm E e (x2S g f h) := by
  obtain ⟨ta, h1, h2⟩ := ha.ex
  obtain ⟨tb, h3, h4⟩ := hb.ex
  refine ⟨_, hpe ta tb h1 h3, fun W0 H σ r fps gd Q hp => h2 W0 H σ r fps gd _ (hp.bind.mono (fun p q v H1 f1 p1 g1 k1 n1 w1 m1 => ?_) fun _ _ z => z)⟩
  split at q
  · rename_i hs
    refine ⟨k1.isStr hs, h4 (Wp W0 p1) H1 σ p.2 f1 g1 _ (q.bind.mono (fun p' q' u H2 f2 p2 g2 k2 n2 w2 m2 => ?_) fun x rr z => XX.later m1 z)⟩
    obtain ⟨z1, z2, z3, z4, z5⟩ := two g1 k1 n1 w1 m1 g2 (Reps.one k2) n2 w2 m2
    have o2 := z2.open z1 z4 fun _ m => m
    obtain ⟨a', e1, e2⟩ := o2.at rfl (i := 0) (d := frz p.1) rfl
    obtain ⟨b', e3, e4⟩ := o2.at rfl (i := 1) (d := frz p'.1) rfl
    cases e1; cases e3
    exact ho (Wof W0 f2) H2 v u _ _ z1.drop.wof e2 e4 Q (opened z1 z5 q' (hn _ _))
  · exact q.elim
theorem xe_join {f h : FX} {apos : Pos} (ha : XE X cm E a f) (hb : XE X cm E c h) (hs : starEach [c] X.env = [(false, eval c X.env)] := by rfl) (hbase : attributeBase a "join" X.env (eval a X.env) = eval a X.env := by rfl) (hline : (apos.endLine == pos.line) = true := by rfl) :
    XE X cm E (.Call (.Attribute a "join" apos) [c] [] pos) (x2S gJoin f h) :=
  xe_m1 (fun ta tb h1 h3 => pe_join h1 h3 hs hbase hline) (fun W H x y dx dy w rx ry Q hp => (o_join rx ry hp).2) noEx_join ha hb

def blsD : List D → Option (List Bool)
  | [] => some []
  | .bl x :: ds => (blsD ds).map (x :: ·)
  | _ => none
theorem blsD_reps {W : Addr → Prop} {H : Hp} : ∀ {vs : List V} {ds : List D} {fp : List Addr}, Reps cm W H vs ds fp → ∀ {xs : List Bool}, blsD ds = some xs → vs = xs.map V.bl
  | _, _, _, .nil, xs, h => by cases h; rfl
  | _, _, _, .cons (d := d) r rs, xs, h => by
    cases d <;> first | (cases h; done) | skip
    obtain ⟨ys, h1, rfl⟩ := Option.map_eq_some_iff.mp h
    cases r
    rw [blsD_reps rs h1]
    rfl
def gAll : D → Out D
  | .lst _ ds => match blsD ds with
    | some xs => .ok (.bl (xs.all id))
    | none => .bad
  | _ => .bad
def gAny : D → Out D
  | .lst _ ds => match blsD ds with
    | some xs => .ok (.bl (xs.any id))
    | none => .bad
  | _ => .bad
theorem de_all {fs : Env → Out (List D)} (hc : X.calm = true) (hg : Gl X "all") (hm : X.mg "all" = none) (ha : DA X cm E false [a] fs) (he : starEach [a] X.env = (false, eval a X.env) :: starEach [] X.env := by rfl) (hpl : (backTo pos (starEach [] X.env)).any (·.1) = false := by rfl) : DE X cm E b (.Call (.Name "all" p) [a] [] pos) (cA (g1 gAll) fs) :=
  de_blt (cr_all hc) (ra_1 fun W H v d w rp Q hp => by
    unfold gAll at hp
    split at hp
    · split at hp
      · rename_i xs hx
        generalize hf : ([] : List Addr) = fp at rp
        cases rp with
        | lstO => cases hf
        | lstF h n r =>
          have e := blsD_reps r hx
          subst e
          exact ⟨_, _, rfl, SqL.of h, hp _ H [] (Ex.refl H) (.bl _) FpN.nil⟩
      · exact hp.elim
    · exact hp.elim) (noEx_g1 fun a x r h => by
      unfold gAll at h
      split at h
      · split at h <;> cases h
      · cases h) hg hm (by decide +kernel) ha (by decide) (by decide) he hpl
theorem de_any {fs : Env → Out (List D)} (hc : X.calm = true) (hg : Gl X "any") (hm : X.mg "any" = none) (ha : DA X cm E false [a] fs) (he : starEach [a] X.env = (false, eval a X.env) :: starEach [] X.env := by rfl) (hpl : (backTo pos (starEach [] X.env)).any (·.1) = false := by rfl) : DE X cm E b (.Call (.Name "any" p) [a] [] pos) (cA (g1 gAny) fs) :=
  de_blt (cr_any hc) (ra_1 fun W H v d w rp Q hp => by
    unfold gAny at hp
    split at hp
    · split at hp
      · rename_i xs hx
        generalize hf : ([] : List Addr) = fp at rp
        cases rp with
        | lstO => cases hf
        | lstF h n r =>
          have e := blsD_reps r hx
          subst e
          exact ⟨_, _, rfl, SqL.of h, hp _ H [] (Ex.refl H) (.bl _) FpN.nil⟩
      · exact hp.elim
    · exact hp.elim) (noEx_g1 fun a x r h => by
      unfold gAny at h
      split at h
      · split at h <;> cases h
      · cases h) hg hm (by decide +kernel) ha (by decide) (by decide) he hpl
def gList : D → Out D
  | .lst _ xs => .ok (.lst true xs)
  | .tup xs => .ok (.lst true xs)
  | .str cs => if cs.length ≤ 1000000 then .ok (.lst true (cs.map fun c => .str [c])) else .bad
  | _ => .bad
def gInt : D → Out D
  | .int i => .ok (.int i)
  | .bl k => .ok (.int (if k then 1 else 0))
  | _ => .bad
def gMx : List D → Out D
  | [.int i, .int j] => .ok (.int (if j > i then j else i))
  | _ => .bad
def gMn : List D → Out D
  | [.int i, .int j] => .ok (.int (if j < i then j else i))
  | _ => .bad
theorem de_max2 {fs : Env → Out (List D)} (hc : X.calm = true) (hg : Gl X "max") (hm : X.mg "max" = none) (ha : DA X cm E false [a, c] fs) (he : starEach [a, c] X.env = (false, eval a X.env) :: starEach [c] X.env := by rfl) (hpl : (backTo pos (starEach [c] X.env)).any (·.1) = false := by rfl) : DE X cm E b (.Call (.Name "max" p) [a, c] [] pos) (cA gMx fs) :=
  de_blt (call_max2 hc) (fun W H vs ds w rp Q hp => by
    unfold gMx at hp
    split at hp
    · generalize hf : ([] : List Addr) = fp at rp
      cases rp with
      | cons k1 k2 =>
        cases k1
        cases k2 with
        | cons k2 k3 =>
          cases k2; cases k3
          exact ⟨_, _, rfl, hp _ H [] (Ex.refl H) (.int _) FpN.nil⟩
    · exact hp.elim) (fun a x r h => by
    unfold gMx at h
    split at h <;> cases h) hg hm (by decide +kernel) ha (by decide) (by decide) he hpl
theorem de_min2 {fs : Env → Out (List D)} (hc : X.calm = true) (hg : Gl X "min") (hm : X.mg "min" = none) (ha : DA X cm E false [a, c] fs) (he : starEach [a, c] X.env = (false, eval a X.env) :: starEach [c] X.env := by rfl) (hpl : (backTo pos (starEach [c] X.env)).any (·.1) = false := by rfl) : DE X cm E b (.Call (.Name "min" p) [a, c] [] pos) (cA gMn fs) :=
  de_blt (call_min2 hc) (fun W H vs ds w rp Q hp => by
    unfold gMn at hp
    split at hp
    · generalize hf : ([] : List Addr) = fp at rp
      cases rp with
      | cons k1 k2 =>
        cases k1
        cases k2 with
        | cons k2 k3 =>
          cases k2; cases k3
          exact ⟨_, _, rfl, hp _ H [] (Ex.refl H) (.int _) FpN.nil⟩
    · exact hp.elim) (fun a x r h => by
    unfold gMn at h
    split at h <;> cases h) hg hm (by decide +kernel) ha (by decide) (by decide) he hpl
end
end DL

namespace DL
variable [Tbs]
open PySem L2
section
variable {X : Cx} {cm : Cm} {E : XS} {b : Bool} {pos p : Pos} {ks : Nat → Bool} {a c e tg : Expr} {es : List Expr} {f h : FX} {g : FS}
def xTB (f : FX) : Env → Out (Bool × Env) := fun r => (f r).bind fun p => (isB p.1).bind fun k => .ok (k, p.2)
def xAnd (s t : Env → Out (Bool × Env)) : Env → Out (Bool × Env) := fun r => (s r).bind fun p => if p.1 = true then t p.2 else .ok (false, p.2)
def xOr (s t : Env → Out (Bool × Env)) : Env → Out (Bool × Env) := fun r => (s r).bind fun p => if p.1 = true then .ok (true, p.2) else t p.2
def xNot (s : Env → Out (Bool × Env)) : Env → Out (Bool × Env) := fun r => (s r).bind fun p => .ok (!p.1, p.2)
theorem xtB_con {te : TE} (h2 : ∀ W0 H σ r fps, Good cm W0 H σ r fps → ∀ Q, Post (f r) (QX cm W0 H σ fps Q) (XX cm E W0 H σ fps) → te σ H Q) : ∀ W0 H σ r fps, Good cm W0 H σ r fps → ∀ Q, Post (xTB f r) (QXT cm W0 H σ fps Q) (XX cm E W0 H σ fps) → te σ H fun x H1 => ∃ k, x = .bl k ∧ Q k H1 := fun W0 H σ r fps gd Q hp =>
  h2 W0 H σ r fps gd _ (hp.bind.mono (fun p q v H1 f1 p1 g1 k1 n1 w1 m1 => by
    obtain ⟨d, r'⟩ := p
    cases d <;> first | exact q.elim | skip
    cases k1
    exact ⟨_, rfl, q H1 f1 g1.drop (m1.addv fun _ m => (nomatch m))⟩) fun _ _ z => z)
theorem xt_B (h1 : XE X cm E e f) (he : ∀ whole, isTrue e X.env whole = (do let v ← whole; standAt e.pos; holding [v] (truthy v)) := by intro _; rfl) : XT X cm E e (xTB f) := by
  obtain ⟨te, a1, a2⟩ := h1.ex
  exact ⟨_, pt_val a1 he, xtB_con a2⟩
theorem xt_not {s : Env → Out (Bool × Env)} (h1 : XT X cm E e s) : XT X cm E (.UnaryOp .Not e pos) (xNot s) := by
  obtain ⟨te, a1, a2⟩ := h1.ex
  exact ⟨_, pt_not a1, fun W0 H σ r fps gd Q hp => a2 W0 H σ r fps gd _ (hp.bind.mono (fun p q H1 f1 g1 m1 => q H1 f1 g1 m1) fun _ _ z => z)⟩
theorem XW.xt {s : Env → Out (Bool × Env)} (h : XW X cm E e s) : XT X cm E e s := by
  obtain ⟨te, h1, h2⟩ := h.ex
  exact ⟨te, h1.pt, h2⟩
theorem xw_or1 {s : Env → Out (Bool × Env)} (h : XT X cm E a s) : XW X cm E (.BoolOp .Or [a] pos) s := by
  obtain ⟨te, h1, h2⟩ := h.ex
  exact ⟨_, pw_or1 h1, h2⟩
theorem QXT.later {W0 : Addr → Prop} {H H1 : Hp} {σ : St} {fps f1 : Fps} {Q : Bool → Hp → Prop} {o : Out (Bool × Env)} (m1 : Fram H fps H1 f1 []) (h : Post o (QXT cm W0 H σ fps Q) (XX cm E W0 H σ fps)) : Post o (QXT cm W0 H1 σ f1 Q) (XX cm E W0 H1 σ f1) :=
  h.mono (fun p q H2 f2 g2 m2 => q H2 f2 g2 (m1.trans m2)) fun x rr z H2 f2 dx g2 m2 xr => z H2 f2 dx g2 (m1.trans m2) xr
theorem xw_or {rest : List Expr} {s t : Env → Out (Bool × Env)} (h : XT X cm E a s) (k : XW X cm E (.BoolOp .Or (c :: rest) pos) t) : XW X cm E (.BoolOp .Or (a :: c :: rest) pos) (xOr s t) := by
  obtain ⟨te, h1, h2⟩ := h.ex
  obtain ⟨tf, k1, k2⟩ := k.ex
  refine ⟨_, pw_or h1 k1, fun W0 H σ r fps gd Q hp => h2 W0 H σ r fps gd _ (hp.bind.mono (fun p q H1 f1 g1 m1 => ?_) fun _ _ z => z)⟩
  obtain ⟨bb, r'⟩ := p
  cases bb with
  | true => exact q H1 f1 g1 m1
  | false => exact k2 W0 H1 σ r' f1 g1 Q (QXT.later m1 q)
theorem ds_while {body : List Stmt} {t : Env → Out (Bool × Env)} (n : Nat) (hp' : PassesOwn (model X.prog X.w) X.A X.env X.xe) (hc : XT X cm E c t) (hb : DSs X cm E ks body g) : DS X cm E ks (.While c body [] pos) (whileS t g n) := by
  obtain ⟨tt, t1, t2⟩ := hc.ex
  obtain ⟨tb, b1, b2⟩ := hb.ex
  refine ⟨_, ps_while hp' t1 b1, fun W0 H σ r fps gd D hp => ?_⟩
  refine ⟨fun m σ' H' => ∃ r' f', Good cm W0 H' σ' r' f' ∧ Fram H fps H' f' [] ∧ Keep ks σ σ' ∧ SPost cm E W0 H σ fps ks D (whileS t g m r'), ⟨n, r, fps, gd, Fram.refl _ _, Keep.refl ks σ, hp⟩, ?_⟩
  rintro m σ' H' ⟨r', f', g', fm', k', hq⟩
  cases m with
  | zero => exact hq.elim
  | succ m =>
    refine t2 W0 H' σ' r' f' g' _ ?_
    unfold whileS at hq
    split at hq
    · rename_i pp hr
      rw [hr]
      obtain ⟨bb, r1⟩ := pp
      intro H1 f1 g1 m1
      have fm1 := fm'.trans m1
      cases bb with
      | false => exact hq σ' H1 f1 g1 fm1 k'
      | true =>
        refine ⟨fun σ5 H5 => ∃ r' f', Good cm W0 H5 σ5 r' f' ∧ Fram H fps H5 f' [] ∧ Keep ks σ σ5 ∧ SPost cm E W0 H σ fps ks D (whileS t g m r'), fun σ5 H5 h5 => ⟨m, Nat.lt_succ_self m, h5⟩, ?_⟩
        refine b2 W0 H1 σ' r1 f1 g1 _ ?_
        simp only [if_true] at hq
        cases hb : g r1 with
        | nx r4 =>
          rw [hb] at hq
          exact fun σ4 H4 f4 g4 fm4 k4 => ⟨r4, f4, g4, fm1.trans fm4, k'.trans k4, hq⟩
        | ct r4 =>
          rw [hb] at hq
          exact fun σ4 H4 f4 g4 fm4 k4 => ⟨r4, f4, g4, fm1.trans fm4, k'.trans k4, hq⟩
        | bk r4 =>
          rw [hb] at hq
          exact fun σ4 H4 f4 g4 fm4 k4 => hq σ4 H4 f4 g4 (fm1.trans fm4) (k'.trans k4)
        | rt d4 r4 =>
          rw [hb] at hq
          exact fun v σ4 H4 f4 p4 g4 rp nd nw fm4 k4 => hq v σ4 H4 f4 p4 g4 rp nd nw (fm1.trans fm4) (k'.trans k4)
        | exn x4 r4 =>
          rw [hb] at hq
          exact fun σ4 H4 f4 dx g4 fm4 k4 xr => hq σ4 H4 f4 dx g4 (fm1.trans fm4) (k'.trans k4) xr
        | bad => rw [hb] at hq; exact hq.elim
    · rename_i x r2 hr
      rw [hr]
      exact fun H1 fps' dx g1 fm xr => hq σ' H1 fps' dx g1 (fm'.trans fm) k' xr
    · exact hq.elim
theorem Good.mut {W0 : Addr → Prop} {H : Hp} {σ : St} {r : Env} {fps : Fps} {i : Nat} {pa : Addr} {vs' : List V} {ds' : List D} {fp' fpv : List Addr} (g : Good cm (Wp W0 fpv) H σ r fps) (hv : σ[i]? = some (some (.ref pa))) (hp : ∃ vs, H pa = some (.lst vs)) (hpa : pa ∈ fps i) (hrp : Reps cm (Wof (Wp W0 fpv) fps) H vs' ds' fp') (hsub : ∀ a ∈ fp', a ∈ fps i ∨ a ∈ fpv) (hnp : pa ∉ fp') (nd : fp'.Nodup) (nw : ∀ a ∈ fpv, ¬ W0 a) :
    Good cm W0 (upd H pa (.lst vs')) σ (r.set i (some (.lst true ds'))) (fun j => if j = i then pa :: fp' else fps j) := by
  have sub : ∀ {j a}, a ∈ (if j = i then pa :: fp' else fps j) → (j = i ∧ (a = pa ∨ a ∈ fp')) ∨ (j ≠ i ∧ a ∈ fps j) := fun {j a} m => by
    split at m
    · exact .inl ⟨by assumption, List.mem_cons.mp m⟩
    · exact .inr ⟨by assumption, m⟩
  have own : ∀ {j a}, a ∈ (if j = i then pa :: fp' else fps j) → Wof (Wp W0 fpv) fps a := fun {j a} m => by
    rcases sub m with ⟨_, rfl | m⟩ | ⟨_, m⟩
    · exact .inr ⟨i, hpa⟩
    · exact (hsub a m).elim (fun m => .inr ⟨i, m⟩) fun m => .inl (.inr m)
    · exact .inr ⟨j, m⟩
  have wsub : ∀ a, Wof W0 (fun j => if j = i then pa :: fp' else fps j) a → Wof (Wp W0 fpv) fps a := fun a z => by
    rcases z with z | ⟨j, m⟩
    · exact .inl (.inl z)
    · exact own m
  have mut' : ∀ a, MutAt H a → MutAt (upd H pa (.lst vs')) a := fun a ⟨o, h1, h2⟩ => by
    by_cases e : a = pa
    · subst e; exact ⟨_, upd_same, rfl⟩
    · exact ⟨o, by rw [upd_ne e]; exact h1, h2⟩
  have nother : ∀ j a, j ≠ i → a ∈ fps j → a ≠ pa ∧ a ∉ fp' := fun j a hj m => ⟨fun z => hj (g.dj j i a m (z ▸ hpa)), fun z => (hsub a z).elim (fun z => hj (g.dj j i a m z)) fun z => g.nw j a m (.inr z)⟩
  refine ⟨by rw [List.length_set]; exact g.len, ⟨fun a z => mut' a (g.w0.1 a (.inl z)), Tabs.updM g.w0.2 (g.mu i pa hpa)⟩, fun j d hj => ?_, fun j => ?_, fun j j' a m m' => ?_, fun j a m z => ?_, fun j a m => ?_⟩
  · rw [List.getElem?_set] at hj
    by_cases e : i = j
    · subst e
      rw [if_pos rfl] at hj
      split at hj
      · cases hj
        rw [if_pos rfl]
        refine ⟨_, hv, .lstO upd_same (hrp.move (fun a z => .inl (wsub a z)) fun a o q _ cc => ?_)⟩
        rw [upd_ne]
        · exact q
        · rcases cc with cc | cc
          · exact fun z => cc (.inr ⟨i, z ▸ hpa⟩)
          · exact fun z => hnp (z ▸ cc)
      · cases hj
    · rw [if_neg e] at hj
      rw [if_neg (Ne.symm e)]
      obtain ⟨u, e1, e2⟩ := g.sl j d hj
      refine ⟨u, e1, e2.move (fun a z => .inl (wsub a z)) fun a o q _ cc => ?_⟩
      rw [upd_ne]
      · exact q
      · rcases cc with cc | cc
        · exact fun z => cc (.inr ⟨i, z ▸ hpa⟩)
        · exact (nother j a (Ne.symm e) cc).1
  · split
    · exact List.nodup_cons.mpr ⟨hnp, nd⟩
    · exact g.nd j
  · rcases sub m with ⟨e, m⟩ | ⟨e, m⟩ <;> rcases sub m' with ⟨e', m'⟩ | ⟨e', m'⟩
    · rw [e, e']
    · rcases m with m | m
      · exact absurd m (nother j' a e' m').1
      · exact absurd m (nother j' a e' m').2
    · rcases m' with m' | m'
      · exact absurd m' (nother j a e m).1
      · exact absurd m' (nother j a e m).2
    · exact g.dj j j' a m m'
  · rcases sub m with ⟨_, rfl | m⟩ | ⟨_, m⟩
    · exact g.nw i _ hpa (.inl z)
    · exact (hsub a m).elim (fun m => g.nw i a m (.inl z)) fun m => nw a m z
    · exact g.nw j a m (.inl z)
  · exact mut' a (g.wof.1 a (own m))
theorem Fram.mut {H H1 : Hp} {fps f1 : Fps} {i : Nat} {pa : Addr} {o : HO} {fp' fpv : List Addr} (fm : Fram H fps H1 f1 fpv) (hpa : pa ∈ f1 i) (hh : MutAt H1 pa) (hsub : ∀ a ∈ fp', a ∈ f1 i ∨ a ∈ fpv) : Fram H fps (upd H1 pa o) (fun j => if j = i then pa :: fp' else f1 j) [] where
  tb := fun h => Tabs.updM (fm.tb h) hh
  keep := fun a u q n t => by
    rw [upd_ne]
    · exact fm.keep a u q n t
    · intro z
      subst z
      rcases fm.old i _ hpa with ⟨j, m⟩ | z
      · exact n j m
      · rw [q] at z; cases z
  old := fun j a m => by
    split at m
    · rcases List.mem_cons.mp m with rfl | m
      · exact fm.old i _ hpa
      · exact (hsub a m).elim (fm.old i a) (fm.oldv a)
    · exact fm.old j a m
  oldv := fun _ m => (nomatch m)
  back := fun a q => by
    by_cases e : a = pa
    · subst e; rw [upd_same] at q; cases q
    · rw [upd_ne e] at q; exact fm.back a q
theorem Rep.lstOf {W : Addr → Prop} {H : Hp} {v : V} {ds : List D} {fp : List Addr} (h : Rep cm W H v (.lst true ds) fp) : ∃ pa vs fp', v = .ref pa ∧ H pa = some (.lst vs) ∧ fp = pa :: fp' ∧ Reps cm W H vs ds fp' := by
  cases h with
  | lstO h r => exact ⟨_, _, _, rfl, h, rfl, r⟩
def sApp (i : Nat) (f : FX) : FX := fun r => match r[i]? with
  | some (some (.lst true _)) => (f r).bind fun p => match p.2[i]? with
    | some (some (.lst true ds)) => if ds.length < 1000000 then .ok (.non, p.2.set i (some (.lst true (ds ++ [p.1])))) else .bad
    | _ => .bad
  | _ => .bad
def sPut (i : Nat) (f : FX) (fk : FX) : FS := fun r => match f r with
  | .ok p => match p.2[i]? with
    | some (some _) => match fk p.2 with
      | .ok q => match q.1, q.2[i]? with
        | .int k, some (some (.lst true ds)) => match ixN ds.length k with
          | some j => .nx (q.2.set i (some (.lst true (ds.set j (frz p.1)))))
          | none => .bad
        | _, _ => .bad
      | .exn x r' => .exn x r'
      | .bad => .bad
    | _ => .bad
  | .exn x r' => .exn x r'
  | .bad => .bad
theorem Reps.set {W : Addr → Prop} {H : Hp} {v : V} {d : D} (rv : Rep cm W H v d []) : ∀ (j : Nat) {vs : List V} {ds : List D} {fp : List Addr}, Reps cm W H vs ds fp → ∃ fp', Reps cm W H (vs.set j v) (ds.set j d) fp' ∧ fp'.Sublist fp
  | _, _, _, _, .nil => ⟨[], .nil, List.Sublist.refl _⟩
  | 0, _, _, _, .cons (fp := f1) (fps := f2) h r => ⟨[] ++ f2, .cons rv r, List.sublist_append_right _ _⟩
  | j + 1, _, _, _, .cons (fp := f1) (fps := f2) h r => by
    obtain ⟨f', h1, h2⟩ := Reps.set rv j r
    exact ⟨f1 ++ f', .cons h h1, List.Sublist.append (List.Sublist.refl _) h2⟩
theorem ds_put (i : Nat) {o k : Expr} {fk : FX} {tpos : Pos} (hv : PE X o (tVar i)) (h1 : XE X cm E e f) (hk : XE X cm E k fk) (hps : ∀ te ti, PE X e te → PE X k ti → PS X (.Assign [.Subscript o k tpos] e pos) (tAsg te (gSub (tVar i) ti rSetL))) : DS X cm E ks (.Assign [.Subscript o k tpos] e pos) (sPut i f fk) := by
  obtain ⟨te, a1, a2⟩ := h1.ex
  obtain ⟨ti, b1, b2⟩ := hk.ex
  refine ⟨_, hps te ti a1 b1, fun W0 H σ r fps gd D hp => a2 W0 H σ r fps gd _ ?_⟩
  unfold sPut at hp
  split at hp
  · rename_i pp hr
    rw [hr]
    intro v H1 f1 p1 g1 k1 n1 w1 m1
    split at hp
    · rename_i d0 hd0
      obtain ⟨v0, q1, q2⟩ := g1.sl i d0 hd0
      refine ⟨v0, q1, b2 (Wp W0 p1) H1 σ pp.2 f1 g1 _ ?_⟩
      split at hp
      · rename_i qq hq
        rw [hq]
        intro u H2 f2 p2 g2 k2 n2 w2 m2
        split at hp
        · rename_i kk ds hk1 hk2
          split at hp
          · rename_i j hj
            rw [hk1] at k2
            cases k2
            rw [wp_nil] at g2
            obtain ⟨v1, e1, e2⟩ := g2.sl i _ hk2
            rw [q1] at e1
            cases e1
            obtain ⟨pa, vs, fp, rfl, hpa, hfp, hrr⟩ := e2.lstOf
            refine ⟨pa, vs, kk, j, rfl, rfl, hpa, by rw [hrr.len]; exact hj, ?_⟩
            have kv : Rep cm (Wof (Wp W0 []) f2) H2 v (frz pp.1) [] := by
              have k1' := k1.over (fq := []) (fun i a m z => g1.nw i a m (.inr z)) m2
              rw [List.append_nil] at k1'
              rw [wp_nil]
              exact k1'.open g2 w1 fun _ m => m
            have g2' : Good cm (Wp W0 []) H2 σ qq.2 f2 := by rw [wp_nil]; exact g2.drop
            have hrr' : Reps cm (Wof (Wp W0 []) f2) H2 vs ds fp := hrr.move (fun a z => .inl (by rw [wp_nil] at z; exact z.imp .inl id)) fun _ _ q _ _ => q
            obtain ⟨fp', hs1, hs2⟩ := Reps.set kv j hrr'
            have hmem : pa ∈ f2 i := by rw [hfp]; exact List.mem_cons_self ..
            have hsub : ∀ a ∈ fp', a ∈ f2 i ∨ a ∈ ([] : List Addr) := fun a m => .inl (by rw [hfp]; exact List.mem_cons_of_mem _ (hs2.mem m))
            have nd1 := g2.nd i
            rw [hfp] at nd1
            have nd2 := List.nodup_cons.mp nd1
            have g3 := g2'.mut q1 ⟨_, hpa⟩ hmem hs1 hsub (fun m => nd2.1 (hs2.mem m)) (nd2.2.sublist hs2) (fun _ m => (nomatch m))
            exact hp σ _ _ g3 (((m1.trans m2).addv (v2 := []) fun _ m => (nomatch m)).mut hmem ⟨_, hpa, rfl⟩ hsub) (Keep.refl ks σ)
          · exact hp.elim
        · exact hp.elim
      · rename_i x r' hq
        rw [hq]
        exact fun H' fps' dx g' fm xr => hp σ H' fps' dx g'.drop ((m1.trans fm).addv fun _ m => (nomatch m)) (Keep.refl ks σ) (xr.weak fun a z => z.imp .inl id)
      · exact hp.elim
    · exact hp.elim
  · rename_i x r' hr
    rw [hr]
    exact fun H' fps' dx g' fm xr => hp σ H' fps' dx g' fm (Keep.refl ks σ) xr
  · exact hp.elim
end
end DL

namespace DL
variable [Tbs]
open PySem L2
def teX (cm : Cm) (E : XS) (f : FX) : TE := fun σ H Q => ∃ W0 r fps, Good cm W0 H σ r fps ∧ Post (f r) (QX cm W0 H σ fps Q) (XX cm E W0 H σ fps)
def ttX (cm : Cm) (E : XS) (f : Env → Out (Bool × Env)) : TT := fun σ H Q => ∃ W0 r fps, Good cm W0 H σ r fps ∧ Post (f r) (QXT cm W0 H σ fps Q) (XX cm E W0 H σ fps)
def tgX (cm : Cm) (ks : Nat → Bool) (g : D → Env → Out Env) : TG := fun v σ H Q => ∃ W0 r fps d, Good cm W0 H σ r fps ∧ Rep cm (Wof W0 fps) H v d [] ∧ Post (g d r) (fun r' => ∀ σ' fps', Good cm W0 H σ' r' fps' → (∀ j a, a ∈ fps' j → a ∈ fps j) → Keep ks σ σ' → Q σ' H) noX
section
variable {X : Cx} {cm : Cm} {E : XS} {b : Bool} {pos p : Pos} {ks : Nat → Bool} {a c e tg : Expr} {es : List Expr} {f h : FX} {g : FS}
theorem XE.pe (h : XE X cm E e f) : PE X e (teX cm E f) := by
  obtain ⟨te, h1, h2⟩ := h.ex
  exact ⟨fun pins s σ H Q I ⟨W0, r, fps, gd, hp⟩ => h1.run pins s σ H Q I (h2 W0 H σ r fps gd Q hp)⟩
theorem XG.pg {gg : D → Env → Out Env} (h : XG X cm ks tg gg) : PG X tg (tgX cm ks gg) := by
  obtain ⟨t, a1, a2⟩ := h.ex
  exact ⟨fun pins s σ H v u Q I r ⟨W0, rr, fps, d, gd, rp, hp⟩ => a1.run pins s σ H v u Q I r (a2 W0 H σ rr fps v d gd rp Q hp)⟩
structure XTs (X : Cx) (cm : Cm) (E : XS) (es : List Expr) (f : Env → Out (Bool × Env)) : Prop where
  ex : ∃ te, PTs X es te ∧ ∀ W0 H σ r fps, Good cm W0 H σ r fps → ∀ Q, Post (f r) (QXT cm W0 H σ fps Q) (XX cm E W0 H σ fps) → te σ H Q
def xYes : Env → Out (Bool × Env) := fun r => .ok (true, r)
theorem xts_nil : XTs X cm E [] xYes := ⟨_, pts_nil, fun W0 H σ r fps gd Q hp => hp H fps gd (Fram.refl H fps)⟩
theorem XTs.pts {t : Env → Out (Bool × Env)} (h : XTs X cm E es t) : PTs X es (ttX cm E t) := by
  obtain ⟨te, h1, h2⟩ := h.ex
  exact ⟨fun pins s σ H Q I ⟨W0, r, fps, gd, hp⟩ => h1.run pins s σ H Q I (h2 W0 H σ r fps gd Q hp)⟩
def xturns (gg : D → Env → Out Env) (tt : Env → Out (Bool × Env)) (el : FX) : List D → Env → Out (List D × Env)
  | [], r => .ok ([], r)
  | d :: ds, r => (gg d r).bind fun r1 => (tt r1).bind fun q => if q.1 = true then (el q.2).bind fun y => (xturns gg tt el ds y.2).bind fun z => .ok (y.1 :: z.1, z.2) else xturns gg tt el ds q.2
def xLc (it : Env → Out (List D × Env)) (vs : List Nat) (gg : D → Env → Out Env) (tt : Env → Out (Bool × Env)) (el : FX) : FX := fun r => (it r).bind fun p => if p.1.length ≤ 1000000 then (safe (xturns (fun d r => gg d (wipeE r vs)) tt el p.1 p.2)).bind fun q => .ok (.lst true q.1, wipeE q.2 vs) else .bad
theorem wipeE_len (r : Env) : ∀ vs : List Nat, (wipeE r vs).length = r.length
  | [] => rfl
  | v :: vs => by show ((wipeE r vs).set v none).length = _; rw [List.length_set, wipeE_len r vs]
theorem wipeE_some {r : Env} {i : Nat} {d : D} : ∀ {vs : List Nat}, (wipeE r vs)[i]? = some (some d) → r[i]? = some (some d) ∧ i ∉ vs
  | [], h => ⟨h, by simp⟩
  | v :: vs, h => by
    have h : ((wipeE r vs).set v none)[i]? = some (some d) := h
    rw [List.getElem?_set] at h
    by_cases e : v = i
    · rw [if_pos e] at h
      split at h <;> cases h
    · rw [if_neg e] at h
      obtain ⟨h1, h2⟩ := wipeE_some h
      exact ⟨h1, fun m => (List.mem_cons.mp m).elim (fun z => e z.symm) h2⟩
theorem wipeE_get : ∀ (vs : List Nat) (r : Env) (j : Nat), (wipeE r vs)[j]? = if j ∈ vs ∧ j < r.length then some none else r[j]?
  | [], r, j => by simp [wipeE]
  | v :: vs, r, j => by
    show ((wipeE r vs).set v none)[j]? = _
    rw [List.getElem?_set, wipeE_len]
    by_cases e : v = j
    · subst e
      simp
      split
      · rfl
      · rw [List.getElem?_eq_none (by omega)]
    · rw [if_neg e, wipeE_get vs r j]
      have : j ≠ v := fun z => e z.symm
      simp [this]
theorem wipeE_wipeE (r : Env) (vs : List Nat) : wipeE (wipeE r vs) vs = wipeE r vs := by
  apply List.ext_getElem?
  intro j
  rw [wipeE_get, wipeE_len]
  by_cases h : j ∈ vs ∧ j < r.length
  · rw [if_pos h, wipeE_get, if_pos h]
  · rw [if_neg h]
theorem wipe_get {σ : St} {i : Nat} : ∀ {vs : List Nat}, i ∉ vs → (wipe σ vs)[i]? = σ[i]?
  | [], _ => rfl
  | v :: vs, h => by
    show ((wipe σ vs).set v none)[i]? = _
    rw [List.getElem?_set, if_neg (fun z => h (by simp [z]))]
    exact wipe_get fun m => h (by simp [m])
theorem Good.wipeL {W0 : Addr → Prop} {H : Hp} {σ : St} {r : Env} {fps : Fps} (g : Good cm W0 H σ r fps) (vs : List Nat) : Good cm W0 H (wipe σ vs) (wipeE r vs) fps :=
  ⟨by rw [wipe_length, wipeE_len, g.len], g.w0, fun i d q => by
    obtain ⟨h1, h2⟩ := wipeE_some q
    obtain ⟨v, k1, k2⟩ := g.sl i d h1
    exact ⟨v, by rw [wipe_get h2]; exact k1, k2⟩, g.nd, g.dj, g.nw, g.mu⟩
theorem Good.unwipe {W0 : Addr → Prop} {H : Hp} {σ : St} {r : Env} {fps : Fps} {vs : List Nat} (g : Good cm W0 H (wipe σ vs) r fps) : Good cm W0 H σ (wipeE r vs) fps :=
  ⟨by rw [wipeE_len, ← g.len, wipe_length], g.w0, fun i d q => by
    obtain ⟨h1, h2⟩ := wipeE_some q
    obtain ⟨v, k1, k2⟩ := g.sl i d h1
    exact ⟨v, by rw [wipe_get h2] at k1; exact k1, k2⟩, g.nd, g.dj, g.nw, g.mu⟩
theorem wipe_keep {σ σ' : St} {vs : List Nat} (k : Keep (kx vs) (wipe σ vs) σ') : wipe σ' vs = wipe σ vs := by
  have hl : σ'.length = σ.length := by rw [k.1, wipe_length]
  apply List.ext_getElem?
  intro i
  by_cases hi : i < σ.length
  · by_cases hv : i ∈ vs
    · have gen : ∀ (τ : St) (us : List Nat), i < τ.length → i ∈ us → (wipe τ us)[i]? = some none := by
        intro τ us ht
        induction us with
        | nil => intro h; cases h
        | cons u us ih =>
          intro h
          show ((wipe τ us).set u none)[i]? = _
          rw [List.getElem?_set]
          by_cases e : u = i
          · rw [if_pos e, wipe_length, if_pos (by rw [e]; exact ht)]
          · rw [if_neg e]
            exact ih ((List.mem_cons.mp h).resolve_left fun z => e z.symm)
      rw [gen σ' vs (by rw [hl]; exact hi) hv, gen σ vs hi hv]
    · rw [wipe_get hv, k.2 i (by simp [hv])]
  · rw [List.getElem?_eq_none (by rw [wipe_length, hl]; omega), List.getElem?_eq_none (by rw [wipe_length]; omega)]
theorem Good.same {W0 : Addr → Prop} {H : Hp} {σ σ2 : St} {r : Env} {fps : Fps} {vs : List Nat} (g : Good cm W0 H σ2 r fps) (h : wipe σ2 vs = wipe σ vs) : Good cm W0 H (wipe σ vs) (wipeE r vs) fps := by
  rw [← h]
  exact g.wipeL vs
abbrev Xcon (cm : Cm) (E : XS) (te : TE) (f : FX) : Prop := ∀ W0 H σ r fps, Good cm W0 H σ r fps → ∀ Q, Post (f r) (QX cm W0 H σ fps Q) (XX cm E W0 H σ fps) → te σ H Q
theorem xlc_con {ts : List Nat} {it : Env → Out (List D × Env)} {gg : D → Env → Out Env} {tt : Env → Out (Bool × Env)} {el : FX} {wi : TI} (i2 : ∀ W0 H σ r fps, Good cm W0 H σ r fps → ∀ R, Post (it r) (fun p => ∀ J H1 f1, Good cm W0 H1 σ p.2 f1 → Fram H fps H1 f1 [] → IsIt cm J p.1 (Wof W0 f1) H1 → R J H1) (XX cm E W0 H σ fps) → wi σ H R) :
    Xcon cm E (tLc wi (tgX cm (kx ts) gg) (ttX cm E0' tt) (teX cm E0' el) ts) (xLc it ts gg tt el) := by
  intro W0 H σ r fps gd Q hp
  refine i2 W0 H σ r fps gd _ (hp.bind.mono (fun pp q J H1 f1 g1 fm1 isit => ?_) fun _ _ z => z)
  obtain ⟨ds, r1⟩ := pp
  split at q
  case isFalse => exact q.elim
  rename_i hlen
  intro Dl hD
  have q := (Post.bind q).safe
  have eN := Ex.new (o := .lst []) hD
  have g0 : Good cm (Wp W0 [Dl]) (upd H1 Dl (.lst [])) (wipe σ ts) (wipeE r1 ts) f1 := (g1.wipeL ts).addv eN (fun a m => by rw [List.mem_singleton.mp m]; exact hD) fun a m => by rw [List.mem_singleton.mp m]; exact ⟨_, upd_same, rfl⟩
  have fm0 : Fram H1 f1 (upd H1 Dl (.lst [])) f1 [Dl] := Fram.of_ex eN fun a m => by rw [List.mem_singleton.mp m]; exact hD
  let I : Nat → Hp → Prop := fun i H' => ∃ r' f' ys vs fp, ys.length ≤ i ∧ Good cm (Wp W0 (Dl :: fp)) H' (wipe σ ts) (wipeE r' ts) f' ∧ H' Dl = some (.lst vs) ∧ Reps cm (Wof (Wp W0 (Dl :: fp)) f') H' vs ys fp ∧ (Dl :: fp).Nodup ∧ (∀ a ∈ Dl :: fp, ¬ W0 a) ∧ Fram H1 f1 H' f' (Dl :: fp) ∧
      Post (xturns (fun d r => gg d (wipeE r ts)) tt el (ds.drop i) r') (fun z => QX cm W0 H σ fps Q (.lst true (ys ++ z.1), wipeE z.2 ts)) noX
  refine ⟨fun i m H' => m = ds.length - i ∧ i ≤ ds.length ∧ I i H', ⟨ds.length, by simp, Nat.zero_le _, r1, f1, [], [], [], Nat.le_refl _, g0, upd_same, .nil, by simp, fun a m => by rw [List.mem_singleton.mp m]; exact g1.w0.fresh hD, fm0, q⟩, ?_⟩
  rintro i m H' ⟨rfl, hi, r', f', ys, vs, fp, hy, g', hDl, hr, hnd, hnw, fm', hq⟩
  have hl : Later cm (Wof W0 f1) H1 (Wof (Wp W0 (Dl :: fp)) f') H' := ⟨fun a z => by
    rcases z with (z | z) | ⟨j, z⟩
    · exact .inl (.inl z)
    · exact (fm'.oldv a z).imp (fun ⟨j, m⟩ => .inr ⟨j, m⟩) id
    · exact (fm'.old j a z).imp (fun ⟨j, m⟩ => .inr ⟨j, m⟩) id, fun a o q n t => fm'.keep a o q (fun j m => n (.inr ⟨j, m⟩)) t, g'.wof⟩
  by_cases hlt : i < ds.length
  · right
    obtain ⟨d, hd⟩ : ∃ d, ds[i]? = some d := ⟨ds[i], by simp [hlt]⟩
    obtain ⟨go, yl⟩ := (isit _ H' i hl).1 d hd
    refine ⟨go, I (i + 1), fun H5 h5 => ⟨ds.length - (i + 1), by omega, rfl, hlt, h5⟩, fun x H3 y => ?_⟩
    obtain ⟨e3, r3⟩ := yl x H3 y
    have hdrop : ds.drop i = d :: ds.drop (i + 1) := by
      rw [List.drop_eq_getElem_cons hlt]
      congr 1
      have := List.getElem?_eq_getElem hlt
      rw [this] at hd
      exact Option.some.inj hd
    rw [hdrop] at hq
    have hq := Post.bind hq
    have g3 := g'.ex e3
    have fm3 : Fram H1 f1 H3 f' (Dl :: fp) := (fm'.trans (Fram.of_ex (fpv := []) e3 fun _ m => (nomatch m))).addv fm'.oldv
    refine ⟨_, wipeE r' ts, f', d, g3, r3, hq.mono (fun r2 q2 σ2 f2 g2 s2 k2 => ?_) fun _ _ z => z⟩
    have hw := wipe_keep k2
    refine ⟨hw, ?_⟩
    have fm2 : Fram H1 f1 H3 f2 (Dl :: fp) := ⟨@Fram.keep _ _ _ _ _ _ fm3, fun j a m => fm3.old j a (s2 j a m), fm3.oldv, fm3.back, fm3.tb⟩
    have hr2 : Reps cm (Wof (Wp W0 (Dl :: fp)) f2) H3 vs ys fp := (hr.ex e3).move (fun a z => .inl (z.imp id fun ⟨j, m⟩ => ⟨j, s2 j a m⟩)) fun _ _ q _ _ => q
    have hD3 : H3 Dl = some (.lst vs) := e3 _ _ hDl
    refine ⟨_, r2, f2, g2, (Post.bind q2).mono (fun bb q3 H4 f4 g4 m4 => ?_) fun _ _ z => z.elim⟩
    obtain ⟨bb, r4⟩ := bb
    have nDl : ∀ {HH : Hp} {ff : Fps} {rr : Env} {ss : St} {pp : List Addr}, Good cm (Wp (Wp W0 (Dl :: fp)) pp) HH ss rr ff → ∀ j, Dl ∉ ff j := fun g j m => g.nw j Dl m (.inl (.inr (List.mem_cons_self ..)))
    have nDl' : ∀ {HH : Hp} {ff : Fps} {rr : Env} {ss : St}, Good cm (Wp W0 (Dl :: fp)) HH ss rr ff → ∀ j, ∀ a ∈ Dl :: fp, a ∉ ff j := fun g j a ha m => g.nw j a m (.inr ha)
    have hr4 : Reps cm (Wof (Wp W0 (Dl :: fp)) f4) H4 vs ys fp := hr2.move (fun a z => by
      rcases z with z | ⟨j, m⟩
      · exact .inl (.inl z)
      · exact (m4.old j a m).imp (fun ⟨j, m⟩ => .inr ⟨j, m⟩) id) fun a o q t c => m4.keep a o q (t := t) fun j m => by
        rcases c with c | c
        · exact c (.inr ⟨j, m⟩)
        · exact nDl' g2 j a (List.mem_cons_of_mem _ c) m
    have hD4 : H4 Dl = some (.lst vs) := m4.keep _ _ hD3 fun j m => nDl' g2 j Dl (List.mem_cons_self ..) m
    have fm4 : Fram H1 f1 H4 f4 (Dl :: fp) := (fm2.trans m4).addv fm2.oldv
    cases bb with
    | false =>
      exact ⟨r4, f4, ys, vs, fp, by omega, g4.same hw, hD4, hr4, hnd, hnw, fm4, q3⟩
    | true =>
      refine ⟨_, r4, f4, g4, (Post.bind (o := el r4) q3).mono (fun yy q5 v5 H5 f5 p5 g5 k5 n5 w5 m5 => ?_) fun _ _ z => z.elim⟩
      obtain ⟨y5, r5⟩ := yy
      have hD5 : H5 Dl = some (.lst vs) := m5.keep _ _ hD4 fun j m => nDl' g4 j Dl (List.mem_cons_self ..) m
      have hvl := hr.len
      refine ⟨vs, hD5, Nat.lt_of_lt_of_le (show vs.length < 1000000 by have : ds.length ≤ 1000000 := hlen; omega) (by decide), ?_⟩
      have hr5 : Reps cm (Wof (Wp (Wp W0 (Dl :: fp)) p5) f5) H5 vs ys fp := hr4.move (fun a z => by
        rcases z with (z | z) | ⟨j, m⟩
        · exact .inl (.inl z)
        · exact (m5.oldv a z).imp (fun ⟨j, m⟩ => .inr ⟨j, m⟩) id
        · exact (m5.old j a m).imp (fun ⟨j, m⟩ => .inr ⟨j, m⟩) id) fun a o q t c => m5.keep a o q (t := t) fun j m => by
          rcases c with c | c
          · exact c (.inr ⟨j, m⟩)
          · exact nDl' g4 j a (List.mem_cons_of_mem _ c) m
      have hnp : ∀ a ∈ p5, a ∉ Dl :: fp := fun a m z => w5 a m (.inr z)
      have all : Reps cm (Wof (Wp (Wp W0 (Dl :: fp)) p5) f5) H5 (vs ++ [v5]) (ys ++ [y5]) (fp ++ p5) := Reps.app hr5 (Reps.one k5)
      have ew : Wp (Wp W0 (Dl :: fp)) p5 = Wp W0 (Dl :: (fp ++ p5)) := by rw [wp_wp]; rfl
      have nod : (Dl :: (fp ++ p5)).Nodup := by
        have h1 := List.nodup_cons.mp hnd
        exact List.nodup_cons.mpr ⟨fun m => (List.mem_append.mp m).elim h1.1 fun m => hnp _ m (List.mem_cons_self ..), List.nodup_append.mpr ⟨h1.2, n5, fun a m c m' z => hnp c m' (z ▸ List.mem_cons_of_mem _ m)⟩⟩
      have keepU : ∀ (a : Addr) (o : HO), H5 a = some o → a ≠ Dl → upd H5 Dl (.lst (vs ++ [v5])) a = some o := fun a o q n => by rw [upd_ne n]; exact q
      have g6 : Good cm (Wp W0 (Dl :: (fp ++ p5))) (upd H5 Dl (.lst (vs ++ [v5]))) σ2 r5 f5 := by
        rw [← ew]
        refine ⟨g5.len, ⟨fun a z => ?_, Tabs.updM g5.w0.2 ⟨_, hD5, rfl⟩⟩, fun j d' hj => ?_, g5.nd, g5.dj, g5.nw, fun j a m => ?_⟩
        · by_cases e : a = Dl
          · subst e; exact ⟨_, upd_same, rfl⟩
          · obtain ⟨o, h1, h2⟩ := g5.w0.1 a z
            exact ⟨o, keepU a o h1 e, h2⟩
        · obtain ⟨u, e1, e2⟩ := g5.sl j d' hj
          refine ⟨u, e1, e2.move (fun a z => .inl z) fun a o q t c => keepU a o q ?_⟩
          rcases c with c | c
          · exact fun z => c (.inl (.inl (.inr (z ▸ List.mem_cons_self ..))))
          · exact fun z => nDl g5 j (z ▸ c)
        · obtain ⟨o, h1, h2⟩ := g5.mu j a m
          exact ⟨o, keepU a o h1 fun z => nDl g5 j (z ▸ m), h2⟩
      have m45 : Fram H1 f1 H5 f5 (Dl :: (fp ++ p5)) := (fm4.trans m5).addv fun a m => by
        rcases List.mem_cons.mp m with rfl | m
        · exact fm4.oldv _ (List.mem_cons_self ..)
        · rcases List.mem_append.mp m with m | m
          · exact fm4.oldv a (List.mem_cons_of_mem _ m)
          · exact (fm4.trans m5).oldv a m
      refine ⟨r5, f5, ys ++ [y5], vs ++ [v5], fp ++ p5, by simp; omega, g6.same hw, upd_same, ?_, nod, fun a m => ?_, ⟨fun a o q n t => ?_, m45.old, m45.oldv, fun a q => ?_, fun h => Tabs.updM (m45.tb h) ⟨_, hD5, rfl⟩⟩, ?_⟩
      · rw [← ew]
        refine all.move (fun a z => .inl z) fun a o q t c => keepU a o q ?_
        rcases c with c | c
        · exact fun z => c (.inl (.inl (.inr (z ▸ List.mem_cons_self ..))))
        · intro z
          subst z
          exact (List.nodup_cons.mp nod).1 c
      · rcases List.mem_cons.mp m with rfl | m
        · exact hnw _ (List.mem_cons_self ..)
        · rcases List.mem_append.mp m with m | m
          · exact hnw a (List.mem_cons_of_mem _ m)
          · exact fun z => w5 a m (.inl z)
      · exact keepU a o (m45.keep a o q n t) fun z => by
          subst z
          rcases fm0.oldv a (by simp) with ⟨j, m⟩ | z
          · exact n j m
          · rw [q] at z; cases z
      · by_cases e : a = Dl
        · subst e; rw [upd_same] at q; cases q
        · rw [upd_ne e] at q; exact m45.back a q
      · refine (Post.bind q5).mono (fun z zz => ?_) fun _ _ z => z
        rw [List.append_assoc]
        exact zz
  · left
    have e : i = ds.length := by omega
    subst e
    refine ⟨(isit _ H' _ hl).2 (by simp), ?_⟩
    rw [List.drop_length] at hq
    have hq : QX cm W0 H σ fps Q (.lst true (ys ++ []), wipeE r' ts) := hq
    rw [List.append_nil] at hq
    have gf : Good cm (Wp W0 (Dl :: fp)) H' σ (wipeE r' ts) f' := by
      have h1 := g'.unwipe
      rw [wipeE_wipeE] at h1
      exact h1
    exact hq (.ref Dl) H' f' (Dl :: fp) gf (.lstO hDl hr) hnd hnw ((fm1.trans fm').addv fun a m => by
      rcases fm'.oldv a m with ⟨j, m⟩ | z
      · exact fm1.old j a m
      · exact .inr (fm1.back a z))
theorem xe_lc {elt iter : Expr} {ifs : List Expr} {scope : Scope} {own : List (Str × Nat)} {ts : List Nat} {it : Env → Out (List D × Env)} {gg : D → Env → Out Env} {tt : Env → Out (Bool × Env)} {el : FX} (hc : X.calm = true) (hN : X.N.Nodup) (hi : XI X cm E tg iter it) (ok : BlkOk X.N X.env.scope scope own) (hts : own.map (·.2) = ts)
    (hg : ∀ (s : Shared) (H : Hp) (C : Addr) (cl : List (Str × Addr)) (fp : List Addr), XG (X.blk s H scope (compEnvC scope cl C X.env) fp) cm (kx ts) tg gg) (ht : ∀ (s : Shared) (H : Hp) (C : Addr) (cl : List (Str × Addr)) (fp : List Addr), XTs (X.blk s H scope (compEnvC scope cl C X.env) fp) cm E0' ifs tt)
    (he : ∀ (s : Shared) (H : Hp) (C : Addr) (cl : List (Str × Addr)) (fp : List Addr), XE (X.blk s H scope (compEnvC scope cl C X.env) fp) cm E0' elt el) (hs : ∀ x, foldedSetIterable iter X.env x = pure x := by intro _; rfl) :
    XE X cm E (.ListComp elt [⟨tg, iter, ifs, 0⟩] scope pos) (xLc it ts gg tt el) := by
  obtain ⟨wi, i1, i2⟩ := hi.ex
  refine ⟨_, pe_lc hc hN i1 ok (fun s H C cl fp => (hg s H C cl fp).pg) (fun s H C cl fp => (ht s H C cl fp).pts) (fun s H C cl fp => (he s H C cl fp).pe) hs, ?_⟩
  rw [hts]
  exact xlc_con i2
theorem ds_setLc (i : Nat) {y : Str} {py spos : Pos} {elt iter : Expr} {ifs : List Expr} {scope : Scope} {own : List (Str × Nat)} {ts : List Nat} {it : Env → Out (List D × Env)} {gg : D → Env → Out Env} {tt : Env → Out (Bool × Env)} {el : FX} (hc : X.calm = true) (hN : X.N.Nodup) (hi : XI X cm E tg iter it) (ok : BlkOk X.N X.env.scope scope own) (hts : own.map (·.2) = ts)
    (hg : ∀ (s : Shared) (H : Hp) (C : Addr) (cl : List (Str × Addr)) (fp : List Addr), XG (X.blk s H scope (compEnvC scope cl C X.env) fp) cm (kx ts) tg gg) (ht : ∀ (s : Shared) (H : Hp) (C : Addr) (cl : List (Str × Addr)) (fp : List Addr), XTs (X.blk s H scope (compEnvC scope cl C X.env) fp) cm E0' ifs tt)
    (he : ∀ (s : Shared) (H : Hp) (C : Addr) (cl : List (Str × Addr)) (fp : List Addr), XE (X.blk s H scope (compEnvC scope cl C X.env) fp) cm E0' elt el) (hsw : swapsWith (.ListComp elt [⟨tg, iter, ifs, 0⟩] scope pos) (some (.Name y py)) spos.line X.env = pure true) (hk : ks i = false := by rfl) (hy : X.N[i]? = some y := by rfl) (hyl : X.env.scope.names.lookup y = some .local := by rfl) (hs : ∀ x, foldedSetIterable iter X.env x = pure x := by intro _; rfl) :
    DS X cm E ks (.Assign [.Name y py] (.ListComp elt [⟨tg, iter, ifs, 0⟩] scope pos) spos) (sSet i (xLc it ts gg tt el)) := by
  obtain ⟨wi, i1, i2⟩ := hi.ex
  refine ⟨_, ps_setLc hc hN hy hyl hsw i1 ok (fun s H C cl fp => (hg s H C cl fp).pg) (fun s H C cl fp => (ht s H C cl fp).pts) (fun s H C cl fp => (he s H C cl fp).pe) hs, ?_⟩
  rw [hts]
  exact setCon hk (xlc_con i2)
theorem ds_setLcP (i : Nat) (ns : List Nat) {y : Str} {py spos : Pos} {elt iter : Expr} {ifs : List Expr} {scope : Scope} {own : List (Str × Nat)} {ts : List Nat} {it : Env → Out (List D)} {gg : D → Env → Out Env} {tt : Env → Out Bool} {el : F} (hc : X.calm = true) (hN : X.N.Nodup) (hi : DI X cm E tg iter it) (ok : BlkOk X.N X.env.scope scope own) (hts : own.map (·.2) = ts)
    (hg : ∀ (s : Shared) (H : Hp) (C : Addr) (cl : List (Str × Addr)) (fp : List Addr), DG (X.blk s H scope (compEnvC scope cl C X.env) fp) cm tg ts gg) (ht : ∀ (s : Shared) (H : Hp) (C : Addr) (cl : List (Str × Addr)) (fp : List Addr), DTs (X.blk s H scope (compEnvC scope cl C X.env) fp) cm E0' ifs tt)
    (he : ∀ (s : Shared) (H : Hp) (C : Addr) (cl : List (Str × Addr)) (fp : List Addr), DE (X.blk s H scope (compEnvC scope cl C X.env) fp) cm E0' true elt el) (hsw : swapsWith (.ListComp elt [⟨tg, iter, ifs, 0⟩] scope pos) (some (.Name y py)) spos.line X.env = pure true) (hk : ks i = false := by rfl) (hy : X.N[i]? = some y := by rfl) (hyl : X.env.scope.names.lookup y = some .local := by rfl) (hs : ∀ x, foldedSetIterable iter X.env x = pure x := by intro _; rfl) :
    DS X cm E ks (.Assign [.Name y py] (.ListComp elt [⟨tg, iter, ifs, 0⟩] scope pos) spos) (sSet i (lift ns (cLc it ts gg tt el))) := by
  obtain ⟨wi, i1, i2⟩ := hi.ex
  refine ⟨_, ps_setLc hc hN hy hyl hsw i1 ok (fun s H C cl fp => (hg s H C cl fp).pg) (fun s H C cl fp => (ht s H C cl fp).pts) (fun s H C cl fp => (he s H C cl fp).pe) hs, ?_⟩
  rw [hts]
  refine setCon hk fun W0 H σ r fps g Q hp => ?_
  have h2 := lc_con (tt := tt) (el := el) (g := gg) (ts := ts) i2
  refine h2 (Wr W0 fps ns) H σ (view ns r) (g.wr ns) (g.view ns) Q ?_
  unfold lift at hp
  split at hp
  · rename_i d hd
    rw [hd]
    intro v H' fpv e1 rp fn
    obtain ⟨fps', g', rp', hw, fm⟩ := g.settle ns e1 (Reps.one rp) fn
    have hs : shrs [d] = shr d := by simp [shrs]
    rw [hs] at g'
    exact hp v H' fps' fpv g' rp'.the fn.1 hw fm
  · rename_i x r' hd
    rw [hd]
    exact XX.of_x g ns hp r'
  · exact hp.elim
end
end DL

set_option maxHeartbeats 4000000
namespace DL
variable [Tbs]
open PySem L2 PySem.Spec PyProof.Rows
open AutoSeq1 (wpAny_loadPart')
open PyProof.Rows (envOfC)
section
variable {X : Cx} {cm : Cm} {E : XS} {b : Bool} {pos p : Pos} {a c e : Expr} {fa fb : DL.F}
def gMulT : D → D → Out D := fun x y => match x, y with
  | .tup u, .int n => if u ≠ [] ∧ u.length ≤ 1000 ∧ 1 ≤ n ∧ n ≤ 1000 then .ok (.tup (List.replicate n.toNat u).flatten) else .bad
  | _, _ => .bad
instance instNil (u : List D) : Decidable (u ≠ []) := by
  cases u with
  | nil => exact isFalse fun h => h rfl
  | cons a b => exact isTrue fun h => nomatch h
theorem de_globI {x : Str} {i : Int} (h : ∃ t, X.mg x = some (.int i t)) (hg : Gl X x := by rfl) (hd : (x == ("__debug__" : Str)) = false := by decide) : DE X cm E b (.Name x pos) (cK (.int i)) := by
  obtain ⟨t, h⟩ := h
  exact de_con (v := .int i) (pe_glob (v := .int i) hg h ⟨t, rfl⟩ hd) fun _ _ => .int i
theorem de_globS {x : Str} {cs : List Nat} (h : ∃ t, X.mg x = some (.str ⟨cs.toArray⟩ t)) (hg : Gl X x := by rfl) (hd : (x == ("__debug__" : Str)) = false := by decide) : DE X cm E b (.Name x pos) (cK (.str cs)) := by
  obtain ⟨t, h⟩ := h
  exact de_con (v := .str ⟨cs.toArray⟩) (pe_glob (v := .str ⟨cs.toArray⟩) hg h ⟨t, rfl⟩ hd) fun _ _ => .str cs
theorem pxB {P : Program} {w : World} {K : PySem.W.Frag} {mg : Str → Option Value} {base : Heap} {N : List Str} {qual : Str} {sc : Scope} {f : Addr} {cdv : Value} {A : Around} {outer : List PySem.Env} {s : Shared} {H : Hp} {E : XK} : PassG (cxB P w K mg base N qual sc f cdv A outer s H E) (fun _ => E) :=
  fun σ => passAt (X := cxB P w K mg base N qual sc f cdv A outer s H E) (W := fun cls d _ H => E cls d H) (takes_of rfl rfl rfl rfl) σ
theorem poB {P : Program} {w : World} {K : PySem.W.Frag} {mg : Str → Option Value} {base : Heap} {N : List Str} {qual : Str} {sc : Scope} {f : Addr} {cdv : Value} {A : Around} {outer : List PySem.Env} {s : Shared} {H : Hp} {E : XK} : PassesOwn (model P w) (cxB P w K mg base N qual sc f cdv A outer s H E).A (cxB P w K mg base N qual sc f cdv A outer s H E).env (cxB P w K mg base N qual sc f cdv A outer s H E).xe :=
  passes_of (X := cxB P w K mg base N qual sc f cdv A outer s H E) rfl
structure CallOk (P : Program) (w : World) (K : PySem.W.Frag) (mg : Str → Option Value) (base : Heap) (x : Str) (k : Nat) (ps : List Str) (sp : Sp) : Prop where
  ex : ∃ f fd, FnG P w K mg base k f fd ps sp ∧ mg x = some (.ref f) ∧ PySem.W.keepIn K (.ref f) = true ∧ Binds K fd ps []
variable {x : Str} {k n : Nat} {ps : List Str} {m : List D → Out D} {es : List Expr}
def chk (n : Nat) (m : List D → Out D) : List D → Out D := fun ds => if ds.length = n then m ds else .bad
theorem de_fn {fs : DL.Env → Out (List D)} (C : CallOk X.prog X.w X.K X.mg X.base x k ps (spP cm n m)) (hr : RoomG k X.A) (hx : PassG X E) (ha : DA X cm E false (e :: es) fs) (hg : Gl X x := by rfl) (hn : ps.length = n := by rfl) (hdb : (x == ("__debug__" : Str)) = false := by decide)
    (he : starEach (e :: es) X.env = (false, eval e X.env) :: starEach es X.env := by rfl) (hpl : (backTo pos (starEach es X.env)).any (·.1) = false := by rfl) : DE X cm E true (.Call (.Name x p) (e :: es) [] pos) (cA (chk n m) fs) := by
  obtain ⟨f, fd, h1, h2, h3, h4⟩ := C.ex
  exact de_call h1 hr hg h2 h3 h4 hx ha hn hdb he hpl
theorem xe_fio {mm : List D → Out (D × D)} (i : Nat) {fs : DL.Env → Out (List D × DL.Env)} (C : CallOk X.prog X.w X.K X.mg X.base x k ps (spX cm n mm)) (hr : RoomG k X.A) (hx : PassG X E) (hv : PE X e (tVar i)) (ha : XA X cm E es fs) (hg : Gl X x := by rfl) (hdb : (x == ("__debug__" : Str)) = false := by decide)
    (he : starEach (e :: es) X.env = (false, eval e X.env) :: starEach es X.env := by rfl) (hpl : (backTo pos (starEach es X.env)).any (·.1) = false := by rfl) : XE X cm E (.Call (.Name x p) (e :: es) [] pos) (xIO i n mm fs) := by
  obtain ⟨f, fd, h1, h2, h3, h4⟩ := C.ex
  exact xe_io i h1 hr hg h2 h3 h4 hx hv ha hdb he hpl
theorem mk_pure {P : Program} {w : World} {K : PySem.W.Frag} {mg : Str → Option Value} {base : Heap} {qual : Str} {st : Stmt} {f : Addr} {fd : FuncData} {N : List Str} {g : FS} (Fu : Fun K x qual st f fd) (S : FnScope N ps (defScope st)) (hm : mg x = some (.ref f)) (hb : Binds K fd ps [])
    (hbody : ∀ (cdv : Value) (A : Around) (outer : List PySem.Env) (s : Shared) (H : Hp) (E : XK), RoomG k (A.deeper (envOfC qual (defScope st) s.heap.objs.size f cdv)) → DSs (cxB P w K mg base N qual (defScope st) f cdv A outer s H E) cm (fun _ => E) k0 (defBody st) g) :
    CallOk P w K mg base x (k + 1) ps (spP cm ps.length (runP ps.length N.length g)) := ⟨f, fd, fn_pure Fu S hbody, hm, Fu.kp, hb⟩
theorem mk_io {P : Program} {w : World} {K : PySem.W.Frag} {mg : Str → Option Value} {base : Heap} {qual : Str} {st : Stmt} {f : Addr} {fd : FuncData} {N : List Str} {g : FS} (Fu : Fun K x qual st f fd) (S : FnScope N ps (defScope st)) (hm : mg x = some (.ref f)) (hb : Binds K fd ps [])
    (hbody : ∀ (cdv : Value) (A : Around) (outer : List PySem.Env) (s : Shared) (H : Hp) (E : XK), RoomG k (A.deeper (envOfC qual (defScope st) s.heap.objs.size f cdv)) → DSs (cxB P w K mg base N qual (defScope st) f cdv A outer s H E) cm (fun _ => E) k1 (defBody st) g) :
    CallOk P w K mg base x (k + 1) ps (spX cm ps.length (runX ps.length N.length g)) := ⟨f, fd, fn_io Fu S hbody, hm, Fu.kp, hb⟩
end
theorem depth_ok {k : Nat} (hk : k ≤ 200) : callerA.depth + 3 * k + 5 < recursionLimit := by
  have h1 : callerA.depth ≤ 301 := by decide
  have h2 : recursionLimit = 1000 := rfl
  omega
theorem units_ok {k : Nat} (hk : k ≤ 200) : callerA.units + 16 * k + 200 < cLine := by
  have h1 : callerA.units ≤ 5000 := by decide
  have h2 : cLine = 9900 := rfl
  omega
end DL

namespace DL
variable [Tbs]
open PySem L2 PySem.Spec PyProof.Rows
inductive Sr where
  | txt (x : Str) | lst (a : Addr) | tup (a : Addr)
def Sr.v : Sr → V
  | .txt x => .str x | .lst a => .ref a | .tup a => .ref a
def Sr.its (K : PySem.W.Frag) (H : Hp) : Sr → List V → Prop
  | .txt x, xs => xs = x.cps.toList.map fun c => V.str ⟨#[c]⟩
  | .lst a, xs => SqL K H a xs
  | .tup a, xs => SqT K H a xs
def Sr.ad : Sr → List Addr
  | .txt _ => [] | .lst a => [a] | .tup a => [a]
def Sr.at (it : Addr) (t : Tok) : Sr → Nat → Heap → Prop
  | .txt x, i, h => h.IsStrIter it (strIterType x) x t i
  | .lst a, i, h => h.IsListIter it a i
  | .tup a, i, h => h.IsTupleIter it a i
def Sr.ob (t : Tok) : Sr → Obj
  | .txt x => { cls := .type (strIterType x), data := .fields #[.str x t, .int 0 0] }
  | .lst a => { cls := .type "list_iterator", data := .fields #[.ref a, .int 0 0] }
  | .tup a => { cls := .type "tuple_iterator", data := .fields #[.ref a, .int 0 0] }
theorem Sr.at_obj {sr : Sr} {it : Addr} {t : Tok} {i : Nat} {h : Heap} (st : sr.at it t i h) : ∃ o, h.get? it = some o ∧ ∀ v, o.data ≠ .cell v := by
  cases sr <;> (obtain ⟨o, e, _, d⟩ := st; exact ⟨o, e, fun v q => by rw [d] at q; cases q⟩)
theorem Sr.at_keep {sr : Sr} {it : Addr} {t : Tok} {i : Nat} {h h' : Heap} (st : sr.at it t i h) (k : ∀ o, h.get? it = some o → h'.get? it = some o) : sr.at it t i h' := by
  cases sr <;> (obtain ⟨o, e, r⟩ := st; exact ⟨o, k o e, r⟩)
theorem Sr.at_zero {sr : Sr} {it : Addr} {t : Tok} {h : Heap} (e : h.get? it = some (sr.ob t)) : sr.at it t 0 h := by
  cases sr <;> exact ⟨_, e, rfl, rfl⟩
section
variable {X : Cx} {pins : List (Addr × Obj)} {σ : L2.St} {H : Hp} {s : Shared}
theorem Sr.inj {sr : Sr} {xs ys : List V} (I : Inv X pins σ H s) (h : sr.its X.K H xs) (h' : sr.its X.K H ys) : xs = ys := by
  cases sr with
  | txt x => exact Eq.trans h (Eq.symm h')
  | lst a => exact I.list_inj h h'
  | tup a => exact I.tuple_inj h h'
theorem Sr.lt {sr : Sr} {xs : List V} (I : Inv X pins σ H s) (h : sr.its X.K H xs) : ∀ a ∈ sr.ad, a < s.heap.objs.size := by
  intro a ha
  cases sr with
  | txt x => cases ha
  | lst b =>
    cases List.mem_singleton.mp ha
    obtain ⟨its, rv, p, _⟩ := I.list h
    exact p.lt
  | tup b =>
    cases List.mem_singleton.mp ha
    obtain ⟨its, rv, p, _⟩ := I.tuple h
    obtain ⟨o, ho, _⟩ := p
    exact Heap.lt_size ho
theorem Sr.begins {sr : Sr} {xs : List V} {u : Value} (I : Inv X pins σ H s) (h : sr.its X.K H xs) (r : RelV sr.v u) : ∃ (t : Tok) (B : Heap → Prop), Begins u (sr.ob t) B ∧ B s.heap := by
  cases sr with
  | txt x =>
    obtain ⟨t, rfl⟩ := r
    exact ⟨t, _, begins_text x t, trivial⟩
  | lst a =>
    cases r
    obtain ⟨its, rv, p, _⟩ := I.list h
    exact ⟨0, _, begins_list a its.toArray, p.isList⟩
  | tup a =>
    cases r
    obtain ⟨its, rv, p, _⟩ := I.tuple h
    exact ⟨0, _, begins_tuple a its.toArray, p⟩
theorem Sr.draws {sr : Sr} {xs : List V} {it : Addr} {t : Tok} (hc : X.calm = true) (I : Inv X pins σ H s) (h : sr.its X.K H xs) (hn : it ∉ sr.ad) :
    ∃ (P : Nat → Value → Prop) (S : Nat → Heap → Prop), Draws X.prog X.w X.A.in1 it (it :: sr.ad) xs.length P S ∧ (∀ i v, P i v → ∃ x, xs[i]? = some x ∧ RelV x v) ∧ (∀ i, sr.at it t i s.heap → S i s.heap) ∧ ∀ i h, S i h → sr.at it t i h := by
  have hh : X.A.in1.handled = none := I.ok.hd hc
  cases sr with
  | txt x =>
    have h : xs = x.cps.toList.map fun c => V.str ⟨#[c]⟩ := h
    subst h
    have D := Draws.text (prog := X.prog) (w := X.w) hh it x t
    have e0 : x.cps.size = (x.cps.toList.map fun c => V.str ⟨#[c]⟩).length := by simp
    rw [e0] at D
    refine ⟨_, _, D, fun i v q => ?_, fun i st => st, fun i h st => st⟩
    obtain ⟨c, u, e, ev⟩ := q
    refine ⟨.str ⟨#[c]⟩, ?_, ⟨u, ev⟩⟩
    rw [List.getElem?_map]
    have : x.cps.toList[i]? = some c := by simpa using e
    rw [this]; rfl
  | lst a =>
    obtain ⟨its, rv, p, _⟩ := I.list h
    have hne : a ≠ it := fun e => hn (by rw [e]; exact List.mem_singleton.mpr rfl)
    have D := Draws.list (prog := X.prog) (w := X.w) hh it a hne its.toArray
    rw [List.size_toArray, ← rv.length] at D
    refine ⟨_, _, D, fun i v e => ?_, fun i st => ⟨st, p.isList⟩, fun i h st => st.1⟩
    have e : its[i]? = some v := by simpa using e
    have hi : i < xs.length := by rw [rv.length]; exact (List.getElem?_eq_some_iff.mp e).1
    have hx : xs[i]? = some xs[i] := List.getElem?_eq_getElem hi
    obtain ⟨u, hu, ru⟩ := rv.get hx
    rw [hu] at e; cases e
    exact ⟨_, hx, ru⟩
  | tup a =>
    obtain ⟨its, rv, p, _⟩ := I.tuple h
    have hne : a ≠ it := fun e => hn (by rw [e]; exact List.mem_singleton.mpr rfl)
    have D := Draws.tuple (prog := X.prog) (w := X.w) hh it a hne its.toArray
    rw [List.size_toArray, ← rv.length] at D
    refine ⟨_, _, D, fun i v e => ?_, fun i st => ⟨st, p⟩, fun i h st => st.1⟩
    have e : its[i]? = some v := by simpa using e
    have hi : i < xs.length := by rw [rv.length]; exact (List.getElem?_eq_some_iff.mp e).1
    have hx : xs[i]? = some xs[i] := List.getElem?_eq_getElem hi
    obtain ⟨u, hu, ru⟩ := rv.get hx
    rw [hu] at e; cases e
    exact ⟨_, hx, ru⟩
end
def ItZ (K : PySem.W.Frag) (a b : Sr) (n : Nat) : It :=
  ⟨fun i H => i < n ∧ ∃ (xs ys : List V) (x y : V), a.its K H xs ∧ b.its K H ys ∧ xs[i]? = some x ∧ ys[i]? = some y,
    fun i H v H' => ∃ T x y, v = .ref T ∧ H T = none ∧ H' = upd H T (.tup [x, y]) ∧ (∀ xs, a.its K H xs → xs[i]? = some x) ∧ ∀ ys, b.its K H ys → ys[i]? = some y,
    fun i H => n ≤ i ∧ ∃ xs ys : List V, a.its K H xs ∧ b.its K H ys ∧ n = min xs.length ys.length⟩
structure Ap (z TI TO i1 i2 : Addr) (a b : Sr) : Prop where
  TIz : TI ≠ z
  TOz : TO ≠ z
  TITO : TI ≠ TO
  TIi1 : TI ≠ i1
  TIi2 : TI ≠ i2
  zi1 : z ≠ i1
  zi2 : z ≠ i2
  Ti1 : TO ≠ i1
  Ti2 : TO ≠ i2
  i12 : i1 ≠ i2
  za : z ∉ a.ad
  zb : z ∉ b.ad
  Ta : TO ∉ a.ad
  Tb : TO ∉ b.ad
  a1 : i1 ∉ a.ad
  a2 : i2 ∉ a.ad
  b1 : i1 ∉ b.ad
  b2 : i2 ∉ b.ad
theorem Ap.sep {z TI TO i1 i2 : Addr} {a b : Sr} (D : Ap z TI TO i1 i2 a b) : ZipSep2 z TI TO i1 i2 (i1 :: a.ad) (i2 :: b.ad) where
  TIz := D.TIz
  TOz := D.TOz
  TITO := D.TITO
  TIi1 := D.TIi1
  mem1 := List.mem_cons_self ..
  zf1 := fun h => (List.mem_cons.mp h).elim D.zi1 D.za
  Tf1 := fun h => (List.mem_cons.mp h).elim D.Ti1 D.Ta
  TIi2 := D.TIi2
  mem2 := List.mem_cons_self ..
  zf2 := fun h => (List.mem_cons.mp h).elim D.zi2 D.zb
  Tf2 := fun h => (List.mem_cons.mp h).elim D.Ti2 D.Tb
  sep1_2 := fun h => (List.mem_cons.mp h).elim D.i12 D.b1
  sep2_1 := fun h => (List.mem_cons.mp h).elim D.i12.symm D.a2
theorem turn_zipS {P : Program} {w : World} {K : PySem.W.Frag} {elts : List Expr} {kk : Nat} {tpos : Pos} {a b : Sr} {z TI TO i1 i2 : Addr} {t1 t2 : Tok} {n : Nat} (D : Ap z TI TO i1 i2 a b) :
    Turn P w K (.Tuple elts kk tpos) (ItZ K a b n) [z, TI, TO, i1, i2] z (fun i h => i ≤ n ∧ IsZip h z TI TO .none ∧ IsTupOf2 h TI (.ref i1) (.ref i2) ∧ (∃ x y, IsTupOf2 h TO x y) ∧ a.at i1 t1 i h ∧ b.at i2 t2 i h) where
  mem := by simp
  obj := fun i h st c hc => by
    obtain ⟨hin, hz, hTI, ⟨x, y, hTO⟩, h1, h2⟩ := st
    have e' : c = z ∨ c = TI ∨ c = TO ∨ c = i1 ∨ c = i2 := by simpa using hc
    rcases e' with q | q | q | q | q
    · rw [q]; exact ⟨_, hz, fun v q => nomatch q⟩
    · rw [q]; exact ⟨_, hTI, fun v q => nomatch q⟩
    · rw [q]; exact ⟨_, hTO, fun v q => nomatch q⟩
    · rw [q]; exact Sr.at_obj h1
    · rw [q]; exact Sr.at_obj h2
  keep := fun i h h' st k => by
    obtain ⟨hin, hz, hTI, ⟨x, y, hTO⟩, h1, h2⟩ := st
    exact ⟨hin, k z (by simp) _ hz, k TI (by simp) _ hTI, ⟨x, y, k TO (by simp) _ hTO⟩, Sr.at_keep h1 fun o q => k i1 (by simp) o q, Sr.at_keep h2 fun o q => k i2 (by simp) o q⟩
  item := by
    intro X hP hw hK hc i pins s σ H E I hf st hg
    subst hP hw hK
    obtain ⟨hin, hz, hTI, ⟨x0, y0, hTO⟩, h1, h2⟩ := st
    obtain ⟨hlt, xs, ys, x, y, hqx, hqy, hx, hy⟩ := hg
    obtain ⟨P1, S1, D1, r1, in1, out1⟩ := Sr.draws (t := t1) hc I hqx D.a1
    obtain ⟨P2, S2, D2, r2, in2, out2⟩ := Sr.draws (t := t2) hc I hqy D.b2
    have hzl : z < s.heap.objs.size := Heap.lt_size hz
    have l1 : i1 < s.heap.objs.size := by obtain ⟨o, e, _⟩ := Sr.at_obj h1; exact Heap.lt_size e
    have l2 : i2 < s.heap.objs.size := by obtain ⟨o, e, _⟩ := Sr.at_obj h2; exact Heap.lt_size e
    refine wpAny_pyNext_zipD2_item D.sep D1 D2 hz hTI hTO (in1 i h1) (in2 i h2) (List.getElem?_eq_some_iff.mp hx).1 (List.getElem?_eq_some_iff.mp hy).1 fun u u2 h' tk p1 p2 z' TO' h1' h2' hT hsz hk => ?_
    obtain ⟨x', hx', ru⟩ := r1 i u p1
    rw [hx] at hx'; cases hx'
    obtain ⟨y', hy', ru2⟩ := r2 i u2 p2
    rw [hy] at hy'; cases hy'
    refine ⟨_, rfl, wpAny_letOwnedTupleGo_zip (s := { s with heap := h', toks := tk }) z' fun h'' z'' sb => ?_⟩
    have hT2 : h''.get? s.heap.objs.size = some { cls := .type "tuple", data := .seq #[u, u2] } := (sb.2 _ (Nat.ne_of_gt hzl)).trans hT
    have new : ObjOk X.prog X.w (upd H s.heap.objs.size (.tup [x, y])) h'' s.heap.objs.size (.tup [x, y]) :=
      ⟨by show 2 ≤ sizeLine; decide, [u, u2], .cons ru (.cons ru2 .nil), ⟨_, hT2, rfl, _, rfl⟩⟩
    have I1 : Inv X pins σ (upd H s.heap.objs.size (.tup [x, y])) { s with heap := h'', toks := tk } :=
      I.turnedNew (ch := [z, TI, TO, i1, i2]) (fun c o hb q => (sb.2 c (fun q' => hb (by simp [q']))).trans (hk c o (fun q' => hb (by simp [q'])) (fun q' => hb (by simp [q'])) (fun q' => hb (by simp [q'])) (fun q' => hb (by simp [q'])) q)) hf (Nat.le_refl _) new
    refine ⟨.ref s.heap.objs.size, _, I1, rfl, ⟨_, x, y, rfl, I.hok.fresh (Nat.le_refl _), rfl, fun l hl => by rw [Sr.inj I hl hqx]; exact hx, fun l hl => by rw [Sr.inj I hl hqy]; exact hy⟩, ⟨hlt, z'', ?_, ⟨u, u2, ?_⟩, ?_, ?_⟩, fun c hcm => ?_⟩
    · exact (sb.2 _ D.TIz).trans (hk _ _ D.TIz D.TITO D.TIi1 D.TIi2 hTI)
    · exact (sb.2 _ D.TOz).trans TO'
    · exact Sr.at_keep (out1 _ _ h1') fun o q => (sb.2 _ D.zi1.symm).trans q
    · exact Sr.at_keep (out2 _ _ h2') fun o q => (sb.2 _ D.zi2.symm).trans q
    · have hlt : c < s.heap.objs.size := by
        have e' : c = z ∨ c = TI ∨ c = TO ∨ c = i1 ∨ c = i2 := by simpa using hcm
        rcases e' with q | q | q | q | q
        · rw [q]; exact hzl
        · rw [q]; exact Heap.lt_size hTI
        · rw [q]; exact Heap.lt_size hTO
        · rw [q]; exact l1
        · rw [q]; exact l2
      rw [upd_ne (Nat.ne_of_lt hlt)]
      exact (hf c hcm).1
  done := by
    intro X hP hw hK hc i pins s σ H E I hf st hg
    subst hP hw hK
    obtain ⟨hin, hz, hTI, ⟨x0, y0, hTO⟩, h1, h2⟩ := st
    obtain ⟨hge, xs, ys, hqx, hqy, hn⟩ := hg
    obtain ⟨P1, S1, D1, r1, in1, out1⟩ := Sr.draws (t := t1) hc I hqx D.a1
    obtain ⟨P2, S2, D2, r2, in2, out2⟩ := Sr.draws (t := t2) hc I hqy D.b2
    exact wpAny_pyNext_zipD2_end D.sep D1 D2 hz hTI hTO (in1 i h1) (in2 i h2) (by omega) (by omega) (by omega) fun h' tk hk => ⟨rfl, I.turnedL (ch := [z, TI, TO, i1, i2]) (fun c o hb q =>
      hk c o (fun q' => hb (by simp [q'])) (fun q' => hb (by simp [q'])) (fun q' => hb (by simp [q'])) (fun q' => hb (by simp [q'])) q) hf⟩
  self := fun A i s Q E st h => wpAny_pyIter_zip st.2.1 h
theorem Ap.new {N : Nat} {a b : Sr} (ha : ∀ x ∈ a.ad, x < N) (hb : ∀ x ∈ b.ad, x < N) : Ap (N + 4) (N + 2) (N + 3) N (N + 1) a b where
  TIz := by show (N + 2 : Nat) ≠ (N + 4 : Nat); omega
  TOz := by show (N + 3 : Nat) ≠ (N + 4 : Nat); omega
  TITO := by show (N + 2 : Nat) ≠ (N + 3 : Nat); omega
  TIi1 := by show (N + 2 : Nat) ≠ (N : Nat); omega
  TIi2 := by show (N + 2 : Nat) ≠ (N + 1 : Nat); omega
  zi1 := by show (N + 4 : Nat) ≠ (N : Nat); omega
  zi2 := by show (N + 4 : Nat) ≠ (N + 1 : Nat); omega
  Ti1 := by show (N + 3 : Nat) ≠ (N : Nat); omega
  Ti2 := by show (N + 3 : Nat) ≠ (N + 1 : Nat); omega
  i12 := by show (N : Nat) ≠ (N + 1 : Nat); omega
  za := fun h => by have : (N + 4 : Nat) < N := ha _ h; omega
  zb := fun h => by have : (N + 4 : Nat) < N := hb _ h; omega
  Ta := fun h => by have : (N + 3 : Nat) < N := ha _ h; omega
  Tb := fun h => by have : (N + 3 : Nat) < N := hb _ h; omega
  a1 := fun h => by have : (N : Nat) < N := ha _ h; omega
  a2 := fun h => by have : (N + 1 : Nat) < N := ha _ h; omega
  b1 := fun h => by have : (N : Nat) < N := hb _ h; omega
  b2 := fun h => by have : (N + 1 : Nat) < N := hb _ h; omega
def iZipS (K : PySem.W.Frag) (ta : TA) : TI := fun σ H R => ta σ H fun vs H1 => ∃ (a b : Sr) (xs ys : List V), vs = [a.v, b.v] ∧ a.its K H1 xs ∧ b.its K H1 ys ∧ R (ItZ K a b (min xs.length ys.length)) H1
theorem pi_zipS {X : Cx} {e e2 : Expr} {ta : TA} {p pos tpos : Pos} {elts : List Expr} {kk : Nat} (hg : Gl X "zip") (hm : X.mg "zip" = none) (ha : PA X [e, e2] ta)
    (hs : starEach [e, e2] X.env = (false, eval e X.env) :: starEach [e2] X.env := by rfl) (hpl : (backTo pos (starEach [e2] X.env)).any (·.1) = false := by rfl) :
    PI X (.Tuple elts kk tpos) (.Call (.Name "zip" p) [e, e2] [] pos) (iZipS X.K ta) := by
  refine ⟨fun pins s σ H R I h => ?_⟩
  refine Call_ (ld_blt I hg hm PyProof.Rows.boot_zip (PyProof.Rows.callWith_type1 (thn (ha.run pos pins s σ H _ I h) fun us s1 ⟨vs, H1, I1, r1, q1⟩ => ?_) hs hpl))
  obtain ⟨a, b, xs, ys, ex, hqx, hqy, q⟩ := q1
  subst ex
  cases r1 with
  | cons r rr =>
    cases rr with
    | cons r' rr =>
      cases rr
      have fresh5 : ∀ c, c ∈ [s1.heap.objs.size + 4, s1.heap.objs.size + 2, s1.heap.objs.size + 3, s1.heap.objs.size, s1.heap.objs.size + 1] → FpOk X pins H1 c := fun c hcm => by
        have e' : c = s1.heap.objs.size + 4 ∨ c = s1.heap.objs.size + 2 ∨ c = s1.heap.objs.size + 3 ∨ c = s1.heap.objs.size ∨ c = s1.heap.objs.size + 1 := by simpa using hcm
        have hle : s1.heap.objs.size ≤ c := by
          rcases e' with z | z | z | z | z
          · rw [z]; exact Nat.le_add_right _ _
          · rw [z]; exact Nat.le_add_right _ _
          · rw [z]; exact Nat.le_add_right _ _
          · rw [z]; exact Nat.le_refl _
          · rw [z]; exact Nat.le_add_right _ _
        exact I1.fpOk hle (I1.hok.fresh hle)
      obtain ⟨t1, B1, b1, k1⟩ := Sr.begins I1 hqx r
      obtain ⟨t2, B2, b2, k2⟩ := Sr.begins I1 hqy r'
      refine zip_begins2 b1 b2 k1 k2 fun h' hz hTI hTO h1 h2 hsz hk => wpAny_pyIter_zip hz ?_
      have I2 : Inv X pins σ H1 { s1 with heap := h' } := I1.kept (t' := s1.toks) hk
      exact ⟨s1.heap.objs.size + 4, [s1.heap.objs.size + 4, s1.heap.objs.size + 2, s1.heap.objs.size + 3, s1.heap.objs.size, s1.heap.objs.size + 1], _, _, H1, rfl, I2, turn_zipS (t1 := t1) (t2 := t2) (Ap.new (Sr.lt I1 hqx) (Sr.lt I1 hqy)), ⟨Nat.zero_le _, hz, hTI, ⟨_, _, hTO⟩, Sr.at_zero h1, Sr.at_zero h2⟩, fresh5, q⟩
def ItE (K : PySem.W.Frag) (a : Sr) (n : Nat) : It :=
  ⟨fun i H => i < n ∧ ∃ (xs : List V) (x : V), a.its K H xs ∧ xs[i]? = some x,
    fun i H v H' => ∃ T x, v = .ref T ∧ H T = none ∧ H' = upd H T (.tup [.int (i : Nat), x]) ∧ ∀ xs, a.its K H xs → xs[i]? = some x,
    fun i H => n ≤ i ∧ ∃ xs : List V, a.its K H xs ∧ n = xs.length⟩
theorem turn_enumS {P : Program} {w : World} {K : PySem.W.Frag} {elts : List Expr} {kk : Nat} {tpos : Pos} {a : Sr} {e it : Addr} {t : Tok} {n : Nat} (hne : e ≠ it) (he : e ∉ a.ad) (hi : it ∉ a.ad) :
    Turn P w K (.Tuple elts kk tpos) (ItE K a n) [e, it] e (fun i h => i ≤ n ∧ (∃ old, IsEnum h e it ((i : Nat) : Int) old) ∧ a.at it t i h) where
  mem := by simp
  obj := fun i h st b hb => by
    obtain ⟨_, ⟨old, he⟩, h1⟩ := st
    have e' : b = e ∨ b = it := by simpa using hb
    rcases e' with z | z
    · rw [z]; exact ⟨_, he, fun v q => nomatch q⟩
    · rw [z]; exact Sr.at_obj h1
  keep := fun i h h' st k => let ⟨hin, ⟨old, he⟩, hi⟩ := st; ⟨hin, ⟨old, k e (by simp) _ he⟩, Sr.at_keep hi fun o q => k it (by simp) o q⟩
  item := by
    intro X hP hw hK hc i pins s σ H E I hf st hg
    subst hP hw hK
    obtain ⟨hin, ⟨old, hen⟩, hit⟩ := st
    obtain ⟨hlt, xs, x, hq, hx⟩ := hg
    obtain ⟨P1, S1, D1, r1, in1, out1⟩ := Sr.draws (t := t) hc I hq hi
    have hel : e < s.heap.objs.size := Heap.lt_size hen
    have hil : it < s.heap.objs.size := by obtain ⟨_, q, _⟩ := Sr.at_obj hit; exact Heap.lt_size q
    refine wpAny_pyNext_enum_itemC D1 hen (in1 i hit) (List.getElem?_eq_some_iff.mp hx).1 hne (fun h => (List.mem_cons.mp h).elim hne he) fun u h' tk p1 ho hit' hT hsz hk => ?_
    obtain ⟨x', hx', ru⟩ := r1 i u p1
    rw [hx] at hx'; cases hx'
    refine ⟨_, rfl, wpAny_letOwnedTupleGo_enum (s := { s with heap := h', toks := tk + 1 }) ho fun h'' he' sb => ?_⟩
    have hT2 : h''.get? s.heap.objs.size = some { cls := .type "tuple", data := .seq #[.int i tk, u] } := (sb.2 _ (Nat.ne_of_gt hel)).trans hT
    have new : ObjOk X.prog X.w (upd H s.heap.objs.size (.tup [.int (i : Nat), x])) h'' s.heap.objs.size (.tup [.int (i : Nat), x]) :=
      ⟨by show 2 ≤ sizeLine; decide, [.int i tk, u], .cons ⟨_, rfl⟩ (.cons ru .nil), ⟨_, hT2, rfl, _, rfl⟩⟩
    have I1 : Inv X pins σ (upd H s.heap.objs.size (.tup [.int (i : Nat), x])) { s with heap := h'', toks := tk + 1 } :=
      I.turnedNew (ch := [e, it]) (fun b ob hb q => (sb.2 b (fun z => hb (by simp [z]))).trans (hk b ob (fun z => hb (by simp [z])) (fun z => hb (by simp [z])) q)) hf (Nat.le_refl _) new
    refine ⟨.ref s.heap.objs.size, _, I1, rfl, ⟨_, x, rfl, I.hok.fresh (Nat.le_refl _), rfl, fun ys hy => by rw [Sr.inj I hy hq]; exact hx⟩, ⟨hlt, ⟨u, ?_⟩, Sr.at_keep (out1 _ _ hit') fun o q => (sb.2 it (Ne.symm hne)).trans q⟩, fun b hb => ?_⟩
    · have e1 : ((i + 1 : Nat) : Int) = (i : Int) + 1 := by omega
      rw [e1]; exact he'
    · have hb' : b < s.heap.objs.size := by
        have e' : b = e ∨ b = it := by simpa using hb
        rcases e' with z | z
        · rw [z]; exact hel
        · rw [z]; exact hil
      rw [upd_ne (Nat.ne_of_lt hb')]
      exact (hf b hb).1
  done := by
    intro X hP hw hK hc i pins s σ H E I hf st hg
    subst hP hw hK
    obtain ⟨hin, ⟨old, hen⟩, hit⟩ := st
    obtain ⟨hge, xs, hq, hn⟩ := hg
    have ei : i = xs.length := by omega
    subst ei
    obtain ⟨P1, S1, D1, r1, in1, out1⟩ := Sr.draws (t := t) hc I hq hi
    obtain ⟨f0, f1, f2, f3, f4, f5⟩ := hf it (by simp)
    exact wpAny_pyNext_enum_endD D1 hen (in1 _ hit) fun h' eb => ⟨rfl, I.turned (t' := s.toks) (fun b o hb q => eb b o hb q) f0 f1 f3 f4 f5⟩
  self := fun A i s Q E st h => let ⟨_, ⟨_, he⟩, _⟩ := st; wpAny_pyIter_enum he h
end DL

namespace DL
variable [Tbs]
open PySem L2 PySem.Spec PyProof.Rows
set_option maxHeartbeats 1000000 in
theorem meets_enum1 {v : Value} {o : Obj} {H : Heap → Prop} (B : Begins v o H) :
    Meets (Builtin.«enumerate.__new__» ⟨[.type "enumerate", v], []⟩) (fun _ R s => H s.heap ∧
      R (.ok (.ret (.ref (s.heap.push o).objs.size))) { s with heap := (s.heap.push o).push { cls := .type "enumerate", data := .fields #[.none, .bool false, .ref s.heap.objs.size, rawInt 0, .none, .none] } }) :=
  .of_wp fun prog w A R s h => by
    obtain ⟨hp, g, d, tk, os⟩ := s; obtain ⟨h1, h⟩ := h
    have hsub := sub_enumerate
    have q1 : ∀ {A' : Around} {E : Value → Shared → Prop} {Q : Value → Shared → Prop}, Q (.ref hp.objs.size) ⟨hp.push o, g, d, tk, os⟩ → wpAny (model prog w) A' (pyIter v) Q E ⟨hp, g, d, tk, os⟩ :=
      fun q => B.iter prog w _ _ ⟨hp, g, d, tk, os⟩ _ h1 q
    wp_walk using q1
    refine wpAny_stack_any fun st => wpAny_pure ?_
    split
    · rename_i c _ _ _ _ _
      cases (c == Value.type "enumerate")
      · wp_walk using q1
        exact ⟨_, rfl, h⟩
      · wp_walk using q1
        exact ⟨_, rfl, h⟩
    · wp_walk using q1
      exact ⟨_, rfl, h⟩
theorem enum1_begins {prog : Program} {w : World} {A : Around} {E : Value → Shared → Prop} {s : Shared} {v : Value} {o : Obj} {H : Heap → Prop} {Q : Value → Shared → Prop} (B : Begins v o H) (h1 : H s.heap)
    (h : ∀ h', IsEnum h' (s.heap.objs.size + 1) s.heap.objs.size 0 .none → h'.get? s.heap.objs.size = some o → h'.objs.size = s.heap.objs.size + 2 →
      (∀ b o, s.heap.get? b = some o → h'.get? b = some o) → Q (.ref (s.heap.objs.size + 1)) { s with heap := h' }) :
    wpAny (model prog w) A (call (.type "enumerate") [v]) Q E s := by
  refine callType_new F.called_enumerate (by decide) (F.typeCall_enumerate_1 _) (F.newCall_enumerate_1 _) (fun obj => F.args_object_init_2 obj _) F.entry_enumerate_new
    (meets_enum1 B) ⟨h1, ?_⟩
  have hz : (s.heap.push o).objs.size = s.heap.objs.size + 1 := Heap.size_push ..
  show _ ∧ _
  rw [hz]
  have he : IsEnum ((s.heap.push o).push { cls := .type "enumerate", data := .fields #[.none, .bool false, .ref s.heap.objs.size, rawInt 0, .none, .none] }) (s.heap.objs.size + 1) s.heap.objs.size 0 .none := by
    have := Heap.get?_push_size (s.heap.push o) (o := { cls := .type "enumerate", data := .fields #[.none, .bool false, .ref s.heap.objs.size, rawInt 0, .none, .none] }) rfl
    rw [hz] at this; exact this
  exact ⟨⟨_, he, rfl⟩, h _ he (Heap.get?_push_of_some _ (Heap.get?_push_size _ B.free)) (by rw [Heap.size_push, hz]) fun b o x => Heap.get?_push_of_some _ (Heap.get?_push_of_some _ x)⟩
def iEnumS (K : PySem.W.Frag) (ta : TA) : TI := fun σ H R => ta σ H fun vs H1 => ∃ (a : Sr) (xs : List V), vs = [a.v] ∧ a.its K H1 xs ∧ R (ItE K a xs.length) H1
theorem pi_enumS {X : Cx} {e : Expr} {ta : TA} {p pos tpos : Pos} {elts : List Expr} {kk : Nat} (hg : Gl X "enumerate") (hm : X.mg "enumerate" = none) (ha : PA X [e] ta) (hs : starEach [e] X.env = [(false, eval e X.env)] := by rfl) :
    PI X (.Tuple elts kk tpos) (.Call (.Name "enumerate" p) [e] [] pos) (iEnumS X.K ta) := by
  refine ⟨fun pins s σ H R I h => ?_⟩
  refine Call_ (ld_blt I hg hm boot_enumerate (PyProof.Rows.callWith_type1 (thn (ha.run pos pins s σ H _ I h) fun us s1 ⟨vs, H1, I1, r1, q1⟩ => ?_) hs rfl))
  obtain ⟨a, xs, ex, hq, q⟩ := q1
  subst ex
  cases r1 with
  | cons r rr =>
    cases rr
    obtain ⟨t1, B1, b1, k1⟩ := Sr.begins I1 hq r
    refine enum1_begins b1 k1 fun h' he hit hsz hk => wpAny_pyIter_enum he ?_
    have I2 : Inv X pins σ H1 { s1 with heap := h' } := I1.kept (t' := s1.toks) hk
    have lt := Sr.lt I1 hq
    refine ⟨s1.heap.objs.size + 1, [s1.heap.objs.size + 1, s1.heap.objs.size], _, _, H1, rfl, I2, turn_enumS (a := a) (t := t1) (n := xs.length) (Nat.succ_ne_self _) (fun h => ?_) (fun h => ?_), ⟨Nat.zero_le _, ⟨.none, he⟩, Sr.at_zero hit⟩, fun b hb => ?_, q⟩
    · exact absurd (lt _ h) (Nat.not_lt.mpr (Nat.le_succ _))
    · exact absurd (lt _ h) (Nat.lt_irrefl _)
    · have e' : b = s1.heap.objs.size + 1 ∨ b = s1.heap.objs.size := by simpa using hb
      have hle : s1.heap.objs.size ≤ b := by
        rcases e' with z | z
        · rw [z]; exact Nat.le_add_right _ _
        · rw [z]; exact Nat.le_refl _
      exact I1.fpOk hle (I1.hok.fresh hle)
def seqD : D → Option (List D)
  | .str cs => some (cs.map fun c => .str [c])
  | .lst _ xs => some xs
  | .tup xs => some xs
  | _ => none
section
variable {X : Cx} {cm : Cm} {E : XS} {pos : Pos} {a c : Expr}
theorem seqD_src {W : Addr → Prop} {H : Hp} {v : V} {d : D} {xs : List D} (hk : X.K = cm.K) (r : Rep cm W H v d []) (h : seqD d = some xs) : ∃ (sr : Sr) (vs : List V), v = sr.v ∧ sr.its X.K H vs ∧ vs.length = xs.length ∧
    ∀ W' H2, Later cm W H W' H2 → sr.its X.K H2 vs ∧ ∀ (i : Nat) (d : D), xs[i]? = some d → ∃ u, vs[i]? = some u ∧ Rep cm W' H2 u d [] := by
  generalize hf : ([] : List Addr) = fp at r
  cases r with
  | str cs =>
    cases h
    refine ⟨.txt ⟨cs.toArray⟩, _, rfl, rfl, by simp, fun W' H2 l => ⟨rfl, fun i d hd => ?_⟩⟩
    rw [List.getElem?_map] at hd
    obtain ⟨c, hc, rfl⟩ := Option.map_eq_some_iff.mp hd
    refine ⟨.str ⟨#[c]⟩, ?_, .str [c]⟩
    rw [List.getElem?_map]
    have : cs.toArray.toList[i]? = some c := by simpa using hc
    rw [this]; rfl
  | lstO => cases hf
  | lstF h0 n rs =>
    cases h
    refine ⟨.lst _, _, rfl, SqL.of h0, rs.len, fun W' H2 l => ⟨SqL.of (l.2.1 _ _ h0 n), fun i d hd => ?_⟩⟩
    obtain ⟨u, hu, ru⟩ := rs.at rfl hd
    exact ⟨u, hu, ru.later l⟩
  | tup h0 n rs =>
    cases h
    subst hf
    refine ⟨.tup _, _, rfl, SqT.of h0, rs.len, fun W' H2 l => ⟨SqT.of (l.2.1 _ _ h0 n), fun i d hd => ?_⟩⟩
    obtain ⟨u, hu, ru⟩ := rs.at rfl hd
    exact ⟨u, hu, ru.later l⟩
  | _ => cases h
def iZp (fs : Env → Out (List D)) : Env → Out (List D) := fun r => (fs r).bind fun ds => match ds with
  | [x, y] => match seqD x, seqD y with
    | some xs, some ys => .ok ((xs.zip ys).map fun p => .tup [p.1, p.2])
    | _, _ => .bad
  | _ => .bad
def enumD (xs : List D) : List D := xs.zipIdx.map fun p => .tup [.int (p.2 : Nat), p.1]
def iEn (fs : Env → Out (List D)) : Env → Out (List D) := fun r => (fs r).bind fun ds => match ds with
  | [x] => match seqD x with
    | some xs => .ok (enumD xs)
    | none => .bad
  | _ => .bad
theorem di_enum {tpos : Pos} {elts : List Expr} {kk : Nat} {p : Pos} {fs : Env → Out (List D)} (hk : X.K = cm.K) (hg : Gl X "enumerate") (hm : X.mg "enumerate" = none) (ha : DA X cm E false [a] fs) (hs : starEach [a] X.env = [(false, eval a X.env)] := by rfl) :
    DI X cm E (.Tuple elts kk tpos) (.Call (.Name "enumerate" p) [a] [] pos) (iEn fs) := by
  obtain ⟨ta, h1, h2⟩ := ha.ex
  refine ⟨_, pi_enumS hg hm h1 hs, fun W H σ r w fr R hp => h2 W H σ r w fr _ (hp.bind.mono (fun ds q vs H1 fp e1 r1 f1 => ?_) fun _ _ z => z)⟩
  cases (show fp = [] from f1)
  split at q
  · rename_i x
    split at q
    · rename_i xs hx
      generalize hf : ([] : List Addr) = fp at r1
      cases r1 with
      | cons k1 k2 =>
        obtain ⟨rfl, rfl⟩ := app_nil hf
        cases k2
        obtain ⟨sr, us, rfl, hi, hl, lat⟩ := seqD_src hk k1.ofP hx
        refine ⟨sr, us, rfl, hi, q _ H1 e1 fun W' H2 i l => ?_⟩
        obtain ⟨hi2, at2⟩ := lat W' H2 l
        refine ⟨fun d hd => ?_, fun hd => ?_⟩
        · unfold enumD at hd
          rw [List.getElem?_map] at hd
          obtain ⟨⟨d0, j⟩, hz, rfl⟩ := Option.map_eq_some_iff.mp hd
          rw [List.getElem?_zipIdx] at hz
          obtain ⟨d1, hd1, e⟩ := Option.map_eq_some_iff.mp hz
          cases e
          obtain ⟨u, hu, ru⟩ := at2 i d0 hd1
          refine ⟨⟨by rw [hl]; exact (List.getElem?_eq_some_iff.mp hd1).1, us, u, hi2, hu⟩, fun x H3 y => ?_⟩
          obtain ⟨T, x', rfl, hT, rfl, f⟩ := y
          have := f us hi2
          rw [hu] at this; cases this
          have nT : ¬ W' T := fun z => by obtain ⟨o, h, _⟩ := l.2.2.1 T z; rw [hT] at h; cases h
          refine ⟨Ex.new hT, ?_⟩
          show Rep cm W' _ (.ref T) (.tup [.int ((0 + i : Nat) : Int), d0]) []
          rw [Nat.zero_add]
          exact .tup (fp := []) upd_same nT (.cons (fp := []) (fps := []) (.int _) (.cons (fp := []) (fps := []) (ru.ex (Ex.new hT)) .nil))
        · unfold enumD at hd
          rw [List.getElem?_map, Option.map_eq_none_iff, List.getElem?_eq_none_iff, List.length_zipIdx] at hd
          exact ⟨by rw [hl]; exact hd, us, hi2, rfl⟩
    · exact q.elim
  · exact q.elim
theorem di_zip {tpos : Pos} {elts : List Expr} {kk : Nat} {p : Pos} {fs : Env → Out (List D)} (hk : X.K = cm.K) (hg : Gl X "zip") (hm : X.mg "zip" = none) (ha : DA X cm E false [a, c] fs) (hs : starEach [a, c] X.env = (false, eval a X.env) :: starEach [c] X.env := by rfl) (hpl : (backTo pos (starEach [c] X.env)).any (·.1) = false := by rfl) :
    DI X cm E (.Tuple elts kk tpos) (.Call (.Name "zip" p) [a, c] [] pos) (iZp fs) := by
  obtain ⟨ta, h1, h2⟩ := ha.ex
  refine ⟨_, pi_zipS hg hm h1 hs hpl, fun W H σ r w fr R hp => h2 W H σ r w fr _ (hp.bind.mono (fun ds q vs H1 fp e1 r1 f1 => ?_) fun _ _ z => z)⟩
  cases (show fp = [] from f1)
  split at q
  · rename_i x y
    split at q
    · rename_i xs ys hx hy
      generalize hf : ([] : List Addr) = fp at r1
      cases r1 with
      | cons k1 k2 =>
        obtain ⟨rfl, hf2⟩ := app_nil hf
        cases k2 with
        | cons k2 k3 =>
          obtain ⟨rfl, rfl⟩ := app_nil hf2.symm
          cases k3
          obtain ⟨sr, us, rfl, hi, hl, lat⟩ := seqD_src hk k1.ofP hx
          obtain ⟨sr', us', rfl, hi', hl', lat'⟩ := seqD_src hk k2.ofP hy
          refine ⟨sr, sr', us, us', rfl, hi, hi', q _ H1 e1 fun W' H2 i l => ?_⟩
          obtain ⟨hi2, at2⟩ := lat W' H2 l
          obtain ⟨hi2', at2'⟩ := lat' W' H2 l
          refine ⟨fun d hd => ?_, fun hd => ?_⟩
          · rw [List.getElem?_map] at hd
            obtain ⟨⟨d0, d1⟩, hz, rfl⟩ := Option.map_eq_some_iff.mp hd
            obtain ⟨hd0, hd1⟩ := List.getElem?_zip_eq_some.mp hz
            obtain ⟨u, hu, ru⟩ := at2 i d0 hd0
            obtain ⟨u', hu', ru'⟩ := at2' i d1 hd1
            have l0 := (List.getElem?_eq_some_iff.mp hd0).1
            have l1 := (List.getElem?_eq_some_iff.mp hd1).1
            refine ⟨⟨by omega, us, us', u, u', hi2, hi2', hu, hu'⟩, fun x H3 y => ?_⟩
            obtain ⟨T, x', y', rfl, hT, rfl, f, f'⟩ := y
            have e := f us hi2
            rw [hu] at e; cases e
            have e := f' us' hi2'
            rw [hu'] at e; cases e
            have nT : ¬ W' T := fun z => by obtain ⟨o, h, _⟩ := l.2.2.1 T z; rw [hT] at h; cases h
            exact ⟨Ex.new hT, .tup (fp := []) upd_same nT (.cons (fp := []) (fps := []) (ru.ex (Ex.new hT)) (.cons (fp := []) (fps := []) (ru'.ex (Ex.new hT)) .nil))⟩
          · rw [List.getElem?_map, Option.map_eq_none_iff, List.getElem?_eq_none_iff, List.length_zip] at hd
            exact ⟨by rw [hl, hl']; exact hd, us, us', hi2, hi2', rfl⟩
    · exact q.elim
  · exact q.elim
end
end DL

namespace DL
variable [Tbs]
open PySem L2
def isSc : D → Bool
  | .int _ => true
  | .str _ => true
  | _ => false
def sAug (i : Nat) (gg : D → D → Out D) (f : FX) : FS := fun r => match r[i]? with
  | some (some d0) => if isSc d0 = true then (match f r with
    | .ok p => match gg d0 (frz p.1) with
      | .ok d => if i < p.2.length then .nx (p.2.set i (some d)) else .bad
      | _ => .bad
    | .exn x r' => .exn x r'
    | .bad => .bad) else .bad
  | _ => .bad
theorem Rep.sc {cm : Cm} {W W' : Addr → Prop} {H H' : Hp} {v : V} {d : D} {fp : List Addr} (h : Rep cm W H v d fp) (s : isSc d = true) : Rep cm W' H' v d [] := by
  cases h <;> first | (exact .int _) | (exact .str _) | (cases s)
section
variable {X : Cx} {cm : Cm} {E : XS} {pos : Pos} {ks : Nat → Bool} {e : Expr} {f : FX}
theorem ds_aug (i : Nat) {x : Str} {pos' : Pos} {op : Operator} {rr : R2} {gg : D → D → Out D} (hN : X.N.Nodup) (hop : InOp X op rr) (ho : Op2' cm true rr gg) (hn : NoEx gg) (h1 : XE X cm E e f) (hk : ks i = false := by rfl) (hi : X.N[i]? = some x := by rfl) (hx : Loc X.env.scope x := by first | exact Or.inl rfl | exact Or.inr rfl) (hf : X.fn x = true ∨ X.env.scope.names.lookup x = some .local := by first | exact .inl rfl | exact .inr rfl | assumption) :
    DS X cm E ks (.AugAssign (.Name x pos') op e pos) (sAug i gg f) := by
  obtain ⟨t, a1, a2⟩ := h1.ex
  refine ⟨_, ps_aug hN hi hx a1 hop hf, fun W0 H σ r fps g D hp => ?_⟩
  unfold sAug at hp
  split at hp
  · rename_i d0 hd0
    split at hp
    · rename_i hs
      obtain ⟨v0, e0, r0⟩ := g.sl i d0 hd0
      refine ⟨v0, e0, a2 W0 H σ r fps g _ ?_⟩
      split at hp
      · rename_i p hr
        rw [hr]
        intro v H' fps' fpv g' rp nd nw fm
        refine ho (Wof W0 fps') H' v0 v _ _ g'.drop.wof (r0.sc hs) (rp.open g' nw fun _ m => m) _ ?_
        split at hp
        · rename_i d hd
          rw [hd]
          split at hp
          · rename_i hl
            have q : Post ((Out.ok d).bind fun d => .ok (d, p.2)) (QX cm W0 H σ fps (fun z H2 => D.nx (σ.set i (some z)) H2)) (XX cm E W0 H σ fps) :=
              fun v H' fps' fpv g' rp nd nw fm => hp _ H' _ (g'.put rp nd nw i) fm.put (Keep.set hk)
            exact opened g' fm q (fun _ _ z => nomatch z)
          · exact hp.elim
        · exact hp.elim
      · rename_i x r' hr
        rw [hr]
        exact fun H' fps' dx g' fm xr => hp σ H' fps' dx g' fm (Keep.refl ks σ) xr
      · exact hp.elim
    · exact hp.elim
  · exact hp.elim
def sPar (i j : Nat) (h : Env → Out (List D × Env)) : FS := fun r => match h r with
  | .ok p => match p.1 with
    | [a, b] => if i < p.2.length ∧ j < p.2.length then .nx ((p.2.set i (some a)).set j (some b)) else .bad
    | _ => .bad
  | .exn x r' => .exn x r'
  | .bad => .bad
theorem ds_par (i j : Nat) {x y : Str} {a b : Expr} {h : Env → Out (List D × Env)} {px py pt : Pos} {kt k2 pt2} (hc : X.calm = true) (hN : X.N.Nodup) (ha : XA X cm E [a, b] h) (hij : i ≠ j := by decide) (hki : ks i = false := by rfl) (hkj : ks j = false := by rfl) (hi : X.N[i]? = some x := by rfl) (hj : X.N[j]? = some y := by rfl)
    (hx : X.env.scope.names.lookup x = some .local := by rfl) (hy : X.env.scope.names.lookup y = some .local := by rfl)
    (hw : swappedStores [.Tuple [.Name x px, .Name y py] kt pt] (.Tuple [a, b] k2 pt2) X.env = pure (some [x, y]) := by rfl)
    (hs : swapsWithSole [.Tuple [.Name x px, .Name y py] kt pt] (.Tuple [a, b] k2 pt2) pos.line X.env = pure false := by rfl) :
    DS X cm E ks (.Assign [.Tuple [.Name x px, .Name y py] kt pt] (.Tuple [a, b] k2 pt2) pos) (sPar i j h) := by
  obtain ⟨t, a1, a2⟩ := ha.ex
  refine ⟨_, ps_par hc hN hi hj hij hx hy a1 hw hs, fun W0 H σ r fps g D hp => a2 W0 H σ r fps g _ ?_⟩
  unfold sPar at hp
  split at hp
  · rename_i p hr
    rw [hr]
    intro vs H' f' fpv g' rp nd nw fm
    split at hp
    · rename_i da db hl
      rw [hl] at rp
      cases rp with
      | @cons v _ p1 _ _ _ r1 rp =>
        cases rp with
        | @cons w _ p2 _ _ _ r2 rp =>
          cases rp
          rw [List.append_nil] at g' r1 r2 nd nw fm
          split at hp
          · rename_i hlen
            refine ⟨v, w, rfl, ?_⟩
            rw [← wp_wp] at g' r1 r2
            have n12 := List.nodup_append.mp nd
            have q1 := g'.put r2 n12.2.1 (fun c m z => z.elim (nw c (List.mem_append_right _ m)) fun z => n12.2.2 c z c m rfl) j
            have q2 := q1.put (v := v) (d := da) (fpv := p1) (r1.move (fun c z => .inl (z.elim (fun z => .inl (.inl z)) fun ⟨k, m⟩ => by
              dsimp only at m
              split at m
              · exact .inl (.inr m)
              · exact .inr ⟨k, m⟩)) fun _ _ q _ _ => q) n12.1 (fun c m => nw c (List.mem_append_left _ m)) i
            rw [List.set_comm _ _ hij.symm, List.set_comm _ _ hij.symm] at q2
            refine hp _ H' _ q2 ⟨@Fram.keep _ _ _ _ _ _ fm, fun k c m => ?_, fun _ m => (nomatch m), fm.back, fm.tb⟩ ((Keep.set hki).trans (Keep.set hkj))
            have m := m
            split at m
            · exact fm.oldv c (List.mem_append_left _ m)
            · split at m
              · exact fm.oldv c (List.mem_append_right _ m)
              · exact fm.old k c m
          · exact hp.elim
    · exact hp.elim
  · rename_i x r' hr
    rw [hr]
    exact fun H' fps' dx g' fm xr => hp σ H' fps' dx g' fm (Keep.refl ks σ) xr
  · exact hp.elim
end
end DL

namespace DL
variable [Tbs]
open PySem L2
section
variable {X : Cx} {cm : Cm} {E : XS} {pos : Pos} {ks : Nat → Bool} {a e : Expr} {f : FX} {W0 : Addr → Prop} {H : Hp} {σ : St} {r : Env} {fps : Fps}
end
end DL

namespace DL
variable [Tbs]
open PySem L2
section
variable {X : Cx} {cm : Cm} {E : XS} {b : Bool} {pos p : Pos} {a c : Expr} {fa fb : F}
end
section
variable {prog : Program} {w : World} {A : Around} {E : Value → Shared → Prop} {s : Shared}
end
end DL

namespace DL
variable [Tbs]
open PySem L2
section
variable {X : Cx} {cm : Cm} {E : XS} {b : Bool} {pos p : Pos} {a c : Expr}
theorem Reps.two {W : Addr → Prop} {H : Hp} {vs : List V} {x y : D} (h : Reps cm W H vs [x, y] []) : ∃ u v, vs = [u, v] ∧ Rep cm W H u x [] ∧ Rep cm W H v y [] := by
  generalize hf : ([] : List Addr) = fp at h
  cases h with
  | cons k1 k2 =>
    rename_i f1 vs' f2
    have e1 : f1 = [] := (List.append_eq_nil_iff.mp hf.symm).1
    have e2 : f2 = [] := (List.append_eq_nil_iff.mp hf.symm).2
    subst e1
    generalize hg : f2 = g at k2
    cases k2 with
    | cons k2 k3 =>
      rename_i f3 vs'' f4
      cases k3
      rw [e2] at hg
      have e3 : f3 = [] := (List.append_eq_nil_iff.mp hg.symm).1
      subst e3
      exact ⟨_, _, rfl, k1, k2⟩
end
mutual
def shortD : D → Bool
  | .int i => decide (i.natAbs < 10 ^ 40)
  | .str x => x.all fun c => decide (c < 1114112)
  | .lst _ xs => shortDs xs
  | .tup xs => shortDs xs
  | _ => true
def shortDs : List D → Bool
  | [] => true
  | x :: xs => shortD x && shortDs xs
end
mutual
def bulkD : D → Nat
  | .str x => x.length
  | .lst _ xs => bulkDs xs
  | .tup xs => bulkDs xs
  | _ => 0
def bulkDs : List D → Nat
  | [] => 0
  | x :: xs => bulkD x + 1 + bulkDs xs
end
mutual
theorem bulk_py : ∀ d : D, plainD d = true → (toPy d).bulk = bulkD d
  | .non, _ => rfl
  | .bl _, _ => rfl
  | .int _, _ => rfl
  | .str x, _ => by simp [toPy, PyData.bulk, bulkD]
  | .lst _ xs, h => by simp only [toPy, PyData.bulk, bulkD]; exact bulks_py xs h
  | .tup xs, h => by simp only [toPy, PyData.bulk, bulkD]; exact bulks_py xs h
  | .dK _ _ _, h => nomatch h
  | .dT _ _ _, h => nomatch h
  | .dN _ _ _, h => nomatch h
  | .obj _ _ _ _, h => nomatch h
  | .scr _, h => nomatch h
theorem bulks_py : ∀ xs : List D, plainDs xs = true → PyData.bulkAll (toPys xs) = bulkDs xs
  | [], _ => rfl
  | x :: xs, h => by
    simp only [plainDs, Bool.and_eq_true] at h
    simp only [toPys, PyData.bulkAll, bulkDs]
    rw [bulk_py x h.1, bulks_py xs h.2]
end
theorem short_int {i : Int} (h : i.natAbs < 10 ^ 40) : (PyData.shown (.int i)).length ≤ 45 := by
  have e := int_text_length_le10 (k := 40) (by decide) h
  show (Str.ofString (toString i)).length ≤ 45
  rw [ofString_length]; omega
mutual
theorem short_py : ∀ d : D, plainD d = true → shortD d = true → (toPy d).leavesShort 45 = true ∧ (toPy d).showable = true ∧ (toPy d).hasDict = false
  | .non, _, _ => ⟨rfl, rfl, rfl⟩
  | .bl _, _, _ => ⟨rfl, rfl, rfl⟩
  | .int i, _, h => by
    simp only [shortD, decide_eq_true_eq] at h
    refine ⟨?_, ?_, rfl⟩
    · simp only [toPy, PyData.leavesShort, decide_eq_true_eq]
      exact short_int h
    · simp only [toPy, PyData.showable, decide_eq_true_eq]
      by_cases z : i.natAbs = 0
      · rw [z]; decide
      · exact (Nat.log2_lt z).mpr (Nat.lt_of_lt_of_le (Nat.lt_trans h (show 10 ^ 40 < 2 ^ 200 by decide)) (Nat.pow_le_pow_right (by decide) (by decide)))
  | .str x, _, h => by
    refine ⟨?_, rfl, rfl⟩
    simp only [shortD, List.all_eq_true, decide_eq_true_eq] at h
    simp only [toPy, PyData.leavesShort, List.all_eq_true, decide_eq_true_eq]
    intro c hc
    exact Nat.lt_trans (h c (by simpa using hc)) (by decide)
  | .lst _ xs, p, h => by
    have := shorts_py xs p h
    simp only [toPy, PyData.leavesShort, PyData.showable, PyData.hasDict]
    exact this
  | .tup xs, p, h => by
    have := shorts_py xs p h
    simp only [toPy, PyData.leavesShort, PyData.showable, PyData.hasDict]
    exact this
  | .dK _ _ _, h, _ => nomatch h
  | .dT _ _ _, h, _ => nomatch h
  | .dN _ _ _, h, _ => nomatch h
  | .obj _ _ _ _, h, _ => nomatch h
  | .scr _, h, _ => nomatch h
theorem shorts_py : ∀ xs : List D, plainDs xs = true → shortDs xs = true → PyData.leavesShortAll 45 (toPys xs) = true ∧ PyData.showableAll (toPys xs) = true ∧ PyData.hasDictAll (toPys xs) = false
  | [], _, _ => ⟨rfl, rfl, rfl⟩
  | x :: xs, p, h => by
    simp only [plainDs, Bool.and_eq_true] at p
    simp only [shortDs, Bool.and_eq_true] at h
    obtain ⟨a1, a2, a3⟩ := short_py x p.1 h.1
    obtain ⟨b1, b2, b3⟩ := shorts_py xs p.2 h.2
    simp [toPys, PyData.leavesShortAll, PyData.showableAll, PyData.hasDictAll, a1, a2, a3, b1, b2, b3]
end
def reprOk (d : D) : Bool := plainD d && dle 60 d && shortD d && decide (bulkD d ≤ 20000)
def reprL (d : D) : List Nat := (toPy d).shown.cps.toList
def emptyK : D → Bool
  | .dK _ [] [] => true
  | _ => false
def gRepr : D → Out D := fun d => if reprOk d = true then .ok (.str (reprL d)) else if emptyK d = true then .ok (.str [123, 125]) else .bad
section
variable {X : Cx} {cm : Cm} {E : XS} {b : Bool} {pos p : Pos} {a c : Expr}
def rRepr (K : PySem.W.Frag) : List V → Hp → VK → Prop := fun xs H Q => ∃ x d, xs = [x] ∧ Dp K H x d ∧ d.showable = true ∧ d.hasDict = false ∧ d.depth ≤ 60 ∧ d.shown.length ≤ sizeLine ∧ Q (.str d.shown) H
theorem call_reprK (hg : X.A.guards = some []) (hu : X.A.units + 64 < cLine) : CallR X (.builtin "repr") (fun xs H Q => ∃ p, xs = [.ref p] ∧ Rd H p (.dK []) ∧ Q (.str ⟨[123, 125].toArray⟩) H) := by
  intro pins s σ H xs us Q I r h
  obtain ⟨p, rfl, hd, q⟩ := h
  obtain ⟨u, rfl, rx⟩ := vals1 r
  cases (show u = Value.ref p from rx)
  obtain ⟨_, hS, vs, kv, o, es, ep, h1, h2, h3, h4, h5, h6⟩ := dk_rd I.hok hd
  cases kv
  have hes : es.toList = [] := List.length_eq_zero_iff.mp (by have := h5.length; simpa using this)
  have r1 : Reads s.heap (.ref p) (.dict []) (p :: [] ++ []) := .dict h1 h2.1 h3 (by rw [hes]; exact .nil) (by rw [hes]; exact .nil)
  have fin : ∀ h' u tk, (∀ b o, s.heap.get? b = some o → h'.get? b = some o) → EP X pins σ Q (.str (PyData.dict []).shown u) { s with heap := h', toks := tk } := fun h' u tk k => ⟨.str ⟨[123, 125].toArray⟩, H, I.kept k, ⟨u, rfl⟩, q⟩
  exact repr_of_reads' r1 rfl (fun _ m => by
    have : sysModules = p := by simpa using m
    rw [this] at hS
    simp at hS) hg (by show X.A.units + (PyData.depth (.dict []) + 1) < cLine; have : PyData.depth (.dict []) ≤ 1 := by decide
                       omega) (fun _ _ e => e) fin (by decide)
theorem call_reprD (hg : X.A.guards = some []) (hu : X.A.units + 64 < cLine) : CallR X (.builtin "repr") (rRepr X.K) := by
  intro pins s σ H xs us Q I r h
  obtain ⟨x, d, rfl, hd, h1, h2, h3, h4, q⟩ := h
  obtain ⟨u, rfl, rx⟩ := vals1 r
  obtain ⟨as, r1⟩ := Dp.reads I d x u hd rx
  have fin : ∀ h' u tk, (∀ b o, s.heap.get? b = some o → h'.get? b = some o) → EP X pins σ Q (.str d.shown u) { s with heap := h', toks := tk } := fun h' u tk k => ⟨.str d.shown, H, I.kept k, ⟨u, rfl⟩, q⟩
  have fin0 : ∀ tk, EP X pins σ Q (.str d.shown s.toks) { s with toks := tk } := fun tk => fin s.heap _ tk fun _ _ e => e
  cases d with
  | none => cases r1; exact P.repr_of_none (fin0 _)
  | bool b => cases r1; exact P.repr_of_bool (fin0 _)
  | int i =>
    cases r1
    exact P.repr_of_int (by simpa [PyData.showable] using h1) (fin0 _)
  | str z => cases r1; exact P.repr_of_str (fin0 _) h4
  | list ys =>
    have : ∃ a, u = .ref a := by cases r1; exact ⟨_, rfl⟩
    obtain ⟨a, rfl⟩ := this
    exact repr_of_reads' r1 h1 (fun z => by rw [h2] at z; cases z) hg (by omega) (fun _ _ e => e) fin h4
  | tuple ys =>
    have : ∃ a, u = .ref a := by cases r1; exact ⟨_, rfl⟩
    obtain ⟨a, rfl⟩ := this
    exact repr_of_reads' r1 h1 (fun z => by rw [h2] at z; cases z) hg (by omega) (fun _ _ e => e) fin h4
  | dict kvs => cases h2
theorem de_repr {fs : Env → Out (List D)} (hg : X.A.guards = some []) (hu : X.A.units + 64 < cLine) (hgl : Gl X "repr") (hm : X.mg "repr" = none) (ha : DA X cm E false [a] fs) (he : starEach [a] X.env = (false, eval a X.env) :: starEach [] X.env := by rfl) (hpl : (backTo pos (starEach [] X.env)).any (·.1) = false := by rfl) : DE X cm E b (.Call (.Name "repr" p) [a] [] pos) (cA (g1 gRepr) fs) :=
  de_blt (CallR.or (call_reprD hg hu) (call_reprK hg hu)) (ra_1 fun W H v d w rp Q hp => by
    unfold gRepr at hp
    split at hp
    · left
      rename_i h
      simp only [reprOk, Bool.and_eq_true, decide_eq_true_eq] at h
      obtain ⟨⟨⟨h1, h2⟩, h3⟩, h4⟩ := h
      obtain ⟨s1, s2, s3⟩ := short_py d h1 h3
      have hb := PyData.shown_le_bulk 45 (by decide) (toPy d) s1
      rw [bulk_py d h1] at hb
      have hl : (toPy d).shown.length ≤ 1000000 := by omega
      refine ⟨v, toPy d, rfl, rp.dp h1, s2, s3, dle_py _ _ h1 h2, Nat.le_trans hl (by decide), hp _ H [] (Ex.refl H) ?_ FpN.nil⟩
      exact Rep.str _
    · split at hp
      · right
        rename_i h
        unfold emptyK at h
        split at h
        · generalize hf : ([] : List Addr) = fp at rp
          cases rp with
          | dKO => cases hf
          | dKF h1 l n rs =>
            cases rs
            exact ⟨_, rfl, h1, hp _ H [] (Ex.refl H) (Rep.str _) FpN.nil⟩
        · cases h
      · exact hp.elim) (fun a x r h => by
      unfold g1 at h
      split at h
      · unfold gRepr at h
        split at h
        · cases h
        · split at h <;> cases h
      · cases h) hgl hm (by decide +kernel) ha (by decide) (by decide) he hpl
end
end DL

namespace DL
variable [Tbs]
open PySem L2
def sRaise (c : Str) : FS := fun r => .exn ⟨c, [], []⟩ r
abbrev TakesG (X : Cx) (E : XS) : Prop := Takes X fun cls d σ H => E σ cls d H
theorem TakesG.pass {X : Cx} {E : XS} (t : TakesG X E) : PassG X E := fun σ => passAt t σ
section
variable {X : Cx} {cm : Cm} {E : XS} {pos : Pos} {ks : Nat → Bool}
theorem txB {P : Program} {w : World} {K : PySem.W.Frag} {mg : Str → Option Value} {base : Heap} {N : List Str} {qual : Str} {sc : Scope} {f : Addr} {cdv : Value} {A : Around} {outer : List PySem.Env} {s : Shared} {H : Hp} {E : XK} : TakesG (cxB P w K mg base N qual sc f cdv A outer s H E) (fun _ => E) :=
  takes_of (X := cxB P w K mg base N qual sc f cdv A outer s H E) rfl rfl rfl rfl
structure ExcT (K : PySem.W.Frag) (mg : Str → Option Value) (cm : Cm) (c : Str) : Prop where
  g : mg c = some (.ref (cm.cl c))
  x : PySem.W.excIn K (cm.cl c) [.type "ValueError", .type "Exception", .type "BaseException", .type "object"] "ValueError.__new__" = true
  k : PySem.W.keepIn K (.ref (cm.cl c)) = true
  b : PySem.W.subIn K (.ref (cm.cl c)) (.type "BaseException") = some true
  t : PySem.W.typeIn K (.ref (cm.cl c)) = some (.type "type")
theorem ds_raise {c m : Str} {j : Nat} {p p2 pos2 : Pos} (hc : X.calm = true) (tk : TakesG X E) (T : ExcT X.K X.mg cm c) (hg : Gl X c := by rfl) (hdb : (c == ("__debug__" : Str)) = false := by decide) : DS X cm E ks (.Raise (some (.Call (.Name c p) [.Constant (.str m) j p2] [] pos2)) none pos) (sRaise c) := by
  refine ⟨_, ps_raise hc tk (pmk_own PySem.F.excBase_ValueError T.x T.g T.k (raises_own T.b T.t) hg hdb), fun W0 H σ r fps gd D hp => ?_⟩
  exact hp σ H fps none gd (Fram.refl H fps) (Keep.refl ks σ) (.inl ⟨rfl, rfl⟩)
end
theorem track {X : Cx} {pins : List (Addr × Obj)} {σ : St} {H : Hp} {s : Shared} {a : Addr} {oe : Obj} {vs : Array Value} {cls : Value} {d : Option Addr} (I : Inv X pins σ H s) (he : s.heap.get? a = some oe) (hz : Zc cls d oe) (hd : oe.data = .fields vs) (na : H a = none) (nl : a ≠ X.env.locals) (new : X.s_0.heap.get? a = none) (np : ∀ p ∈ X.pn ++ pins, p.1 ≠ a) : Inv X pins σ (upd H a (ExK cls d a)) s := by
  have other : ∀ b, b ≠ a → upd H a (ExK cls d a) b = H b := fun b h => upd_ne h
  have keepS : ∀ b o, H b = some o → upd H a (ExK cls d a) b = some o := fun b o q => (other b fun z => by rw [z, na] at q; cases q).trans q
  refine ⟨I.ok, I.os, I.bare, ⟨I.base.keep, I.base.slot, fun b o q n x => ?_, I.base.there, fun b xs q => keepS _ _ (I.base.tups b xs q), fun b o u q => keepS _ _ (I.base.frzs b o u q), fun b ps q => ?_⟩, I.loc, I.cell, ?_, fun x c q => ?_, fun p hp => ?_, fun b o q => ?_, I.len⟩
  · rw [other b fun z => by rw [z, new] at q; cases q]
    exact I.base.free b o q n x
  · obtain ⟨m, q⟩ := I.base.tbls b ps q
    exact ⟨m, keepS _ _ q⟩
  · rw [other _ (Ne.symm nl)]
    exact I.free
  · rw [other c fun z => ?_]
    · exact I.freeC x c q
    · subst z
      obtain ⟨v, oc, e, dc⟩ := I.cell x c q
      rw [he] at e
      cases e
      rw [hd] at dc
      cases dc
  · obtain ⟨h1, h2, h3⟩ := I.pin p hp
    exact ⟨h1, by rw [other _ (np p hp)]; exact h2, h3⟩
  · by_cases e : b = a
    · subst e
      rw [upd_same] at q
      cases q
      exact ⟨⟨oe, vs, he, hz, hd⟩, ⟨oe, he⟩, fun h1 h2 ⟨o, us, q1, q2, q3⟩ k => ⟨o, us, k o q1, q2, q3⟩⟩
    · rw [other b e] at q
      exact (I.hok b o q).stay (fun c u _ r => r) (fun c r => keepS _ _ r) fun c xs r => keepS _ _ r
end DL

namespace DL
variable [Tbs]
open PySem L2
def sTry (sub : Str → Option Bool) (i j : Nat) (body : FS) : FS := fun r => match body r with
  | .exn x r' => match sub x.cls with
    | some true => if i < r'.length ∧ j < r'.length ∧ x.fs.length = x.ds.length then .nx (((r'.set i none).set j (some (.exc x.cls x.fs x.ds))).set i none) else .bad
    | some false => .exn x r'
    | none => .bad
  | o => o
def tsOf (cm : Cm) (E : XS) (ks : Nat → Bool) (g : FS) : TS := fun D σ H => ∃ W0 r fps, Good cm W0 H σ r fps ∧ SPost cm E W0 H σ fps ks D (g r)
theorem DSs.pss {X : Cx} {cm : Cm} {E : XS} {ks : Nat → Bool} {st : List Stmt} {g : FS} (h : DSs X cm E ks st g) : PSs X st (tsOf cm E ks g) := by
  obtain ⟨ts, h1, h2⟩ := h.ex
  exact ⟨fun pins s σ H D I ⟨W0, r, fps, gd, q⟩ => h1.run pins s σ H D I (h2 W0 H σ r fps gd D q)⟩
section
variable {X : Cx} {cm : Cm} {E : XS} {pos : Pos} {ks : Nat → Bool}
theorem Good.clear {W0 : Addr → Prop} {H : Hp} {σ : St} {r : Env} {fps : Fps} (g : Good cm W0 H σ r fps) (i : Nat) (x : Option V) : Good cm W0 H (σ.set i x) (r.set i none) (fun j => if j = i then [] else fps j) := by
  have sub : ∀ {j a}, a ∈ (if j = i then [] else fps j) → j ≠ i ∧ a ∈ fps j := fun {j a} m => by
    split at m
    · cases m
    · exact ⟨by assumption, m⟩
  refine ⟨by simp [g.len], g.w0, fun k d h => ?_, fun j => ?_, fun j k a m m' => g.dj j k a (sub m).2 (sub m').2, fun j a m => g.nw j a (sub m).2, fun j a m => g.mu j a (sub m).2⟩
  · by_cases e : i = k
    · subst e
      rw [List.getElem?_set] at h
      simp at h
    · rw [List.getElem?_set_ne e] at h
      obtain ⟨v, h1, h2⟩ := g.sl k d h
      refine ⟨v, by rw [List.getElem?_set_ne e]; exact h1, ?_⟩
      rw [if_neg (Ne.symm e)]
      exact h2.move (fun a z => .inl (z.imp id fun ⟨j, m⟩ => ⟨j, (sub m).2⟩)) fun _ _ q _ _ => q
  · split
    · exact List.nodup_nil
    · exact g.nd j
theorem Fram.less {H H' : Hp} {fps f1 f2 : Fps} (m : Fram H fps H' f1 []) (h : ∀ j a, a ∈ f2 j → ∃ k, a ∈ f1 k) : Fram H fps H' f2 [] :=
  ⟨@Fram.keep _ _ _ _ _ _ m, fun j a z => by obtain ⟨k, q⟩ := h j a z; exact m.old k a q, m.oldv, m.back, m.tb⟩
theorem XRep.kept {W0 : Addr → Prop} {H : Hp} {σ : St} {r : Env} {fps : Fps} {x : Xc} {dx : Option Addr} {a : Addr} (g : Good cm W0 H σ r fps) (h : XRep cm (Wof W0 fps) H x dx) (hl : x.fs.length = x.ds.length) (na : H a = none) : Rep cm (Wof W0 fps) (upd H a (ExK (.ref (cm.cl x.cls)) dx a)) (.ref a) (.exc x.cls x.fs x.ds) [] := by
  have hex : Ex H (upd H a (ExK (.ref (cm.cl x.cls)) dx a)) := Ex.new na
  have nW : ∀ b o, H b = some o → isM o = false → ¬ Wof W0 fps b := fun b o q m z => by
    obtain ⟨u, e, f⟩ := g.wof.1 b z
    rw [q] at e
    cases e
    rw [m] at f
    cases f
  have nA : ¬ Wof W0 fps a := fun z => (g.wof.1 a z).there na
  rcases h with ⟨h1, h2⟩ | ⟨b, vs, h1, h2, h3, h4⟩
  · have hd : x.ds = [] := List.length_eq_zero_iff.mp (by rw [← hl, h1]; rfl)
    rw [hd]
    exact .exc (vs := []) upd_same nA (.inl ⟨h1, h2⟩) (by rw [h1]; rfl) .nil
  · exact .exc (vs := vs) upd_same nA (.inr ⟨b, h1, hex b _ h2, nW b _ h2 rfl⟩) h3 (h4.ex hex)
end
end DL

namespace DL
variable [Tbs]
open PySem PySem.W PyProof.Rows
section
variable {prog : Program} {w : World} {A : Around} {E : Value → Shared → Prop} {s : Shared} {K : Frag} {x C : Addr} {ox : Obj} {od : Option Obj}
theorem found_data {name : Str} {a g : Value} (hc : (clsIn K C).isSome = true) (ha : findIn K (.ref C) name = some (some a)) (hg : specialIn K a "__get__" = some (some g)) (ht : takesIn K a = some true) : findObj K C od name = some (.bind g a) := by
  unfold findObj
  cases q : clsIn K C with
  | none => rw [q] at hc; cases hc
  | some cd => simp only [Option.bind_some, ha, hg, ht]
theorem class_of_exc {Q : Option Value → Shared → Prop} (T : L2.ExcC K C) (kin : K.In s.heap) (I : InstAt s.heap x ox C od) (h : Q (some (.ref C)) { s with toks := s.toks + 1 }) : wpAny (model prog w) A (getAttr? (.ref x) "__class__") Q E s := by
  have fnd : findObj K C od "__class__" = some (.bind (.builtin "getset_descriptor.__get__") (.builtin "object.__class__")) := by
    obtain ⟨cd, hc, _⟩ := any_some T.hd
    exact found_data (by rw [hc]; rfl) T.ha T.hn T.ht
  let M := model prog w
  obtain ⟨hp, gs, dr, tk, os⟩ := s
  have t0 := I.type (M := M)
  have t1 := looks_findIn (M := M) kin T.hg
  have t2 := looks_findIn (M := M) kin T.hk
  have t3 := looks_find (M := M) kin I fnd
  have tb : Looks M hp (isInstance (.ref x) (.type "BaseException")) true := t0.andThen (looks_subIn kin T.hs)
  have n2 : (Value.builtin "BaseException.__getattribute__" == Value.builtin "object.__getattribute__") = false := by decide +kernel
  unfold getAttr? getAttrBy? getAttrBy
  apply wpAny_bind
  apply wpAny_mkText
  apply wpAny_bind
  apply wpAny_attempt
  apply wpAny_holding
  apply wpAny_bind
  apply t0.at
  apply wpAny_bind
  apply t1.at
  show wpAny _ _ (if (onTheHeap (Value.ref C) && Value.builtin "BaseException.__getattribute__" == Value.builtin "object.__getattribute__") = true then _ else _) _ _ _
  rw [n2, Bool.and_false, if_neg Bool.false_ne_true]
  unfold getAttrByItsOwn hookBefore
  apply wpAny_bind
  rw [if_pos (show onTheHeap (Value.ref C) = true from rfl)]
  apply t2.at
  apply wpAny_bind
  apply wpAny_attempt
  apply wpAny_holding
  unfold callGetattribute
  rw [if_neg (show ¬ (false && onTheHeap (Value.builtin "BaseException.__getattribute__")) = true from Bool.false_ne_true)]
  unfold boundAndCalled
  rw [PySem.F.excAttr_ValueError.ga.bind (.ref x)]
  apply wpAny_bind
  apply wpAny_pure
  show wpAny _ _ (call (.builtin "BaseException.__getattribute__") [.ref x, .str "__class__" tk]) _ _ _
  apply wpAny_call
  apply codeAny_call_builtin PySem.F.excAttr_ValueError.ga.plain PySem.F.entry_bexc_ga
  refine @check_slot M _ _ ⟨hp, gs, dr, tk + 1, os⟩ "BaseException.__getattribute__" "BaseException" "__getattribute__" (.ref x) [.str "__class__" tk] [] _ (by decide +kernel) (by decide +kernel) tb (PySem.F.args_bexc_ga (.ref x) (.str "__class__" tk)) ?_
  unfold Builtin.«object.__getattribute__»
  apply wpAny_bind
  apply wpAny_of_eq (a := ((Value.ref x : Value), [Value.str "__class__" tk]))
  · first | rfl | (simp only [slotArgs]; rfl)
  apply wpAny_bind
  apply wpAny_pure
  apply wpAny_bind
  apply t0.at
  apply wpAny_bind
  apply t3.at
  show wpAny _ _ (holding [Value.builtin "object.__class__"] (call (.builtin "getset_descriptor.__get__") [.builtin "object.__class__", .ref x, .ref C]) >>= ret) _ _ _
  apply wpAny_bind
  apply wpAny_holding
  apply wpAny_call
  refine class_get (s := ⟨hp, gs, dr, tk + 1, os⟩) (ox := ox) (od := od) kin I T.hm ?_
  apply wpAny_pure
  show wpAny _ _ (handedOut (.ref C)) _ _ _
  rw [handedOut_of (v := .ref C) rfl]
  first
    | exact wpAny_pure (wpAny_pure h)
    | exact wpAny_pure h
theorem kitX_exc (T : L2.ExcC K C) : KitX K (.ref x) (.ref C) (fun h => InstAt h x ox C od) where
  ty := fun _ _ _ I => I.type
  it := fun M h kin _ => by
    obtain ⟨cd, hc, _⟩ := any_some T.hd
    unfold clsIn at hc
    split at hc
    · rename_i ho
      intro A' Q' E' s' k q
      unfold isType loadHead
      apply wpAny_bind
      exact wpAny_loadPart (k _ _ (kin _ _ ho)) (wpAny_pure q)
    · cases hc
  ne := fun h tp dd its n sl kin htp => by
    apply beq_eq_false_iff_ne.mpr
    intro e
    cases e
    obtain ⟨cd, hc, _⟩ := any_some T.hd
    unfold clsIn at hc
    split at hc
    · rename_i ho
      have z := kin _ _ ho
      rw [htp] at z
      cases z
    · cases hc
  ca := fun kin I q => class_of_exc T kin I q
end
end DL
namespace DL
variable [Tbs]
open PySem L2
section
variable {X : Cx} {cm : Cm} {E : XS} {b : Bool} {pos p : Pos} {a : Expr} {fa : F}
theorem exk_inst {pins : List (Addr × Obj)} {σ : St} {H : Hp} {s : Shared} {x C : Addr} {dx : Option Addr} {fs : List (Str × V)} (I : Inv X pins σ H s) (h : H x = some (ExK (.ref C) dx x)) (hd : dx = none ∨ ∃ a, dx = some a ∧ H a = some (.xd fs)) : ∃ oe od, PySem.W.InstAt s.heap x oe C od := by
  obtain ⟨⟨oe, vs, h1, ⟨h2, h3⟩, h4⟩, _⟩ := I.hok x _ h
  rcases hd with rfl | ⟨d, rfl, hd⟩
  · refine ⟨oe, none, h1, h2, by unfold PySem.W.notCls; rw [h4], ?_⟩
    rw [h3]; trivial
  · obtain ⟨m, hns, hr⟩ := I.hok d _ hd
    obtain ⟨od, ho, hl⟩ := lookIn_ns hns
    refine ⟨oe, some od, h1, h2, by unfold PySem.W.notCls; rw [h4], ?_⟩
    rw [h3]; exact ho
def rIsX (K : PySem.W.Frag) : List V → Hp → VK → Prop := fun xs H Q => ∃ (x C : Addr) (dx : Option Addr) (fs : List (Str × V)) (c : V) (cv : Value) (b : Bool), xs = [.ref x, c] ∧ ExcC K C ∧ H x = some (ExK (.ref C) dx x) ∧ (dx = none ∨ ∃ a, dx = some a ∧ H a = some (.xd fs)) ∧ ClsV c cv ∧ PySem.W.kitOne K (.ref C) cv = some b ∧ Q (.bl b) H
theorem call_isX : CallR X (.builtin "isinstance") (rIsX X.K) := by
  intro pins s σ H xs us Q I r h
  obtain ⟨x, C, dx, fs, c, cv, b, rfl, T, hx, hd, hc, e, q⟩ := h
  obtain ⟨u1, u2, rfl, r1, r2⟩ := vals2 r
  cases (show u1 = Value.ref x from r1)
  cases hc.eq r2
  obtain ⟨oe, od, J⟩ := exk_inst I hx hd
  exact PySem.W.kia_one (kitX_exc T) I.kIn J e (fun z => nomatch z) fun tk => ⟨.bl b, H, I.tok tk, rfl, q⟩
def rIsXT (K : PySem.W.Frag) : List V → Hp → VK → Prop := fun xs H Q => ∃ (x C tp : Addr) (dx : Option Addr) (fs : List (Str × V)) (cs : List V) (us : List Value) (b : Bool), xs = [.ref x, .ref tp] ∧ ExcC K C ∧ H x = some (ExK (.ref C) dx x) ∧ (dx = none ∨ ∃ a, dx = some a ∧ H a = some (.xd fs)) ∧ H tp = some (.tup cs) ∧ Paired ClsV cs us ∧ PySem.W.kitAny K (.ref C) us = some b ∧ Q (.bl b) H
theorem call_isXT : CallR X (.builtin "isinstance") (rIsXT X.K) := by
  intro pins s σ H xs us Q I r h
  obtain ⟨x, C, tp, dx, fs, cs, ws, b, rfl, T, hx, hd, hT, hc, e, q⟩ := h
  obtain ⟨u1, u2, rfl, r1, r2⟩ := vals2 r
  cases (show u1 = Value.ref x from r1)
  cases (show u2 = Value.ref tp from r2)
  obtain ⟨oe, od, J⟩ := exk_inst I hx hd
  obtain ⟨_, its, rv, ⟨oc, od', dt, sl⟩, h1, h2, n, h3⟩ := (show ObjOk X.prog X.w H s.heap tp (.tup cs) from I.hok tp _ hT)
  cases ClsV.all hc rv
  simp only at h2 h3
  subst h2 h3
  exact PySem.W.kia_tup (kitX_exc T) I.kIn J h1 e (fun z => nomatch z) fun tk => ⟨.bl b, H, I.tok tk, rfl, q⟩
def gIsX (kit : Str → Option Bool) : D → Out D := fun d => match d with
  | .exc k _ _ => match kit k with
    | some b => .ok (.bl b)
    | none => .bad
  | _ => .bad
theorem exc_of {W : Addr → Prop} {H : Hp} {v : V} {c : Str} {fs : List Str} {ds : List D} {fp : List Addr} (h : Rep cm W H v (.exc c fs ds) fp) : ∃ x dx vs, v = .ref x ∧ H x = some (ExK (.ref (cm.cl c)) dx x) ∧ (dx = none ∨ ∃ a, dx = some a ∧ H a = some (.xd (fs.zip vs))) ∧ fs.length = vs.length ∧ Reps cm W H vs ds [] ∧ (fs ≠ [] → ∃ a, dx = some a ∧ H a = some (.xd (fs.zip vs))) := by
  cases h with
  | exc h1 h2 h3 h4 h5 =>
    refine ⟨_, _, _, rfl, h1, h3.imp (fun z => z.2) fun ⟨a, e, q, _⟩ => ⟨a, e, q⟩, h4, h5, fun n => ?_⟩
    rcases h3 with ⟨z, _⟩ | ⟨a, e, q, _⟩
    · exact absurd z n
    · exact ⟨a, e, q⟩
theorem isX_con {kit : Str → Option Bool} {ta : TE} {c : V} {cv : Value} (h2 : ECon cm E false ta fa) (hc : ClsV c cv) (hkit : ∀ k b, kit k = some b → ExcC X.K (cm.cl k) ∧ PySem.W.kitOne X.K (.ref (cm.cl k)) cv = some b) : ECon cm E b (fun σ H Q => ta σ H fun v H1 => rIsX X.K [v, c] H1 Q) (c1 (gIsX kit) fa) := fun W H σ env w fr Q hp => h2 W H σ env w fr _ (hp.bind.mono (fun d q v H1 fp e1 r1 f1 => by
    unfold gIsX at q
    split at q
    · rename_i k fs ds
      split at q
      · rename_i b' hb
        obtain ⟨x, dx, vs, rfl, k1, k2, _, _, _⟩ := exc_of r1
        obtain ⟨T, e⟩ := hkit k b' hb
        exact ⟨x, cm.cl k, dx, fs.zip vs, c, cv, b', rfl, T, k1, k2, hc, e, q _ H1 [] e1 (.bl _) FpN.nil⟩
      · exact q.elim
    · exact q.elim) fun _ _ z => z)
theorem de_isX {c : Str} {kit : Str → Option Bool} {p2 : Pos} (hg : Gl X "isinstance") (hm : X.mg "isinstance" = none) (hgc : Gl X c) (hmc : X.mg c = some (.ref (cm.cl c))) (hkit : ∀ k b, kit k = some b → ExcC X.K (cm.cl k) ∧ PySem.W.kitOne X.K (.ref (cm.cl k)) (.ref (cm.cl c)) = some b) (ha : DE X cm E false a fa)
    (hdb : (c == ("__debug__" : Str)) = false := by decide) (hs1 : starEach [a, .Name c p2] X.env = (false, eval a X.env) :: starEach [.Name c p2] X.env := by rfl) (hs2 : starEach [.Name c p2] X.env = (false, eval (.Name c p2) X.env) :: starEach [] X.env := by rfl) (hpl : (backTo pos (starEach [.Name c p2] X.env)).any (·.1) = false := by rfl) :
    DE X cm E b (.Call (.Name "isinstance" p) [a, .Name c p2] [] pos) (c1 (gIsX kit) fa) := by
  obtain ⟨ta, h1, h2⟩ := ha.ex
  exact ⟨_, pe_callB call_isX hg hm PyProof.Rows.boot_isinstance (pa_cons h1 (pa_cons (pe_glob (v := .ref (cm.cl c)) hgc hmc rfl hdb) pa_nil hs2) hs1) (by decide) (by decide) hs1 hpl, isX_con h2 (.own _) hkit⟩
theorem de_isXb {c : Str} {tn : String} {kit : Str → Option Bool} {p2 : Pos} (hg : Gl X "isinstance") (hm : X.mg "isinstance" = none) (hgc : Gl X c) (hmc : X.mg c = none) (hv : bootBuiltins c = some (.type tn)) (hkit : ∀ k b, kit k = some b → ExcC X.K (cm.cl k) ∧ PySem.W.kitOne X.K (.ref (cm.cl k)) (.type tn) = some b) (ha : DE X cm E false a fa)
    (hnn : c ≠ "__name__" := by decide) (hdb : (c == ("__debug__" : Str)) = false := by decide) (hs1 : starEach [a, .Name c p2] X.env = (false, eval a X.env) :: starEach [.Name c p2] X.env := by rfl) (hs2 : starEach [.Name c p2] X.env = (false, eval (.Name c p2) X.env) :: starEach [] X.env := by rfl) (hpl : (backTo pos (starEach [.Name c p2] X.env)).any (·.1) = false := by rfl) :
    DE X cm E b (.Call (.Name "isinstance" p) [a, .Name c p2] [] pos) (c1 (gIsX kit) fa) := by
  obtain ⟨ta, h1, h2⟩ := ha.ex
  exact ⟨_, pe_callB call_isX hg hm PyProof.Rows.boot_isinstance (pa_cons h1 (pa_cons (pe_bltn (v := .ty tn) hgc hmc hv rfl hnn hdb) pa_nil hs2) hs1) (by decide) (by decide) hs1 hpl, isX_con h2 (.ty _) hkit⟩
inductive NamesC (X : Cx) (cm : Cm) : List Expr → List Value → TA → Prop
  | nil : NamesC X cm [] [] tNil
  | own {c : Str} {p : Pos} {es : List Expr} {us : List Value} {t : TA} (hg : Gl X c) (hm : X.mg c = some (.ref (cm.cl c))) (hdb : (c == ("__debug__" : Str)) = false) (h : NamesC X cm es us t) (hs : starEach (.Name c p :: es) X.env = (false, eval (.Name c p) X.env) :: starEach es X.env) : NamesC X cm (.Name c p :: es) (.ref (cm.cl c) :: us) (tCons (tC (.ref (cm.cl c))) t)
  | bl {c : Str} {tn : String} {p : Pos} {es : List Expr} {us : List Value} {t : TA} (hg : Gl X c) (hm : X.mg c = none) (hv : bootBuiltins c = some (.type tn)) (hnn : c ≠ "__name__") (hdb : (c == ("__debug__" : Str)) = false) (h : NamesC X cm es us t) (hs : starEach (.Name c p :: es) X.env = (false, eval (.Name c p) X.env) :: starEach es X.env) : NamesC X cm (.Name c p :: es) (.type tn :: us) (tCons (tC (.ty tn)) t)
theorem NamesC.pa {es : List Expr} {us : List Value} {t : TA} (h : NamesC X cm es us t) : PA X es t := by
  induction h with
  | nil => exact pa_nil
  | own hg hm hdb _ hs ih => exact pa_cons (pe_glob (v := .ref _) hg hm rfl hdb) ih hs
  | bl hg hm hv hnn hdb _ hs ih => exact pa_cons (pe_bltn (v := .ty _) hg hm hv rfl hnn hdb) ih hs
theorem NamesC.go {es : List Expr} {us : List Value} {t : TA} (h : NamesC X cm es us t) : ∃ cs, Paired ClsV cs us ∧ ∀ σ H Q, Q cs H → t σ H Q := by
  induction h with
  | nil => exact ⟨[], .nil, fun σ H Q q => q⟩
  | own hg hm hdb _ hs ih =>
    obtain ⟨cs, h1, h2⟩ := ih
    exact ⟨_ :: cs, .cons (.own _) h1, fun σ H Q q => h2 σ H _ q⟩
  | bl hg hm hv hnn hdb _ hs ih =>
    obtain ⟨cs, h1, h2⟩ := ih
    exact ⟨_ :: cs, .cons (.ty _) h1, fun σ H Q q => h2 σ H _ q⟩
theorem de_isXT {es : List Expr} {us : List Value} {t : TA} {kit : Str → Option Bool} {j} {tp : Pos} (hg : Gl X "isinstance") (hm : X.mg "isinstance" = none) (hc : NamesC X cm es us t) (hlen : us.length ≤ 1000) (hkit : ∀ k b, kit k = some b → ExcC X.K (cm.cl k) ∧ PySem.W.kitAny X.K (.ref (cm.cl k)) us = some b) (ha : DE X cm E false a fa)
    (hs1 : starEach [a, .Tuple es j tp] X.env = (false, eval a X.env) :: starEach [.Tuple es j tp] X.env := by rfl) (hs2 : starEach [.Tuple es j tp] X.env = (false, eval (.Tuple es j tp) X.env) :: starEach [] X.env := by rfl) (hpl : (backTo pos (starEach [.Tuple es j tp] X.env)).any (·.1) = false := by rfl) :
    DE X cm E b (.Call (.Name "isinstance" p) [a, .Tuple es j tp] [] pos) (c1 (gIsX kit) fa) := by
  obtain ⟨ta, h1, h2⟩ := ha.ex
  obtain ⟨cs, hp, go⟩ := hc.go
  refine ⟨_, pe_callB call_isXT hg hm PyProof.Rows.boot_isinstance (pa_cons h1 (pa_cons (pe_tup hc.pa) pa_nil hs2) hs1) (by decide) (by decide) hs1 hpl, fun W H σ env w fr Q hp' => h2 W H σ env w fr _ (hp'.bind.mono (fun d q v H1 fp e1 r1 f1 => ?_) fun _ _ z => z)⟩
  unfold gIsX at q
  split at q
  · rename_i k fs ds
    split at q
    · rename_i b' hb
      obtain ⟨x, dx, vs, rfl, k1, k2, _, _, _⟩ := exc_of r1
      obtain ⟨T, e⟩ := hkit k b' hb
      have hl : cs.length = us.length := by
        have : ∀ {cs : List V} {us : List Value}, Paired ClsV cs us → cs.length = us.length := by
          intro cs us h
          induction h with
          | nil => rfl
          | cons _ _ ih => simp [ih]
        exact this hp
      refine go σ H1 _ ⟨by rw [hl]; exact small1000' hlen, fun q' hq' => ?_⟩
      have ex := Ex.new (o := HO.tup cs) hq'
      exact ⟨x, cm.cl k, q', dx, fs.zip vs, cs, us, b', rfl, T, ex _ _ k1, k2.imp id fun ⟨a, z1, z2⟩ => ⟨a, z1, ex _ _ z2⟩, upd_same, hp, e, q _ _ [] (e1.trans ex) (.bl _) FpN.nil⟩
    · exact q.elim
  · exact q.elim
end
end DL

namespace DL
variable [Tbs]
open PySem L2
section
variable {X : Cx} {cm : Cm} {E : XS} {b : Bool} {pos : Pos} {a c tg : Expr} {fa fb : F}
def gNewL : D → Out D := fun d => match d with
  | .lst true _ => .ok .non
  | _ => .bad
def cAppN (fa fb : F) : F := fun r => (fa r).bind fun d => match d with
  | .lst true ds => if ds.length < 1000000 then (fb r).bind fun _ => .ok .non else .bad
  | _ => .bad
theorem ex_new {H H1 : Hp} {p : Addr} {o : HO} (e : Ex H H1) (h : H p = none) (hm : MutAt H1 p) : Ex H (upd H1 p o) := e.updM h hm
def W2 (W : Addr → Prop) (Dl : Addr) (fp : List Addr) : Addr → Prop := fun a => W a ∨ a = Dl ∨ a ∈ fp
structure AccF (cm : Cm) (W : Addr → Prop) (H1 : Hp) (Dl : Addr) (H' : Hp) (ys : List D) (vs : List V) (fp : List Addr) : Prop where
  ex : Ex H1 H'
  dl : H' Dl = some (.lst vs)
  rp : Reps cm (W2 W Dl fp) H' vs ys fp
  fn : FpN true H1 fp
  nd : Dl ∉ fp
theorem AccF.later {W : Addr → Prop} {H1 H' : Hp} {Dl : Addr} {ys : List D} {vs : List V} {fp : List Addr} (h : AccF cm W H1 Dl H' ys vs fp) (w : WOk cm W H1) (hD : H1 Dl = none) : Later cm W H1 (W2 W Dl fp) H' := by
  refine ⟨fun a z => ?_, fun a o z _ t => h.ex.get a o z t, ⟨fun a z => ?_, h.ex.tb w.2⟩⟩
  · rcases z with z | z | z
    · exact .inl z
    · exact .inr (by rw [z]; exact hD)
    · exact .inr (h.fn.2 a z)
  · rcases z with z | z | z
    · exact (w.ex h.ex).1 a z
    · rw [z]; exact ⟨_, h.dl, rfl⟩
    · exact h.rp.own a z
theorem AccF.next {W : Addr → Prop} {H1 H' H2 : Hp} {Dl : Addr} {ys : List D} {vs : List V} {fp : List Addr} (h : AccF cm W H1 Dl H' ys vs fp) (e : Ex H' H2) : AccF cm W H1 Dl H2 ys vs fp := ⟨h.ex.trans e, e _ _ h.dl, h.rp.ex e, h.fn, h.nd⟩
theorem AccF.push {W : Addr → Prop} {H1 H4 H5 : Hp} {Dl : Addr} {ys : List D} {vs : List V} {fp fp5 : List Addr} {v5 : V} {y : D} (h : AccF cm W H1 Dl H4 ys vs fp) (hD : H1 Dl = none) (e5 : Ex H4 H5) (r5 : Rep cm (Wp (W2 W Dl fp) fp5) H5 v5 y fp5) (f5 : FpN true H4 fp5) : AccF cm W H1 Dl (upd H5 Dl (.lst (vs ++ [v5]))) (ys ++ [y]) (vs ++ [v5]) (fp ++ fp5) := by
  have hnD : ∀ a ∈ fp5, a ≠ Dl := fun a m z => by
    subst z
    have := f5.2 _ m
    rw [h.dl] at this
    cases this
  have nDn : ∀ a ∈ fp ++ fp5, a ≠ Dl := fun a m z => by
    rcases List.mem_append.mp m with m | m
    · subst z; exact h.nd m
    · exact hnD a m z
  have up : ∀ a, W2 W Dl (fp ++ fp5) a → W2 W Dl fp a ∨ a ∈ fp5 := fun a z => by
    rcases z with z | z | z
    · exact .inl (.inl z)
    · exact .inl (.inr (.inl z))
    · rcases List.mem_append.mp z with z | z
      · exact .inl (.inr (.inr z))
      · exact .inr z
  refine ⟨ex_new (h.ex.trans e5) hD ⟨_, e5 _ _ h.dl, rfl⟩, upd_same, ?_, ?_, fun m => nDn _ m rfl⟩
  · have keep : ∀ a o, H5 a = some o → isTb o = false → (¬ W2 W Dl (fp ++ fp5) a ∨ a ∈ fp ++ fp5) → upd H5 Dl (.lst (vs ++ [v5])) a = some o := fun a o z _ c => by
      rw [upd_ne]
      · exact z
      · rcases c with c | c
        · exact fun q => c (.inr (.inl q))
        · exact nDn a c
    have h1 : Reps cm (W2 W Dl (fp ++ fp5)) H5 vs ys fp := h.rp.move (fun a z => (up a z).imp id (f5.2 a)) fun a o z t _ => e5.get a o z t
    have h2 : Rep cm (W2 W Dl (fp ++ fp5)) H5 v5 y fp5 := r5.move (fun a z => .inl (up a z)) fun _ _ z _ _ => z
    have all : Reps cm (W2 W Dl (fp ++ fp5)) H5 (vs ++ [v5]) (ys ++ [y]) (fp ++ (fp5 ++ [])) := Reps.app h1 (.cons h2 .nil)
    rw [List.append_nil] at all
    exact all.move (fun a z => .inl z) keep
  · exact fpN_app h.fn (fun a m => (h.rp.own a m).there) h.ex f5
theorem FRep.later {W W' : Addr → Prop} {H1 H2 : Hp} {σ : St} {r : Env} (h : FRep cm W H1 σ r) (l : Later cm W H1 W' H2) : FRep cm W' H2 σ r := ⟨h.1, fun i d q => by
  obtain ⟨v, h1, h2⟩ := h.2 i d q
  exact ⟨v, h1, h2.later l⟩⟩
theorem Post.get {α : Type} {o : Out α} {q : α → Prop} (h : Post o q DL.noX) : ∃ a, o = .ok a ∧ q a := by
  cases o with
  | ok a => exact ⟨a, rfl, h⟩
  | exn x r => exact h.elim
  | bad => exact h.elim
def tab (l : List (Str × Bool)) (c : Str) : Option Bool := l.lookup c
theorem tab_nil {P : Str → Bool → Prop} : ∀ c b, tab [] c = some b → P c b := fun _ _ h => nomatch h
theorem tab_cons {P : Str → Bool → Prop} {k : Str} {v : Bool} {l : List (Str × Bool)} (h : P k v) (t : ∀ c b, tab l c = some b → P c b) : ∀ c b, tab ((k, v) :: l) c = some b → P c b := by
  intro c b q
  unfold tab at q
  rw [List.lookup_cons] at q
  split at q
  · rename_i e
    cases q
    rw [eq_of_beq e]
    exact h
  · exact t c b q
def clT (l : List (Str × Addr)) (s : Str) : Addr := (l.lookup s).getD 0
end
end DL

namespace DL
variable [Tbs]
open PySem L2
section
variable {X : Cx} {cm : Cm} {E : XS} {b : Bool} {pos : Pos} {a c tg : Expr} {fa fb : F}
def gRevL : D → Out D := fun d => match d with
  | .lst _ xs => .ok (.lst true xs.reverse)
  | _ => .bad
theorem Reps.rev {W : Addr → Prop} {H : Hp} : ∀ {vs : List V} {ds : List D} {fp : List Addr}, Reps cm W H vs ds fp → fp = [] → Reps cm W H vs.reverse ds.reverse []
  | _, _, _, .nil, _ => .nil
  | _, _, _, .cons h r, e => by
    obtain ⟨rfl, rfl⟩ := app_nil e.symm
    rw [List.reverse_cons, List.reverse_cons]
    exact Reps.app (Reps.rev r rfl) (.cons h .nil)
end
end DL

namespace DL
variable [Tbs]
open PySem L2
open PyProof.Rows (envOfC)
theorem guards_make {A : Around} {C : Addr} {us : List Value} {kw : List (Str × Value)} (h : A.guards = some []) : (A.under (.builtin "type.__call__" ⟨.ref C :: us, kw⟩)).guards = some [] := by
  first | exact h | simpa [Around.under, Code.weight, Code.isCreation, Code.isGuard, Code.isCaller, Code.frames, Code.isFrame, guardIds] using h
theorem RoomG.make {k : Nat} {A : Around} (r : RoomG (k + 1) A) (C : Addr) (us : List Value) (kw : List (Str × Value)) : RoomG k (A.under (.builtin "type.__call__" ⟨.ref C :: us, kw⟩)) := ⟨r.rm.make C us kw, guards_make r.gd⟩

def tMethG (C : Addr) (m : Str) (sp : Sp) (dvs : List V) (E : XS) (ta : TE) (t : TA) : TE := fun σ H Q => ta σ H fun x H1 => ∃ a dx fs, x = .ref a ∧ H1 a = some (.ins C dx fs) ∧ fs.lookup m = none ∧
  t σ H1 fun vs H2 => sp (x :: (vs ++ dvs)) H2 Q (E σ)
def tMakeG (C : Addr) (sp : Sp) (dvs : List V) (E : XS) (t : TA) : TE := fun σ H Q => t σ H fun vs H1 => ∀ x dx, H1 x = none → H1 dx = none → dx ≠ x →
  sp (.ref x :: (vs ++ dvs)) (upd (upd H1 dx (.own x)) x (.ins C dx [])) (fun v H2 => v = .non ∧ Q (.ref x) H2) (E σ)
section
variable {X : Cx} {k : Nat} {f C : Addr} {fd : FuncData} {ps : List Str} {sp : Sp} {dvs : List V} {ds : List Value} {E : XS} {x m : Str} {p pos apos : Pos} {e o : Expr} {es : List Expr} {ta : TE} {t : TA}
theorem pe_methG {pl : Sem Bool} (he : PE X o ta) (c : Cls X.K C) (hm : Meth X.K C m f) (F : FnG X.prog X.w X.K X.mg X.base k f fd ps sp) (hr : RoomG k X.A) (hb : Binds X.K fd ps ds) (hd : Vals dvs ds) (hx : PassG X E) (ha : PA X (e :: es) t)
    (hst : starEach (e :: es) X.env = (false, eval e X.env) :: starEach es X.env := by rfl) (hpl : (backTo pos (starEach es X.env)).any (·.1) = false := by rfl)
    (ht : eval (.Call (.Attribute o m apos) (e :: es) [] pos) X.env = (do
      let ov ← eval o X.env
      standAt apos.atName
      let (f, first) ← holding [ov] (getMethod ov m pl)
      callWith pos f first (backTo pos (starEach (e :: es) X.env)) (backToKw pos (keywordEach [] X.env))) := by rfl) :
    PE X (.Call (.Attribute o m apos) (e :: es) [] pos) (tMethG C m sp dvs E ta t) := by
  refine ⟨fun pins s σ H Q I h => ?_⟩
  refine PySem.W.methodCall_KW (pl := pl) (thn (he.run pins s σ H _ I h) fun u s1 ⟨x, H1, I1, rx, a, dx, fs, ex, ea, l, q⟩ => ?_) ht
  subst ex
  obtain rfl : u = Value.ref a := rx
  refine getmeth_ok I1 ea c hm l ?_
  refine PySem.W.callWith_K (first := [.ref a]) (h₀ := X.base) I.ok.mod.kin hm.kp (thn (ha.run pos pins s1 σ H1 _ I1 q) fun us s2 ⟨vs, H2, I2, r, q2⟩ => ⟨I2.kIn, ?_⟩) hst hpl
  exact run_fnG (us := .ref a :: us) (vs := .ref a :: vs) F hr hb hd hx I2 (.cons rfl r) q2
theorem pe_meth0G {pl : Sem Bool} (he : PE X o ta) (c : Cls X.K C) (hm : Meth X.K C m f) (F : FnG X.prog X.w X.K X.mg X.base k f fd ps sp) (hr : RoomG k X.A) (hb : Binds X.K fd ps ds) (hd : Vals dvs ds) (hx : PassG X E)
    (ht : eval (.Call (.Attribute o m apos) [] [] pos) X.env = (do
      let ov ← eval o X.env
      standAt apos.atName
      let (f, first) ← holding [ov] (getMethod ov m pl)
      callWith pos f first (backTo pos (starEach [] X.env)) (backToKw pos (keywordEach [] X.env))) := by rfl) :
    PE X (.Call (.Attribute o m apos) [] [] pos) (tMethG C m sp dvs E ta tNil) := by
  refine ⟨fun pins s σ H Q I h => ?_⟩
  refine PySem.W.methodCall_KW (pl := pl) (thn (he.run pins s σ H _ I h) fun u s1 ⟨x, H1, I1, rx, a, dx, fs, ex, ea, l, q⟩ => ?_) ht
  subst ex
  obtain rfl : u = Value.ref a := rx
  refine getmeth_ok I1 ea c hm l ?_
  exact PySem.W.callWith_K0 (first := [.ref a]) I1.kIn hm.kp (run_fnG (us := [.ref a]) (vs := [.ref a]) F hr hb hd hx I1 (.cons rfl .nil) q)
theorem run_makeG {pins : List (Addr × Obj)} {σ : St} {H : Hp} {s : Shared} {Q : VK} {us : List Value} {vs : List V} (M : Mk X.K C f) (F : FnG X.prog X.w X.K X.mg X.base k f fd ps sp) (hr : RoomG (k + 1) X.A) (hb : Binds X.K fd ps ds) (hd : Vals dvs ds)
    (hx : PassG X E) (I : Inv X pins σ H s) (r : Vals vs us)
    (h : ∀ x dx, H x = none → H dx = none → dx ≠ x → sp (.ref x :: (vs ++ dvs)) (upd (upd H dx (.own x)) x (.ins C dx [])) (fun v H2 => v = .non ∧ Q (.ref x) H2) (E σ)) :
    wpAny (model X.prog X.w) X.A (call (.ref C) us) (EP X pins σ Q) X.xe s := by
  have hq := h (s.heap.objs.size + 1) s.heap.objs.size (I.hok.fresh (Nat.le_succ _)) (I.hok.fresh (Nat.le_refl _)) (Nat.ne_of_lt (Nat.lt_succ_self _))
  have I2 := Inv.made (C := C) I
  have r2 : Vals (V.ref (s.heap.objs.size + 1) :: (vs ++ dvs)) (Value.ref (s.heap.objs.size + 1) :: (us ++ ds)) := .cons rfl (r.append hd)
  have hl : (Value.ref (s.heap.objs.size + 1) :: us ++ ds).length = ps.length := by
    have e := r2.length
    rw [F.len _ _ _ _ hq] at e
    exact e.symm
  refine wpAny_call (make_map (f := f) I.kIn M.makes M.init (beq_iff_eq.mp M.fn) (codeAny_mono (F.go _ X.stack _ _ ⟨Value.ref (s.heap.objs.size + 1) :: us, []⟩ (Value.ref (s.heap.objs.size + 1) :: (us ++ ds)) _ _ (E σ) (hr.make C us [])
    (I2.env0.make C us []) (hb _ (Value.ref (s.heap.objs.size + 1) :: us) I2.kIn hl) r2 hq) fun r s' hq' => ?_))
  match r, hq' with
  | .error e, hq' => exact hx σ pins _ _ e s' I2 hq'
  | .ok (.ret u), hq' =>
    obtain ⟨v, H', I3, rv, ev, q3⟩ := I2.after hq'
    subst ev
    exact ⟨rv, ⟨V.ref (s.heap.objs.size + 1), H', I3, rfl, q3⟩⟩
theorem pe_makeG (M : Mk X.K C f) (F : FnG X.prog X.w X.K X.mg X.base k f fd ps sp) (hr : RoomG (k + 1) X.A) (hg : Gl X x) (hm : X.mg x = some (.ref C)) (hb : Binds X.K fd ps ds) (hd : Vals dvs ds) (hx : PassG X E)
    (ha : PA X (e :: es) t) (hdb : (x == ("__debug__" : Str)) = false := by decide) (he : starEach (e :: es) X.env = (false, eval e X.env) :: starEach es X.env := by rfl) (hpl : (backTo pos (starEach es X.env)).any (·.1) = false := by rfl) :
    PE X (.Call (.Name x p) (e :: es) [] pos) (tMakeG C sp dvs E t) := by
  refine ⟨fun pins s σ H Q I h => ?_⟩
  refine wpAny_Call_Name_kw (ld_glob I hg hm ?_ hdb)
  refine PySem.W.callWith_K (h₀ := X.base) I.ok.mod.kin M.kp (thn (ha.run pos pins s σ H _ I h) fun us s1 ⟨vs, H1, I1, r, q⟩ => ⟨I1.kIn, ?_⟩) he hpl
  exact run_makeG M F hr hb hd hx I1 r q
end

def getFD (f : Str) : List Str → List D → Option D
  | g :: gs, d :: ds => if f = g then some d else getFD f gs ds
  | _, _ => none
theorem getFD_rep {cm : Cm} {W : Addr → Prop} {H : Hp} {f : Str} : ∀ {fs : List Str} {vs : List V} {ds : List D}, Reps cm W H vs ds [] → ∀ {d : D}, getFD f fs ds = some d → ∃ v, (fs.zip vs).lookup f = some v ∧ Rep cm W H v d []
  | [], _, ds, _, d, h => by unfold getFD at h; cases h
  | g :: gs, _, [], _, d, h => by unfold getFD at h; cases h
  | g :: gs, vs, d0 :: ds, r, d, h => by
    generalize hf : ([] : List Addr) = fp at r
    cases r with
    | cons h0 r0 =>
      obtain ⟨rfl, rfl⟩ := app_nil hf
      unfold getFD at h
      rw [List.zip_cons_cons, List.lookup_cons]
      by_cases e : f = g
      · rw [if_pos e] at h
        cases h
        rw [beq_iff_eq.mpr e]
        exact ⟨_, rfl, h0⟩
      · rw [if_neg e] at h
        rw [beq_false_of_ne e]
        exact getFD_rep r0 h
def gFld (c f : Str) : D → Out D := fun d => match d with
  | .obj _ c' fs xs => if c' = c then ofO (getFD f fs xs) else .bad
  | _ => .bad
def isOb (c m : Str) : D → Bool
  | .obj _ c' fs _ => decide (c' = c) && fs.all fun g => decide (m ≠ g)
  | _ => false
theorem lookup_zip_none {m : Str} : ∀ {fs : List Str} {vs : List V}, (fs.all fun g => decide (m ≠ g)) = true → (fs.zip vs).lookup m = none
  | [], _, _ => rfl
  | g :: gs, [], _ => rfl
  | g :: gs, v :: vs, h => by
    rw [List.all_cons, Bool.and_eq_true, decide_eq_true_eq] at h
    rw [List.zip_cons_cons, List.lookup_cons, beq_false_of_ne h.1]
    exact lookup_zip_none h.2
theorem Rep.isOb {cm : Cm} {W : Addr → Prop} {H : Hp} {v : V} {d : D} {fp : List Addr} {c m : Str} (r : Rep cm W H v d fp) (h : isOb c m d = true) : cm.ok c ∧ ∃ p dx fs, v = .ref p ∧ H p = some (.ins (cm.cl c) dx fs) ∧ fs.lookup m = none := by
  cases r with
  | objO h1 l r =>
    unfold DL.isOb at h
    rw [Bool.and_eq_true, decide_eq_true_eq] at h
    obtain ⟨rfl, h⟩ := h
    exact ⟨l.2, _, _, _, rfl, h1, lookup_zip_none h⟩
  | objF h1 l n r =>
    unfold DL.isOb at h
    rw [Bool.and_eq_true, decide_eq_true_eq] at h
    obtain ⟨rfl, h⟩ := h
    exact ⟨l.2, _, _, _, rfl, h1, lookup_zip_none h⟩
  | _ => cases h
section
variable {X : Cx} {cm : Cm} {E : XS} {b : Bool} {pos p apos : Pos} {ks : Nat → Bool} {a c e o : Expr} {es : List Expr} {x : Str} {k n : Nat} {ps : List Str} {fa : F}
theorem de_fld {cl f : Str} (hk : X.K = cm.K) (hC : CmOk cm) (hn : NoAttr X.K (cm.cl cl) f) (ha : DE X cm E false a fa) (hb : attributeBase a f X.env (eval a X.env) = eval a X.env := by rfl) : DE X cm E b (.Attribute a f pos) (c1 (gFld cl f) fa) := by
  obtain ⟨ta, h1, h2⟩ := ha.ex
  refine ⟨_, pe_fld h1 hb, fun W H σ r w fr Q hp => h2 W H σ r w fr _ (hp.bind.mono (fun d q v H1 fp e1 r1 f1 => ?_) fun _ _ z => z)⟩
  cases (show fp = [] from f1)
  unfold gFld at q
  split at q
  · rename_i o' c' fs xs
    split at q
    · rename_i hc
      subst hc
      cases hg : getFD f fs xs with
      | none => rw [hg] at q; exact q.elim
      | some d' =>
        rw [hg] at q
        have key : ∀ {p dx : Addr} {vs : List V}, H1 p = some (.ins (cm.cl c') dx (fs.zip vs)) → cm.ok c' → Reps cm (Wp W []) H1 vs xs [] → ∃ a C dx fs' v', V.ref p = .ref a ∧ H1 a = some (.ins C dx fs') ∧ Cls X.K C ∧ NoAttr X.K C f ∧ fs'.lookup f = some v' ∧ Q v' H1 := by
          intro p dx vs hp hok hr
          obtain ⟨v', l1, l2⟩ := getFD_rep hr hg
          exact ⟨p, _, dx, _, v', rfl, hp, by rw [hk]; exact (hC _ hok).cl, hn, l1, q v' H1 [] e1 l2 FpN.nil⟩
        generalize hf : ([] : List Addr) = fp at r1
        cases r1 with
        | objO h l r => cases hf
        | objF h l nw r => exact key h l.2 r
    · exact q.elim
  · exact q.elim

structure MethOk (P : Program) (w : World) (K : PySem.W.Frag) (mg : Str → Option Value) (base : Heap) (cm : Cm) (c m : Str) (k : Nat) (ps : List Str) (dd : List D) (sp : Sp) : Prop where
  ex : ∃ f fd dvs ds, FnG P w K mg base k f fd ps sp ∧ Meth K (cm.cl c) m f ∧ Binds K fd ps ds ∧ Vals dvs ds ∧ ∀ W H, Reps cm W H dvs dd []
def cMt (c m : Str) (n : Nat) (mm : List D → Out D) (dd : List D) (fo : F) (fs : Env → Out (List D)) : F := fun r => (fo r).bind fun d => if isOb c m d = true then (fs r).bind fun ds => chk n mm (d :: (ds ++ dd)) else .bad
theorem meth_con {cl m : Str} {mm : List D → Out D} {dd : List D} {dvs : List V} {to : TE} {ta : TA} {fo : F} {fs : Env → Out (List D)} (hdd : ∀ W H, Reps cm W H dvs dd []) (h2 : ECon cm E false to fo) (h4 : ACon cm E false ta fs) : ECon cm E true (tMethG (cm.cl cl) m (spP cm n mm) dvs E to ta) (cMt cl m n mm dd fo fs) := by
  intro W H σ r w fr Q hp
  refine h2 W H σ r w fr _ (hp.bind.mono (fun d q v H1 fp e1 r1 f1 => ?_) fun _ _ z => z)
  cases (show fp = [] from f1)
  split at q
  · rename_i hob
    obtain ⟨_, p, dx, fs', rfl, hp1, hl⟩ := r1.isOb hob
    refine ⟨p, dx, fs', rfl, hp1, hl, h4 W H1 σ r (w.ex e1) (fr.ex e1) _ (q.bind.mono (fun ds q2 vs H2 fp2 e2 r2 f2 => ?_) fun _ _ z => XPost.ex e1 z)⟩
    cases (show fp2 = [] from f2)
    unfold chk at q2
    split at q2
    · rename_i hlen
      exact ⟨W, d :: (ds ++ dd), (w.ex e1).ex e2, .cons (fp := []) (r1.ofP.ex e2) (Reps.app r2.ofP (hdd W H2)), hlen, q2.mono (fun d' q3 z H3 fp3 e3 r3 f3 => q3 z H3 fp3 (e1.trans (e2.trans e3)) r3 ((f3.ex e2).ex e1)) fun x rr z => XPost.ex e2 (XPost.ex e1 z)⟩
    · exact q2.elim
  · exact q.elim
theorem de_meth {cl m : Str} {mm : List D → Out D} {dd : List D} {fo : F} {fs : Env → Out (List D)} {pl : Sem Bool} (hk : X.K = cm.K) (hC : CmOk cm) (hok : cm.ok cl) (M : MethOk X.prog X.w X.K X.mg X.base cm cl m k ps dd (spP cm n mm)) (hr : RoomG k X.A) (hx : PassG X E) (ho : DE X cm E false o fo) (ha : DA X cm E false (e :: es) fs)
    (hst : starEach (e :: es) X.env = (false, eval e X.env) :: starEach es X.env := by rfl) (hpl : (backTo pos (starEach es X.env)).any (·.1) = false := by rfl)
    (ht : eval (.Call (.Attribute o m apos) (e :: es) [] pos) X.env = (do
      let ov ← eval o X.env
      standAt apos.atName
      let (f, first) ← holding [ov] (getMethod ov m pl)
      callWith pos f first (backTo pos (starEach (e :: es) X.env)) (backToKw pos (keywordEach [] X.env))) := by rfl) : DE X cm E true (.Call (.Attribute o m apos) (e :: es) [] pos) (cMt cl m n mm dd fo fs) := by
  obtain ⟨to, h1, h2⟩ := ho.ex
  obtain ⟨ta, h3, h4⟩ := ha.ex
  obtain ⟨f, fd, dvs, ds, F, Mt, hb, hv, hdd⟩ := M.ex
  exact ⟨_, pe_methG h1 (by rw [hk]; exact (hC _ hok).cl) Mt F hr hb hv hx h3 hst hpl ht, meth_con hdd h2 h4⟩
theorem acon_nil : ACon cm E false tNil aNil := by
  exact fun W H σ r w fr Q hp => hp [] H [] (Ex.refl H) .nil FpN.nil
theorem de_meth0 {cl m : Str} {mm : List D → Out D} {dd : List D} {fo : F} {pl : Sem Bool} (hk : X.K = cm.K) (hC : CmOk cm) (hok : cm.ok cl) (M : MethOk X.prog X.w X.K X.mg X.base cm cl m k ps dd (spP cm n mm)) (hr : RoomG k X.A) (hx : PassG X E) (ho : DE X cm E false o fo)
    (ht : eval (.Call (.Attribute o m apos) [] [] pos) X.env = (do
      let ov ← eval o X.env
      standAt apos.atName
      let (f, first) ← holding [ov] (getMethod ov m pl)
      callWith pos f first (backTo pos (starEach [] X.env)) (backToKw pos (keywordEach [] X.env))) := by rfl) : DE X cm E true (.Call (.Attribute o m apos) [] [] pos) (cMt cl m n mm dd fo aNil) := by
  obtain ⟨to, h1, h2⟩ := ho.ex
  obtain ⟨f, fd, dvs, ds, F, Mt, hb, hv, hdd⟩ := M.ex
  exact ⟨_, pe_meth0G h1 (by rw [hk]; exact (hC _ hok).cl) Mt F hr hb hv hx ht, meth_con hdd h2 acon_nil⟩

def mkO (c : Str) (n : Nat) (mm : List D → Out (D × D)) (dd ds : List D) : Out D := if (ds ++ dd).length + 1 = n then (match mm (.obj true c [] [] :: (ds ++ dd)) with
  | .ok (.non, d) => .ok d
  | .exn x _ => .exn x []
  | _ => .bad) else .bad
structure MakeOk (P : Program) (w : World) (K : PySem.W.Frag) (mg : Str → Option Value) (base : Heap) (cm : Cm) (c : Str) (k : Nat) (ps : List Str) (dd : List D) (sp : Sp) : Prop where
  ex : ∃ f fd dvs ds, FnG P w K mg base k f fd ps sp ∧ Mk K (cm.cl c) f ∧ mg c = some (.ref (cm.cl c)) ∧ Binds K fd ps ds ∧ Vals dvs ds ∧ ∀ W H, Reps cm W H dvs dd []
theorem make_run {cl : Str} {mm : List D → Out (D × D)} {dd ds : List D} {dvs vs : List V} {W : Addr → Prop} {H : Hp} {Q : VK} {E : XK} (hok : cm.ok cl) (hdd : ∀ W H, Reps cm W H dvs dd []) (w : WOk cm W H) (rp : Reps cm W H vs ds []) (hp : Post (mkO cl n mm dd ds) (QP cm W true H Q) (XPost cm E W H)) :
    ∀ x dx, H x = none → H dx = none → dx ≠ x → spX cm n mm (.ref x :: (vs ++ dvs)) (upd (upd H dx (.own x)) x (.ins (cm.cl cl) dx [])) (fun v H2 => v = .non ∧ Q (.ref x) H2) E := by
  intro x dx hx hdx hne
  have e1 : Ex H (upd (upd H dx (.own x)) x (.ins (cm.cl cl) dx [])) := (Ex.new hdx).trans (Ex.new (by rw [upd_ne (Ne.symm hne)]; exact hx))
  have hnW : ¬ W x := w.fresh hx
  unfold mkO at hp
  split at hp
  · rename_i hl
    refine ⟨W, .ref x, .obj true cl [] [], [x], vs ++ dvs, ds ++ dd, rfl, ⟨fun a z => ?_, e1.tb w.2⟩, List.nodup_cons.mpr ⟨List.not_mem_nil, List.nodup_nil⟩, fun a m => ?_, .objO (vs := []) (fp := []) upd_same ⟨rfl, hok⟩ .nil, Reps.app (fp := []) (rp.move (fun a z => ?_) fun a o q t _ => e1.get a o q t) (hdd _ _), hl, ?_⟩
    · rcases z with z | z
      · exact (w.1 a z).ex e1
      · rw [List.mem_singleton.mp z]; exact ⟨_, upd_same, rfl⟩
    · rw [List.mem_singleton.mp m]; exact hnW
    · rcases z with z | z
      · exact .inl z
      · rw [List.mem_singleton.mp z]; exact .inr hx
    · have hex : ∀ {H' : Hp} {fp' fpv : List Addr}, Fram (upd (upd H dx (.own x)) x (.ins (cm.cl cl) dx [])) (fps0 [x]) H' (fps0 fp') fpv → Ex H H' := fun fm => ⟨fun a o q t => fm.keep a o (e1.get a o q t) (t := t) (fun i m => by
        by_cases hi : i = 0
        · subst hi
          rw [List.mem_singleton.mp (show a ∈ [x] from m)] at q
          rw [q] at hx; cases hx
        · rw [show fps0 [x] i = [] from if_neg hi] at m; cases m), fun a q => e1.back (fm.back a q), fun h => fm.tb (e1.tb h)⟩
      split at hp
      · rename_i d hd
        rw [hd]
        intro v H' fp' fpv r0 rv nd nw fm
        cases rv
        refine ⟨rfl, hp (.ref x) H' fp' (hex fm) (by rw [List.append_nil] at r0; exact r0) ⟨by rw [List.append_nil] at nd; exact nd, fun a m => ?_⟩⟩
        rcases fm.old 0 a m with ⟨j, m⟩ | z
        · by_cases hj : j = 0
          · subst hj; rw [List.mem_singleton.mp (show a ∈ [x] from m)]; exact hx
          · rw [show fps0 [x] j = [] from if_neg hj] at m; cases m
        · exact e1.back z
      · rename_i y r' hd
        rw [hd]
        exact fun d1 H' fp' dx' _ _ _ _ fm xr => hp H' dx' (hex fm) (xr.weak fun a z => .inl z)
      · exact hp.elim
  · exact hp.elim
theorem de_make {cl : Str} {mm : List D → Out (D × D)} {dd : List D} {fs : Env → Out (List D)} (hok : cm.ok cl) (M : MakeOk X.prog X.w X.K X.mg X.base cm cl k ps dd (spX cm n mm)) (hr : RoomG (k + 1) X.A) (hx : PassG X E) (ha : DA X cm E false (e :: es) fs) (hg : Gl X cl := by rfl) (hdb : (cl == ("__debug__" : Str)) = false := by decide)
    (he : starEach (e :: es) X.env = (false, eval e X.env) :: starEach es X.env := by rfl) (hpl : (backTo pos (starEach es X.env)).any (·.1) = false := by rfl) : DE X cm E true (.Call (.Name cl p) (e :: es) [] pos) (cA (mkO cl n mm dd) fs) := by
  obtain ⟨ta, h1, h2⟩ := ha.ex
  obtain ⟨f, fd, dvs, ds, F, Mk, hm, hb, hv, hdd⟩ := M.ex
  refine ⟨_, pe_makeG Mk F hr hg hm hb hv hx h1 hdb he hpl, fun W H σ env w fr Q hp => h2 W H σ env w fr _ (hp.bind.mono (fun ds q vs H1 fp e1 r1 f1 => ?_) fun _ _ z => z)⟩
  cases (show fp = [] from f1)
  exact make_run hok hdd (w.ex e1) r1.ofP (q.mono (fun d q3 z H3 fp3 e3 r3 f3 => q3 z H3 fp3 (e1.trans e3) r3 (f3.ex e1)) fun x rr z => XPost.ex e1 z)
end
end DL

namespace DL
variable [Tbs]
open PySem L2
section
variable {X : Cx} {cm : Cm} {E : XS} {b : Bool} {pos p apos : Pos} {ks : Nat → Bool} {a c e o : Expr} {es : List Expr} {x : Str} {k n : Nat} {ps : List Str} {fa : F}
def xMt (c m : Str) (n : Nat) (mm : List D → Out D) (dd : List D) (f : FX) (h : Env → Out (List D × Env)) : FX := fun r => (f r).bind fun p => if isOb c m p.1 = true then (h p.2).bind fun q => (match chk n mm (frz p.1 :: (frzs q.1 ++ dd)) with
  | .ok d => .ok (d, q.2)
  | .exn x _ => .exn x q.2
  | .bad => .bad) else .bad
theorem Rep.isObF {W : Addr → Prop} {H : Hp} {v : V} {d : D} {fp : List Addr} {c m : Str} (r : Rep cm W H v d fp) (h : DL.isOb c m d = true) : ∃ p dx fs, v = .ref p ∧ H p = some (.ins (cm.cl c) dx fs) ∧ fs.lookup m = none := (r.isOb h).2
theorem Good.mutO {W0 : Addr → Prop} {H : Hp} {σ : St} {r : Env} {fps : Fps} {i : Nat} {pa : Addr} {vs' : List V} {ds' : List D} {d' : D} {o : HO} {fp' fpv : List Addr} (g : Good cm (Wp W0 fpv) H σ r fps) (hv : σ[i]? = some (some (.ref pa))) (ho : isM o = true) (hmk : ∀ W' H', H' pa = some o → Reps cm W' H' vs' ds' fp' → Rep cm W' H' (.ref pa) d' (pa :: fp')) (hpa : pa ∈ fps i) (hrp : Reps cm (Wof (Wp W0 fpv) fps) H vs' ds' fp') (hsub : ∀ a ∈ fp', a ∈ fps i ∨ a ∈ fpv) (hnp : pa ∉ fp') (nd : fp'.Nodup) (nw : ∀ a ∈ fpv, ¬ W0 a) :
    Good cm W0 (upd H pa o) σ (r.set i (some d')) (fun j => if j = i then pa :: fp' else fps j) := by
  have sub : ∀ {j a}, a ∈ (if j = i then pa :: fp' else fps j) → (j = i ∧ (a = pa ∨ a ∈ fp')) ∨ (j ≠ i ∧ a ∈ fps j) := fun {j a} m => by
    split at m
    · exact .inl ⟨by assumption, List.mem_cons.mp m⟩
    · exact .inr ⟨by assumption, m⟩
  have own : ∀ {j a}, a ∈ (if j = i then pa :: fp' else fps j) → Wof (Wp W0 fpv) fps a := fun {j a} m => by
    rcases sub m with ⟨_, rfl | m⟩ | ⟨_, m⟩
    · exact .inr ⟨i, hpa⟩
    · exact (hsub a m).elim (fun m => .inr ⟨i, m⟩) fun m => .inl (.inr m)
    · exact .inr ⟨j, m⟩
  have wsub : ∀ a, Wof W0 (fun j => if j = i then pa :: fp' else fps j) a → Wof (Wp W0 fpv) fps a := fun a z => by
    rcases z with z | ⟨j, m⟩
    · exact .inl (.inl z)
    · exact own m
  have mut' : ∀ a, MutAt H a → MutAt (upd H pa o) a := fun a ⟨o', h1, h2⟩ => by
    by_cases e : a = pa
    · subst e; exact ⟨_, upd_same, ho⟩
    · exact ⟨o', by rw [upd_ne e]; exact h1, h2⟩
  have nother : ∀ j a, j ≠ i → a ∈ fps j → a ≠ pa ∧ a ∉ fp' := fun j a hj m => ⟨fun z => hj (g.dj j i a m (z ▸ hpa)), fun z => (hsub a z).elim (fun z => hj (g.dj j i a m z)) fun z => g.nw j a m (.inr z)⟩
  refine ⟨by rw [List.length_set]; exact g.len, ⟨fun a z => mut' a (g.w0.1 a (.inl z)), Tabs.updM g.w0.2 (g.mu i pa hpa)⟩, fun j d hj => ?_, fun j => ?_, fun j j' a m m' => ?_, fun j a m z => ?_, fun j a m => ?_⟩
  · rw [List.getElem?_set] at hj
    by_cases e : i = j
    · subst e
      rw [if_pos rfl] at hj
      split at hj
      · cases hj
        rw [if_pos rfl]
        refine ⟨_, hv, hmk _ _ upd_same (hrp.move (fun a z => .inl (wsub a z)) fun a o q _ cc => ?_)⟩
        rw [upd_ne]
        · exact q
        · rcases cc with cc | cc
          · exact fun z => cc (.inr ⟨i, z ▸ hpa⟩)
          · exact fun z => hnp (z ▸ cc)
      · cases hj
    · rw [if_neg e] at hj
      rw [if_neg (Ne.symm e)]
      obtain ⟨u, e1, e2⟩ := g.sl j d hj
      refine ⟨u, e1, e2.move (fun a z => .inl (wsub a z)) fun a o q _ cc => ?_⟩
      rw [upd_ne]
      · exact q
      · rcases cc with cc | cc
        · exact fun z => cc (.inr ⟨i, z ▸ hpa⟩)
        · exact (nother j a (Ne.symm e) cc).1
  · split
    · exact List.nodup_cons.mpr ⟨hnp, nd⟩
    · exact g.nd j
  · rcases sub m with ⟨e, m⟩ | ⟨e, m⟩ <;> rcases sub m' with ⟨e', m'⟩ | ⟨e', m'⟩
    · rw [e, e']
    · rcases m with m | m
      · exact absurd m (nother j' a e' m').1
      · exact absurd m (nother j' a e' m').2
    · rcases m' with m' | m'
      · exact absurd m' (nother j a e m).1
      · exact absurd m' (nother j a e m).2
    · exact g.dj j j' a m m'
  · rcases sub m with ⟨_, rfl | m⟩ | ⟨_, m⟩
    · exact g.nw i _ hpa (.inl z)
    · exact (hsub a m).elim (fun m => g.nw i a m (.inl z)) fun m => nw a m z
    · exact g.nw j a m (.inl z)
  · exact mut' a (g.wof.1 a (own m))
def putN (f : Str) : List Str → List Str
  | [] => [f]
  | g :: gs => if g = f then g :: gs else g :: putN f gs
def putX {α : Type} (f : Str) (x : α) : List Str → List α → List α
  | [], _ => [x]
  | _ :: _, [] => []
  | g :: gs, y :: ys => if g = f then x :: ys else y :: putX f x gs ys
theorem putF_zip (f : Str) (v : V) : ∀ (fs : List Str) (vs : List V), fs.length = vs.length → putF f v (fs.zip vs) = (putN f fs).zip (putX f v fs vs) ∧ (putN f fs).length = (putX f v fs vs).length
  | [], vs, h => ⟨rfl, rfl⟩
  | g :: gs, [], h => nomatch h
  | g :: gs, u :: us, h => by
    obtain ⟨h1, h2⟩ := putF_zip f v gs us (by simpa using h)
    rw [List.zip_cons_cons]
    show (if g = f then (g, v) :: gs.zip us else (g, u) :: putF f v (gs.zip us)) = _ ∧ _
    unfold putN putX
    by_cases e : g = f
    · rw [if_pos e, if_pos e, if_pos e]; exact ⟨rfl, by simpa using h⟩
    · rw [if_neg e, if_neg e, if_neg e, h1]; exact ⟨rfl, by simp [h2]⟩
theorem Reps.putX {W : Addr → Prop} {H : Hp} {f : Str} {v : V} {d : D} {fv : List Addr} (rv : Rep cm W H v d fv) : ∀ {fs : List Str} {vs : List V} {ds : List D} {fp : List Addr}, Reps cm W H vs ds fp → fs.length = vs.length → ∃ fp', Reps cm W H (DL.putX f v fs vs) (DL.putX f d fs ds) fp' ∧ (∀ a ∈ fp', a ∈ fp ∨ a ∈ fv) ∧ (fp.Nodup → fv.Nodup → (∀ a ∈ fp, a ∉ fv) → fp'.Nodup)
  | [], _, _, _, .nil, _ => ⟨fv ++ [], .cons rv .nil, fun a m => .inr (by simpa using m), fun _ h _ => by simpa using h⟩
  | [], _, _, _, .cons _ _, h => nomatch h
  | _ :: _, _, _, _, .nil, h => nomatch h
  | g :: gs, _, _, _, .cons (fp := f1) (fps := f2) h0 r0, h => by
    unfold DL.putX
    by_cases e : g = f
    · rw [if_pos e, if_pos e]
      refine ⟨fv ++ f2, .cons rv r0, fun a m => (List.mem_append.mp m).elim .inr fun m => .inl (List.mem_append_right _ m), fun h1 h2 h3 => List.nodup_append.mpr ⟨h2, (List.nodup_append.mp h1).2.1, fun a m b m' z => h3 b (List.mem_append_right _ m') (z ▸ m)⟩⟩
    · rw [if_neg e, if_neg e]
      obtain ⟨fp', h1, h2, h3⟩ := Reps.putX rv r0 (fs := gs) (by simpa using h)
      refine ⟨f1 ++ fp', .cons h0 h1, fun a m => (List.mem_append.mp m).elim (fun m => .inl (List.mem_append_left _ m)) fun m => (h2 a m).imp (List.mem_append_right _) id, fun k1 k2 k3 => ?_⟩
      have k4 := List.nodup_append.mp k1
      refine List.nodup_append.mpr ⟨k4.1, h3 k4.2.1 k2 fun a m => k3 a (List.mem_append_right _ m), fun a m b m' z => ?_⟩
      subst z
      rcases h2 a m' with m' | m'
      · exact k4.2.2 a m a m' rfl
      · exact k3 a (List.mem_append_left _ m) m'
def sFldS (i : Nat) (c f : Str) (fx : FX) : FS := fun r => match fx r with
  | .ok p => match p.2[i]? with
    | some (some (.obj true c' fs xs)) => if c' = c ∧ fs.length < 1000 then .nx (p.2.set i (some (.obj true c' (putN f fs) (putX f p.1 fs xs)))) else .bad
    | _ => .bad
  | .exn x r' => .exn x r'
  | .bad => .bad
theorem Rep.objOf {W : Addr → Prop} {H : Hp} {v : V} {c : Str} {fs : List Str} {ds : List D} {fp : List Addr} (h : Rep cm W H v (.obj true c fs ds) fp) : cm.ok c ∧ ∃ pa dx vs fp', v = .ref pa ∧ H pa = some (.ins (cm.cl c) dx (fs.zip vs)) ∧ fs.length = vs.length ∧ fp = pa :: fp' ∧ Reps cm W H vs ds fp' := by
  cases h with
  | objO h l r => exact ⟨l.2, _, _, _, _, rfl, h, l.1, rfl, r⟩
theorem ds_fld (i : Nat) {cl f : Str} {fx : FX} {tpos : Pos} (hk : X.K = cm.K) (hC : CmOk cm) (hn : NoAttr X.K (cm.cl cl) f) (hv : PE X o (tVar i)) (h1 : XE X cm E e fx) (hs : swapsWith e (some (.Attribute o f tpos)) pos.line X.env = pure false := by rfl) : DS X cm E ks (.Assign [.Attribute o f tpos] e pos) (sFldS i cl f fx) := by
  obtain ⟨te, a1, a2⟩ := h1.ex
  refine ⟨_, ps_fld hv a1 hs, fun W0 H σ r fps gd D hp => a2 W0 H σ r fps gd _ ?_⟩
  unfold sFldS at hp
  split at hp
  · rename_i pp hr
    rw [hr]
    intro v H1 f1 p1 g1 k1 n1 w1 m1
    split at hp
    · rename_i c' fs xs hd
      split at hp
      · rename_i hc
        obtain ⟨hcc, hfl⟩ := hc
        subst hcc
        obtain ⟨v0, q1, q2⟩ := g1.sl i _ hd
        obtain ⟨hok, pa, dx, vs, fp, rfl, hpa, hlen, hfp, hrr⟩ := q2.objOf
        refine ⟨_, q1, pa, _, dx, _, rfl, hpa, by rw [hk]; exact (hC _ hok).cl, hn, by rw [List.length_zip, hlen, Nat.min_self, ← hlen]; exact hfl, ?_⟩
        obtain ⟨e1, e2⟩ := putF_zip f v fs vs hlen
        rw [e1]
        obtain ⟨fp', s1, s2, s3⟩ := Reps.putX (f := f) k1 hrr hlen
        have hmem : pa ∈ f1 i := by rw [hfp]; exact List.mem_cons_self ..
        have nd1 := g1.nd i
        rw [hfp] at nd1
        have nd2 := List.nodup_cons.mp nd1
        have hdj : ∀ a ∈ fp, a ∉ p1 := fun a m z => g1.nw i a (by rw [hfp]; exact List.mem_cons_of_mem _ m) (.inr z)
        have hsub : ∀ a ∈ fp', a ∈ f1 i ∨ a ∈ p1 := fun a m => (s2 a m).imp (fun m => by rw [hfp]; exact List.mem_cons_of_mem _ m) id
        have hnp : pa ∉ fp' := fun m => (s2 pa m).elim nd2.1 fun m => g1.nw i pa hmem (.inr m)
        have g3 := g1.mutO (d' := .obj true c' (putN f fs) (putX f pp.1 fs xs)) (o := .ins (cm.cl c') dx ((putN f fs).zip (putX f v fs vs))) q1 rfl (fun W' H' h r => .objO h ⟨e2, hok⟩ r) hmem s1 hsub hnp (s3 nd2.2 n1 hdj) w1
        exact hp σ _ _ g3 (m1.mut hmem ⟨_, hpa, rfl⟩ hsub) (Keep.refl ks σ)
      · exact hp.elim
    · exact hp.elim
  · rename_i x r' hr
    rw [hr]
    exact fun H1 fps' dx g1 fm xr => hp σ H1 fps' dx g1 fm (Keep.refl ks σ) xr
  · exact hp.elim
end
end DL

namespace DL
variable [Tbs]
open PySem L2
theorem RoomG.in1 {k : Nat} {A : Around} (r : RoomG (k + 1) A) : RoomG k A.in1 := ⟨r.rm.in1, r.gd⟩
theorem run_fnA {X : Cx} {k : Nat} {f : Addr} {fd : FuncData} {ps : List Str} {sp : Sp} {E : XS} {pins : List (Addr × Obj)} {σ : St} {H : Hp} {s : Shared} {Q : VK} {us : List Value} {vs : List V} {A : Around} (F : FnG X.prog X.w X.K X.mg X.base k f fd ps sp) (hr : RoomG k A) (hA : A.frames = X.A.frames) (hb : Binds X.K fd ps []) (hx : PassG X E)
    (I : Inv X pins σ H s) (r : Vals vs us) (h : sp vs H Q (E σ)) : wpAny (model X.prog X.w) A (call (.ref f) us) (EP X pins σ Q) X.xe s := by
  have hl : us.length = ps.length := r.length.symm.trans (F.len _ _ _ _ h)
  have e0 : Env0 X.prog X.w X.K X.mg X.base A X.stack s H := by
    have e := I.env0
    exact ⟨by rw [hA]; exact e.frames, e.mod, e.bs, e.bsz, e.funs, e.frf, e.hok, e.bare⟩
  apply wpAny_call
  apply codeAny_mono (F.go A X.stack s H ⟨us, []⟩ us vs Q (E σ) hr e0 (by
    have := hb s us I.kIn (by simpa using hl)
    simpa using this) r h)
  intro res s' hq
  match res, hq with
  | .error e, hq => exact hx σ pins H s e s' I hq
  | .ok (.ret u), hq => exact I.after hq
def rSpec (cm : Cm) (c : Str) (n : Nat) (mm : List D → Out D) (T : V → Hp → VK → Prop) : List V → Hp → VK → Prop := fun xs H Q => (∀ x ∈ xs, ∃ a dx fs, x = .ref a ∧ H a = some (.ins (cm.cl c) dx fs)) ∧ spP cm n mm xs H (fun v H' => T v H' Q) (fun _ _ _ => False)
structure SpecOk (P : Program) (w : World) (K : PySem.W.Frag) (mg : Str → Option Value) (base : Heap) (cm : Cm) (c m : Str) (k : Nat) (ps : List Str) (sp : Sp) : Prop where
  ex : ∃ f fd, FnG P w K mg base k f fd ps sp ∧ Meth K (cm.cl c) m f ∧ Binds K fd ps []
section
variable {X : Cx} {cm : Cm} {E : XS} {b : Bool} {pos p : Pos} {k n : Nat} {c m : Str} {ps : List Str} {mm : List D → Out D} {a d e : Expr} {fa fb : F}
theorem MethOk.spec {P : Program} {w : World} {K : PySem.W.Frag} {mg : Str → Option Value} {base : Heap} {sp : Sp} (M : MethOk P w K mg base cm c m k ps [] sp) : SpecOk P w K mg base cm c m k ps sp := by
  obtain ⟨f, fd, dvs, ds, F, Mt, hb, hv, hdd⟩ := M.ex
  have hn : dvs = [] := List.length_eq_zero_iff.mp (hdd (fun _ => False) (fun _ => none)).len
  subst hn
  cases hv
  exact ⟨f, fd, F, Mt, hb⟩
theorem inst_at {pins : List (Addr × Obj)} {σ : St} {H : Hp} {s : Shared} {x C dx : Addr} {fs : List (Str × V)} (I : Inv X pins σ H s) (h : H x = some (.ins C dx fs)) : ∃ od, PySem.W.InstAt s.heap x (PySem.W.instObj C dx) C (some od) := by
  obtain ⟨mA, J, _⟩ := ins_get I.hok h
  obtain ⟨od, J, _⟩ := J.look
  exact ⟨od, J⟩
theorem ne_plain : plainId "object.__ne__" = true := by decide +kernel
def lenT : V → Hp → VK → Prop := fun v H Q => ∃ i : Int, v = .int i ∧ (0 ≤ i ∧ i < 2 ^ 63) ∧ Q (.int i) H
theorem call_lenO (S : SpecOk X.prog X.w X.K X.mg X.base cm c "__len__" k ps (spP cm n mm)) (hr : RoomG (k + 1) X.A) : CallR X (.builtin "len") (fun xs H Q => xs.length = 1 ∧ rSpec cm c n mm lenT xs H Q) := by
  intro pins s σ H xs us Q I rs h
  obtain ⟨f, fd, F, Mt, hb⟩ := S.ex
  obtain ⟨hl, hi, hs⟩ := h
  match xs, hl, rs with
  | [x], _, .cons rx .nil =>
    obtain ⟨ax, dx, fx, rfl, hx⟩ := hi x (by simp)
    cases rx
    obtain ⟨od, J⟩ := inst_at I hx
    obtain ⟨m0, hF⟩ := I.fr
    refine PySem.W.len_K hF I.ok.mod.kin J Mt.at_ Mt.fn ?_
    refine wpAny_mono (run_fnA (E := E0') F hr.in1 rfl hb pass_none I (us := [.ref ax]) (vs := [.ref ax]) (.cons rfl .nil) hs) (fun r s' z => ?_) fun _ _ z => z
    obtain ⟨w, H', I', rw', i, rfl, hi, q⟩ := z
    obtain ⟨t, rfl⟩ := rw'
    exact ⟨hi, .int i, H', I'.tok _, ⟨_, rfl⟩, q⟩
def gLenO (c : Str) (mm : List D → Out D) : D → Out D := fun x => if isOb c "__len__" x = true then (match mm [x] with
  | .ok (.int i) => if 0 ≤ i ∧ i.toNat ≤ 1000000 then .ok (.int i) else .bad
  | _ => .bad) else .bad
theorem ra_lenO : RA cm b (fun xs H Q => xs.length = 1 ∧ rSpec cm c 1 mm lenT xs H Q) (g1 (gLenO c mm)) := fun W H vs ds w rs Q hp => by
  match ds, rs, hp with
  | [], _, hp => exact hp.elim
  | _ :: _ :: _, _, hp => exact hp.elim
  | [d], rs, hp =>
    generalize hf : ([] : List Addr) = fp at rs
    cases rs with
    | cons rx r0 =>
      obtain ⟨rfl, rfl⟩ := app_nil hf
      cases r0
      replace hp : Post (gLenO c mm d) (QP cm W b H Q) noX := hp
      unfold gLenO at hp
      split at hp
      · rename_i hob
        obtain ⟨a1, d1, f1, rfl, h1, _⟩ := rx.isObF hob
        refine ⟨rfl, fun z hz => ?_, W, [d], w, .cons (fp := []) rx .nil, rfl, ?_⟩
        · simp at hz
          exact ⟨_, _, _, hz, h1⟩
        · split at hp
          · rename_i i hi
            rw [hi]
            split at hp
            · rename_i hb
              intro v H' fp e1 r1 f1'
              cases r1
              exact ⟨i, rfl, ⟨hb.1, by omega⟩, hp (.int i) H' [] e1 (.int _) FpN.nil⟩
            · exact hp.elim
          · exact hp.elim
      · exact hp.elim
theorem noEx_lenO : ∀ a x r, gLenO c mm a ≠ .exn x r := fun a x r h => by
  unfold gLenO at h
  split at h
  · split at h
    · split at h <;> cases h
    · cases h
  · cases h
theorem de_lenO {fs : Env → Out (List D)} (S : SpecOk X.prog X.w X.K X.mg X.base cm c "__len__" k ps (spP cm 1 mm)) (hr : RoomG (k + 1) X.A) (hg : Gl X "len") (hm : X.mg "len" = none) (ha : DA X cm E false [e] fs) (he : starEach [e] X.env = (false, eval e X.env) :: starEach [] X.env := by rfl) (hpl : (backTo pos (starEach [] X.env)).any (·.1) = false := by rfl) : DE X cm E b (.Call (.Name "len" p) [e] [] pos) (cA (g1 (gLenO c mm)) fs) :=
  de_blt (call_lenO S hr) ra_lenO (noEx_g1 noEx_lenO) hg hm PySem.boot_len ha (by decide) (by decide) he hpl
end
end DL

namespace DL
variable [Tbs]
open PySem L2
open PyProof.Rows (envOfC)
section
variable {P : Program} {w : World} {K : PySem.W.Frag} {mg : Str → Option Value} {base : Heap} {cm : Cm} {c m x : Str} {k : Nat} {f : Addr} {fd : FuncData} {ps : List Str} {sp : Sp} {dvs : List V} {dd : List D}
theorem mk_meth (F : FnG P w K mg base k f fd ps sp) (M : Meth K (cm.cl c) m f) (hb : Binds K fd ps []) : MethOk P w K mg base cm c m k ps [] sp := ⟨f, fd, [], [], F, M, hb, .nil, fun _ _ => .nil⟩
theorem mk_methD (F : FnG P w K mg base k f fd ps sp) (M : Meth K (cm.cl c) m f) (hb : ∃ ds, Vals dvs ds ∧ Binds K fd ps ds) (hdd : ∀ W H, Reps cm W H dvs dd []) : MethOk P w K mg base cm c m k ps dd sp := by
  obtain ⟨ds, h1, h2⟩ := hb
  exact ⟨f, fd, dvs, ds, F, M, h2, h1, hdd⟩
theorem mk_make (F : FnG P w K mg base k f fd ps sp) (M : Mk K (cm.cl c) f) (hm : mg c = some (.ref (cm.cl c))) (hb : Binds K fd ps []) : MakeOk P w K mg base cm c k ps [] sp := ⟨f, fd, [], [], F, M, hm, hb, .nil, fun _ _ => .nil⟩
theorem call_bad {n : Nat} (hl : ps.length = n) (hm : mg x = some (.ref f)) (hk : PySem.W.keepIn K (.ref f) = true) (hb : Binds K fd ps []) : CallOk P w K mg base x k ps (spP cm n fun _ => .bad) :=
  ⟨f, fd, ⟨fun vs H Q E ⟨_, _, _, rp, h, _⟩ => by rw [rp.len, h, hl], fun _ _ _ _ _ _ _ _ _ _ _ _ _ ⟨_, _, _, _, _, z⟩ => z.elim⟩, hm, hk, hb⟩
theorem CallOk.mono {j : Nat} (C : CallOk P w K mg base x j ps sp) (h : j ≤ k) : CallOk P w K mg base x k ps sp := by
  obtain ⟨f, fd, h1, h2, h3, h4⟩ := C.ex
  exact ⟨f, fd, h1.mono h, h2, h3, h4⟩
end
section
variable {X : Cx} {cm : Cm} {E : XS} {b : Bool} {pos p apos : Pos} {ks : Nat → Bool} {a c e o : Expr} {es : List Expr} {x : Str} {k n : Nat} {fa fb : F}
def intsD : List D → Option (List Int)
  | [] => some []
  | .int i :: ds => (intsD ds).map (i :: ·)
  | _ :: _ => none
theorem intsD_reps {W : Addr → Prop} {H : Hp} : ∀ {vs : List V} {ds : List D} {fp : List Addr}, Reps cm W H vs ds fp → ∀ {xs : List Int}, intsD ds = some xs → vs = xs.map V.int
  | _, _, _, .nil, xs, h => by cases h; rfl
  | _, d :: ds, _, .cons hr r, xs, h => by
    cases d <;> first | (cases h; done) | skip
    unfold intsD at h
    obtain ⟨ys, h1, rfl⟩ := Option.map_eq_some_iff.mp h
    cases hr
    rw [intsD_reps r h1]
    rfl
def gSum : D → Out D
  | .lst _ xs => match intsD xs with
    | some ns => .ok (.int ns.sum)
    | none => .bad
  | _ => .bad
theorem noEx_sum : ∀ a x r, gSum a ≠ .exn x r := fun a x r h => by
  unfold gSum at h
  split at h
  · split at h <;> cases h
  · cases h
theorem ra_sum : RA cm b (rSum X.K) (g1 gSum) := fun W H vs ds w rs Q hp => by
  match ds, rs, hp with
  | [], _, hp => exact hp.elim
  | _ :: _ :: _, _, hp => exact hp.elim
  | [d], rs, hp =>
    generalize hf : ([] : List Addr) = fp at rs
    cases rs with
    | cons rx r0 =>
      obtain ⟨rfl, rfl⟩ := app_nil hf
      cases r0
      replace hp : Post (gSum d) (QP cm W b H Q) noX := hp
      unfold gSum at hp
      split at hp
      · rename_i o xs
        split at hp
        · rename_i ns hns
          generalize hf : ([] : List Addr) = fp at rx
          cases rx with
          | lstO h r => cases hf
          | lstF h nw r => exact ⟨_, ns, rfl, by rw [← intsD_reps r hns]; exact SqL.of h, hp (.int ns.sum) H [] (Ex.refl H) (.int _) FpN.nil⟩
        · exact hp.elim
      · exact hp.elim
theorem de_sum {fs : Env → Out (List D)} (hc : X.calm = true) (hg : Gl X "sum") (hm : X.mg "sum" = none) (ha : DA X cm E false [e] fs) (hv : bootBuiltins "sum" = some (.builtin "sum") := by decide +kernel) (he : starEach [e] X.env = (false, eval e X.env) :: starEach [] X.env := by rfl) (hpl : (backTo pos (starEach [] X.env)).any (·.1) = false := by rfl) : DE X cm E b (.Call (.Name "sum" p) [e] [] pos) (cA (g1 gSum) fs) :=
  de_blt (cr_sum hc) ra_sum (noEx_g1 noEx_sum) hg hm hv ha (by decide) (by decide) he hpl
open PySem.StrLaws in
theorem count_go (cs : List Nat) (c : Nat) : ∀ (m k : Nat) (st : Array Nat × Nat), k + m = cs.length + 1 → st.snd ≤ k → st.fst.size ≤ k → ((forIn (List.range' k m) st (occBody ⟨cs.toArray⟩ ⟨#[c]⟩ cs.length (cs.length + 1))).run.fst).size = st.fst.size + (cs.drop k).count c
  | 0, k, st, h, _, _ => by
    have : cs.drop k = [] := List.drop_eq_nil_of_le (by omega)
    rw [this]
    rfl
  | m + 1, k, st, h, h1, h2 => by
    have h1c : (⟨#[c]⟩ : Str).length = 1 := rfl
    have hso := subAt_one ⟨cs.toArray⟩ c k
    have hsl : (⟨cs.toArray⟩ : Str).length = cs.length := by simp [Str.length]
    by_cases hk : k < cs.length
    · rw [List.drop_eq_getElem_cons hk]
      by_cases hc : cs[k] = c
      · have hb : occBody ⟨cs.toArray⟩ ⟨#[c]⟩ cs.length (cs.length + 1) k st = pure (ForInStep.yield (st.fst.push k, k + 1)) := by
          unfold occBody
          rw [if_pos]
          · rfl
          · exact ⟨⟨⟨by omega, h1⟩, by rw [h1c]; omega⟩, (hso.mpr (by simp [hk, hc])).2⟩
        rw [List.range'_succ, List.forIn_cons, hb]
        show ((forIn (List.range' (k + 1) m) (st.fst.push k, k + 1) (occBody ⟨cs.toArray⟩ ⟨#[c]⟩ cs.length (cs.length + 1))).run.fst).size = _
        rw [count_go cs c m (k + 1) _ (by omega) (by show k + 1 ≤ k + 1; omega) (by simp; omega), List.count_cons]
        simp [hc]
        omega
      · have hb : occBody ⟨cs.toArray⟩ ⟨#[c]⟩ cs.length (cs.length + 1) k st = pure (ForInStep.yield (st.fst, st.snd)) := by
          unfold occBody
          rw [if_neg]
          rintro ⟨_, z⟩
          have := hso.mp ⟨by rw [h1c, hsl]; omega, z⟩
          simp [hk] at this
          exact hc this
        rw [List.range'_succ, List.forIn_cons, hb]
        show ((forIn (List.range' (k + 1) m) (st.fst, st.snd) (occBody ⟨cs.toArray⟩ ⟨#[c]⟩ cs.length (cs.length + 1))).run.fst).size = _
        rw [count_go cs c m (k + 1) _ (by omega) (by show st.snd ≤ k + 1; omega) (by show st.fst.size ≤ k + 1; omega), List.count_cons]
        simp [hc]
    · have : cs.drop k = [] := List.drop_eq_nil_of_le (by omega)
      rw [this]
      have hb : occBody ⟨cs.toArray⟩ ⟨#[c]⟩ cs.length (cs.length + 1) k st = pure (ForInStep.yield (st.fst, st.snd)) := by
        unfold occBody
        rw [if_neg]
        rintro ⟨⟨_, z⟩, _⟩
        rw [h1c] at z
        omega
      rw [List.range'_succ, List.forIn_cons, hb]
      show ((forIn (List.range' (k + 1) m) (st.fst, st.snd) (occBody ⟨cs.toArray⟩ ⟨#[c]⟩ cs.length (cs.length + 1))).run.fst).size = _
      rw [count_go cs c m (k + 1) _ (by omega) (by show st.snd ≤ k + 1; omega) (by show st.fst.size ≤ k + 1; omega)]
      rw [List.drop_eq_nil_of_le (by omega)]
theorem count_one (cs : List Nat) (c : Nat) : Txt.count ⟨cs.toArray⟩ ⟨[c].toArray⟩ = (cs.count c : Nat) := by
  show ((Builtin.Str.occurrences ⟨cs.toArray⟩ ⟨#[c]⟩ 0 (⟨cs.toArray⟩ : Str).length ((⟨cs.toArray⟩ : Str).length + 1)).length : Int) = _
  have hsl : (⟨cs.toArray⟩ : Str).length = cs.length := by simp [Str.length]
  rw [hsl, PySem.StrLaws.occ_eq, Array.length_toList]
  rw [show cs.length + 1 - 0 = cs.length + 1 from rfl, count_go cs c (cs.length + 1) 0 (#[], 0) (by omega) (by show (0 : Nat) ≤ 0; omega) (by show (0 : Nat) ≤ 0; omega)]
  simp
def gCnt : D → D → Out D := fun s l => match s, l with
  | .str cs, .str [c] => .ok (.int (cs.count c : Nat))
  | _, _ => .bad
theorem noEx_cnt : NoEx gCnt := fun a b x r h => by
  unfold gCnt at h
  split at h <;> cases h
theorem de_cnt {apos : Pos} (ha : DE X cm E false a fa) (hb : DE X cm E false c fb) (hs : starEach [c] X.env = [(false, eval c X.env)] := by rfl) (hbase : attributeBase a "count" X.env (eval a X.env) = eval a X.env := by rfl) (hline : (apos.endLine == pos.line) = true := by rfl) :
    DE X cm E b (.Call (.Attribute a "count" apos) [c] [] pos) (c2S gCnt fa fb) :=
  de_m1 (te := fun x _ => x) (fun ta tb h1 h3 => pe_m1 PySem.F.slot_str_count PySem.F.type_str_count mt_count h1 h3 hs hbase hline) (fun W H x y dx dy w rx ry Q hp => by
    unfold gCnt at hp
    split at hp
    · rename_i cs c
      cases rx
      cases ry
      refine ⟨_, _, rfl, rfl, ?_⟩
      rw [count_one]
      exact hp (.int _) H [] (Ex.refl H) (.int _) FpN.nil
    · exact hp.elim) noEx_cnt ha hb
theorem cr_range1 : CallR X (.type "range") (fun vs H Q => ∃ j, vs = [V.int j] ∧ ∀ p, H p = none → Q (.ref p) (upd H p (.rng 0 j))) := by
  intro pins s σ H vs us Q I r h
  obtain ⟨j, rfl, q⟩ := h
  obtain ⟨u1, rfl, rj⟩ := vals1 r
  obtain ⟨u, rfl⟩ := rj
  refine PySem.call_range_1 ⟨.ref s.heap.objs.size, upd H s.heap.objs.size (.rng 0 j), I.laid (t' := s.toks + 1 + 1) (fun b o e => Heap.get?_push_of_some _ e) (Nat.le_refl _) ?_, rfl, q _ (I.hok.fresh (Nat.le_refl _))⟩
  exact ⟨s.toks, u, s.toks + 1, Heap.get?_push_size _ rfl⟩
theorem call_len_rng : CallR X (.builtin "len") (fun vs H Q => ∃ a j, vs = [V.ref a] ∧ H a = some (.rng 0 j) ∧ 0 ≤ j ∧ j < 1000000000 ∧ Q (.int j) H) := by
  intro pins s σ H vs us Q I r h
  obtain ⟨a, j, rfl, ha, h0, h1, q⟩ := h
  obtain ⟨u1, rfl, rj⟩ := vals1 r
  cases rj
  obtain ⟨t, u, v, ho⟩ := (show ObjOk X.prog X.w H s.heap a (.rng 0 j) from I.hok a _ ha)
  have hs : Builtin.Range.rangeSize 0 j 1 = ((j.toNat : Nat) : Int) := by
    unfold Builtin.Range.rangeSize
    simp
    omega
  refine call_len_range (n := j.toNat) ho hs (by omega) ⟨.int j, H, I.tok _, ⟨_, by rw [Int.toNat_of_nonneg h0]⟩, q⟩
def gLenR : D → Out D
  | .int j => if 0 ≤ j ∧ j.toNat ≤ 1000000 then .ok (.int j) else .bad
  | _ => .bad
theorem de_lenR {p2 pos2 : Pos} (hg : Gl X "len") (hm : X.mg "len" = none) (hg2 : Gl X "range") (hm2 : X.mg "range" = none) (ha : DE X cm E false a fa) (hv : bootBuiltins "range" = some (.type "range") := by decide +kernel) (h1 : starEach [a] X.env = (false, eval a X.env) :: starEach [] X.env := by rfl) (h2 : (backTo pos2 (starEach [] X.env)).any (·.1) = false := by rfl)
    (h3 : starEach [.Call (.Name "range" p2) [a] [] pos2] X.env = (false, eval (.Call (.Name "range" p2) [a] [] pos2) X.env) :: starEach [] X.env := by rfl) (h4 : (backTo pos (starEach [] X.env)).any (·.1) = false := by rfl) :
    DE X cm E b (.Call (.Name "len" p) [.Call (.Name "range" p2) [a] [] pos2] [] pos) (c1 gLenR fa) := by
  obtain ⟨ta, q1, q2⟩ := ha.ex
  have k1 := pe_callTy (pos := pos2) (p := p2) (X := X) cr_range1 hg2 hm2 hv (pa_cons q1 pa_nil h1) (by decide) (by decide) h1 h2
  have k2 := pe_callB (pos := pos) (p := p) (X := X) call_len_rng hg hm PySem.boot_len (pa_cons k1 pa_nil h3) (by decide) (by decide) h3 h4
  refine ⟨_, k2, fun W H σ r w fr Q hp => q2 W H σ r w fr _ (hp.bind.mono (fun d q v H1 fp e1 r1 f1 => ?_) fun _ _ z => z)⟩
  unfold gLenR at q
  split at q
  · rename_i j
    split at q
    · rename_i hj
      cases r1
      exact ⟨j, rfl, fun pp hpp => ⟨pp, j, rfl, upd_same, hj.1, by omega, q (.int j) _ [] (e1.trans (Ex.new hpp)) (.int j) FpN.nil⟩⟩
    · exact q.elim
  · exact q.elim
def sL (n : Nat) (g : List D → Env → Out Env) : D → Env → Out Env := fun d r => match d with
  | .lst _ ds => if ds.length = n then g ds r else .bad
  | _ => .bad
end
end DL

namespace DL
variable [Tbs]
open PySem L2
structure NB (K : PySem.W.Frag) (C : Addr) : Prop where
  n1 : PySem.W.kitOne K (.type "NoneType") (.ref C) = some false
  n2 : PySem.W.kitOne K (.type "bool") (.ref C) = some false
  n3 : PySem.W.kitOne K (.type "int") (.ref C) = some false
  n4 : PySem.W.kitOne K (.type "str") (.ref C) = some false
  n5 : PySem.W.kitOne K (.type "list") (.ref C) = some false
  n6 : PySem.W.kitOne K (.type "tuple") (.ref C) = some false
  n7 : PySem.W.kitOne K (.type "dict") (.ref C) = some false
def gIsC (kit : Str → Option Bool) : D → Out D := fun d => match d with
  | .dK false _ _ => .bad
  | .dT false _ _ => .bad
  | .scr _ => .bad
  | .exc _ _ _ => .bad
  | .any => .bad
  | .dN _ _ _ => .bad
  | .obj _ c _ _ => match kit c with
    | some b => .ok (.bl b)
    | none => .bad
  | _ => .ok (.bl false)
section
variable {X : Cx} {cm : Cm} {E : XS} {b : Bool} {pos : Pos} {a c : Expr} {fa fb : F}
theorem Rep.tyC {kit : Str → Option Bool} {C : Addr} (hC : CmOk cm) (hb : NB cm.K C) (hkit : ∀ c b, kit c = some b → PySem.W.kitOne cm.K (.ref (cm.cl c)) (.ref C) = some b) {W : Addr → Prop} {H : Hp} {v : V} {d : D} (h : Rep cm W H v d []) {k : Bool} (hd : gIsC kit d = .ok (.bl k)) : ∃ ty, TyX cm.K H v ty ∧ PySem.W.kitOne cm.K ty (.ref C) = some k := by
  generalize hf : ([] : List Addr) = fp at h
  cases h with
  | non => cases hd; exact ⟨_, .base .non, hb.n1⟩
  | bl x => cases hd; exact ⟨_, .base (.bl x), hb.n2⟩
  | int x => cases hd; exact ⟨_, .base (.int x), hb.n3⟩
  | str x => cases hd; exact ⟨_, .base (.str _), hb.n4⟩
  | lstO h r => cases hf
  | lstF h n r => cases hd; exact ⟨_, .base (.lst h), hb.n5⟩
  | tup h n r => cases hd; exact ⟨_, .base (.tup h), hb.n6⟩
  | dKO h l r => cases hf
  | dKF h l n r => cases hd
  | dTO h l r => cases hf
  | dTF h l n r => cases hd
  | objO h l r => cases hf
  | objF h l n r =>
    rename_i c' fs vs ds
    have o := hC _ l.2
    replace hd : (match kit c' with | some b => Out.ok (D.bl b) | none => .bad) = .ok (.bl k) := hd
    cases hk : kit c' with
    | none => rw [hk] at hd; cases hd
    | some b' =>
      rw [hk] at hd
      cases hd
      exact ⟨_, .base (.ins h o.cl o.ha o.hn o.htk o.hm), hkit _ _ hk⟩
  | scrF h n => cases hd
  | scrK h => cases hd
  | exc => cases hd
  | any => cases hd
  | dNO h l k r => cases hf
  | dNF h l n k r => cases hd
end
end DL
namespace DL
variable [Tbs]
open PySem L2
def okT (l : List Str) (c : Str) : Prop := c ∈ l
theorem okT_mem {l : List Str} {c : Str} (h : l.contains c = true) : okT l c := by simpa [okT] using h
theorem okT_nil {P : Str → Prop} : ∀ c, okT [] c → P c := fun _ h => nomatch h
theorem okT_cons {P : Str → Prop} {a : Str} {l : List Str} (h : P a) (t : ∀ c, okT l c → P c) : ∀ c, okT (a :: l) c → P c := fun c m => by
  rcases List.mem_cons.mp m with rfl | m
  · exact h
  · exact t c m
theorem ob_mk {K : PySem.W.Frag} {C : Addr} (cl : Cls K C) (ha : PySem.W.findIn K (.ref C) "__class__" = some (some (.builtin "object.__class__"))) (hn : PySem.W.specialIn K (.builtin "object.__class__") "__get__" = some (some (.builtin "getset_descriptor.__get__"))) (htk : PySem.W.takesIn K (.builtin "object.__class__") = some true) (hm : PySem.W.mroIn K C (.type "object") = some true)
    (h1 : PySem.W.kitOne K (.ref C) (.type "int") = some false) (h2 : PySem.W.kitOne K (.ref C) (.type "bool") = some false) (h3 : PySem.W.kitOne K (.ref C) (.type "str") = some false) (h4 : PySem.W.kitOne K (.ref C) (.type "list") = some false) (h5 : PySem.W.kitOne K (.ref C) (.type "tuple") = some false) (h6 : PySem.W.kitOne K (.ref C) (.type "dict") = some false) : ObC K C :=
  ⟨cl, ha, hn, htk, hm, fun t => by cases t <;> assumption⟩
theorem binds_nil {K : PySem.W.Frag} {fd : FuncData} {ps : List Str} (h : ∃ ds, Vals [] ds ∧ Binds K fd ps ds) : Binds K fd ps [] := by
  obtain ⟨ds, h1, h2⟩ := h
  cases h1
  exact h2
end DL

namespace DL
variable [Tbs]
open PySem L2
inductive Step where
  | ix (j : Nat) | fld (f : Str) | key (k : List Key)
def getKD (k : List Key) : List (List Key) → List D → Option D
  | g :: gs, d :: ds => if g = k then some d else getKD k gs ds
  | _, _ => none
def getP : List Step → D → Option D
  | [], d => some d
  | .ix j :: π, .lst true ds => (ds[j]?).bind (getP π)
  | .ix j :: π, .tup ds => (ds[j]?).bind (getP π)
  | .fld f :: π, .obj true _ fs ds => (getFD f fs ds).bind (getP π)
  | .key k :: π, .dT true ks ds => (getKD k ks ds).bind (getP π)
  | _, _ => none
inductive ValP (H : Hp) : List Step → V → V → Prop
  | nil {v : V} : ValP H [] v v
  | ixL {p : Addr} {vs : List V} {j : Nat} {u w : V} {π : List Step} : H p = some (.lst vs) → vs[j]? = some u → ValP H π u w → ValP H (.ix j :: π) (.ref p) w
  | ixT {p : Addr} {vs : List V} {j : Nat} {u w : V} {π : List Step} : H p = some (.tup vs) → vs[j]? = some u → ValP H π u w → ValP H (.ix j :: π) (.ref p) w
  | fld {p C dx : Addr} {fvs : List (Str × V)} {f : Str} {u w : V} {π : List Step} : H p = some (.ins C dx fvs) → fvs.lookup f = some u → ValP H π u w → ValP H (.fld f :: π) (.ref p) w
  | key {p : Addr} {kvs : List (List Key × V)} {k : List Key} {u w : V} {π : List Step} : H p = some (.dT kvs) → valV kvs k = some u → ValP H π u w → ValP H (.key k :: π) (.ref p) w
theorem ValP.ex {H H' : Hp} (e : Ex H H') : ∀ {π : List Step} {v u : V}, ValP H π v u → ValP H' π v u
  | _, _, _, .nil => .nil
  | _, _, _, .ixL h q r => .ixL (e _ _ h) q (ValP.ex e r)
  | _, _, _, .ixT h q r => .ixT (e _ _ h) q (ValP.ex e r)
  | _, _, _, .fld h q r => .fld (e _ _ h) q (ValP.ex e r)
  | _, _, _, .key h q r => .key (e _ _ h) q (ValP.ex e r)
theorem ValP.one {H : Hp} : ∀ {π : List Step} {v u u' : V}, ValP H π v u → ValP H π v u' → u = u'
  | _, _, _, _, .nil, .nil => rfl
  | _, _, _, _, .ixL h q r, .ixL h' q' r' => by
    rw [h] at h'; cases h'
    rw [q] at q'; cases q'
    exact r.one r'
  | _, _, _, _, .ixL h q r, .ixT h' q' r' => by rw [h] at h'; cases h'
  | _, _, _, _, .ixT h q r, .ixL h' q' r' => by rw [h] at h'; cases h'
  | _, _, _, _, .ixT h q r, .ixT h' q' r' => by
    rw [h] at h'; cases h'
    rw [q] at q'; cases q'
    exact r.one r'
  | _, _, _, _, .fld h q r, .fld h' q' r' => by
    rw [h] at h'; cases h'
    rw [q] at q'; cases q'
    exact r.one r'
  | _, _, _, _, .key h q r, .key h' q' r' => by
    rw [h] at h'; cases h'
    rw [q] at q'; cases q'
    exact r.one r'
section
variable {cm : Cm}
end
end DL

namespace DL
variable [Tbs]
open PySem L2
section
variable {X : Cx} {cm : Cm} {E : XS} {b : Bool} {pos p apos : Pos} {ks : Nat → Bool} {a c e o : Expr} {es : List Expr} {fa : F}
structure XP (X : Cx) (cm : Cm) (e : Expr) (i : Nat) (fp : Env → Out (List Step)) : Prop where
  ex : ∃ te, PE X e te ∧ ∀ W0 H σ r fps d v0, Good cm W0 H σ r fps → r[i]? = some (some d) → σ[i]? = some (some v0) → ∀ π, fp r = .ok π → (∃ x, getP π d = some x) ∧ ∀ Q : VK, (∀ H' u, Ex H H' → ValP H' π v0 u → Q u H') → te σ H Q
end
end DL

namespace DL
variable [Tbs]
open PySem L2
section
variable {X : Cx} {cm : Cm} {E : XS} {b : Bool} {pos p apos : Pos} {ks : Nat → Bool} {a c e o : Expr} {es : List Expr} {fa : F}
def leT (x y : List Nat) : Bool := !decide (y < x)
theorem leT_iff {x y : List Nat} : leT x y = true ↔ x ≤ y := by
  unfold leT
  rw [Bool.not_eq_true', decide_eq_false_iff_not]
  exact List.not_lt
theorem perm_sorted_eq : ∀ {l1 l2 : List (List Nat)}, l1.Perm l2 → l1.Pairwise (· ≤ ·) → l2.Pairwise (· ≤ ·) → l1 = l2
  | [], l2, h, _, _ => (List.nil_perm.mp h).symm
  | x :: l1, [], h, _, _ => absurd h.length_eq (by simp)
  | x :: l1, y :: l2, h, h1, h2 => by
    have a1 := List.pairwise_cons.mp h1
    have a2 := List.pairwise_cons.mp h2
    have hx : x ∈ y :: l2 := h.mem_iff.mp (List.mem_cons_self ..)
    have hy : y ∈ x :: l1 := h.mem_iff.mpr (List.mem_cons_self ..)
    have e : x = y := by
      rcases List.mem_cons.mp hx with e | m
      · exact e
      · rcases List.mem_cons.mp hy with e | m'
        · exact e.symm
        · exact List.le_antisymm (a1.1 y m') (a2.1 x m)
    subst e
    rw [perm_sorted_eq (List.Perm.cons_inv h) a1.2 a2.2]
def srtT (xs : List (List Nat)) : List (List Nat) := xs.mergeSort leT
theorem srtT_perm (xs : List (List Nat)) : (srtT xs).Perm xs := List.mergeSort_perm xs leT
theorem srtT_sorted (xs : List (List Nat)) : (srtT xs).Pairwise (· ≤ ·) := by
  have := List.pairwise_mergeSort (le := leT) (fun a b c h1 h2 => leT_iff.mpr (List.le_trans (leT_iff.mp h1) (leT_iff.mp h2))) (fun a b => by
    rw [Bool.or_eq_true, leT_iff, leT_iff]
    exact List.le_total a b) xs
  exact this.imp fun h => leT_iff.mp h
def gSrt : D → Out D
  | .lst _ xs => match strsD xs with
    | some ys => if ys.length < 64 then .ok (.lst true ((srtT ys).map .str)) else .bad
    | none => .bad
  | _ => .bad
theorem noEx_srt : ∀ a x r, gSrt a ≠ .exn x r := fun a x r h => by
  unfold gSrt at h
  split at h
  · split at h
    · split at h <;> cases h
    · cases h
  · cases h
theorem rising_pw : ∀ (p : Str) (l : List Str), PyProof.Rows.risingS p l = true → (p :: l).Pairwise (fun a b => a.cps.toList ≤ b.cps.toList)
  | p, [], _ => by simp
  | p, x :: l, h => by
    unfold PyProof.Rows.risingS at h
    rw [Bool.and_eq_true] at h
    have ih := rising_pw x l h.2
    have hpx : p.cps.toList ≤ x.cps.toList := by
      have := h.1
      rw [PyProof.Rows.ltCps_eq, Bool.not_eq_true', decide_eq_false_iff_not] at this
      exact List.not_lt.mp this
    refine List.pairwise_cons.mpr ⟨fun y m => ?_, ih⟩
    rcases List.mem_cons.mp m with rfl | m
    · exact hpx
    · exact List.le_trans hpx ((List.pairwise_cons.mp ih).1 y m)
theorem ra_srt : RA cm true (rSortedS X.K) (g1 gSrt) := fun W H vs ds w rs Q hp => by
  match ds, rs, hp with
  | [], _, hp => exact hp.elim
  | _ :: _ :: _, _, hp => exact hp.elim
  | [d], rs, hp =>
    generalize hf : ([] : List Addr) = fp at rs
    cases rs with
    | cons rx r0 =>
      obtain ⟨rfl, rfl⟩ := app_nil hf
      cases r0
      replace hp : Post (gSrt d) (QP cm W true H Q) noX := hp
      unfold gSrt at hp
      split at hp
      · rename_i o xs
        split at hp
        · rename_i ys hys
          split at hp
          · rename_i hl
            generalize hf : ([] : List Addr) = fp at rx
            cases rx with
            | lstO h r => cases hf
            | lstF h nw r =>
              refine ⟨_, ys.map fun y => ⟨y.toArray⟩, rfl, by rw [← strsD_reps r hys]; exact SqL.of h, by simpa using hl, fun zs p hz hs hp0 => ?_⟩
              have e1 : zs.map (fun s => s.cps.toList) = srtT ys := by
                refine perm_sorted_eq ?_ ?_ (srtT_sorted ys)
                · refine (hz.map _).trans ?_
                  rw [List.map_map]
                  have : (ys.map ((fun s : Str => s.cps.toList) ∘ fun y => (⟨y.toArray⟩ : Str))) = ys := by
                    conv => rhs; rw [← List.map_id ys]
                    exact List.map_congr_left fun y _ => by simp
                  rw [this]
                  exact (srtT_perm ys).symm
                · rw [List.pairwise_map]
                  cases zs with
                  | nil => exact List.Pairwise.nil
                  | cons z zs => exact rising_pw z zs hs
              have e2 : zs.map V.str = (srtT ys).map fun y => V.str ⟨y.toArray⟩ := by
                rw [← e1, List.map_map]
                exact List.map_congr_left fun s _ => by simp
              rw [e2]
              refine hp (.ref p) _ [p] (Ex.new hp0) (.lstO (fp := []) upd_same ?_) (fpN_new hp0)
              have : ∀ l : List (List Nat), Reps cm (Wp W [p]) (upd H p (.lst ((srtT ys).map fun y => V.str ⟨y.toArray⟩))) (l.map fun y => V.str ⟨y.toArray⟩) (l.map D.str) [] := by
                intro l
                induction l with
                | nil => exact .nil
                | cons y l ih => exact .cons (fp := []) (.str y) ih
              exact this _
          · exact hp.elim
        · exact hp.elim
      · exact hp.elim
theorem de_srt {fs : Env → Out (List D)} (hg : Gl X "sorted") (hm : X.mg "sorted" = none) (ha : DA X cm E false [e] fs) (hv : bootBuiltins "sorted" = some (.builtin "sorted") := by decide +kernel) (he : starEach [e] X.env = (false, eval e X.env) :: starEach [] X.env := by rfl) (hpl : (backTo pos (starEach [] X.env)).any (·.1) = false := by rfl) : DE X cm E true (.Call (.Name "sorted" p) [e] [] pos) (cA (g1 gSrt) fs) :=
  de_blt cr_sortedS ra_srt (noEx_g1 noEx_srt) hg hm hv ha (by decide) (by decide) he hpl
end
end DL

namespace DL
variable [Tbs]
open PySem L2
section
variable {X : Cx} {cm : Cm} {E : XS} {b : Bool} {pos p apos : Pos} {a c e o : Expr} {fa fb : F}
def isLstB : D → Bool
  | .lst _ _ => true
  | _ => false
def c2L (g : D → D → Out D) (fa fb : F) : F := fun r => (fa r).bind fun a => if isLstB a = true then (fb r).bind fun b => g a b else .bad
end
end DL

namespace DL
variable [Tbs]
open PySem L2
section
variable {X : Cx} {cm : Cm} {E : XS} {b : Bool} {pos p apos : Pos} {a c e o : Expr} {fa fb : F}
def cCatN (fa fb : F) : F := fun r => (fa r).bind fun x => (fb r).bind fun y => match x, y with
  | .lst true xs, .lst true ys => if xs.length + ys.length ≤ 1000000 then .ok (.lst true (xs ++ ys)) else .bad
  | _, _ => .bad
end
end DL

namespace DL
variable [Tbs]
open PySem L2 PySem.Froz
def TxR (P : Program) (w : World) (h : Heap) (a : Addr) (l : List Str) : Prop := ∃ D : SD, h.get? a = some (sObj "set" D) ∧ TxOk P w D l ∧ l.Nodup ∧ Ris D.2.2.place.toList ∧ (w.params.followText "set-order" = true ∨ D.2.2.led = true)
section
variable {P : Program} {w : World} {A : Around} {E : Value → Shared → Prop} {s : Shared} {a : Addr} {l : List Str} {k : Str} {u : Tok}
theorem TxR.keep {h h' : Heap} (R : TxR P w h a l) (k : ∀ o, h.get? a = some o → h'.get? a = some o) : TxR P w h' a l := by
  obtain ⟨D, h1, r⟩ := R
  exact ⟨D, k _ h1, r⟩
end
end DL

namespace DL
variable [Tbs]
open PySem L2 PySem.Froz PyProof.Rows
section
variable {P : Program} {w : World} {A : Around} {E : Value → Shared → Prop} {s : Shared} {a : Addr} {l : List Str} {k : Str} {u : Tok}
end
section
variable {X : Cx}
end
end DL

namespace DL
variable [Tbs]
open PySem L2 PyProof.Rows
section
variable {X : Cx} {cm : Cm} {E : XS} {b : Bool} {pos p p2 q : Pos} {a : Expr} {fa : F}
end
end DL

namespace DL
variable [Tbs]
open PySem L2
section
variable {X : Cx} {cm : Cm} {E : XS} {b : Bool} {pos p : Pos} {k n : Nat} {c m : Str} {ps : List Str} {mm : List D → Out D} {a d e : Expr} {fa fb : F}
end
end DL

namespace DL
variable [Tbs]
open PySem L2
section
variable {X : Cx} {cm : Cm} {E : XS} {b : Bool} {pos p : Pos} {a c e : Expr} {rest : List Expr} {fa fb : F}
def cOrS (f g : F) : F := fun r => (f r).bind fun a => match a with
  | .str cs => if cs.length ≤ 1000000 then (if cs = [] then g r else .ok (.str cs)) else .bad
  | _ => .bad
def gStr : D → Out D
  | .str cs => .ok (.str cs)
  | .int i => if 0 ≤ i ∧ i.toNat ≤ 1000000 then .ok (.str (TL.numL i.toNat)) else .bad
  | _ => .bad
def jNil : Env → Out (List Nat) := fun _ => .ok []
def jCons (f : F) (g : Env → Out (List Nat)) : Env → Out (List Nat) := fun r => (f r).bind fun d => match d with
  | .str cs => if cs.length ≤ 30000 then (g r).bind fun ds => .ok (cs ++ ds) else .bad
  | _ => .bad
def cJn (g : Env → Out (List Nat)) : F := fun r => (g r).bind fun cs => if cs.length ≤ 1000000 then .ok (.str cs) else .bad
def JCon (cm : Cm) (E : XS) (ts : List TE) (g : Env → Out (List Nat)) : Prop := ∀ W H σ r, WOk cm W H → FRep cm W H σ r → ∀ (acc : List Nat) (Q : Str → Hp → Prop), acc.length + 30000 * ts.length ≤ 1000000 → Post (g r) (fun cs => ∀ H', Ex H H' → Q ⟨(acc ++ cs).toArray⟩ H') (XPost cm (E σ) W H) → tJs ts ⟨acc.toArray⟩ σ H Q
structure DJ (X : Cx) (cm : Cm) (E : XS) (es : List Expr) (g : Env → Out (List Nat)) : Prop where
  ex : ∃ ts, PJ X es ts ∧ JCon cm E ts g ∧ ts.length = es.length
end
section
variable {X : Cx} {cm : Cm} {E : XS} {pos p : Pos} {k n : Nat} {ps : List Str} {sp : Sp} {C f : Addr} {fd : FuncData} {ds : List Value} {dvs : List V} {x : Str}
end
end DL

namespace DL
variable [Tbs]
open PySem L2
section
variable {X : Cx} {cm : Cm} {E : XS} {b : Bool} {pos p apos : Pos} {a c e : Expr} {fa fb : F}
def gSplit : D → D → Out D := fun s l => match s, l with
  | .str cs, .str [k] => if cs.length ≤ 1000000 ∧ k < 256 then .ok (.lst true ((TL.spl [k] 0 [] cs).map .str)) else .bad
  | _, _ => .bad
def parD (cs : List Nat) (k : Nat) : D := match TL.par [k] [] cs with
  | some (x, y) => .tup [.str x, .str [k], .str y]
  | none => .tup [.str cs, .str [], .str []]
def gPart : D → D → Out D := fun s l => match s, l with
  | .str cs, .str [k] => if cs.length ≤ 1000000 then .ok (parD cs k) else .bad
  | _, _ => .bad
def gStarts : D → D → Out D := fun s l => match s, l with
  | .str cs, .str [k] => .ok (.bl (decide (cs.head? = some k)))
  | _, _ => .bad
def gIntS : D → Out D
  | .int i => .ok (.int i)
  | .bl k => .ok (.int (if k then 1 else 0))
  | .str cs => if (cs.all (fun c => decide (48 ≤ c) && decide (c ≤ 57))) = true ∧ cs ≠ [] ∧ cs.length ≤ 600 then .ok (.int (NumText.digitsVal cs : Nat)) else .bad
  | _ => .bad
end
end DL

namespace DL
variable [Tbs]
open PySem L2
section
variable {X : Cx} {cm : Cm} {E : XS} {pos : Pos} {ks : Nat → Bool}
end
end DL

namespace DL
variable [Tbs]
open PySem L2
structure ClsI (K : PySem.W.Frag) (C : Addr) : Prop where
  rd : PySem.W.readsIn K C (.type "type") = true
  ga : PySem.W.specialIn K (.ref C) "__getattribute__" = some (some (.builtin "type.__getattribute__"))
  vi : PySem.W.findCls K (.ref C) (.type "type") "__init__" = some (.val (.builtin "ValueError.__init__"))
section
variable {X : Cx} {o e : Expr} {es : List Expr} {ta : TA} {p1 p2 pos : Pos} {x : Str} {C : Addr}
end
def Hx (H : Hp) (a C dx : Addr) (fs : List (Str × V)) : Hp := upd (upd H dx (exd dx fs)) a (exo a C (some dx))
theorem Hx_a {H : Hp} {a C dx : Addr} {fs : List (Str × V)} : Hx H a C dx fs a = some (exo a C (some dx)) := upd_same
theorem Hx_d {H : Hp} {a C dx : Addr} {fs : List (Str × V)} (h : dx ≠ a) : Hx H a C dx fs dx = some (exd dx fs) := by unfold Hx; rw [upd_ne h, upd_same]
theorem Hx_end {H : Hp} {a C dx : Addr} {fs : List (Str × V)} {o : HO} (ha : H a = none) (h : dx ≠ a) : upd (del (Hx (upd H a o) a C dx fs) a) dx (.xd fs) = upd H dx (.xd fs) := by
  funext b
  by_cases h1 : b = dx
  · subst h1; rw [upd_same, upd_same]
  · rw [upd_ne h1, upd_ne h1]
    by_cases h2 : b = a
    · subst h2; rw [del_same, ha]
    · rw [del_ne h2]; unfold Hx; rw [upd_ne h2, upd_ne h1, upd_ne h2]
def spI (K : PySem.W.Frag) (ns : List Str) : Sp := fun vs H Q E => ∃ a C ws, vs = .ref a :: ws ∧ ws.length = ns.length ∧ OexC K C ∧ (∀ f ∈ ns, PySem.W.findIn K (.ref C) f = some none) ∧ H a = some (exo a C none) ∧ ∀ dx, H dx = none → dx ≠ a → Q .non (Hx H a C dx (ns.zip ws).reverse)
abbrev CXn : CXT := fun _ _ _ _ _ _ => False
section
variable {P : Program} {w : World} {K : PySem.W.Frag} {mg : Str → Option Value} {base : Heap} {qual : Str} {st : Stmt} {f : Addr} {fd : FuncData} {m f1 f2 f3 p1 p2 p3 : Str}
end
structure ExcF (P : Program) (w : World) (K : PySem.W.Frag) (mg : Str → Option Value) (base : Heap) (cm : Cm) (c : Str) (ns : List Str) : Prop where
  g : mg c = some (.ref (cm.cl c))
  o : OexC K (cm.cl c)
  na : ∀ f ∈ ns, PySem.W.findIn K (.ref (cm.cl c)) f = some none
  ex : ∃ fI fd ps, PySem.W.findIn K (.ref (cm.cl c)) "__init__" = some (some (.ref fI)) ∧ PySem.W.typeIn K (.ref fI) = some (.type "function") ∧ FnOk P w K mg base CXn 1 fI fd ps (spI K ns) ∧ Binds K fd ps []
def sRaiseF (c : Str) (ns : List Str) (h : Env → Out (List D × Env)) : FS := fun r => match h r with
  | .ok p => if p.1.length = ns.length ∧ ns.length ≤ 10 then .exn ⟨c, ns.reverse, (frzs p.1).reverse⟩ p.2 else .bad
  | .exn x r' => .exn x r'
  | .bad => .bad
section
variable {X : Cx} {cm : Cm} {E : XS} {pos p pos2 : Pos} {ks : Nat → Bool} {e : Expr} {es : List Expr}
theorem reps_rev {W : Addr → Prop} {H : Hp} : ∀ {vs : List V} {ds : List D}, Reps cm W H vs ds [] → Reps cm W H vs.reverse ds.reverse [] := fun h => h.rev rfl
end
end DL

namespace DL
variable [Tbs]
open PySem L2
theorem pe_xfK {X : Cx} {e : Expr} {te : TE} {pos : Pos} {n : Str} (he : PE X e te) (hb : attributeBase e n X.env (eval e X.env) = eval e X.env := by rfl) :
    PE X (.Attribute e n pos) (fun σ H Q => te σ H fun x H1 => ∃ (a C dd : Addr) (fs : List (Str × V)) (v : V), x = .ref a ∧ H1 a = some (ExK (.ref C) (some dd) a) ∧ XfC X.K C ∧ PySem.W.findIn X.K (.ref C) n = some none ∧ H1 dd = some (.xd fs) ∧ fs.lookup n = some v ∧ Q v H1) := by
  refine ⟨fun pins s σ H Q I h => ?_⟩
  refine attr_of hb (thn (he.run pins s σ H _ I h) fun u s1 hh => ?_)
  obtain ⟨x, H1, I1, rx, a, C, dd, fs, v, ex, ea, T, hno, ed, l, q⟩ := hh
  subst ex
  cases rx
  have ha : ObjOk X.prog X.w H1 s1.heap a (ExK (.ref C) (some dd) a) := I1.hok a _ ea
  obtain ⟨⟨oe, vs, h1, hz, hd⟩, _⟩ := ha
  have hx : ObjOk X.prog X.w H1 s1.heap dd (.xd fs) := I1.hok dd _ ed
  obtain ⟨mA, hns, hr⟩ := hx
  obtain ⟨od, ho, hl⟩ := lookIn_ns hns
  obtain ⟨u, hu, ru⟩ := RelO.some_of (v := v) (o := mA n) (by rw [← l]; exact hr n)
  have J : PySem.W.InstAt s1.heap a oe C (some od) := ⟨h1, hz.1, by unfold PySem.W.notCls; rw [hd] <;> rfl, by rw [hz.2]; exact ho⟩
  have fnd := PySem.W.findObj_own (od := od) T.hdC hno rfl (by rw [hl, hu])
  exact HandSPX.exc_get I1.kIn J T.ga T.gg T.exC fnd (handed_of ru) ⟨v, H1, I1.tok _, ru, q⟩
section
variable {X : Cx} {cm : Cm} {E : XS} {b : Bool} {pos : Pos} {e : Expr} {fa : F}
def gXf (n : Str) (kit : Str → Bool) : D → Out D
  | .exc c fs ds => if kit c = true then (match getFD n fs ds with | some d => .ok d | none => .bad) else .bad
  | _ => .bad
theorem de_xf {n : Str} {kit : Str → Bool} (hT : ∀ c, kit c = true → XfC X.K (cm.cl c) ∧ PySem.W.findIn X.K (.ref (cm.cl c)) n = some none) (ha : DE X cm E false e fa) (hb : attributeBase e n X.env (eval e X.env) = eval e X.env := by rfl) : DE X cm E b (.Attribute e n pos) (c1 (gXf n kit) fa) := by
  obtain ⟨te, h1, h2⟩ := ha.ex
  refine ⟨_, pe_xfK h1 hb, fun W H σ r w fr Q hp => h2 W H σ r w fr _ (hp.bind.mono (fun d q v H1 fp e1 r1 f1 => ?_) fun _ _ z => z)⟩
  cases (show fp = [] from f1)
  unfold gXf at q
  split at q
  · rename_i c fs ds
    split at q
    · rename_i hk
      split at q
      · rename_i d hd
        cases r1 with
        | exc hH nW hq hl rs =>
          rename_i p dx vs
          rcases hq with ⟨e0, _⟩ | ⟨a, rfl, hx, _⟩
          · subst e0
            unfold getFD at hd
            cases hd
          · obtain ⟨v, l1, l2⟩ := getFD_rep rs.ofP hd
            exact ⟨p, cm.cl c, a, _, v, rfl, hH, (hT c hk).1, (hT c hk).2, hx, l1, q v H1 [] e1 l2.toP FpN.nil⟩
      · exact q.elim
    · exact q.elim
  · exact q.elim
end
end DL

namespace DL
variable [Tbs]
open PySem L2
end DL

namespace DL
variable [Tbs]
open PySem L2
def keyD : D → Option Key
  | .int i => some (.inl i)
  | .str x => some (.inr ⟨x.toArray⟩)
  | _ => none
def keysD : List D → Option (List Key)
  | [] => some []
  | d :: ds => match keyD d, keysD ds with
    | some k, some ks => some (k :: ks)
    | _, _ => none
instance memK (k : List Key) (ks : List (List Key)) : Decidable (k ∈ ks) := if h : (ks.any fun g => decide (g = k)) = true then .isTrue (by
  obtain ⟨g, m, e⟩ := List.any_eq_true.mp h
  rw [decide_eq_true_eq] at e
  exact e ▸ m) else .isFalse fun m => h (List.any_eq_true.mpr ⟨k, m, by simp⟩)
section
variable {cm : Cm} {W : Addr → Prop} {H : Hp}
end
end DL

namespace DL
variable [Tbs]
open PySem L2
section
variable {X : Cx} {cm : Cm} {E : XS} {b : Bool} {pos : Pos} {a c : Expr} {fa fb : F}
end
end DL

namespace DL
variable [Tbs]
open PySem L2
section
variable {X : Cx} {cm : Cm} {E : XS} {b : Bool} {pos : Pos} {a c : Expr} {fa fb : F}
end
end DL

namespace DL
variable [Tbs]
open PySem L2
def Swp (H H' : Hp) (d : Addr) (kvs : List (List Key × V)) : Prop := (∀ a, a ≠ d → H' a = H a) ∧ ∃ od, (H d = some (.dT kvs) ∧ H' d = some (.frz od (.dT kvs))) ∨ (H d = some (.frz od (.dT kvs)) ∧ H' d = some (.dT kvs))
section
variable {cm : Cm} {W : Addr → Prop} {H H' : Hp} {d : Addr} {kvs : List (List Key × V)}
theorem Swp.at0 {a : Addr} {o : HO} (s : Swp H H' d kvs) (h : H a = some o) (n1 : o ≠ .dT kvs) (n2 : ∀ od, o ≠ .frz od (.dT kvs)) : H' a = some o := by
  rw [s.1 a]
  · exact h
  · rintro rfl
    obtain ⟨od, ⟨q, _⟩ | ⟨q, _⟩⟩ := s.2
    · rw [h] at q; exact n1 (Option.some.inj q)
    · rw [h] at q; exact n2 od (Option.some.inj q)
def isDT : HO → Bool
  | .dT _ => true
  | .frz _ (.dT _) => true
  | _ => false
theorem Swp.at {a : Addr} {o : HO} (s : Swp H H' d kvs) (h : H a = some o) (n : isDT o = false) : H' a = some o := s.at0 h (fun z => by rw [z] at n; cases n) fun od z => by rw [z] at n; cases n
theorem Swp.tb {T : List (Addr × Str)} (s : Swp H H' d kvs) (t : LamX.Tabs T H) : LamX.Tabs T H' := fun q hq => by
  obtain ⟨ps, h1, h2, h3⟩ := t q hq
  refine ⟨ps, s.at h1 rfl, h2, fun pos cv hc => ?_⟩
  obtain ⟨c, e1, e2⟩ := h3 pos cv hc
  exact ⟨c, e1, s.at e2 rfl⟩
theorem Swp.off {a : Addr} {o : HO} (s : Swp H H' d kvs) (h : H a = some o) (n : d ≠ a) : H' a = some o := (s.1 a (Ne.symm n)).trans h
theorem Swp.rd {p : Addr} {k2 : List (List Key × V)} (s : Swp H H' d kvs) (h : Rd H p (.dT k2)) : Rd H' p (.dT k2) := by
  by_cases e : p = d
  · obtain ⟨od, ⟨q, q'⟩ | ⟨q, q'⟩⟩ := s.2
    · rw [← e] at q q'
      rcases h with h | ⟨o, h⟩
      · rw [h] at q; cases q; exact .inr ⟨od, q'⟩
      · rw [h] at q; cases q
    · rw [← e] at q q'
      rcases h with h | ⟨o, h⟩
      · rw [h] at q; cases q
      · rw [h] at q; cases q; exact .inl q'
  · exact h.imp (fun h => (s.1 p e).trans h) fun ⟨o, h⟩ => ⟨o, (s.1 p e).trans h⟩
mutual
theorem Rep.swap (s : Swp H H' d kvs) : ∀ {v : V} {x : D} {fp : List Addr}, Rep cm W H v x fp → d ∉ fp → Rep cm W H' v x fp
  | _, _, _, .non, _ => .non
  | _, _, _, .bl b, _ => .bl b
  | _, _, _, .int i, _ => .int i
  | _, _, _, .str x, _ => .str x
  | _, _, _, .lstO h r, m => .lstO (s.at h rfl) (Reps.swap s r fun z => m (List.mem_cons_of_mem _ z))
  | _, _, _, .lstF h n r, m => .lstF (s.at h rfl) n (Reps.swap s r m)
  | _, _, _, .tup h n r, m => .tup (s.at h rfl) n (Reps.swap s r m)
  | _, _, _, .dKO h l r, m => .dKO (s.at h rfl) l (Reps.swap s r fun z => m (List.mem_cons_of_mem _ z))
  | _, _, _, .dKF h l n r, m => .dKF (h.imp (fun h => s.at h rfl) fun ⟨o, h⟩ => ⟨o, s.at h rfl⟩) l n (Reps.swap s r m)
  | _, _, _, .dTO h l r, m => .dTO (s.off h fun z => m (z ▸ List.mem_cons_self ..)) l (Reps.swap s r fun z => m (List.mem_cons_of_mem _ z))
  | _, _, _, .dTF h l n r, m => .dTF (s.rd h) l n (Reps.swap s r m)
  | _, _, _, .objO h l r, m => .objO (s.at h rfl) l (Reps.swap s r fun z => m (List.mem_cons_of_mem _ z))
  | _, _, _, .objF h l n r, m => .objF (s.at h rfl) l n (Reps.swap s r m)
  | _, _, _, .scrF h n, m => .scrF (s.at h rfl) n
  | _, _, _, .scrK h, m => .scrK h
  | _, _, _, .exc h n q l r, m => .exc (s.at h rfl) n (q.imp id fun ⟨a, h1, h2, h3⟩ => ⟨a, h1, s.at h2 rfl, h3⟩) l (Reps.swap s r m)
  | _, _, _, .dNO h l k r, m => .dNO (s.at h rfl) l (fun x q => NK.cg (fun a o z => s.at z rfl) (k x q)) (Reps.swap s r fun z => m (List.mem_cons_of_mem _ z))
  | _, _, _, .dNF h l n k r, m => .dNF (s.at h rfl) l n (fun x q => NK.cg (fun a o z => s.at z rfl) (k x q)) (Reps.swap s r m)
  | _, _, _, .any, _ => .any
theorem Reps.swap (s : Swp H H' d kvs) : ∀ {vs : List V} {xs : List D} {fp : List Addr}, Reps cm W H vs xs fp → d ∉ fp → Reps cm W H' vs xs fp
  | _, _, _, .nil, _ => .nil
  | _, _, _, .cons h r, m => .cons (Rep.swap s h fun z => m (List.mem_append_left _ z)) (Reps.swap s r fun z => m (List.mem_append_right _ z))
end
theorem Good.swap {W0 : Addr → Prop} {σ : St} {r : Env} {fps : Fps} (g : Good cm W0 H σ r fps) (s : Swp H H' d kvs) (h1 : ¬ W0 d) (h2 : ∀ j, d ∉ fps j) : Good cm W0 H' σ r fps where
  len := g.len
  w0 := ⟨fun a z => by
    obtain ⟨o, q, m⟩ := g.w0.1 a z
    exact ⟨o, by rw [s.1 a fun e => h1 (e ▸ z)]; exact q, m⟩, s.tb g.w0.2⟩
  sl := fun i x hx => by
    obtain ⟨v, q1, q2⟩ := g.sl i x hx
    exact ⟨v, q1, q2.swap s (h2 i)⟩
  nd := g.nd
  dj := g.dj
  nw := g.nw
  mu := fun i a m => by
    obtain ⟨o, q, mo⟩ := g.mu i a m
    exact ⟨o, by rw [s.1 a fun e => h2 i (e ▸ m)]; exact q, mo⟩
end
end DL

namespace DL
variable [Tbs]
open PySem L2
section
variable {X : Cx} {cm : Cm} {E : XS} {pos : Pos} {ks : Nat → Bool} {tg : Expr} {g : FS}
end
section
variable {cm : Cm} {W : Addr → Prop} {H : Hp}
end
section
variable {X : Cx} {cm : Cm} {E : XS} {pos : Pos} {ks0 : Nat → Bool} {tg : Expr} {g : FS}
end
end DL

namespace DL
variable [Tbs]
open PySem L2 PyProof.Rows PySem.Spec
theorem RoomG.u1 {k : Nat} {A : Around} (r : RoomG k A) : A.units + 1 < cLine := Nat.lt_of_le_of_lt (by omega) r.units
theorem RoomG.u2 {k : Nat} {A : Around} (r : RoomG k A) : A.units + 2 < cLine := Nat.lt_of_le_of_lt (by omega) r.units
section
variable {X : Cx}
end
end DL

namespace DL
variable [Tbs]
open PySem L2 L2.DX PySem.Spec
section
variable {prog : Program} {w : World} {A : Around} {E : Value → Shared → Prop} {s : Shared} {r d : Addr} {es : Array DictEntry} {ep : Nat}
end
section
variable {X : Cx}
end
end DL

namespace DL
variable [Tbs]
open PySem L2 L2.DX PySem.Spec
section
variable {X : Cx}
end
section
variable {X : Cx} {cm : Cm} {E : XS} {b : Bool} {pos p p2 q : Pos} {a : Expr} {fa : F}
end
section
variable {cm : Cm} {W : Addr → Prop} {H : Hp}
end
section
variable {X : Cx} {cm : Cm} {E : XS} {b : Bool} {pos p p2 q : Pos} {a : Expr} {fa : F}
end
section
variable {X : Cx} {cm : Cm} {E : XS} {b : Bool} {pos p p2 q : Pos} {a : Expr} {fa : F}
end
end DL

namespace DL
variable [Tbs]
open PySem L2 PySem.Spec
section
variable {X : Cx} {cm : Cm} {E : XS} {k n : Nat} {c : Str} {ps : List Str} {mm : List D → Out D}
end
end DL

namespace DL
variable [Tbs]
open PySem L2 PySem.Spec
section
variable {X : Cx} {cm : Cm} {E : XS} {k n : Nat} {c : Str} {ps : List Str} {mm : List D → Out D}
end
section
variable {cm : Cm} {b : Bool} {c : Str} {mm : List D → Out D}
theorem Reps.at1 {W : Addr → Prop} {H : Hp} : ∀ {vs : List V} {ds : List D} {fp : List Addr} {j : Nat} {v : V} {d : D}, Reps cm W H vs ds fp → fp = [] → vs[j]? = some v → ds[j]? = some d → Rep cm W H v d []
  | _, _, _, j, _, _, .nil, _, h, _ => by simp at h
  | _, _, _, 0, v, d, .cons r rs, e, h1, h2 => by
    obtain ⟨rfl, rfl⟩ := app_nil e.symm
    cases h1
    cases h2
    exact r
  | _, _, _, j + 1, v, d, .cons r rs, e, h1, h2 => by
    obtain ⟨rfl, rfl⟩ := app_nil e.symm
    exact Reps.at1 rs rfl (by simpa using h1) (by simpa using h2)
end
end DL

namespace DL
variable [Tbs]
open PySem L2
open PyProof.Rows (envOfC)
open LamX (CodeO TabB LamS lamEnv lamCx)
abbrev lamQ (X : Cx) : Str := X.env.qual ++ "<lambda>"
theorem nTb {c : Addr} {q : Str} : isTb (CodeO c q) = false := isTb_no fun ps => LamX.codeO_ne ps
structure LamB (mg : Str → Option Value) (base : Heap) (cd : Value) (q : Str) : Prop where
  ex : ∃ c P, cd = .ref c ∧ TabB base mg c P ∧ (P, q) ∈ Tbs.T ∧ ∀ p ∈ Tbs.T, p.1 = P → p.2 = q
theorem lam_mk {X : Cx} {pins : List (Addr × Obj)} {σ : St} {H : Hp} {s : Shared} {par : Arguments} {bd : Expr} {sc : Scope} {ps : Pos} {F G : Value → Shared → Prop} (J : Inv X pins σ H s) (B : LamB X.mg X.base X.env.code (lamQ X)) (tH : LamX.Tabs Tbs.T H)
    (dz : defaultsOf par X.env = ([], [])) (fz : ∀ z ∈ sc.names, z.2 = .free → ∃ u, X.env.cells.lookup z.1 = some u)
    (k : ∀ (f d : Addr) (pm ct : Value) (H1 : Hp) (s1 : Shared), Inv X pins σ H1 s1 → Ex H H1 →
      s1.heap.get? f = some (PySem.W.kla_obj "<lambda>" (lamQ X) par bd sc (cloFrom X.env.cells sc.names []) pm d ct) → H1 f = none → f ∉ frs X.stack → H1 d = some (CodeO d (lamQ X)) → s.heap.objs.size ≤ f → F (.ref f) s1) :
    wpAny (model X.prog X.w) X.A (eval (.Lambda par bd sc ps) X.env) F G s := by
  obtain ⟨c, P, hcd, TB, mT, uT⟩ := B.ex
  obtain ⟨tb, e1, e2, e3⟩ := tH _ mT
  apply PySem.W.kla_eval dz
  have g1 : s.heap.BuiltinsAt X.mg P := TB.bm.keeps J.bk
  have g2 : s.heap.get? P = some { cls := .none, data := .fields tb } := J.hok P _ e1
  have nf : ∀ f : Addr, s.heap.objs.size ≤ f → f ∉ frs X.stack := by
    intro f hf m
    rcases List.mem_cons.mp (J.stkSub _ m) with z | z
    · have lt := J.lt
      rw [← z] at lt
      exact absurd lt (Nat.not_lt.mpr hf)
    · exact J.nofs hf z
  cases am : codeAmong ps tb.toList with
  | some u =>
    obtain ⟨d, rfl, e4⟩ := e3 ps u am
    apply PySem.W.kla_makeFunctionHit (mg := X.mg) (c := c) (P := P) (ps := tb) (closure_ok fz) J.ok.glob (J.mod.glob.keeps J.bk) hcd (TB.code.keeps J.bk) g2 e2 am g1
    intro ct h1 tk q1 q2
    exact k _ d _ ct H _ (J.kept fun b o z => Heap.get?_push_of_some _ (q1 b o z)) (Ex.refl H) (Heap.get?_push_size _ rfl) (J.hok.fresh q2) (nf _ q2) e4 q2
  | none =>
    apply PySem.W.kla_makeFunction (mg := X.mg) (c := c) (P := P) (ps := tb) (closure_ok fz) J.ok.glob (J.mod.glob.keeps J.bk) hcd (TB.code.keeps J.bk) g2 e2 am TB.gP g1
    intro d ct h1 tk q1 q2 q3 q4 q5
    obtain ⟨d', oc, us, t, ed, q6, q7, q8⟩ := q4
    cases ed
    have sz : s.heap.objs.size ≤ h1.objs.size := Nat.le_trans q2 (Nat.le_of_lt q3)
    have nD : H d = none := J.hok.fresh q2
    have J1 := LamX.inv_table (t' := tk) (more := #[rawInt ps.line, rawInt ps.col, .ref d]) (h' := h1.push (PySem.W.kla_obj "<lambda>" (lamQ X) par bd sc (cloFrom X.env.cells sc.names []) ((X.mg "__name__").getD .none) d ct)) J e1
      (fun b o hb z => Heap.get?_push_of_some _ (q1 b o hb z)) (Heap.get?_push_of_some _ q5) q2 ⟨oc, us, t, Heap.get?_push_of_some _ q6, q7, q8⟩
    have at0 : ∀ b o, H b = some o → b ≠ P → upd (upd H P (.tbl (tb ++ #[rawInt ps.line, rawInt ps.col, .ref d]))) d (CodeO d (lamQ X)) b = some o := fun b o z n => by
      rw [upd_ne (ne_of_none z nD), upd_ne n]; exact z
    have atP : upd (upd H P (.tbl (tb ++ #[rawInt ps.line, rawInt ps.col, .ref d]))) d (CodeO d (lamQ X)) P = some (.tbl (tb ++ #[rawInt ps.line, rawInt ps.col, .ref d])) := by
      rw [upd_ne (ne_of_none e1 nD), upd_same]
    have noP : ∀ b o, H b = some o → isTb o = false → b ≠ P := fun b o z n y => by
      rw [y, e1] at z
      cases z
      cases n
    have code : ∀ (a : Addr) (q : Str), H a = some (CodeO a q) → upd (upd H P (.tbl (tb ++ #[rawInt ps.line, rawInt ps.col, .ref d]))) d (CodeO d (lamQ X)) a = some (CodeO a q) := fun a q z => at0 a _ z (noP a _ z nTb)
    have ex : Ex H (upd (upd H P (.tbl (tb ++ #[rawInt ps.line, rawInt ps.col, .ref d]))) d (CodeO d (lamQ X))) := by
      refine ⟨fun a o z n => at0 a o z (noP a o z n), fun a z => ?_, fun t0 p hp => ?_⟩
      · cases w : H a with
        | none => rfl
        | some o =>
          by_cases y : a = P
          · rw [y, atP] at z; cases z
          · rw [at0 a o w y] at z; cases z
      · by_cases y : p.1 = P
        · rw [uT p hp y, y]
          refine ⟨_, atP, ?_, fun p' cv z => ?_⟩
          · have : (tb ++ #[rawInt ps.line, rawInt ps.col, .ref d]).toList = tb.toList ++ [rawInt ps.line, rawInt ps.col, .ref d] := by simp
            rw [this]
            exact PySem.TriplesOk_snoc _ _ _ _ e2
          · have : (tb ++ #[rawInt ps.line, rawInt ps.col, .ref d]).toList = tb.toList ++ [rawInt ps.line, rawInt ps.col, .ref d] := by simp
            rw [this] at z
            rcases LamX.among_app _ e2 z with z | z
            · obtain ⟨a, y1, y2⟩ := e3 p' cv z
              exact ⟨a, y1, code a _ y2⟩
            · exact ⟨d, z, upd_same⟩
        · obtain ⟨tb', a1, a2, a3⟩ := t0 p hp
          refine ⟨tb', at0 _ _ a1 y, a2, fun p' cv z => ?_⟩
          obtain ⟨a, y1, y2⟩ := a3 p' cv z
          exact ⟨a, y1, code a _ y2⟩
    refine k h1.objs.size d _ ct _ _ J1 ex (Heap.get?_push_size _ rfl) ?_ (nf _ sz) upd_same sz
    have n1 : h1.objs.size ≠ d := Nat.ne_of_gt q3
    have n2 : h1.objs.size ≠ P := Nat.ne_of_gt (Nat.lt_of_lt_of_le (Heap.lt_size g2) sz)
    rw [upd_ne n1, upd_ne n2]
    exact J.hok.fresh sz
def Acts (P : Program) (w : World) (K : PySem.W.Frag) (mg : Str → Option Value) (base : Heap) (A : Around) (outer : List PySem.Env) (s : Shared) (H : Hp) (f d : Addr) (q : Str) (j : Nat) (tl : XK → Hp → VK → Prop) : Prop :=
  ∀ (N : List Str) (x : Str) (sg : Scope) (g : Addr) (cdg : Value) (Eg : XK) (i : Nat) (a : Str) (pn : List (Addr × Obj)) (xe : Value → Shared → Prop) (E : XS) (p1 p2 : Pos), N[i]? = some a → Vis sg a → (a == ("__debug__" : Str)) = false → (a == ("__classdict__" : Str)) = false →
    RoomG (j + 1) (A.deeper (envOfC x sg s.heap.objs.size g cdg)) → TakesG ((cxB P w K mg base N x sg g cdg A outer s H Eg).tr pn xe) E →
    PE ((cxB P w K mg base N x sg g cdg A outer s H Eg).tr pn xe) (.Call (.Name a p1) [] [] p2) (fun σ H' Q => σ[i]? = some (some (.ref f)) ∧ H' d = some (CodeO d q) ∧ tl (E σ) H' Q)
theorem acts_mk {X : Cx} {pins : List (Addr × Obj)} {σ : St} {H : Hp} {s : Shared} {f d : Addr} {pm ct : Value} {par : Arguments} {bd : Expr} {sc : Scope} {j : Nat} {t : XK → TE}
    (J : Inv X pins σ H s) (L : LamS X.env.scope sc) (hf : s.heap.get? f = some (PySem.W.kla_obj "<lambda>" (lamQ X) par bd sc (cloFrom X.env.cells sc.names []) pm d ct)) (hn : H f = none) (hr : f ∉ frs X.stack)
    (bz : ∀ (q : Str) (cl : List (Str × Addr)) (pm cv ctv : Value), bindArgs (PySem.W.kla_fn "<lambda>" q par bd sc cl pm cv ctv) ⟨[], []⟩ = pure [])
    (hb : ∀ (A : Around) (outer : List PySem.Env) (s : Shared) (H : Hp) (E : XK), RoomG j (A.deeper (lamEnv X sc s.heap.objs.size f d)) → PE (lamCx X A outer s H E sc f d) bd (t E)) :
    Acts X.prog X.w X.K X.mg X.base X.A X.stack s H f d (lamQ X) j (fun E H' Q => t E σ H' Q) := by
  intro N x sg g cdg Eg i a pn xe E p1 p2 hN hv hd1 hd2 rm tk
  constructor
  rintro pinsZ sZ σZ HZ Q IZ ⟨z1, z2, z3⟩
  apply wpAny_Call_Name_kw
  apply thn ((pe_var (pos := p1) (i := i) hN hv hd1 hd2).run pinsZ sZ σZ HZ (fun v H1 => v = .ref f ∧ H1 = HZ) IZ ⟨.ref f, z1, rfl, rfl⟩)
  rintro u s1 ⟨v, H1, I1, r1, rfl, rfl⟩
  cases (show u = Value.ref f from r1)
  have of1 : s1.heap.get? f = some (PySem.W.kla_obj "<lambda>" (lamQ X) par bd sc (cloFrom X.env.cells sc.names []) pm d ct) := I1.base.keep f _ hf hn hr fun z => nomatch (show f ∈ ([] : List Addr) from z)
  apply PySem.W.callWith_F0 ⟨_, _, _, _, of1⟩
  obtain ⟨⟨oc, us, tt, k1, k2, k3⟩, _, _⟩ := I1.hok d _ z2
  have un : Un (frs X.stack) [] H H1 s.heap s1.heap := I1.base
  apply wpAny_call
  have pass : PassesAt (L2.CX X.prog X.w) ((cxB X.prog X.w X.K X.mg X.base N x sg g cdg X.A X.stack s H Eg).tr pn xe) σZ (E σZ) := passAt tk σZ
  refine codeAny_mono (R := CR (L2.CX X.prog X.w) (envOfC x sg s.heap.objs.size g cdg :: X.stack) X.prog X.w H1 s1 Q (E σZ)) ?_ ?_
  · apply PySem.W.kla_callFunE rm.rm.depth of1 rfl L.co L.gen rfl ⟨d, oc, us, tt, rfl, k1, k2, k3⟩
    rw [show ([] ++ [] : List Value) = [] from rfl, bz]
    apply wpAny_pure
    apply wpAny_newFunctionEnv (fun y hy => (L.own y hy).2) (fun y hy => absurd hy List.not_mem_nil) _ L.kind
    intro h₁ hns hsb
    refine ⟨I1.nolimit.fresh _ hsb, ?_⟩
    have kp : ∀ b o, s1.heap.get? b = some o → h₁.get? b = some o := fun b o e => hsb.extBut b o (Nat.ne_of_lt (Heap.lt_size e)) (Heap.get?_push_of_some _ e)
    have JL := LamX.lam_start2 (E := E σZ) (f := f) (c' := d) (tk := s1.toks + ([] : List (Str × Value)).length) J L I1.env0 rm.rm.hd un hns kp
    apply PySem.W.kla_codeExpr
    refine wpAny_mono ((hb _ _ s1 H1 (E σZ) (rm.down _)).run [] _ _ H1 Q JL z3) ?_ fun _ _ z => z
    rintro v' s' ⟨w', H', J', rv, q⟩
    exact ⟨w', H', J'.os, J'.bare, J'.base, J'.hok, rv, q⟩
  · intro r s' hq
    match r, hq with
    | .error e, hq => exact pass pinsZ H1 s1 e s' I1 hq
    | .ok (.ret u), hq => exact I1.after hq
structure KindOk (P : Program) (w : World) (K : PySem.W.Frag) (mg : Str → Option Value) (base : Heap) (cm : Cm) (x : Str) (k : Nat) (m : Out D → Out D) : Prop where
  ex : ∃ g, mg x = some (.ref g) ∧ PySem.W.keepIn K (.ref g) = true ∧ ∀ (A : Around) (outer : List PySem.Env) (s : Shared) (H : Hp) (f d : Addr) (q : Str) (j : Nat) (tl : XK → Hp → VK → Prop) (o : Out D) (W : Addr → Prop) (Q : VK) (E : XK), k ≤ j + 2 → RoomG (j + 2) A → Env0 P w K mg base A outer s H → WOk cm W H →
    Acts P w K mg base A outer s H f d q j tl → H d = some (CodeO d q) → (∀ H', Ex H H' → ∀ (E : XK) (Q : VK), Post o (QP cm W true H' Q) (XPost cm E W H') → tl E H' Q) → Post (m o) (QP cm W true H Q) (XPost cm E W H) →
    codeAny (model P w) A (.call (.ref g) ⟨[.ref f], []⟩) (CR (L2.CX P w) outer P w H s Q E) s
def cLam (m : Out D → Out D) (fb : F) : F := fun r => m (fb r)
theorem pxL {X : Cx} {A : Around} {outer : List PySem.Env} {s : Shared} {H : Hp} {E : XK} {sc : Scope} {f d : Addr} : PassG (lamCx X A outer s H E sc f d) (fun _ => E) :=
  fun σ => passAt (X := lamCx X A outer s H E sc f d) (W := fun cls d _ H => E cls d H) (takes_of rfl rfl rfl rfl) σ
theorem de_lam {X : Cx} {cm : Cm} {E : XS} {x : Str} {k : Nat} (j : Nat) {m : Out D → Out D} {fb : F} {par : Arguments} {bd : Expr} {sc : Scope} {p lp pos : Pos} (C : KindOk X.prog X.w X.K X.mg X.base cm x k m) (hr : RoomG (j + 2) X.A) (B : LamB X.mg X.base X.env.code (lamQ X)) (hx : PassG X E) (L : LamS X.env.scope sc)
    (hb : ∀ (A : Around) (outer : List PySem.Env) (s : Shared) (H : Hp) (E' : XK) (f d : Addr), RoomG j (A.deeper (lamEnv X sc s.heap.objs.size f d)) → DE (lamCx X A outer s H E' sc f d) cm (fun _ => E') true bd fb)
    (hk : k ≤ j + 2 := by decide) (hg : Gl X x := by rfl) (dz : defaultsOf par X.env = ([], []) := by rfl) (bz : ∀ (q : Str) (cl : List (Str × Addr)) (pm cv ctv : Value), bindArgs (PySem.W.kla_fn "<lambda>" q par bd sc cl pm cv ctv) ⟨[], []⟩ = pure [] := by intros; rfl) (hdb : (x == ("__debug__" : Str)) = false := by decide) :
    DE X cm E true (.Call (.Name x p) [.Lambda par bd sc lp] [] pos) (cLam m fb) := by
  obtain ⟨g, hm, hkp, run⟩ := C.ex
  refine ⟨fun σ H Q => ∃ W r, WOk cm W H ∧ FRep cm W H σ r ∧ Post (m (fb r)) (QP cm W true H Q) (XPost cm (E σ) W H), ⟨?_⟩, fun W H σ r w fr Q hp => ⟨W, r, w, fr, hp⟩⟩
  rintro pins s σ H Q I ⟨W, r, w, fr, hp⟩
  apply wpAny_Call_Name_kw
  refine ld_glob I hg hm ?_ hdb
  apply PySem.W.callWith_K (h₀ := X.base) I.ok.mod.kin hkp _ (by rfl) (by rfl)
  show wpAny _ _ (spliced ((false, eval (.Lambda par bd sc lp) X.env) :: backTo pos (starEach [] X.env))) _ _ s
  apply Calls.spliced_cons
  apply lam_mk I B w.2 dz (L.has I.ok)
  intro f d pm ct H1 s1 I1 e1 hf hn hfr hd _
  apply Calls.spliced_nil
  refine ⟨I1.kIn, ?_⟩
  apply wpAny_call
  have acts : Acts X.prog X.w X.K X.mg X.base X.A X.stack s1 H1 f d (lamQ X) j (fun E' H' Q' => teOf cm (fun _ => E') true fb σ H' Q') := acts_mk I1 L hf hn hfr bz fun A outer s H E' rm => (hb A outer s H E' f d rm).pe
  refine codeAny_mono (run X.A X.stack s1 H1 f d (lamQ X) j _ (fb r) W Q (E σ) hk hr I1.env0 (w.ex e1) acts hd (fun H' e' E' Q' q => ⟨W, r, (w.ex e1).ex e', (fr.ex e1).ex e', q⟩) (hp.mono (fun d q v H' fp e' rp fn => q v H' fp (e1.trans e') rp (fn.ex e1)) fun x rr z => XPost.ex e1 z)) ?_
  intro res s' hq
  match res, hq with
  | .error e, hq => exact hx σ pins H1 s1 e s' I1 hq
  | .ok (.ret u), hq => exact I1.after hq
end DL

namespace DL
variable [Tbs]
open PySem L2
open PyProof.Rows (envOfC)
open LamX (CodeO TabB)
def finS : SO → Out D
  | .nx _ => .ok .non
  | .rt d _ => .ok d
  | .exn x _ => .exn x []
  | _ => .bad
def noV (r : Env) : Bool := r.all fun o => match o with
  | none => true
  | some .non => true
  | _ => false
theorem noV_at {r : Env} (h : noV r = true) {i : Nat} {d : D} (e : r[i]? = some (some d)) : d = .non := by
  have := List.all_eq_true.mp h _ (List.mem_of_getElem? e)
  cases d <;> first | rfl | cases this
theorem fin_post {cm : Cm} {E : XK} {W : Addr → Prop} {H H1 : Hp} {σ : St} {f1 : Fps} {Q : VK} {o : SO} (fm : Fram H (fun _ => []) H1 f1 []) (hp : Post (finS o) (QP cm W true H Q) (XPost cm E W H)) : SPost cm (fun _ => E) W H1 σ f1 k0 { nx := fun _ H' => Q .non H', rt := Q } o := by
  cases o with
  | nx r => exact fun σ' H' fps' g' fm' k' => hp .non H' [] (ex_of_fram (fm.trans fm')) .non FpN.nil
  | rt d r =>
    intro v σ' H' fps' fpv g' rp' nd nw fm' k'
    have fm2 := fm.trans fm'
    refine hp v H' fpv (ex_of_fram fm2) (rp'.move (fun a z => .inl (.inl z)) fun _ _ q _ _ => q) ⟨nd, fun a m => ?_⟩
    rcases fm2.oldv a m with ⟨_, m⟩ | q
    · cases m
    · exact q
  | exn x r => exact fun σ' H' fps' dx g' fm' k' xr => hp H' dx (ex_of_fram (fm.trans fm')) (xr.weak fun a z => .inl z)
  | bk r => exact hp.elim
  | ct r => exact hp.elim
  | bad => exact hp.elim
theorem Fun.cd {K : PySem.W.Frag} {x qual : Str} {st : Stmt} {f : Addr} {fd : FuncData} (F : Fun K x qual st f fd) : ∃ oc od kV doc pm an cdv ct osl, fd = PySem.W.fnOf x qual (defArgs st) (defBody st) (defScope st) .none kV doc pm an cdv ct ∧ fd.code = cdv ∧ K.lookup f = some ⟨oc, od, .func fd, osl⟩ ∧ PySem.W.codeIn K cdv qual = true := by
  obtain ⟨oc, od, kV, doc, pm, an, cdv, ct, osl, e, lk, hcd⟩ := F.ex
  exact ⟨oc, od, kV, doc, pm, an, cdv, ct, osl, e, by rw [e], lk, hcd⟩
end DL

set_option maxHeartbeats 4000000
namespace DL
section
variable [Tbs]
open PySem L2
open PyProof.Rows (envOfC)
def tbOf (cs : List (Str × Addr × Addr)) : List (Addr × Str) := cs.map fun p => (p.2.2, p.1 ++ ".<locals>." ++ "<lambda>")
theorem lamB_mk {mg : Str → Option Value} {base : Heap} {cs : List (Str × Addr × Addr)} {x : Str} {c P : Addr} {cd : Value} (hT : Tbs.T = tbOf cs) (h : (x, c, P) ∈ cs) (B : ∀ p ∈ cs, LamX.TabB base mg p.2.1 p.2.2) (hc : cd = .ref c) (u : ∀ p ∈ cs, p.2.2 = P → p.1 = x) : LamB mg base cd (x ++ ".<locals>." ++ "<lambda>") := by
  refine ⟨c, P, hc, B _ h, ?_, fun p hp e => ?_⟩
  · rw [hT]
    exact List.mem_map.mpr ⟨_, h, rfl⟩
  · rw [hT] at hp
    obtain ⟨p', h1, rfl⟩ := List.mem_map.mp hp
    show p'.1 ++ _ ++ _ = _
    rw [u p' h1 e]
end
open PySem L2 PySem.Spec PyProof.Rows
def spLawT (K : PySem.W.Frag) (Ps : List Addr) : Sp := fun vs H Q _ => ∃ (a : Addr) (ns : List Int), vs = [.ref a] ∧ SqL K H a (ns.map V.int) ∧ ns.length ≤ 63 ∧ (∀ p ∈ Ps, H p = some (.tbl #[])) ∧ (∀ b, b ∉ Ps → H b = none ∨ ∃ o xs, H b = some (.frz o (.lst xs))) ∧ ∀ H', Q (.bl true) H'
theorem sp_lawT [Tbs] {cm : Cm} {m : List D → Out D} {Ps : List Addr} (h : ∀ ns : List Int, ns.length ≤ 63 → m [.scr ns] = .ok (.bl true)) (hT : ∀ p ∈ Tbs.T, p.1 ∈ Ps) : ∀ vs H Q E, spLawT cm.K Ps vs H Q E → spP cm 1 m vs H Q E := by
  rintro vs H Q E ⟨a, ns, rfl, hs, hl, ht, ho, k⟩
  have rp : Rep cm (fun _ => False) H (.ref a) (.scr ns) [] := by
    rcases hs with (hs | ⟨o, hs⟩) | hs
    · by_cases m : a ∈ Ps
      · rw [ht a m] at hs; cases hs
      · rcases ho a m with q | ⟨o, xs, q⟩ <;> (rw [hs] at q; cases q)
    · exact .scrF hs fun z => z
    · exact .scrK fun H' => .inr hs
  refine ⟨fun _ => False, [.scr ns], ⟨fun _ z => z.elim, fun p hp => LamX.TabS.nil (ht _ (hT p hp))⟩, Reps.one rp, rfl, ?_⟩
  rw [h ns hl]
  intro v H' fp e rv _
  cases rv
  exact k H'
abbrev tabO (ps : Array Value) : Obj := { cls := .none, data := .fields ps }
theorem law_goT {P : Program} {w : World} {K : PySem.W.Frag} {mg mb : Str → Option Value} {k : Nat} {fa a : Addr} {cs : List (Addr × Addr)} {fd : FuncData} {x : Str} {s₁ : Shared} {vs : List Value} {ns : List Int} (hk : k ≤ 200)
    (kin : K.In s₁.heap) (hg : s₁.heap.Ns mainGlobals mg) (hb : s₁.heap.Ns builtinsNs mb) (hbb : ∀ x : Str, x ≠ "__name__" → mb x = bootBuiltins x) (hlim : s₁.heap.NoLimit) (gen0 : s₁.gens = #[])
    (tT : ∀ p ∈ cs, PySem.W.CodeHd s₁.heap p.1 p.2 ∧ s₁.heap.get? p.2 = some (tabO #[])) (nT : ∀ p ∈ cs, K.lookup p.2 = none)
    (bmn : ∃ bm ob, mg "__builtins__" = some (.ref bm) ∧ bm ≠ builtinsNs ∧ s₁.heap.get? bm = some ob ∧ ob.cls = .type "module" ∧ ob.dict = some builtinsNs ∧ ob.data = .plain)
    (ha : s₁.heap.get? a = some { cls := .type "list", data := .seq vs.toArray }) (hi : IntsAre vs ns) (hl : ns.length ≤ 63)
    (F : ∀ base : Heap, K.In base → base.Ns mainGlobals mg → (∀ p ∈ cs, LamX.TabB base mg p.1 p.2) → FnG P w K mg base k fa fd [x] (spLawT K (cs.map (·.2)))) (bind : ∀ (s : Shared) (u : Value), BindsTo s fd ⟨[u], []⟩ [(x, u)]) :
    codeAny (model P w) callerA (.call (.ref fa) ⟨[.ref a], []⟩) (fun r s' => r = .ok (.ret (.bool true)) ∧ OldK s₁.heap s'.heap ∧ s'.os = s₁.os ∧ AllBare s'.gens) s₁ := by
  have hz : ns.length ≤ sizeLine := Nat.le_trans hl (by decide)
  have rv := vals_ints hi
  have isP : ∀ b ∈ cs.map (·.2), s₁.heap.get? b = some (tabO #[]) := fun b m => by
    obtain ⟨p, hp, rfl⟩ := List.mem_map.mp m
    exact (tT p hp).2
  have inP : ∀ p ∈ cs, p.2 ∈ cs.map (·.2) := fun p hp => List.mem_map.mpr ⟨p, hp, rfl⟩
  have aP : a ∉ cs.map (·.2) := fun m => by
    have := isP a m
    rw [ha] at this
    cases this
  have main : ∀ H : Hp, (∀ b ∈ cs.map (·.2), H b = some (.tbl #[])) → (∀ b, b ∉ cs.map (·.2) → H b = none ∨ ∃ o xs, H b = some (.frz o (.lst xs))) → SqL K H a (ns.map V.int) → HOk P w H s₁.heap → (∀ b, b ∉ cs.map (·.2) → H b ≠ none → b = a ∧ K.lookup a = none) →
      codeAny (model P w) callerA (.call (.ref fa) ⟨[.ref a], []⟩) (fun r s' => r = .ok (.ret (.bool true)) ∧ OldK s₁.heap s'.heap ∧ s'.os = s₁.os ∧ AllBare s'.gens) s₁ := by
    intro H tb only sq hok one
    have nKP : ∀ b ∈ cs.map (·.2), K.lookup b = none := fun b m => by
      obtain ⟨p, hp, rfl⟩ := List.mem_map.mp m
      exact nT p hp
    have no : ∀ {b : Addr} {o : Obj}, s₁.heap.get? b = some o → o ≠ tabO #[] → o.cls ≠ .type "list" → H b = none := fun {b o} e h1 h2 => Classical.byContradiction fun z => by
      by_cases m : b ∈ cs.map (·.2)
      · rw [isP b m] at e
        cases e
        exact h1 rfl
      · obtain ⟨rfl, _⟩ := one b m z
        rw [ha] at e
        cases e
        exact h2 rfl
    have kinB : K.In (hidT s₁.heap H) := fun b o e => hidT_get (kin b o e) (Classical.byContradiction fun z => by
      by_cases m : b ∈ cs.map (·.2)
      · rw [nKP b m] at e; cases e
      · obtain ⟨rfl, q⟩ := one b m z
        rw [q] at e; cases e)
    have nD : ∀ {b : Addr} {o : Obj} {es : Array DictEntry} {ep : Nat}, s₁.heap.get? b = some o → o.data = .dict es ep → H b = none := fun {b o es ep} e d => Classical.byContradiction fun z => by
      by_cases m : b ∈ cs.map (·.2)
      · rw [isP b m] at e; cases e; cases d
      · obtain ⟨rfl, _⟩ := one b m z
        rw [ha] at e; cases e; cases d
    have nsB : ∀ {b : Addr} {m : Str → Option Value}, s₁.heap.Ns b m → (hidT s₁.heap H).Ns b m := by
      rintro b m ⟨o, es, ep, e, d, r⟩
      exact ⟨o, es, ep, hidT_get e (nD e d), d, r⟩
    have lim : (hidT s₁.heap H).NoLimit := by
      obtain ⟨mc, h1, h2⟩ := hlim
      exact ⟨mc, nsB h1, h2⟩
    have mod : Mod K mg (hidT s₁.heap H) := ⟨kinB, nsB hg, ⟨mb, nsB hb, hbb⟩, lim⟩
    have tabB : ∀ p ∈ cs, LamX.TabB (hidT s₁.heap H) mg p.1 p.2 := fun p hp => by
      obtain ⟨cd, ct⟩ := tT p hp
      refine ⟨?_, ?_, fun z => ?_⟩
      · obtain ⟨o, us, file, tf, flags, tg, inF, text, tt, e1, r1, r2, r3, rr⟩ := cd
        refine ⟨o, us, file, tf, flags, tg, inF, text, tt, hidT_get e1 (no e1 (fun z => ?_) fun z => ?_), r1, r2, r3, rr⟩
        · subst z
          cases r2
          cases r3
        · rw [r1] at z
          exact absurd z (by simp)
      · obtain ⟨bm, ob, b1, b2, b3, b4, b5, b6⟩ := bmn
        have e1 : bm ≠ mainGlobals := fun q => by
          obtain ⟨o, es, ep, e, hd, _⟩ := hg
          rw [q, e] at b3
          cases b3
          rw [hd] at b6
          cases b6
        have e2 : bm ≠ p.2 := fun q => by
          rw [q, ct] at b3
          cases b3
          cases b6
        refine ⟨bm, ob, b1, b2, e1, e2, hidT_get b3 (no b3 (fun z => ?_) fun z => ?_), b4, b5, b6⟩
        · subst z; cases b6
        · rw [b4] at z
          exact absurd z (by simp)
      · obtain ⟨o, es, ep, e, hd, _⟩ := hg
        rw [z, ct] at e
        cases e
        cases hd
    have e0 : Env0 P w K mg (hidT s₁.heap H) callerA [] s₁ H := ⟨rfl, mod, fun _ _ e => of_hidT e, Nat.le_of_eq (hidT_size _ _), trivial, fun _ z => absurd z List.not_mem_nil, hok, AllBare.of_eq gen0⟩
    refine codeAny_mono ((F _ kinB (nsB hg) tabB).go callerA [] s₁ H ⟨[.ref a], []⟩ [.ref a] [.ref a] (fun v _ => v = .bl true) (fun _ _ _ => False) ⟨⟨rfl, depth_ok hk, units_ok hk⟩, rfl⟩ e0 (bind s₁ (.ref a)) (.cons rfl .nil) ⟨a, ns, rfl, sq, hl, tb, only, fun _ => rfl⟩) ?_
    intro r s' h
    match r, h with
    | .error e, h =>
      obtain ⟨_, _, _, _, _, _, _, _, _, _, _, _, z⟩ := h
      exact z.elim
    | .ok (.ret u), ⟨v, H', os, bare, un, hok', r', q⟩ =>
      cases (show v = .bl true from q)
      cases (show u = Value.bool true from r')
      have old : ∀ b o, b ∉ cs.map (·.2) → s₁.heap.get? b = some o → s'.heap.get? b = some o := fun b o m e => by
        cases q : H b with
        | none => exact un.keep b o e q (fun z => absurd z List.not_mem_nil) (fun z => absurd z List.not_mem_nil)
        | some u =>
          rcases only b m with z | ⟨ob, xs, z⟩
          · rw [q] at z; cases z
          · have e1 := (hok b _ z).1
            have e2 := (hok' b _ (un.frzs b ob _ z)).1
            rw [e] at e1
            cases e1
            exact e2
      have new : ∀ b ∈ cs.map (·.2), ∃ more, s'.heap.get? b = some (tabO more) := fun b m => by
        obtain ⟨more, z⟩ := un.tbls b #[] (tb b m)
        exact ⟨_, hok' b _ z⟩
      refine ⟨rfl, ⟨fun b o e => ?_, fun b o e => ?_⟩, os, bare⟩
      · by_cases m : b ∈ cs.map (·.2)
        · obtain ⟨more, hm⟩ := new b m
          rw [isP b m] at e
          cases e
          obtain ⟨p, hp, rfl⟩ := List.mem_map.mp m
          refine .inr (.inl ⟨((tT p hp).1.tab (tT p hp).2).isCodeTable, rfl, #[], more, rfl, ?_⟩)
          rw [Array.empty_append]
          exact hm
        · exact .inl (old b o m e)
      · by_cases m : b ∈ cs.map (·.2)
        · obtain ⟨more, hm⟩ := new b m
          exact ⟨_, hm⟩
        · exact ⟨o, old b o m e⟩
  cases lk : K.lookup a with
  | some o =>
    have e := kin a o lk
    rw [ha] at e
    cases e
    refine main (fun b => if b ∈ cs.map (·.2) then some (.tbl #[]) else none) (fun b m => if_pos m) (fun b m => .inl (if_neg m)) (.inr ⟨_, vs.toArray, _, lk, rfl, rfl, rfl, ?_, ?_⟩) (fun b u z => ?_) (fun b m z => absurd (if_neg m) z)
    · rw [List.size_toArray, hi.length]; exact hz
    · simpa using rv
    · by_cases m : b ∈ cs.map (·.2)
      · cases (if_pos m).symm.trans z
        exact isP b m
      · cases (if_neg m).symm.trans z
  | none =>
    let o : Obj := { cls := .type "list", data := .seq vs.toArray }
    let H : Hp := fun b => if b ∈ cs.map (·.2) then some (.tbl #[]) else if b = a then some (.frz o (.lst (ns.map V.int))) else none
    have at1 : H a = some (.frz o (.lst (ns.map V.int))) := (if_neg aP).trans (if_pos rfl)
    refine main H (fun b m => if_pos m) (fun b m => ?_) (.inl (.inr ⟨o, at1⟩)) (fun b u z => ?_) (fun b m z => ?_)
    · by_cases q : b = a
      · exact .inr ⟨_, _, (if_neg m).trans (if_pos q)⟩
      · exact .inl ((if_neg m).trans (if_neg q))
    · by_cases m : b ∈ cs.map (·.2)
      · cases (if_pos m).symm.trans z
        exact isP b m
      · by_cases q : b = a
        · subst q
          rw [at1] at z
          cases z
          exact ⟨ha, by rw [List.length_map]; exact hz, vs, _, rv, ha⟩
        · exact nomatch ((if_neg m).trans (if_neg q)).symm.trans z
    · by_cases q : b = a
      · exact ⟨q, lk⟩
      · exact absurd ((if_neg m).trans (if_neg q)) z
theorem walk_lawT {l : PySem.W.OpenLaw} {q : Program} {loose : List Str} {XP : (Str → Option Value) → Heap → Prop} {YP : World → Heap → Prop} {d : DefRec} {K : Params → PySem.W.Frag} {k : Nat} {x : Str} (xs : List Str) (hk : k ≤ 200) (hn : l.most = some 63) (hdf : d.params.defaults = [])
    (hrec : xs.all (fun n => ((recsOf q).find? fun e => e.name == n).isSome) = true) (hY : ∀ (w : World) (h : Heap), YP w h → (K w.params).In h)
    (F : ∀ (w : World) (mg : Str → Option Value) (fa : Addr) (h : Heap), (K w.params).In h → h.Ns mainGlobals mg → mg d.name = some (.ref fa) →
      ∃ (cs : List (Str × Addr × Addr)) (fd : FuncData), (∀ p ∈ cs, p.1 ∈ xs ∧ PySem.W.tabIn (K w.params) p.1 = some p.2 ∧ (K w.params).lookup p.2.2 = none) ∧ (∀ (s : Shared) (u : Value), BindsTo s fd ⟨[u], []⟩ [(x, u)]) ∧
        ∀ base : Heap, (K w.params).In base → base.Ns mainGlobals mg → (∀ p ∈ cs, LamX.TabB base mg p.2.1 p.2.2) → FnG l.prog w (K w.params) mg base k fa fd [x] (spLawT (K w.params) (cs.map (·.2.2)))) :
    PySem.W.WalkO q loose XP YP l.row.toRowW d [] (fun f vs => PySem.call f vs) := by
  apply Att.attach_call hn hdf
  intro w s₀ s₁ mg mb fa o pm cd doc a vs ns G Y _ _ _ hmg hobj hints hlen hg
  have KX := hY w _ Y
  obtain ⟨cs, fd, hcs, b, f⟩ := F w mg fa _ KX G.T.g hmg
  have tb : ∀ p ∈ cs.map (·.2), PySem.W.CodeHd s₁.heap p.1 p.2 ∧ s₁.heap.get? p.2 = some (tabO #[]) := fun p hp => by
    obtain ⟨p', h1, rfl⟩ := List.mem_map.mp hp
    obtain ⟨y1, y2, y3⟩ := hcs p' h1
    obtain ⟨r, hr⟩ := Option.isSome_iff_exists.mp (List.all_eq_true.mp hrec _ y1)
    exact PySem.W.tab_of (c := p'.2.1) (P := p'.2.2) G.T KX hr y2
  refine law_goT (cs := cs.map (·.2)) hk KX G.T.g G.T.b G.T.builtins G.T.nolimit hg tb (fun p hp => ?_) G.T.bmain hobj hints hlen (fun base h1 h2 h3 => ?_) b
  · obtain ⟨p', h1, rfl⟩ := List.mem_map.mp hp
    exact (hcs p' h1).2.2
  · have := f base h1 h2 fun p hp => h3 _ (List.mem_map.mpr ⟨p, hp, rfl⟩)
    rw [List.map_map]
    exact this
end DL

namespace DL
variable [Tbs]
open PySem L2
def kitL (l : List Str) (c : Str) : Bool := l.contains c
theorem kitL_nil {P : Str → Prop} : ∀ c, kitL [] c = true → P c := fun _ h => nomatch h
theorem kitL_cons {P : Str → Prop} {a : Str} {l : List Str} (h : P a) (t : ∀ c, kitL l c = true → P c) : ∀ c, kitL (a :: l) c = true → P c := fun c m => by
  have m : c ∈ a :: l := by simpa [kitL] using m
  rcases List.mem_cons.mp m with rfl | m
  · exact h
  · exact t c (by simpa [kitL] using m)
end DL

set_option maxHeartbeats 1000000
namespace DL
variable [Tbs]
open PySem PySem.Spec PyProof.Rows L2
section
variable {X : Cx} {kx vx tg iter : Expr} {ifs : List Expr} {sc : Scope} {own : List (Str × Nat)} {ps : Pos} {wi : TI} {g : TG} {tt : L2.TT} {tk tv : L2.TE}
end
end DL

namespace DL
variable [Tbs]
open PySem L2
def turnK (vs : List Nat) (g : D → Env → Out Env) (tt : Env → Out Bool) (fk fv : F) (r : Env) (d : D) : Out (Option (List Key × D)) :=
  (g d (wipeE r vs)).bind fun r2 => (tt r2).bind fun b => if b = true then (fk r2).bind fun kd => (match kd with
    | .tup es => (match keysD es with
      | some k => (fv r2).bind fun y => .ok (some (k, y))
      | none => .bad)
    | _ => .bad) else .ok none
section
variable {X : Cx} {cm : Cm} {E : XS} {pos : Pos} {tg : Expr}
end
end DL

namespace DL
variable [Tbs]
open PySem L2
mutual
def isFz : D → Bool
  | .lst o xs => !o && isFzs xs
  | .tup xs => isFzs xs
  | .dK o _ xs => !o && isFzs xs
  | .dT o _ xs => !o && isFzs xs
  | .dN o _ xs => !o && isFzs xs
  | .obj o _ _ xs => !o && isFzs xs
  | .exc _ _ xs => isFzs xs
  | _ => true
def isFzs : List D → Bool
  | [] => true
  | x :: xs => isFz x && isFzs xs
end
mutual
theorem Rep.fz {cm : Cm} {W : Addr → Prop} {H : Hp} : ∀ {v : V} {d : D} {fp : List Addr}, Rep cm W H v d fp → isFz d = true → fp = []
  | _, _, _, .non, _ => rfl
  | _, _, _, .bl _, _ => rfl
  | _, _, _, .int _, _ => rfl
  | _, _, _, .str _, _ => rfl
  | _, _, _, .lstO _ _, h => by simp [isFz] at h
  | _, _, _, .lstF _ _ _, _ => rfl
  | _, _, _, .tup _ _ r, h => Reps.fz r (by simpa [isFz] using h)
  | _, _, _, .dKO _ _ _, h => by simp [isFz] at h
  | _, _, _, .dKF _ _ _ _, _ => rfl
  | _, _, _, .dTO _ _ _, h => by simp [isFz] at h
  | _, _, _, .dTF _ _ _ _, _ => rfl
  | _, _, _, .dNO _ _ _ _, h => by simp [isFz] at h
  | _, _, _, .dNF _ _ _ _ _, _ => rfl
  | _, _, _, .objO _ _ _, h => by simp [isFz] at h
  | _, _, _, .objF _ _ _ _, _ => rfl
  | _, _, _, .scrF _ _, _ => rfl
  | _, _, _, .scrK _, _ => rfl
  | _, _, _, .exc _ _ _ _ _, _ => rfl
  | _, _, _, .any, _ => rfl
theorem Reps.fz {cm : Cm} {W : Addr → Prop} {H : Hp} : ∀ {v : List V} {d : List D} {fp : List Addr}, Reps cm W H v d fp → isFzs d = true → fp = []
  | _, _, _, .nil, _ => rfl
  | _, _, _, .cons h r, e => by
    simp only [isFzs, Bool.and_eq_true] at e
    rw [Rep.fz h e.1, Reps.fz r e.2]; rfl
end
section
variable {X : Cx} {cm : Cm} {E : XS} {pos : Pos} {e o : Expr} {f : FX}
def xFz (f : FX) : FX := fun r => (f r).bind fun p => .ok (frz p.1, p.2)
end
mutual
/-- no shared object with these fields within -/
def noOb (fs : List Str) : D → Bool
  | .lst _ xs => noObs fs xs
  | .tup xs => noObs fs xs
  | .dK _ _ xs => noObs fs xs
  | .dT _ _ xs => noObs fs xs
  | .dN _ _ xs => noObs fs xs
  | .obj _ _ gs xs => !decide (gs = fs) && noObs fs xs
  | .exc _ _ xs => noObs fs xs
  | .any => true
  | _ => true
def noObs (fs : List Str) : List D → Bool
  | [] => true
  | x :: xs => noOb fs x && noObs fs xs
end
theorem fst_zip {α β : Type} : ∀ {xs : List α} {ys : List β}, xs.length = ys.length → (xs.zip ys).map (·.1) = xs
  | [], [], _ => rfl
  | x :: xs, y :: ys, h => by rw [List.zip_cons_cons, List.map_cons, fst_zip (by simpa using h)]
section
variable {cm : Cm} {W : Addr → Prop} {H : Hp} {p0 C : Addr} {dx : Addr} {fs : List Str} {us : List V}
theorem ins_ne {gs : List Str} {vs : List V} {C' dx' : Addr} {p : Addr} (h0 : H p0 = some (.ins C dx (fs.zip us))) (hl : fs.length = us.length) (h : H p = some (.ins C' dx' (gs.zip vs))) (l : gs.length = vs.length) (n : ¬ gs = fs) : p ≠ p0 := fun z => by
  subst z
  rw [h0] at h
  have h := Option.some.inj h
  injection h with _ _ h
  have := congrArg (List.map (·.1)) h
  rw [fst_zip hl, fst_zip l] at this
  exact n this.symm
mutual
theorem Rep.more (h0 : H p0 = some (.ins C dx (fs.zip us))) (hl : fs.length = us.length) : ∀ {v : V} {d : D} {fp : List Addr}, Rep cm W H v d fp → noOb fs d = true → Rep cm (fun a => W a ∨ a = p0) H v d fp
  | _, _, _, .non, _ => .non
  | _, _, _, .bl b, _ => .bl b
  | _, _, _, .int i, _ => .int i
  | _, _, _, .str x, _ => .str x
  | _, _, _, .lstO h r, e => .lstO h (Reps.more h0 hl r (by simpa [noOb] using e))
  | _, _, _, .lstF h n r, e => .lstF h (fun z => z.elim n fun z => by rw [z, h0] at h; cases h) (Reps.more h0 hl r (by simpa [noOb] using e))
  | _, _, _, .tup h n r, e => .tup h (fun z => z.elim n fun z => by rw [z, h0] at h; cases h) (Reps.more h0 hl r (by simpa [noOb] using e))
  | _, _, _, .dKO h l r, e => .dKO h l (Reps.more h0 hl r (by simpa [noOb] using e))
  | _, _, _, .dKF h l n r, e => .dKF h l (fun z => z.elim n fun z => by rcases h with h | ⟨_, h⟩ <;> (rw [z, h0] at h; cases h)) (Reps.more h0 hl r (by simpa [noOb] using e))
  | _, _, _, .dTO h l r, e => .dTO h l (Reps.more h0 hl r (by simpa [noOb] using e))
  | _, _, _, .dTF h l n r, e => .dTF h l (fun z => z.elim n fun z => by rcases h with h | ⟨_, h⟩ <;> (rw [z, h0] at h; cases h)) (Reps.more h0 hl r (by simpa [noOb] using e))
  | _, _, _, .objO h l r, e => .objO h l (Reps.more h0 hl r (by simp [noOb] at e; exact e.2))
  | _, _, _, .objF (fs := gs) (ds := ds) h l n r, e => by
    have e : (¬ gs = fs) ∧ noObs fs ds = true := by simpa [noOb] using e
    exact .objF h l (fun z => z.elim n (ins_ne h0 hl h l.1 e.1)) (Reps.more h0 hl r e.2)
  | _, _, _, .scrF h n, e => .scrF h fun z => z.elim n fun z => by rw [z, h0] at h; cases h
  | _, _, _, .scrK h, e => .scrK h
  | _, _, _, .exc h n q l r, e => .exc h (fun z => z.elim n fun z => by rw [z, h0] at h; unfold ExK at h; cases h) (q.imp id fun ⟨a, h1, h2, h3⟩ => ⟨a, h1, h2, fun z => z.elim h3 fun z => by rw [z, h0] at h2; cases h2⟩) l (Reps.more h0 hl r (by simpa [noOb] using e))
  | _, _, _, .dNO h l k r, e => .dNO h l (fun x m => NK.wk (fun a o q n z => z.elim n fun z => by rw [z, h0] at q; cases q) (k x m)) (Reps.more h0 hl r (by simpa [noOb] using e))
  | _, _, _, .dNF h l n k r, e => .dNF h l (fun z => z.elim n fun z => by rw [z, h0] at h; cases h) (fun x m => NK.wk (fun a o q n z => z.elim n fun z => by rw [z, h0] at q; cases q) (k x m)) (Reps.more h0 hl r (by simpa [noOb] using e))
  | _, _, _, .any, _ => .any
theorem Reps.more (h0 : H p0 = some (.ins C dx (fs.zip us))) (hl : fs.length = us.length) : ∀ {v : List V} {d : List D} {fp : List Addr}, Reps cm W H v d fp → noObs fs d = true → Reps cm (fun a => W a ∨ a = p0) H v d fp
  | _, _, _, .nil, _ => .nil
  | _, _, _, .cons h r, e => by
    simp only [noObs, Bool.and_eq_true] at e
    exact .cons (Rep.more h0 hl h e.1) (Reps.more h0 hl r e.2)
end
end
section
variable {X : Cx} {cm : Cm} {E : XS} {e : Expr} {f : F}
end
end DL

namespace DL
open PySem PySem.Spec PyProof PyProof.Rows L2
section
variable [Tbs] {X : Cx} {cm : Cm} {E : XS} {b : Bool} {pos : Pos}
end
end DL

namespace DL
variable [Tbs]
open PySem L2
section
variable {X : Cx} {cm : Cm} {E : XS} {pos apos : Pos} {a : Expr}
end
end DL

namespace DL
variable [Tbs]
open PySem L2
section
variable {X : Cx} {cm : Cm} {E : XS} {pos apos : Pos} {a c e : Expr} {fa : F}
end
end DL

namespace DL
variable [Tbs]
open PySem L2
section
variable {X : Cx} {cm : Cm} {E : XS} {e : Expr}
end
end DL

namespace DL
variable [Tbs]
open PySem L2
def ReprD (prog : Program) (w : World) (as : List Addr) (h₀ : Heap) (d n : Nat) (x : Value) (t : Str) : Prop :=
  ∀ base : Nat, base + t.length ≤ sizeLine → ∀ (A : Around) (g : List Code) (E : Value → Shared → Prop) (s : Shared) (Q : Str → Shared → Prop), A.guards = some g → (∀ b ∈ as, Clear g b) → A.units + d < cLine → A.depth + n < recursionLimit →
    (∀ b o, h₀.get? b = some o → s.heap.get? b = some o) → (∀ (h' : Heap) (tk : Nat), (∀ b o, s.heap.get? b = some o → h'.get? b = some o) → Q t { s with heap := h', toks := tk }) → wpAny (model prog w) A (pyReprUnder base x) Q E s
section
variable {prog : Program} {w : World} {as as' : List Addr} {h₀ : Heap} {d n d' n' : Nat} {x : Value} {t : Str}
theorem ReprD.more (h : ReprD prog w as h₀ d n x t) (ha : ∀ b ∈ as, b ∈ as') (hd : d ≤ d') (hn : n ≤ n') : ReprD prog w as' h₀ d' n' x t := fun base hb A g E s Q hg hc hu hv hk hQ => h base hb A g E s Q hg (fun b m => hc b (ha b m)) (by omega) (by omega) hk hQ
theorem depth_under_list (A : Around) (args : Args) : (A.under (.builtin "list.__repr__.loop" args)).depth = A.depth + 1 := by
  show A.depth + Code.weight _ = _
  rfl
theorem loopD {A : Around} {R : Result → Shared → Prop} {a P : Addr} (hne : a ≠ P) {items : Array Value} {ts : List Str} {base : Nat} {g : List Code} (hg : A.guards = some g) (hc : ∀ b ∈ as, Clear g b) (hu : A.units + (d + 1) < cLine) (hd : A.depth + (n + 1) < recursionLimit) (ha : a ∉ as) (hP : h₀.get? P = none) (hl : ts.length = items.size)
    (el : ∀ (i : Nat) (x : Value), items[i]? = some x → ∃ t, ts[i]? = some t ∧ ReprD prog w as h₀ d n x t) (hb : base + (listText ts).length ≤ sizeLine) :
    ∀ (k i : Nat) (s : Shared) (oa : Obj) (na : Nat) (acc : Array Value) (c : Nat) (done : List (Str × Tok)), items.size - i = k → i ≤ items.size → (∀ b o, h₀.get? b = some o → s.heap.get? b = some o) → s.heap.get? a = some oa → oa.data = .seq items na → s.heap.get? P = some { cls := .type "list", data := .seq acc c } →
      acc.toList = strValues done → done.map (fun x => x.1) = ts.take i → (∀ (h' : Heap) (u : Tok) (tk : Nat), (∀ b o, b ≠ P → s.heap.get? b = some o → h'.get? b = some o) → R (.ok (.ret (.str (listText ts) u))) { s with heap := h', toks := tk }) →
      codeAny (model prog w) A (.builtin "list.__repr__.loop" ⟨[.ref a, rawInt i, .ref P, rawInt ((base + piled (ts.take i) : Nat) : Int)], []⟩) R s := by
  intro k
  induction k with
  | zero =>
    intro i s oa na acc c done hk hi hs h1 h2 h3 h4 h5 hQ
    have hi2 : i = items.size := by omega
    refine codeAny_builtin F.entry_list_repr_loop ?_
    rw [show rawInt (i : Int) = Value.int i _ from rfl, show rawInt ((base + piled (ts.take i) : Nat) : Int) = Value.int _ _ from rfl, repr_loop_tree]
    refine wpAny_bind (wpAny_listItems h1 h2 ?_)
    have hn : items[(i : Int).toNat]? = none := by simp [hi2]
    rw [hn]
    unfold reprEnd
    refine wpAny_bind (wpAny_listItems h3 rfl ?_)
    have ht : ts.take i = ts := List.take_of_length_le (by omega)
    rw [h4, repr_fold, h5, ht]
    refine wpAny_bind (wpAny_pure ?_)
    unfold retStr
    refine wpAny_bind (wpAny_mkStr ?_ (by show (listText ts).length ≤ sizeLine; omega))
    have := hQ s.heap s.toks (s.toks + 1) (fun b o _ q => q)
    exact wpAny_pure this
  | succ k ih =>
    intro i s oa na acc c done hk hi hs h1 h2 h3 h4 h5 hQ
    obtain ⟨y, hy⟩ : ∃ y, items[i]? = some y := ⟨items[i]'(by omega), by simp⟩
    obtain ⟨t, ht, rt⟩ := el i y hy
    refine codeAny_builtin F.entry_list_repr_loop ?_
    rw [show rawInt (i : Int) = Value.int i _ from rfl, show rawInt ((base + piled (ts.take i) : Nat) : Int) = Value.int _ _ from rfl, repr_loop_tree]
    refine wpAny_bind (wpAny_listItems h1 h2 ?_)
    have hn : items[(i : Int).toNat]? = some y := by simpa using hy
    rw [hn]
    have hp1 := piled_take_succ ht
    have hp2 := piled_take_le ts (i + 1)
    have hp3 := piled_le_listText ts
    refine wpAny_bind (wpAny_holding ?_)
    refine rt _ ?_ _ (Code.builtin "list.__repr__.loop" ⟨[.ref a, rawInt i, .ref P, rawInt ((base + piled (ts.take i) : Nat) : Int)], []⟩ :: g) _ _ _ (guards_under_guard (isGuard_list_loop _) hg) (fun b m => Clear.cons (hc b m) fun e => ha (e ▸ m)) ?_ ?_ hs ?_
    · simp; omega
    · rw [units_under_list_loop]; omega
    · rw [depth_under_list]; omega
    · intro h' tk hk'
      refine wpAny_bind (wpAny_mkStr ?_ (by omega))
      have e3 := hk' P _ h3
      have hsz : acc.size = i := by
        have e := congrArg List.length h4
        have e2 := congrArg List.length h5
        simp [strValues] at e e2
        omega
      have hts := (textFrom_len ts 0 (Str.ofString "[")).1
      have hlt : (listText ts).length ≤ sizeLine := by omega
      have hlen : 2 * ts.length ≤ (listText ts).length + 2 := by
        unfold listText
        rw [strLen_append]
        simp at hts ⊢
        omega
      have hsl := sizeLine_eq
      refine wpAny_bind (wpAny_updateSeq e3 rfl ?_ (by omega) (by simp; omega))
      refine wpAny_pure ⟨F.quiet_list_repr_loop _, ?_⟩
      have e4 : base + piled (ts.take i) + (t.length + 2) = base + piled (ts.take (i + 1)) := by omega
      have e5 : (((base + piled (ts.take i) : Nat) : Int).toNat + (t.length + 2)) = base + piled (ts.take (i + 1)) := by simp; omega
      rw [e5, show ((i : Int) + 1) = ((i + 1 : Nat) : Int) by simp]
      obtain ⟨c', h3'⟩ : ∃ c', (h'.update P (Obj.mapSeq fun x => x.push (Value.str t tk))).get? P = some { cls := .type "list", data := .seq (acc.push (Value.str t tk)) c' } := by
        rw [Heap.get?_update_self _ e3 rfl]
        exact ⟨_, rfl⟩
      have up : ∀ b o, b ≠ P → s.heap.get? b = some o → (h'.update P (Obj.mapSeq fun x => x.push (Value.str t tk))).get? b = some o := fun b o hbp q => by
        rw [Heap.get?_update_other _ _ (Ne.symm hbp)]
        exact hk' b o q
      refine ih (i + 1) _ oa na (acc.push (Value.str t tk)) c' (done ++ [(t, tk)]) (by omega) (by omega) (fun b o q => up b o (fun z => by rw [z, hP] at q; cases q) (hs b o q)) (up _ _ hne h1) h2 h3' ?_ ?_ ?_
      · simp [h4, strValues]
      · rw [List.map_append, h5, List.take_add_one, ht]
        rfl
      · intro h2' u2 tk2 k2
        exact hQ h2' u2 tk2 fun b o hbp q => k2 b o hbp (up b o hbp q)
theorem list_reprAtD {A : Around} {g : List Code} {s : Shared} {R : Result → Shared → Prop} {base : Nat} {a : Addr} {oa : Obj} {x : Value} {l : List Value} {na : Nat} {ts : List Str} (h1 : h₀.get? a = some oa) (hdt : oa.data = .seq (x :: l).toArray na) (ha : a ∉ as) (hl : ts.length = (x :: l).toArray.size)
    (el : ∀ (i : Nat) (y : Value), (x :: l).toArray[i]? = some y → ∃ t, ts[i]? = some t ∧ ReprD prog w as h₀ d n y t) (hg : A.guards = some g) (hc : ∀ b ∈ a :: as, Clear g b) (hu : A.units + (d + 1) < cLine) (hd : A.depth + (n + 1) < recursionLimit) (hs : ∀ b o, h₀.get? b = some o → s.heap.get? b = some o)
    (hQ : ∀ (h' : Heap) (u : Tok) (tk : Nat), (∀ b o, s.heap.get? b = some o → h'.get? b = some o) → R (.ok (.ret (.str (listText ts) u))) { s with heap := h', toks := tk }) (hb : base + (listText ts).length ≤ sizeLine) :
    wpAny (model prog w) A.in1 (Builtin.listReprAt base ⟨[.ref a], []⟩) (fun fin s' => match fin with
      | .done f => R (.ok f) s'
      | .again c' => c'.quiet = true ∧ codeAny (model prog w) A c' R s') (fun e s' => R (.error e) s') s := by
  have hsz := Heap.lt_size h1
  refine wpAny_list_repr_head (g := g) hg (fun v rest kw m => listSameRef_of_ne (hc a (List.mem_cons_self ..) _ v rest kw m)) (hs a oa h1) hdt ?_
  refine wpAny_bind (wpAny_newObj_type ?_ (by show (#[] : Array Value).size ≤ sizeLine; simp))
  refine wpAny_pure ⟨F.quiet_list_repr_loop _, ?_⟩
  have hne : a ≠ s.heap.objs.size := Nat.ne_of_lt (Heap.lt_size (hs a oa h1))
  have hP : h₀.get? s.heap.objs.size = none := by
    cases q : h₀.get? s.heap.objs.size with
    | none => rfl
    | some o => exact absurd (Heap.lt_size (hs _ o q)) (Nat.lt_irrefl _)
  have := loopD (prog := prog) (w := w) (A := A) (R := R) hne (items := (x :: l).toArray) (base := base) hg (fun b m => hc b (List.mem_cons_of_mem _ m)) hu hd ha hP hl el hb (x :: l).toArray.size 0 { s with heap := s.heap.push { cls := .type "list", data := .seq #[] 0 } } oa na #[] 0 [] (by simp) (by simp) (fun b o q => Heap.get?_push_of_some _ (hs b o q)) (Heap.get?_push_of_some _ (hs a oa h1)) hdt (Heap.get?_push_size _ rfl) rfl rfl (fun h' u tk k => hQ h' u tk fun b o q => k b o (Nat.ne_of_lt (Heap.lt_size q)) (Heap.get?_push_of_some _ q))
  simpa [piled] using this
theorem ReprD.list {a : Addr} {oa : Obj} {x : Value} {l : List Value} {na : Nat} {ts : List Str} (h1 : h₀.get? a = some oa) (h2 : oa.cls = .type "list") (hdt : oa.data = .seq (x :: l).toArray na) (ha : a ∉ as) (hl : ts.length = (x :: l).toArray.size)
    (el : ∀ (i : Nat) (y : Value), (x :: l).toArray[i]? = some y → ∃ t, ts[i]? = some t ∧ ReprD prog w as h₀ d n y t) : ReprD prog w (a :: as) h₀ (d + 1) (n + 1) (.ref a) (listText ts) := by
  intro base hb A g E s Q hg hc hu hd hs hQ
  refine wpAny_pyReprUnder_ref (by omega) ?_
  have ty : s.TypeIs (.ref a) "list" := ⟨oa, hs a oa h1, h2⟩
  refine wpAny_pyReprObjUnder_twin ty F.slot_list_repr.toG rfl (by omega) ?_
  refine call_twin_plain (body := Builtin.listReprAt) F.plain_list_repr_under F.entry_list_repr_under F.check_list_repr_under ty F.slot_list_repr.toG (F.args_list_repr_1 _) ?_
  exact list_reprAtD h1 hdt ha hl el hg hc hu hd hs (fun h' u tk k => ⟨⟨_, _, rfl⟩, _, _, rfl, hQ h' tk k⟩) hb
inductive ReprAllD (prog : Program) (w : World) (as : List Addr) (h₀ : Heap) (d n : Nat) : List Value → List Str → Prop
  | nil : ReprAllD prog w as h₀ d n [] []
  | cons {x : Value} {t : Str} {l : List Value} {ts : List Str} : ReprD prog w as h₀ d n x t → ReprAllD prog w as h₀ d n l ts → ReprAllD prog w as h₀ d n (x :: l) (t :: ts)
theorem ReprAllD.len {l : List Value} {ts : List Str} (h : ReprAllD prog w as h₀ d n l ts) : ts.length = l.length := by
  induction h with
  | nil => rfl
  | cons _ _ ih => simp [ih]
theorem ReprAllD.at {l : List Value} {ts : List Str} (h : ReprAllD prog w as h₀ d n l ts) : ∀ (i : Nat) (y : Value), l[i]? = some y → ∃ t, ts[i]? = some t ∧ ReprD prog w as h₀ d n y t := by
  induction h with
  | nil => intro i y h; simp at h
  | cons r _ ih =>
    intro i y h
    cases i with
    | zero => simp at h; subst h; exact ⟨_, rfl, r⟩
    | succ i => simpa using ih i y (by simpa using h)
theorem ReprAllD.more {l : List Value} {ts : List Str} (h : ReprAllD prog w as h₀ d n l ts) (ha : ∀ b ∈ as, b ∈ as') (hd : d ≤ d') (hn : n ≤ n') : ReprAllD prog w as' h₀ d' n' l ts := by
  induction h with
  | nil => exact .nil
  | cons r _ ih => exact .cons (r.more ha hd hn) ih
theorem tupFoldD {A : Around} {E : Value → Shared → Prop} {g : List Code} (hg : A.guards = some g) (hc : ∀ b ∈ as, Clear g b) (hu : A.units + d < cLine) (hd : A.depth + n < recursionLimit) : ∀ (l : List Value) (ts : List Str) (acc : Array Str) (m : Nat) (s : Shared) (Q : Array Str × Nat → Shared → Prop), ReprAllD prog w as h₀ d n l ts → m + piled ts ≤ sizeLine → (∀ b o, h₀.get? b = some o → s.heap.get? b = some o) →
    (∀ (h' : Heap) (tk : Nat), (∀ b o, s.heap.get? b = some o → h'.get? b = some o) → Q (acc ++ ts.toArray, m + piled ts) { s with heap := h', toks := tk }) → wpAny (model prog w) A (forIn l (acc, m) tupBody) Q E s := by
  intro l
  induction l with
  | nil =>
    intro ts acc m s Q r hm hs hQ
    cases r
    have := hQ s.heap s.toks fun b o q => q
    refine wpAny_pure ?_
    simpa [piled] using this
  | cons y l ih =>
    intro ts acc m s Q r hm hs hQ
    cases r with
    | cons r0 r =>
      rename_i t ts
      rw [piled_cons] at hm
      rw [List.forIn_cons]
      unfold tupBody
      refine wpAny_bind (wpAny_bind (r0 _ (by simp; omega) A g _ s _ hg hc hu hd hs fun h' tk k => wpAny_pure ?_))
      refine ih ts _ _ _ Q r (by simp; omega) (fun b o q => k b o (hs b o q)) fun h2 tk2 k2 => ?_
      have := hQ h2 tk2 fun b o q => k2 b o (k b o q)
      rw [piled_cons] at this
      have e1 : acc.push t ++ ts.toArray = acc ++ (t :: ts).toArray := by simp
      rw [e1]
      have e2 : m + (t.length + 2) + piled ts = m + (t.length + 2 + piled ts) := by omega
      simpa [e2] using this
theorem depth_under_tup (A : Around) (args : Args) : (A.under (.builtin "tuple.__repr__.under" args)).depth = A.depth + 1 := by
  show A.depth + Code.weight _ = _
  rfl
theorem tuple_reprAtD {A : Around} {g : List Code} {s : Shared} {R : Result → Shared → Prop} {base : Nat} {id : String} {rest : List Value} {a : Addr} {o : Obj} {items : Array Value} {na : Nat} {ts : List Str} (h1 : h₀.get? a = some o) (hdt : o.data = .seq items na) (ha : a ∉ as) (el : ReprAllD prog w as h₀ d n items.toList ts)
    (hi : (Code.builtin id ⟨.ref a :: rest, []⟩).isGuard = true) (hi2 : (A.under (.builtin id ⟨.ref a :: rest, []⟩)).units = A.units + 1) (hi3 : (A.under (.builtin id ⟨.ref a :: rest, []⟩)).depth = A.depth + 1) (hg : A.guards = some g) (hc : ∀ b ∈ a :: as, Clear g b) (hu : A.units + (d + 1) < cLine) (hd : A.depth + (n + 1) < recursionLimit) (hs : ∀ b o, h₀.get? b = some o → s.heap.get? b = some o)
    (hQ : ∀ (h' : Heap) (u : Tok) (tk : Nat), (∀ b o, s.heap.get? b = some o → h'.get? b = some o) → R (.ok (.ret (.str (tupleText ts) u))) { s with heap := h', toks := tk }) (hb : base + (tupleText ts).length ≤ sizeLine) :
    wpOwn (model prog w) A (.builtin id ⟨.ref a :: rest, []⟩) (Builtin.tupleReprAt base ⟨[.ref a], []⟩) (fun fin s' => match fin with
      | .done f => R (.ok f) s'
      | .again c' => c'.quiet = true ∧ codeAny (model prog w) A c' R s') (fun e s' => R (.error e) s') s := by
  have hp3 := piled_le_tupleText ts
  rw [tuple_repr_tree, tupleReprUnderWay_eq]
  refine wpOwn_bind (wpOwn_stackTailAny hg (tupGuardF_off _) (tupGuardF_pos _) ?_)
  have hz : (g.any fun c => tupGuardF (.ref a) (c, default)) = false := by
    rw [List.any_eq_false]
    intro c m
    rw [tupGuardF_of_clear (hc a (List.mem_cons_self ..)) c m]
    simp
  rw [hz, if_neg (by simp)]
  refine wpOwn_of_wpAny ?_
  unfold tupleReprRest Builtin.Tuple.tupleItemsOf
  refine wpAny_bind (wpAny_bind (wpAny_seqItems (hs a o h1) hdt (wpAny_pure ?_)))
  rw [← Array.forIn_toList]
  refine wpAny_bind (tupFoldD (guards_under_guard hi hg) (fun b m => Clear.cons (hc b (List.mem_cons_of_mem _ m)) fun e => ha (e ▸ m)) (by rw [hi2]; omega) (by rw [hi3]; omega) _ _ _ _ _ _ el (by omega) hs fun h' tk k => ?_)
  unfold retStr
  have hl := el.len
  have et : Str.ofString "(" ++ (Str.ofString ", ").join ((#[] : Array Str) ++ ts.toArray).toList ++ Str.ofString (if (items.size == 1) = true then ",)" else ")") = tupleText ts := by
    unfold tupleText
    have : ts.length = items.size := by simpa using hl
    rw [this]
    simp
  simp only [et]
  exact wpAny_bind (wpAny_mkStr (wpAny_pure (hQ h' tk (tk + 1) k)) (by omega))
theorem ReprD.tuple {a : Addr} {o : Obj} {items : Array Value} {na : Nat} {ts : List Str} (h1 : h₀.get? a = some o) (h2 : o.cls = .type "tuple") (hdt : o.data = .seq items na) (ha : a ∉ as) (el : ReprAllD prog w as h₀ d n items.toList ts) : ReprD prog w (a :: as) h₀ (d + 1) (n + 1) (.ref a) (tupleText ts) := by
  intro base hb A g E s Q hg hc hu hd hs hQ
  refine wpAny_pyReprUnder_ref (by omega) ?_
  have ty : s.TypeIs (.ref a) "tuple" := ⟨o, hs a o h1, h2⟩
  refine wpAny_pyReprObjUnder_twin ty F.slot_tuple_repr rfl (by omega) ?_
  refine call_twin_own (body := Builtin.tupleReprAt) (F.quiet_tuple_repr_under _) F.entry_tuple_repr_under F.check_tuple_repr_under ty F.slot_tuple_repr (F.args_tuple_repr_1 _) ?_
  exact tuple_reprAtD h1 hdt ha el (isGuard_tuple_repr_under _) (units_under_tuple_repr_under _ _) (depth_under_tup _ _) hg hc hu hd hs (fun h' u tk k => ⟨⟨_, _, rfl⟩, _, _, rfl, hQ h' tk k⟩) hb
open PyProof.Rows (envOfC)
def obText (p1 p2 p3 : Str) (wd : Int) (ts : List Str) : Str := Str.empty ++ p1 ++ (toString wd : Str) ++ p2 ++ listText ts ++ p3
end
end DL

namespace DL
variable [Tbs]
open PySem L2
def txtO : D → Bool
  | .str x => x.all fun c => decide (c < 1114112)
  | _ => false
def obO (c : Str) (fs : List Str) : List D → Bool
  | [.int i, .lst _ ts] => decide (c = ("Heads" : Str)) && decide (fs = [("own_width" : Str), ("told" : Str)]) && decide (0 ≤ i) && decide (i.toNat ≤ 1000000) && ts.all txtO
  | _ => false
def strD : D → Str
  | .str x => ⟨x.toArray⟩
  | _ => Str.empty
def shOb : List D → Str
  | [.int i, .lst _ ts] => obText "Heads(" ", " ")" i (ts.map fun t => reprText (strD t))
  | _ => Str.empty
mutual
def lenO : D → Nat
  | .lst _ xs => lensO xs + 3
  | .tup xs => lensO xs + 3
  | .obj _ _ _ xs => lenOb xs
  | .str x => 47 * x.length + 45
  | _ => 45
def lenOb : List D → Nat
  | [] => 100
  | x :: xs => lenO x + 2 + lenOb xs
def lensO : List D → Nat
  | [] => 0
  | x :: xs => lenO x + 2 + lensO xs
end
theorem len_leaf {d : D} (p : plainD d = true) (h : shortD d = true) : (toPy d).shown.length ≤ 47 * bulkD d + 45 := by
  have := PyData.shown_le_bulk 45 (by decide) (toPy d) (short_py d p h).1
  rwa [bulk_py d p] at this
theorem txt_len {t : D} (h : txtO t = true) : (reprText (strD t)).length ≤ lenO t := by
  cases t <;> first | cases h | skip
  rename_i x
  exact len_leaf (d := .str x) rfl h
theorem sum_txt : ∀ {ts : List D}, ts.all txtO = true → ((ts.map fun t => reprText (strD t)).map fun x => x.length).sum + 2 * ts.length ≤ lensO ts
  | [], _ => by simp [lensO]
  | t :: ts, h => by
    simp only [List.all_cons, Bool.and_eq_true] at h
    have h1 := txt_len h.1
    have h2 := sum_txt h.2
    simp [lensO] at h2 ⊢
    omega
theorem int_len {i : Int} (h : i.natAbs < 10 ^ 40) : (toString i : Str).length ≤ 45 := short_int h
theorem ob_len {c : Str} {fs : List Str} {xs : List D} (h : obO c fs xs = true) : (shOb xs).length ≤ lenOb xs := by
  unfold obO at h
  split at h
  · rename_i i o ts
    simp only [Bool.and_eq_true, decide_eq_true_eq] at h
    obtain ⟨⟨⟨⟨h1, h2⟩, h3⟩, h4⟩, h5⟩ := h
    have a1 := int_len (i := i) (by have : (10:Nat) ^ 40 > 1000000 := by decide
                                    omega)
    have a2 := listText_len_le (ts.map fun t => reprText (strD t))
    have a3 := sum_txt h5
    simp only [shOb, obText, strLen_append, lenOb, lenO]
    simp only [List.length_map] at a2
    have e0 : (Str.empty).length = 0 := rfl
    have e1 : ("Heads(" : Str).length = 6 := rfl
    have e2 : (", " : Str).length = 2 := rfl
    have e3 : (")" : Str).length = 1 := rfl
    omega
  · cases h
section
variable {cm : Cm} {W W' : Addr → Prop} {H : Hp}
end
structure ReprFn (K : PySem.W.Frag) (C : Addr) : Prop where
  ex : ∃ (f : Addr) (fd : FuncData) (qual : Str) (st : Stmt) (q1 q2 q3 q4 q5 q6 q7 q8 q9 q10 q11 : Pos) (k1 k2 k3 : Nat), L2.Meth K C "__repr__" f ∧ L2.Fun K "__repr__" qual st f fd ∧ L2.FnScope ["self"] ["self"] (defScope st) ∧ (defScope st).names.lookup ("self" : Str) = some NameKind.local ∧ L2.Binds K fd ["self"] [] ∧
    defBody st = [.Return (some (.JoinedStr [.Constant (.str "Heads(") k1 q1, .FormattedValue (.Attribute (.Name "self" q2) "own_width" q3) (-1) none q4, .Constant (.str ", ") k2 q5, .FormattedValue (.Attribute (.Name "self" q6) "told" q7) (-1) none q8, .Constant (.str ")") k3 q9] q10)) q11]
section
variable {X : Cx} {cm : Cm} {pins : List (Addr × Obj)} {σ : St} {H : Hp} {s : Shared} {W : Addr → Prop}
end
end DL

namespace DL
variable [Tbs]
open PySem L2
section
variable {X : Cx} {cm : Cm} {E : XS} {b : Bool} {pos p : Pos} {a c : Expr}
end
end DL

namespace DL
variable [Tbs]
open PySem L2
section
variable {X : Cx} {cm : Cm} {E : XS} {pos p : Pos} {o : Expr}
end
end DL

namespace DL
variable [Tbs]
open PySem L2
section
variable {X : Cx} {cm : Cm} {E : XS} {b : Bool} {pos : Pos} {a c : Expr} {fa fb : F}
end
end DL

namespace DL
variable [Tbs]
open PySem L2
section
variable {X : Cx} {cm : Cm} {E : XS} {b : Bool} {pos : Pos} {a c tg : Expr} {fa fb : F}
end
end DL

namespace DL
variable [Tbs]
open PySem L2
section
variable {X : Cx} {cm : Cm} {E : XS} {pos : Pos} {a e : Expr} {f : FX}
end
structure KTab (K : PySem.W.Frag) (w : World) (mg : Str → Option Value) (x : Str) (tab : List (List Nat × Int)) : Prop where
  ex : ∃ p es n, mg x = some (.ref p) ∧ KDict K w p es n ∧ ∀ c ∈ tab, ∃ t, PySem.W.nsIn K p ⟨c.1.toArray⟩ = some (some (.int c.2 t))
section
variable {X : Cx} {cm : Cm} {E : XS} {b : Bool} {pos p2 : Pos} {a : Expr} {fa : F} {x : Str} {tab : List (List Nat × Int)}
end
end DL

namespace DL
variable [Tbs]
open PySem L2
section
variable {X : Cx} {cm : Cm} {E : XS} {b : Bool} {pos : Pos}
end
end DL

namespace DL
variable [Tbs]
open PySem L2
section
variable {X : Cx} {cm : Cm} {E : XS} {b : Bool} {pos : Pos} {a c : Expr} {fa fb : F}
end
end DL

namespace DL
variable [Tbs]
open PySem L2
section
variable {X : Cx} {cm : Cm} {E : XS} {pos apos : Pos} {a e : Expr}
theorem pe_or {t u : TE} (h1 : PE X e t) (h2 : PE X e u) : PE X e (fun σ H Q => t σ H Q ∨ u σ H Q) := ⟨fun pins s σ H Q I h => h.elim (h1.run pins s σ H Q I) (h2.run pins s σ H Q I)⟩
end
end DL

namespace DL
variable [Tbs]
open PySem L2
section
variable {K : PySem.W.Frag} {nm ql : Str} {ps : Arguments} {bd : List Stmt} {sc : Scope} {f : Addr}
end
end DL

namespace DL
variable [Tbs]
open PySem L2
abbrev HashN (w : World) : Prop := ∀ k, Tbs.hN k = NestedKey.hash w k
section
variable {P : Program} {w : World} {W : Addr → Prop} {H : Hp} {h : Heap}
mutual
theorem NK.is (ok : HOk P w H h) : ∀ {k : NestedKey} {v : V} {u : Value}, NK W H k v → RelV v u → NestedIs h k u
  | _, _, u, .num i, r => by
    obtain ⟨t, rfl⟩ := (show ∃ t, u = Value.int i t from r)
    exact .int i t
  | _, _, u, .text x, r => by
    obtain ⟨t, rfl⟩ := (show ∃ t, u = Value.str x t from r)
    exact .text x t
  | _, _, u, .none, r => by
    cases (show u = Value.none from r)
    exact .none
  | _, _, u, .tup (p := p) (vs := vs) e n ks, r => by
    cases (show u = Value.ref p from r)
    obtain ⟨z, its, rv, o, h1, h2, m, h3⟩ := (show ObjOk P w H h p (.tup vs) from ok _ _ e)
    exact .tup h1 h2 h3 (by simpa using NKs.is ok ks rv)
theorem NKs.is (ok : HOk P w H h) : ∀ {ks : List NestedKey} {vs : List V} {us : List Value}, NKs W H ks vs → Vals vs us → NestedAll h ks us
  | _, _, _, .nil, r => by cases r; exact .nil
  | _, _, _, .cons k ks, r => by
    cases r with
    | cons r1 r2 => exact .cons (NK.is ok k r1) (NKs.is ok ks r2)
end
structure NdAt (W : Addr → Prop) (H : Hp) (a : Addr) (xs : List NEnt) : Prop where
  ex : ∃ o, H a = some (ndH a o) ∧ NdO xs o
  sm : (a == sysModules) = false
  ks : ∀ x ∈ xs, NK W H x.1 (.ref x.2.1)
theorem NdAt.dict {a : Addr} {xs : List NEnt} (ok : HOk P w H h) (n : NdAt W H a xs) (hw : HashN w) : h.DictOfH (nestedKind P w) a xs := by
  obtain ⟨o, e, ⟨ex, dp⟩, nd, es, ep, hd, he⟩ := n.ex
  obtain ⟨φ, _, _⟩ := (show ObjOk P w H h a (ndH a o) from ok a _ e)
  refine ⟨o, es, ep, φ, ex, hd, ?_, fun x m => ⟨(n.ks x m).is ok rfl, dp x m⟩, nd⟩
  rw [he]
  refine List.map_congr_left fun x _ => ?_
  unfold entryOfKey
  rw [hw]
  rfl
end
section
variable {X : Cx} {pins : List (Addr × Obj)} {σ : St} {H : Hp} {s : Shared} {a b : Addr} {A : Around} {E : Value → Shared → Prop} {W : Addr → Prop} {xs : List NEnt} {k : NestedKey}
end
section
variable {X : Cx} {o i value : Expr} {pos pos' : Pos} {td ty tv : TE}
end
end DL

namespace DL
variable [Tbs]
open PySem L2
section
variable {cm : Cm} {W : Addr → Prop} {H : Hp}
end
end DL

namespace DL
variable [Tbs]
open PySem L2
section
variable {X : Cx} {cm : Cm} {E : XS} {b : Bool} {pos : Pos} {a c : Expr} {fa fb : F}
end
end DL

namespace DL
variable [Tbs]
open PySem L2
section
variable {X : Cx} {cm : Cm} {E : XS} {b : Bool} {pos : Pos} {a c : Expr} {fa fb : F}
end
end DL

namespace DL
variable [Tbs]
open PySem PySem.Spec PyProof.Rows L2
section
variable {P : Program} {w : World} {K : PySem.W.Frag} {tg : Expr} {d : Addr} {o : Obj} {xs : List NEnt} {es : Array DictEntry} {ep : Nat}
end
section
variable {cm : Cm} {W : Addr → Prop} {H : Hp}
end
end DL

namespace DL
variable [Tbs]
open PySem L2
def gLenN : D → Out D
  | .dN _ ks _ => if ks.length ≤ 1000000 then .ok (.int ks.length) else .bad
  | _ => .bad
section
variable {X : Cx} {cm : Cm} {E : XS} {b : Bool} {pos : Pos}
end
end DL

namespace DL
variable [Tbs]
open PySem L2 L2.DX PySem.Spec
section
variable {X : Cx} {W : Addr → Prop}
end
section
variable {cm : Cm} {W : Addr → Prop} {H : Hp}
end
section
variable {X : Cx} {cm : Cm} {E : XS} {b : Bool} {pos p p2 q : Pos} {a : Expr} {fa : F}
end
end DL

namespace DL
open PySem L2
abbrev IsZipS (h : Heap) (z TI TO : Addr) (f0 f1 : Value) : Prop :=
  h.get? z = some { cls := .type "zip", dict := none, data := .fields #[f0, f1, .bool true, .ref TI, .ref TO], slots := #[] }
section
variable {prog : Program} {w : World} {A : Around} {E : Value → Shared → Prop} {s : Shared}
end
end DL

namespace DL
open PySem L2
section
variable {prog : Program} {w : World} {A : Around} {E : Value → Shared → Prop} {s : Shared}
end
end DL

namespace DL
open PySem L2
structure ZSt (z TI TO i1 i2 l1 l2 S : Addr) (xs ys : Array Value) (i : Nat) (h : Heap) : Prop where
  zf : (i = 0 ∧ IsZipS h z TI TO .none (.bool false) ∧ IsPair h TO .none .none) ∨ ∃ (T : Addr) (oT : Obj) (f : Bool), IsZipS h z TI TO (rawInt T) (.bool f) ∧ h.get? T = some oT ∧ T ≠ z ∧ T ≠ TO ∧ T ≠ i1 ∧ T ≠ i2 ∧ T ≠ S
  ti : IsPair h TI (.ref i1) (.ref i2)
  h1 : h.IsListIter i1 l1 i
  h2 : h.IsListIter i2 l2 i
  hl1 : h.IsList l1 xs
  hl2 : h.IsList l2 ys
structure ZAp (z TI TO i1 i2 l1 l2 S : Addr) : Prop extends ZipApart z TI TO i1 i2 l1 l2 where
  Sz : S ≠ z
  STI : S ≠ TI
  STO : S ≠ TO
  Si1 : S ≠ i1
  Si2 : S ≠ i2
  Sl1 : S ≠ l1
  Sl2 : S ≠ l2
section
variable {z TI TO i1 i2 l1 l2 S : Addr} {xs ys : Array Value} {i : Nat} {h h' : Heap}
theorem ZSt.keep (D : ZAp z TI TO i1 i2 l1 l2 S) (st : ZSt z TI TO i1 i2 l1 l2 S xs ys i h) (up : ∀ b o, b ≠ S → h.get? b = some o → h'.get? b = some o) : ZSt z TI TO i1 i2 l1 l2 S xs ys i h' where
  zf := by
    rcases st.zf with ⟨a, b, c⟩ | ⟨T, oT, f, a, b, c1, c2, c3, c4, c5⟩
    · exact .inl ⟨a, up _ _ D.Sz.symm b, up _ _ D.STO.symm c⟩
    · exact .inr ⟨T, oT, f, up _ _ D.Sz.symm a, up _ _ c5 b, c1, c2, c3, c4, c5⟩
  ti := up _ _ D.STI.symm st.ti
  h1 := st.h1.at fun o e => up _ o D.Si1.symm e
  h2 := st.h2.at fun o e => up _ o D.Si2.symm e
  hl1 := st.hl1.at fun o e => up _ o D.Sl1.symm e
  hl2 := st.hl2.at fun o e => up _ o D.Sl2.symm e
end
section
variable {prog : Program} {w : World} {A : Around} {E : Value → Shared → Prop} {s : Shared} {z TI TO i1 i2 l1 l2 S : Addr} {xs ys : Array Value} {i : Nat}
end
structure MadeZ (xs ys : Array Value) (lo : Addr) (h : Heap) (as : List Addr) : Prop where
  rise : as.Pairwise (· < ·)
  above : ∀ a ∈ as, lo < a
  pairs : ∀ (j : Nat) (a : Addr), as[j]? = some a → ∃ x y, xs[j]? = some x ∧ ys[j]? = some y ∧ IsPair h a x y
theorem MadeZ.there {xs ys : Array Value} {lo : Addr} {h : Heap} {as : List Addr} (g : MadeZ xs ys lo h as) {a : Addr} (ha : a ∈ as) : a < h.objs.size := by
  obtain ⟨j, hj⟩ := List.mem_iff_getElem?.mp ha
  obtain ⟨_, _, _, _, e⟩ := g.pairs j a hj
  exact Heap.lt_size e
section
variable {prog : Program} {w : World} {A : Around} {s : Shared} {R : Result → Shared → Prop} {TI TO i1 i2 l1 l2 : Addr} {xs ys : Array Value}
end
section
variable {prog : Program} {w : World} {A : Around} {E : Value → Shared → Prop} {s : Shared} {z TI TO i1 i2 l1 l2 : Addr} {xs ys : Array Value}
theorem ZSt.ty {S : Addr} {i : Nat} (st : ZSt z TI TO i1 i2 l1 l2 S xs ys i s.heap) : s.TypeIs (.ref z) "zip" := by
  rcases st.zf with ⟨_, hz, _⟩ | ⟨_, _, _, hz, _⟩
  · exact ⟨_, hz, rfl⟩
  · exact ⟨_, hz, rfl⟩
end
end DL

namespace DL
variable [Tbs]
open PySem L2 L2.DX PySem.Spec
section
variable {M : Model} {A : Around} {E : Value → Shared → Prop} {s : Shared}
end
section
variable {X : Cx}
end
end DL

namespace DL
variable [Tbs]
open PySem L2
section
variable {cm : Cm} {W : Addr → Prop} {H : Hp}
end
section
variable {X : Cx} {cm : Cm} {E : XS} {W0 : Addr → Prop} {H : Hp} {σ : L2.St} {fps : Fps}
end
end DL

namespace DL
variable [Tbs]
open PySem L2
section
variable {X : Cx} {cm : Cm} {E : XS}
end
end DL

namespace DL
variable [Tbs]
open PySem L2 PyProof.Rows
section
variable {prog : Program} {w : World} {A : Around} {E : Value → Shared → Prop} {s : Shared} {d : Addr} {es : Array DictEntry} {ep : Nat}
end
end DL

namespace DL
variable [Tbs]
open PySem L2 PyProof.Rows
section
variable {X : Cx}
end
end DL

namespace DL
variable [Tbs]
open PySem L2
section
variable {X : Cx} {cm : Cm} {E : XS}
end
end DL

namespace DL
variable [Tbs]
open PySem L2
section
variable {X : Cx} {cm : Cm} {E : XS} {pos : Pos} {tg : Expr}
end
end DL

namespace DL
variable [Tbs]
open PySem L2
end DL

namespace DL
variable [Tbs]
open PySem L2 PySem.Spec
section
variable {cm : Cm} {W : Addr → Prop} {H : Hp}
end
end DL

namespace DL
variable [Tbs]
open PySem L2 PySem.Spec
section
variable {X : Cx} {cm : Cm} {E : XS} {k n : Nat} {c : Str} {ps : List Str} {mm : List D → Out D}
end
end DL

namespace DL
variable [Tbs]
open PySem L2 PySem.Spec
section
variable {X : Cx} {cm : Cm} {E : XS} {k n : Nat} {c : Str} {ps : List Str} {mm : List D → Out D}
end
section
variable {cm : Cm} {b : Bool} {c : Str} {mm : List D → Out D}
end
end DL

namespace DL
variable [Tbs]
open PySem L2
def unS : D → D := fun d => if shr d = true then .any else d
def mixF (p : Nat → Bool) : Nat → Env → Env → Env
  | k, o :: r, o' :: r' => (if p k = true then o'.map unS else o) :: mixF p (k + 1) r r'
  | _, _, _ => []
section
variable {X : Cx} {cm : Cm} {E : XS} {W0 : Addr → Prop} {H H' : Hp} {σ σ' : St} {r r' : Env} {fps f' : Fps}
end
end DL

namespace DL
variable [Tbs]
open PySem L2
def getAK {α : Type} (k : Key) : List Key → List α → Option α
  | g :: gs, d :: ds => if g = k then some d else getAK k gs ds
  | _, _ => none
instance memK1 (k : Key) (ks : List Key) : Decidable (k ∈ ks) := if h : (ks.any fun g => decide (g = k)) = true then .isTrue (by
  obtain ⟨g, m, e⟩ := List.any_eq_true.mp h
  rw [decide_eq_true_eq] at e
  exact e ▸ m) else .isFalse fun m => h (List.any_eq_true.mpr ⟨k, m, by simp⟩)
section
variable {cm : Cm} {W : Addr → Prop} {H : Hp}
end
end DL

namespace DL
variable [Tbs]
open PySem L2
section
variable {X : Cx} {cm : Cm} {E : XS} {b : Bool} {pos : Pos} {a c : Expr} {fa fb : F}
def gKG : D → D → Out D := fun d kd => match d with
  | .dK _ ks xs => (match keyD kd with
    | some k => (match getAK k ks xs with
      | some x => .ok x
      | none => .bad)
    | none => .bad)
  | _ => .bad
end
section
variable {X : Cx} {cm : Cm} {E : XS} {b : Bool} {pos : Pos} {a c : Expr} {fa fb : F}
end
end DL

namespace DL
variable [Tbs]
open PySem L2
section
variable {X : Cx} {cm : Cm} {E : XS} {b : Bool} {pos : Pos} {a c : Expr} {fa fb : F}
end
end DL

namespace DL
variable [Tbs]
open PySem L2
def SwpK (H H' : Hp) (d : Addr) (kvs : List (Key × V)) : Prop := (∀ a, a ≠ d → H' a = H a) ∧ ∃ od, (H d = some (.dK kvs) ∧ H' d = some (.frz od (.dK kvs))) ∨ (H d = some (.frz od (.dK kvs)) ∧ H' d = some (.dK kvs))
section
variable {cm : Cm} {W : Addr → Prop} {H H' : Hp} {d : Addr} {kvs : List (Key × V)}
theorem SwpK.at0 {a : Addr} {o : HO} (s : SwpK H H' d kvs) (h : H a = some o) (n1 : o ≠ .dK kvs) (n2 : ∀ od, o ≠ .frz od (.dK kvs)) : H' a = some o := by
  rw [s.1 a]
  · exact h
  · rintro rfl
    obtain ⟨od, ⟨q, _⟩ | ⟨q, _⟩⟩ := s.2
    · rw [h] at q; exact n1 (Option.some.inj q)
    · rw [h] at q; exact n2 od (Option.some.inj q)
def isDK : HO → Bool
  | .dK _ => true
  | .frz _ (.dK _) => true
  | _ => false
theorem SwpK.at {a : Addr} {o : HO} (s : SwpK H H' d kvs) (h : H a = some o) (n : isDK o = false) : H' a = some o := s.at0 h (fun z => by rw [z] at n; cases n) fun od z => by rw [z] at n; cases n
theorem SwpK.tb {T : List (Addr × Str)} (s : SwpK H H' d kvs) (t : LamX.Tabs T H) : LamX.Tabs T H' := fun q hq => by
  obtain ⟨ps, h1, h2, h3⟩ := t q hq
  refine ⟨ps, s.at h1 rfl, h2, fun pos cv hc => ?_⟩
  obtain ⟨c, e1, e2⟩ := h3 pos cv hc
  exact ⟨c, e1, s.at e2 rfl⟩
theorem SwpK.off {a : Addr} {o : HO} (s : SwpK H H' d kvs) (h : H a = some o) (n : d ≠ a) : H' a = some o := (s.1 a (Ne.symm n)).trans h
theorem SwpK.rd {p : Addr} {k2 : List (Key × V)} (s : SwpK H H' d kvs) (h : Rd H p (.dK k2)) : Rd H' p (.dK k2) := by
  by_cases e : p = d
  · obtain ⟨od, ⟨q, q'⟩ | ⟨q, q'⟩⟩ := s.2
    · rw [← e] at q q'
      rcases h with h | ⟨o, h⟩
      · rw [h] at q; cases q; exact .inr ⟨od, q'⟩
      · rw [h] at q; cases q
    · rw [← e] at q q'
      rcases h with h | ⟨o, h⟩
      · rw [h] at q; cases q
      · rw [h] at q; cases q; exact .inl q'
  · exact h.imp (fun h => (s.1 p e).trans h) fun ⟨o, h⟩ => ⟨o, (s.1 p e).trans h⟩
end
end DL

namespace DL
variable [Tbs]
open PySem L2
section
variable {cm : Cm} {W : Addr → Prop} {H : Hp}
end
section
variable {X : Cx} {cm : Cm} {E : XS} {pos : Pos} {ks0 : Nat → Bool} {tg : Expr} {g : FS}
end
section
variable {X : Cx} {cm : Cm} {E : XS} {b : Bool} {pos : Pos} {a c tg : Expr} {fa fb : F}
end
end DL

namespace DL
variable [Tbs]
open PySem L2
section
variable {X : Cx} {cm : Cm} {E : XS} {b : Bool} {pos p : Pos} {a c : Expr}
end
end DL

namespace DL
variable [Tbs]
open PySem L2
section
variable {X : Cx} {ke ve : Expr} {pos : Pos} {tk tv : TE}
end
section
variable {X : Cx} {cm : Cm} {E : XS} {pos : Pos} {ke ve : Expr} {fa fb : F}
end
end DL

namespace DL
variable [Tbs]
open PySem L2
section
variable {X : Cx} {cm : Cm} {E : XS} {b : Bool} {pos : Pos} {ks : Nat → Bool} {a c tg : Expr} {fa fb : F}
end
end DL

namespace DL
variable [Tbs]
open PySem L2
section
variable {cm : Cm} {W : Addr → Prop} {H : Hp}
end
section
variable {cm : Cm} {E : XS} {ks : Nat → Bool} {g : FS}
end
section
variable {X : Cx} {cm : Cm} {E : XS} {pos : Pos} {ks0 : Nat → Bool} {tg : Expr} {g : FS}
end
end DL

namespace DL
variable [Tbs]
open PySem L2
def gStr2 : D → Out D
  | .str cs => .ok (.str cs)
  | .int i => if 0 ≤ i ∧ i.toNat ≤ 1000000 then .ok (.str (TL.numL i.toNat)) else .bad
  | .non => .ok (.str [78, 111, 110, 101])
  | _ => .bad
def gLenK : D → Out D
  | .dK _ ks _ => .ok (.int ks.length)
  | _ => .bad
section
variable {X : Cx} {cm : Cm} {E : XS} {b : Bool} {pos p : Pos} {a e : Expr}
end
end DL

namespace DL
variable [Tbs]
open PySem L2 PyProof.Rows
section
variable {prog : Program} {w : World} {A : Around} {E : Value → Shared → Prop} {s : Shared} {d : Addr} {es : Array DictEntry} {ep : Nat}
end
section
variable {X : Cx}
end
end DL

namespace DL
variable [Tbs]
open PySem L2
section
variable {X : Cx} {cm : Cm} {E : XS}
end
end DL

namespace DL
variable [Tbs]
open PySem L2
section
variable {prog : Program} {w : World} {A : Around} {E : Value → Shared → Prop} {s : Shared}
end
end DL

namespace DL
variable [Tbs]
open PySem L2
section
variable {X : Cx} {pins : List (Addr × Obj)} {σ : St} {H : Hp} {s : Shared} {a b : Addr} {A : Around} {E : Value → Shared → Prop} {W : Addr → Prop} {xs : List NEnt} {k : NestedKey}
end
section
variable {X : Cx} {o e f : Expr} {apos cpos : Pos} {td ty tx : TE}
end
section
variable {X : Cx} {cm : Cm} {E : XS} {b : Bool} {o e f : Expr} {apos cpos : Pos} {fa fb fc : F}
end
end DL

namespace DL
variable [Tbs]
open PySem L2
section
variable {X : Cx} {cm : Cm} {E : XS} {o : Expr}
end
end DL

namespace DL
variable [Tbs]
open PySem L2
section
variable {X : Cx} {cm : Cm} {E : XS} {ks : Nat → Bool} {pos : Pos} {e tg : Expr}
def TgC (cm : Cm) (ks : Nat → Bool) (t : List V → St → Hp → (St → Hp → Prop) → Prop) (g : List D → Env → Out Env) : Prop :=
  ∀ W0 H σ r fps vs ds fpv, Good cm (Wp W0 fpv) H σ r fps → Reps cm (Wof (Wp W0 fpv) fps) H vs ds fpv → fpv.Nodup → (∀ a ∈ fpv, ¬ W0 a) → ∀ Q : St → Hp → Prop,
    Post (g ds r) (fun r' => ∀ σ' fps', Good cm W0 H σ' r' fps' → (∀ j a, a ∈ fps' j → (∃ k, a ∈ fps k) ∨ a ∈ fpv) → Keep ks σ σ' → Q σ' H) noX → t vs σ H Q
def TgC1 (cm : Cm) (ks : Nat → Bool) (t : V → St → Hp → (St → Hp → Prop) → Prop) (g : D → Env → Out Env) : Prop :=
  ∀ W0 H σ r fps v d fpv, Good cm (Wp W0 fpv) H σ r fps → Rep cm (Wof (Wp W0 fpv) fps) H v d fpv → fpv.Nodup → (∀ a ∈ fpv, ¬ W0 a) → ∀ Q : St → Hp → Prop,
    Post (g d r) (fun r' => ∀ σ' fps', Good cm W0 H σ' r' fps' → (∀ j a, a ∈ fps' j → (∃ k, a ∈ fps k) ∨ a ∈ fpv) → Keep ks σ σ' → Q σ' H) noX → t v σ H Q
structure YG (X : Cx) (cm : Cm) (ks : Nat → Bool) (tg : Expr) (g : D → Env → Out Env) : Prop where
  ex : ∃ t, PG X tg t ∧ TgC1 cm ks t g
structure YGs (X : Cx) (cm : Cm) (ks : Nat → Bool) (tgs : List Expr) (g : List D → Env → Out Env) : Prop where
  ex : ∃ t, PGs X tgs t ∧ TgC cm ks t g
def sAsgO (f : FX) (g : D → Env → Out Env) : FS := fun r => match f r with
  | .ok p => match g p.1 p.2 with
    | .ok r' => .nx r'
    | _ => .bad
  | .exn x r' => .exn x r'
  | .bad => .bad
end
end DL

namespace DL
variable [Tbs]
open PySem L2
section
variable {X : Cx} {cm : Cm} {E : XS} {pos : Pos} {a : Expr} {f : FX}
end
end DL

namespace DL
variable [Tbs]
open PySem L2
inductive ItsE (K : PySem.W.Frag) (H : Hp) : List V → List PyData → Prop
  | nil : ItsE K H [] []
  | plain {v : V} {d : PyData} {vs : List V} {ds : List PyData} : Dp K H v d → d.showable = true → d.hasDict = false → d.depth ≤ 58 → ItsE K H vs ds → ItsE K H (v :: vs) (d :: ds)
  | dict {p : Addr} {vs : List V} {ds : List PyData} : Rd H p (.dK []) → ItsE K H vs ds → ItsE K H (.ref p :: vs) (.dict [] :: ds)
section
variable {X : Cx} {cm : Cm} {E : XS} {b : Bool} {pos p : Pos} {a : Expr}
end
end DL

namespace DL
variable [Tbs]
open PySem PySem.Spec PyProof.Rows L2
section
variable {P : Program} {w : World} {K : PySem.W.Frag} {tg : Expr} {d : Addr} {o : Obj} {es : Array DictEntry} {ep : Nat}
end
section
variable {cm : Cm} {W : Addr → Prop} {H : Hp}
end
section
variable {X : Cx} {cm : Cm} {E : XS} {b : Bool} {pos : Pos} {a c tg : Expr} {fa fb : F}
end
end DL

namespace DL
variable [Tbs]
open PySem L2
section
variable {X : Cx} {cm : Cm} {E : XS} {pos : Pos} {a k e : Expr} {fs : Env → Out (List D × Env)}
end
end DL

namespace DL
variable [Tbs]
open PySem L2
section
variable {X : Cx} {cm : Cm} {E : XS} {b : Bool} {pos : Pos}
end
end DL

namespace DL
variable [Tbs]
open PySem PySem.Spec PyProof.Rows L2
section
variable {X : Cx}
end
section
variable {X : Cx} {cm : Cm} {E : XS}
end
end DL

namespace DL
variable [Tbs]
open PySem PySem.Spec PyProof.Rows L2
section
variable {P : Program} {w : World} {K : PySem.W.Frag} {d : Addr} {o : Obj} {es : Array DictEntry} {ep : Nat}
end
section
variable {cm : Cm} {W : Addr → Prop} {H : Hp}
end
section
variable {X : Cx} {cm : Cm} {E : XS} {pos : Pos} {ks0 : Nat → Bool} {g : FS}
end
end DL

namespace DL
variable [Tbs]
open PySem L2
section
variable {X : Cx} {cm : Cm} {E : XS} {b : Bool} {pos p apos : Pos} {a c e o : Expr} {fa fb : F}
end
end DL

namespace DL
variable [Tbs]
open PySem L2
theorem Rep.tyA {cm : Cm} (hC : CmOk cm) {W : Addr → Prop} {H : Hp} {v : V} {d : D} {fp : List Addr} (h : Rep cm W H v d fp) (nd : ∀ ks xs o, d ≠ .dT o ks xs) (ns : ∀ ns, d ≠ .scr ns) (ne : ∀ c fs xs, d ≠ .exc c fs xs) (na : d ≠ .any) (nn : ∀ o ks xs, d ≠ .dN o ks xs) :
    ∃ ty, TyX cm.K H v ty ∧ ∀ t : Ty, PySem.W.kitOne cm.K ty (.type t.nm) = some (isTy t d) := by
  cases h with
  | non => exact ⟨_, .base .non, fun t => by rw [kit_ty (kb_non t)]; cases t <;> rfl⟩
  | bl b => exact ⟨_, .base (.bl b), fun t => by rw [kit_ty (kb_bool t)]; cases t <;> rfl⟩
  | int b => exact ⟨_, .base (.int b), fun t => by rw [kit_ty (kb_int t)]; cases t <;> rfl⟩
  | str b => exact ⟨_, .base (.str _), fun t => by rw [kit_ty (kb_str t)]; cases t <;> rfl⟩
  | lstO h r => exact ⟨_, .base (.lst h), fun t => by rw [kit_ty (kb_list t)]; cases t <;> rfl⟩
  | lstF h n r => exact ⟨_, .base (.lst h), fun t => by rw [kit_ty (kb_list t)]; cases t <;> rfl⟩
  | tup h n r => exact ⟨_, .base (.tup h), fun t => by rw [kit_ty (kb_tup t)]; cases t <;> rfl⟩
  | dKO h l r => exact ⟨_, .base (.dK h), fun t => by rw [kit_ty (kb_dict t)]; cases t <;> rfl⟩
  | dKF h l n r =>
    rcases h with h | ⟨o, h⟩
    · exact ⟨_, .base (.dK h), fun t => by rw [kit_ty (kb_dict t)]; cases t <;> rfl⟩
    · exact ⟨_, .fDict h, fun t => by rw [kit_ty (kb_dict t)]; cases t <;> rfl⟩
  | dTO h l r => exact absurd rfl (nd _ _ _)
  | dTF h l n r => exact absurd rfl (nd _ _ _)
  | objO h l r =>
    have c := hC _ l.2
    exact ⟨_, .base (.ins h c.cl c.ha c.hn c.htk c.hm), fun t => by cases t <;> exact c.nb _⟩
  | objF h l n r =>
    have c := hC _ l.2
    exact ⟨_, .base (.ins h c.cl c.ha c.hn c.htk c.hm), fun t => by cases t <;> exact c.nb _⟩
  | scrF h n => exact absurd rfl (ns _)
  | scrK h => exact absurd rfl (ns _)
  | exc => exact absurd rfl (ne _ _ _)
  | any => exact absurd rfl na
  | dNO => exact absurd rfl (nn _ _ _)
  | dNF => exact absurd rfl (nn _ _ _)
section
variable {X : Cx} {cm : Cm} {E : XS} {b : Bool} {pos p : Pos} {a c : Expr} {fa fb : F}
end
end DL

namespace DL
variable [Tbs]
open PySem L2
end DL

namespace DL
variable [Tbs]
open PySem L2
section
variable {X : Cx} {cm : Cm} {E : XS} {pos : Pos} {ks0 : Nat → Bool} {tg : Expr} {g : FS}
end
end DL

namespace DL
variable [Tbs]
open PySem L2
theorem Good.take {cm : Cm} {W0 : Addr → Prop} {H : Hp} {σ : St} {r : Env} {fps : Fps} {j : Nat} {x : D} {v : V} (gd : Good cm W0 H σ r fps) (hd : r[j]? = some (some x)) (q1 : σ[j]? = some (some v)) :
    Good cm (Wp W0 (fps j)) H σ (r.set j (some .any)) (fun k => if k = j then [] else fps k) ∧ (∀ a, Wof (Wp W0 (fps j)) (fun k => if k = j then [] else fps k) a → Wof W0 fps a) ∧ Fram H fps H (fun k => if k = j then [] else fps k) (fps j) := by
  have hw : ∀ a, Wof (Wp W0 (fps j)) (fun k => if k = j then [] else fps k) a → Wof W0 fps a := fun a z => by
    rcases z with z | ⟨k, z⟩
    · rcases z with z | z
      · exact .inl z
      · exact .inr ⟨j, z⟩
    · simp only [] at z
      split at z
      · cases z
      · exact .inr ⟨k, z⟩
  refine ⟨⟨by rw [List.length_set]; exact gd.len, ⟨fun a z => gd.wof.1 a (hw a (.inl z)), gd.w0.2⟩, fun l d' hj => ?_, fun l => ?_, fun l k a m1 m2 => ?_, fun l a m z => ?_, fun l a m => ?_⟩, hw, ⟨fun a o z _ _ => z, fun l a m => ?_, fun a m => .inl ⟨j, m⟩, fun _ z => z, fun z => z⟩⟩
  · by_cases hji : l = j
    · subst hji
      rw [List.getElem?_set_self (List.getElem?_eq_some_iff.mp hd).1] at hj
      cases hj
      rw [if_pos rfl]
      exact ⟨v, q1, .any⟩
    · rw [List.getElem?_set_ne (fun z => hji z.symm)] at hj
      obtain ⟨u, u1, u2⟩ := gd.sl l d' hj
      simp only [hji, if_false]
      exact ⟨u, u1, u2.move (fun a z => .inl (hw a z)) fun a o z _ _ => z⟩
  · split
    · exact List.nodup_nil
    · exact gd.nd l
  · split at m1
    · cases m1
    · split at m2
      · cases m2
      · exact gd.dj l k a m1 m2
  · split at m
    · cases m
    · rename_i hne
      rcases z with z | z
      · exact gd.nw l a m z
      · exact hne (gd.dj l j a m z)
  · split at m
    · cases m
    · exact gd.mu l a m
  · split at m
    · cases m
    · exact .inl ⟨l, m⟩
section
variable {X : Cx} {cm : Cm} {E : XS} {a e : Expr} {pos apos : Pos}
end
end DL

namespace DL
variable [Tbs]
open PySem L2
section
variable {X : Cx} {cm : Cm} {E : XS} {pos apos : Pos} {o : Expr} {n k : Nat} {ps : List Str}
end
end DL

namespace PySem
open PySem.AutoSeq1
end PySem
namespace DL
variable [Tbs]
open PySem L2
section
variable {X : Cx} {cm : Cm} {E : XS} {pos p apos : Pos} {a e : Expr} {fa : F}
end
end DL

namespace DL
open PySem L2 PySem.Spec PyProof.Rows
section
variable {prog : Program} {w : World} {A : Around} {E : Value → Shared → Prop} {s : Shared} {it : Addr} {fp : List Addr} {n i : Nat} {P : Nat → Value → Prop} {St : Nat → Heap → Prop}
end
section
variable {prog : Program} {w : World} {A : Around} {E : Value → Shared → Prop} {s : Shared} {z TI TO i1 i2 : Addr} {fp1 fp2 : List Addr} {n1 n2 n i : Nat} {P1 P2 : Nat → Value → Prop} {S1 S2 : Nat → Heap → Prop} {a1 a2 : Value}
end
end DL

namespace DL
variable [Tbs]
open PySem L2 PySem.Spec PyProof.Rows
section
variable {prog : Program} {w : World} {A : Around} {E : Value → Shared → Prop} {s : Shared} {z TI TO i1 i2 T : Addr} {fp1 fp2 : List Addr} {n1 n2 n i : Nat} {P1 P2 : Nat → Value → Prop} {S1 S2 : Nat → Heap → Prop} {a1 a2 f0 f1 : Value}
end
section
variable {prog : Program} {w : World} {A : Around} {E : Value → Shared → Prop} {s : Shared}
end
def iZs (fs : Env → Out (List D)) : Env → Out (List D) := fun r => (fs r).bind fun ds => match ds with
  | [x, y] => match seqD x, seqD y with
    | some xs, some ys => if xs.length = ys.length then .ok ((xs.zip ys).map fun p => .tup [p.1, p.2]) else .bad
    | _, _ => .bad
  | _ => .bad
section
variable {X : Cx} {cm : Cm} {E : XS} {pos : Pos} {a c : Expr}
end
end DL

namespace DL
variable [Tbs]
open PySem L2
section
variable {X : Cx} {cm : Cm} {E : XS} {pos apos : Pos} {a e : Expr}
end
end DL

namespace DL
variable [Tbs]
open PySem L2
section
variable {X : Cx} {cm : Cm} {E : XS} {a e : Expr} {pos apos : Pos}
end
end DL

namespace DL
variable [Tbs]
open PySem L2
open PyProof.Rows (envOfC)
open LamX (CodeO TabB LamS lamEnv lamCx)
abbrev LamO (f : Addr) (q : Str) (par : Arguments) (bd : Expr) (sc : Scope) (cl : List (Str × Addr)) (d : Addr) : HO := .ext fun h => ∃ pm ct : Value, h.get? f = some (PySem.W.kla_obj "<lambda>" q par bd sc cl pm d ct)
structure LamK (X : Cx) (cm : Cm) (j : Nat) (par : Arguments) (bd : Expr) (sc : Scope) (fb : F) : Prop where
  L : LamS X.env.scope sc
  dz : defaultsOf par X.env = ([], [])
  bz : ∀ (q : Str) (cl : List (Str × Addr)) (pm cv ctv : Value), bindArgs (PySem.W.kla_fn "<lambda>" q par bd sc cl pm cv ctv) ⟨[], []⟩ = pure []
  hb : ∀ (A : Around) (outer : List PySem.Env) (s : Shared) (H : Hp) (E' : XK) (f d : Addr), RoomG j (A.deeper (lamEnv X sc s.heap.objs.size f d)) → DE (lamCx X A outer s H E' sc f d) cm (fun _ => E') true bd fb
def IsLam (X : Cx) (cm : Cm) (j : Nat) (m : Out D → Out D) (t : List Nat) (σ : St) (H : Hp) (v : V) : Prop := ∃ (f d : Addr) (par : Arguments) (bd : Expr) (sc : Scope) (fb : F) (W : Addr → Prop) (r : Env), v = .ref f ∧ H f = some (LamO f (lamQ X) par bd sc (cloFrom X.env.cells sc.names []) d) ∧ H d = some (CodeO d (lamQ X)) ∧ LamK X cm j par bd sc fb ∧ WOk cm W H ∧ FRep cm W H σ r ∧ m (fb r) = .ok (.str t)
theorem IsLam.ex {X : Cx} {cm : Cm} {j : Nat} {m : Out D → Out D} {t : List Nat} {σ : St} {H H' : Hp} {v : V} (h : IsLam X cm j m t σ H v) (e : Ex H H') : IsLam X cm j m t σ H' v := by
  obtain ⟨f, d, par, bd, sc, fb, W, r, h1, h2, h3, h4, h5, h6, h7⟩ := h
  exact ⟨f, d, par, bd, sc, fb, W, r, h1, e.get _ _ h2, e.get _ _ h3 nTb, h4, h5.ex e, h6.ex e, h7⟩
end DL

namespace DL
variable [Tbs]
open PySem L2
open LamX (CodeO TabB LamS lamEnv lamCx)
section
variable {X : Cx} {pins : List (Addr × Obj)} {σ : L2.St} {H : Hp} {s : Shared} {Q : VK} {elt iter : Expr} {ifs : List Expr} {c : Str} {pc pos : Pos} {scope : Scope} {j iy : Nat} {p : Addr} {vs : List V}
end
end DL

namespace DL
variable [Tbs]
open PySem L2
open LamX (CodeO TabB LamS lamEnv lamCx)
def Lam1 (X : Cx) (par : Arguments) (bd : Expr) (sc : Scope) (H : Hp) (v : V) : Prop := ∃ f d : Addr, v = .ref f ∧ H f = some (LamO f (lamQ X) par bd sc (cloFrom X.env.cells sc.names []) d) ∧ H d = some (CodeO d (lamQ X))
section
variable {X : Cx} {cm : Cm} {par : Arguments} {bd : Expr} {sc : Scope} {H H' : Hp} {v : V}
theorem Lam1.ex (h : Lam1 X par bd sc H v) (e : Ex H H') : Lam1 X par bd sc H' v := by
  obtain ⟨f, d, h1, h2, h3⟩ := h
  exact ⟨f, d, h1, e.get _ _ h2, e.get _ _ h3 nTb⟩
theorem Lam1.upd {p : Addr} {vs vs' : List V} (h : Lam1 X par bd sc H v) (hp : H p = some (.lst vs)) : Lam1 X par bd sc (L2.upd H p (.lst vs')) v := by
  obtain ⟨f, d, h1, h2, h3⟩ := h
  have n1 : f ≠ p := fun z => by rw [z, hp] at h2; cases h2
  have n2 : d ≠ p := fun z => by
    rw [z, hp] at h3
    unfold CodeO at h3
    cases h3
  exact ⟨f, d, h1, by rw [upd_ne n1]; exact h2, by rw [upd_ne n2]; exact h3⟩
end
end DL

set_option maxHeartbeats 4000000
namespace DL
variable [Tbs]
open PySem L2
abbrev ieTail : List Value := [.type "IndexError", .type "LookupError", .type "Exception", .type "BaseException", .type "object"]
structure OexJ (K : PySem.W.Frag) (C : Addr) : Prop where
  cls : ∃ nm q N bs bm sn sub ab col dd k0 k1 k2 k3 k5, K.lookup C = some (excClassObj nm q C N bs bm true sn sub ab col dd k0 k1 k2 k3 k5 "IndexError.__new__") ∧ PySem.W.excTail ieTail bm = true
  sa : PySem.W.findIn K (.ref C) "__setattr__" = some (some (.builtin "object.__setattr__"))
  exC : PySem.W.subIn K (.ref C) (.type "BaseException") = some true
  tyC : PySem.W.typeIn K (.ref C) = some (.type "type")
  kC : PySem.W.keepIn K (.ref C) = true
def oexJn (K : PySem.W.Frag) (C : Addr) : Bool := match K.lookup C with
  | some ⟨.type "type", _, .cls cd, sl⟩ => (match cd.mro, sl.toList with
    | .ref C' :: bm, [_, _, _, _, some (.builtin n), _] => decide (C' = C) && (decide (n = "IndexError.__new__") && (!cd.hasDel && (cd.hasDict && PySem.W.excTail ieTail bm)))
    | _, _ => false)
  | _ => false
theorem oexJn_cls {K : PySem.W.Frag} {C : Addr} (h : oexJn K C = true) : ∃ nm q N bs bm sn sub ab col dd k0 k1 k2 k3 k5, K.lookup C = some (excClassObj nm q C N bs bm true sn sub ab col dd k0 k1 k2 k3 k5 "IndexError.__new__") ∧ PySem.W.excTail ieTail bm = true := by
  unfold oexJn at h
  split at h
  · rename_i dd cd sl at_
    split at h
    · rename_i c' bm k0 k1 k2 k3 n k5 em es
      simp only [Bool.and_eq_true, decide_eq_true_eq, Bool.not_eq_true'] at h
      obtain ⟨rfl, rfl, nodel, hasd, tail⟩ := h
      obtain ⟨nm, bs, mro, ns, qn, hd, sn, sub, ab, col, del⟩ := cd
      simp only at em nodel hasd
      subst em nodel hasd
      obtain ⟨sl⟩ := sl
      simp only at es
      subst es
      exact ⟨nm, qn, ns, bs, bm, sn, sub, ab, col, dd, k0, k1, k2, k3, k5, at_, tail⟩
    · cases h
  · cases h
section
variable {X : Cx} {pins : List (Addr × Obj)} {σ : St} {H : Hp} {s : Shared} {a C dx : Addr} {f : Str} {y : V} {u : Value} {E : Value → Shared → Prop} {A : Around}
theorem osJ_new {Q : Unit → Shared → Prop} (T : OexJ X.K C) (I : Inv X pins σ H s) (e : H a = some (exo a C none)) (hno : PySem.W.findIn X.K (.ref C) f = some none) (ry : RelV y u)
    (h : ∀ dx s', H dx = none → dx ≠ a → Inv X pins σ (upd (upd H dx (exd dx [(f, y)])) a (exo a C (some dx))) s' → Q () s') : wpAny (model X.prog X.w) A (setAttr (.ref a) f u) Q E s := by
  obtain ⟨nm, q, N, bs, bm, sn, sub, ab, col, dd, k0, k1, k2, k3, k5, hC, hbm⟩ := T.cls
  have hcl : PySem.W.clsIn X.K C = some { name := nm, bases := bs, mro := .ref C :: bm, ns := N, qualname := q, hasDict := true, slotNames := sn, subclasses := sub, abstract := ab, collection := col, hasDel := false } := by unfold PySem.W.clsIn; rw [hC]
  have over : PySem.W.excOver X.K C ieTail = true := by
    unfold PySem.W.excOver
    rw [hcl]
    show (C == C && PySem.W.excTail ieTail bm) = true
    rw [hbm]
    simp
  have taker : PySem.W.takerIn X.K C f = some none := by
    unfold PySem.W.takerIn
    rw [hno]
    rfl
  obtain ⟨t1, ho⟩ := exo_at I.hok e
  obtain ⟨hp, g, d, t, os⟩ := s
  have axs : a ≠ hp.objs.size := Nat.ne_of_lt (Heap.lt_size ho)
  refine PySem.W.set_plain I.kIn (ox := { cls := .ref C, dict := none, data := .fields #[.ref t1, .none, .none, .none, .bool false, .none] }) (od := none) ⟨ho, rfl, rfl, trivial⟩ T.sa ?_
  refine PySem.W.osa_openX (od := none) PySem.F.store_IndexError I.kIn ⟨ho, rfl, rfl, trivial⟩ over taker fun b => ?_
  refine wpAny_bind (wpAny_pure (wpAny_bind (PySem.W.instanceDict_exc ho (PySem.W.looks_clsIn I.kIn hcl) rfl ?_)))
  have ho1 : (hp.push (PySem.W.dictOf [] 0)).get? a = some ({ cls := .ref C, dict := none, data := .fields #[.ref t1, .none, .none, .none, .bool false, .none] } : Obj) := Heap.get?_push_of_some _ ho
  refine PySem.HandSPX.store_in_new (dx := hp.objs.size) ⟨_, #[], _, (Heap.get?_update_ne _ _ _ _ axs.symm).trans (Heap.get?_push_at rfl rfl), rfl, fun e he => absurd he (by simp), fun _ => rfl⟩ fun h' tk' hn hs => ?_
  have hnd : H hp.objs.size = none := I.hok.fresh (Nat.le_refl _)
  have keep : ∀ b o, b ≠ a → hp.get? b = some o → h'.get? b = some o := fun b o hb hob =>
    (hs.2 b (Nat.ne_of_lt (Heap.lt_size hob))).trans ((Heap.get?_update_ne _ _ _ _ hb).trans (Heap.get?_push_of_some _ hob))
  have new : h'.get? a = some ({ cls := .ref C, dict := some hp.objs.size, data := .fields #[.ref t1, .none, .none, .none, .bool false, .none] } : Obj) :=
    (hs.2 a axs).trans (Heap.get?_update_self _ ho1 rfl)
  have young : ∀ {b : Addr} {o : Obj}, hp.get? b = some o → b ≠ hp.objs.size := fun z => Nat.ne_of_lt (Heap.lt_size z)
  have off : ∀ {b : Addr}, H b = none → b ≠ a := fun n z => by
    rw [z, e] at n
    cases n
  have un : Un X.fs [] H (upd (upd H hp.objs.size (exd hp.objs.size [(f, y)])) a (exo a C (some hp.objs.size))) hp h' := by
    refine ⟨fun b o q n _ _ => keep b o (off n) q, fun b o q n _ _ => ⟨o.slots, keep b o (off n) q⟩, fun b o q n _ => ?_, fun b o q _ => ?_, fun b xs q => ?_, fun b o v q => ?_, fun b ps q => ⟨#[], ?_⟩⟩
    · rw [upd_ne (off n), upd_ne (young q)]; exact n
    · by_cases z : b = a
      · exact ⟨_, by rw [z]; exact new⟩
      · exact ⟨o, keep b o z q⟩
    · rw [upd_ne (at_ne e q exo_tup), upd_ne (ne_of_none q hnd)]; exact q
    · rw [upd_ne (at_ne e q exo_frz), upd_ne (ne_of_none q hnd)]; exact q
    · rw [upd_ne (at_ne e q exo_tbl), upd_ne (ne_of_none q hnd), q]; simp
  refine h hp.objs.size ⟨h', g, d, tk', os⟩ hnd axs.symm (I.un (t' := tk') un fun b o q => ?_)
  by_cases z : b = a
  · subst z
    rw [upd_same] at q
    cases q
    exact exo_ok new
  · rw [upd_ne z] at q
    by_cases zd : b = hp.objs.size
    · subst zd
      rw [upd_same] at q
      cases q
      exact exd_ok hn (relO_put (fs := []) ry fun g => True.intro)
    · rw [upd_ne zd] at q
      refine (I.hok b o q).stay (fun c v hc r => keep c v ?_ r) (fun c hc => ?_) fun c xs hc => ?_
      · rcases hc with hc | hc
        · rw [hc]; exact z
        · exact at_ne e hc exo_own
      · rw [upd_ne (at_ne e hc exo_own), upd_ne (ne_of_none hc hnd)]; exact hc
      · rw [upd_ne (at_ne e hc exo_tup), upd_ne (ne_of_none hc hnd)]; exact hc
theorem oiJ_ok {us : List Value} {Q : Value → Shared → Prop} (T : OexJ X.K C) (I : Inv X pins σ H s) (e : H a = some (exo a C none)) (hl : us.length ≤ sizeLine) (h : ∀ s', Inv X pins σ H s' → Q .none s') :
    wpAny (model X.prog X.w) A (call (.builtin "IndexError.__init__") (.ref a :: us)) Q E s := by
  obtain ⟨nm, q, N, bs, bm, sn, sub, ab, col, dd, k0, k1, k2, k3, k5, hC, hbm⟩ := T.cls
  obtain ⟨t1, ho⟩ := exo_at I.hok e
  obtain ⟨hp, g, d, t, os⟩ := s
  refine wpAny_call (PySem.HandSPX.init_base PySem.F.excBase_IndexError (fun Y => PySem.W.excTail_contains Y bm hbm) (I.kIn _ _ hC) ho hl fun h' t2 keep new => h _ ?_)
  have J := I.write (t' := t) (x := a) (e := a) (o := exo a C none) (by rw [e]; exact True.intro) (.inl rfl) keep ⟨_, new⟩ (exo_ok new)
  have same : upd H a (exo a C none) = H := by
    funext b
    by_cases z : b = a
    · rw [z, upd_same, e]
    · rw [upd_ne z]
  rw [same] at J
  exact J
end
def tIeJ (K : PySem.W.Frag) (ta : TA) : TE := fun σ H Q => ta σ H fun vs H1 => ∃ (a C : Addr) (ws : List V), vs = .ref a :: ws ∧ ws.length ≤ 1000 ∧ OexJ K C ∧ H1 a = some (exo a C none) ∧ Q .non H1
def tOsJ (K : PySem.W.Frag) (f : Str) (to te : TE) : TS := fun D σ H => te σ H fun y H1 => to σ H1 fun x H2 => ∃ a C : Addr, x = .ref a ∧ OexJ K C ∧ PySem.W.findIn K (.ref C) f = some none ∧ H2 a = some (exo a C none) ∧ ∀ dx, H2 dx = none → dx ≠ a → D.nx σ (upd (upd H2 dx (exd dx [(f, y)])) a (exo a C (some dx)))
theorem typ_IE : typeOf (.type "IndexError") = pure (.type "type") := by kernel_rfl
section
variable {X : Cx} {o e : Expr} {es : List Expr} {to te : TE} {ta : TA} {f : Str} {p p' p1 p2 pos : Pos}
theorem pe_ieJ {pl : Sem Bool} (hg : Gl X "IndexError") (hm : X.mg "IndexError" = none) (vV : PySem.W.findCls X.K (.type "IndexError") (.type "type") "__init__" = some (.val (.builtin "IndexError.__init__"))) (ha : PA X (e :: es) ta)
    (ht : eval (.Call (.Attribute (.Name "IndexError" p1) "__init__" p2) (e :: es) [] pos) X.env = (do
      let ov ← eval (.Name "IndexError" p1) X.env
      standAt p2.atName
      let (f, first) ← holding [ov] (getMethod ov "__init__" pl)
      callWith pos f first (backTo pos (starEach (e :: es) X.env)) (backToKw pos (keywordEach [] X.env))) := by rfl)
    (hse : starEach (e :: es) X.env = (false, eval e X.env) :: starEach es X.env := by rfl) (hpl : (backTo pos (starEach es X.env)).any (·.1) = false := by rfl) :
    PE X (.Call (.Attribute (.Name "IndexError" p1) "__init__" p2) (e :: es) [] pos) (tIeJ X.K ta) := by
  refine ⟨fun pins s σ H Q I h => ?_⟩
  refine PySem.W.methodCall_KW (ld_blt I hg hm PyProof.Rows.Boot.«IndexError» ?_ (by decide) (by decide)) ht
  obtain ⟨m, fr⟩ := I.fr
  refine PySem.W.method_type fr I.ok.mod.kin typ_IE (by decide +kernel) vV (by decide +kernel) ?_
  show wpAny _ _ (callWith pos (Value.builtin "IndexError.__init__") [] (backTo pos (starEach (e :: es) X.env)) []) _ _ _
  refine PyProof.Rows.callWith_method1 (thn (ha.run pos pins _ σ H _ (I.tok _) h) fun us s1 ⟨vs, H1, I1, r1, a, C, ws, ev, hl, T, ea, q⟩ => ?_) hse hpl
  subst ev
  cases r1 with
  | @cons _ u0 _ ur ra rw' =>
    obtain rfl : u0 = Value.ref a := ra
    refine oiJ_ok T I1 ea ?_ fun s' J => ⟨.non, H1, J, rfl, q⟩
    rw [← Paired.length rw', sizeLine_eq]
    omega
theorem ps_osJ (ho : PE X o to) (he : PE X e te) (hs : swapsWith e (some (.Attribute o f p')) pos.line X.env = pure false := by rfl) : PS X (.Assign [.Attribute o f p'] e pos) (tOsJ X.K f to te) := by
  refine ⟨fun pins s σ H D I h => plainObj_wpAny_Assign_Attribute (thn (he.run pins s σ H _ I h) fun v s1 ⟨y, H1, I1, r1, q1⟩ => thn (ho.run pins s1 σ H1 _ I1 q1) fun u s2 ⟨x, H2, I2, r2, a, C, ex, T, hno, ea, q⟩ => ?_) hs⟩
  subst ex
  obtain rfl : u = Value.ref a := r2
  exact osJ_new T I2 ea hno r1 fun dx s' n ne J => ⟨σ, _, J, q dx n ne⟩
end
def spJ (K : PySem.W.Frag) (n : Str) : Sp := fun vs H Q E => ∃ a C v, vs = [.ref a, v] ∧ OexJ K C ∧ PySem.W.findIn K (.ref C) n = some none ∧ H a = some (exo a C none) ∧ ∀ dx, H dx = none → dx ≠ a → Q .non (Hx H a C dx [(n, v)])
abbrev tJ0 (K : PySem.W.Frag) (m : Str) : TS := tDrop (tIeJ K (tCons (tVar 0) (tCons (tC (.str m)) tNil)))
theorem fnJ1 {P : Program} {w : World} {K : PySem.W.Frag} {mg : Str → Option Value} {base : Heap} {qual : Str} {st : Stmt} {f : Addr} {fd : FuncData} {m f1 p1 : Str} (Fu : Fun K "__init__" qual st f fd) (S : FnScope ["self", p1] ["self", p1] (defScope st))
    (hp : ∀ cdv A outer s H E, PSs (cxOf CXn P w K mg base ["self", p1] qual (defScope st) f cdv A outer s H E) (defBody st) (tSeq (tJ0 K m) (tOsJ K f1 (tVar 0) (tVar 1)))) :
    FnOk P w K mg base CXn 1 f fd ["self", p1] (spJ K f1) := by
  obtain ⟨oc, od, kV, doc, pm, an, cdv, ct, osl, rfl, lk, hcd⟩ := Fu.ex
  refine fn_of lk hcd S (fun vs H Q E ⟨a, C, v, e, _⟩ => by subst e; rfl) fun A outer s H vs Q E hr hsp => ?_
  obtain ⟨a, C, v, rfl, TC, hno, hH, hQ⟩ := hsp
  refine ⟨_, hp cdv A outer s H E, ?_⟩
  exact ⟨.ref a, rfl, a, C, [_], rfl, by simp, TC, hH, v, rfl, .ref a, rfl, a, C, rfl, TC, hno, hH, fun dx n ne => hQ dx n ne⟩
structure ExcJ (P : Program) (w : World) (K : PySem.W.Frag) (mg : Str → Option Value) (base : Heap) (cm : Cm) (c n : Str) : Prop where
  g : mg c = some (.ref (cm.cl c))
  o : OexJ K (cm.cl c)
  na : PySem.W.findIn K (.ref (cm.cl c)) n = some none
  ex : ∃ fI fd ps, PySem.W.findIn K (.ref (cm.cl c)) "__init__" = some (some (.ref fI)) ∧ PySem.W.typeIn K (.ref fI) = some (.type "function") ∧ FnOk P w K mg base CXn 1 fI fd ps (spJ K n) ∧ Binds K fd ps []
section
variable {X : Cx} {e : Expr} {es : List Expr} {ta : TA} {p pos : Pos}
theorem pmk_oeJ {x n : Str} {C fI : Addr} {k : Nat} {fd : FuncData} {ps : List Str} (T : OexJ X.K C) (iC : PySem.W.findIn X.K (.ref C) "__init__" = some (some (.ref fI))) (tI : PySem.W.typeIn X.K (.ref fI) = some (.type "function"))
    (F1 : FnOk X.prog X.w X.K X.mg X.base CXn k fI fd ps (spJ X.K n)) (hr : Room (k + 1) X.A) (hb : Binds X.K fd ps []) (hg : Gl X x) (hm : X.mg x = some (.ref C)) (ha : PA X (e :: es) ta)
    (hdb : (x == ("__debug__" : Str)) = false := by decide) (hse : starEach (e :: es) X.env = (false, eval e X.env) :: starEach es X.env := by rfl) (hpl : (backTo pos (starEach es X.env)).any (·.1) = false := by rfl) :
    PMk X (.Call (.Name x p) (e :: es) [] pos) (tMkO C (spJ X.K n) [] ta) := by
  intro pins s σ H Q I h
  obtain ⟨nm, q, N, bs, bm, sn, sub, ab, col, dd, k0, k1, k2, k3, k5, hC, hbm⟩ := T.cls
  refine wpAny_Call_Name_kw (ld_glob I hg hm ?_ hdb)
  refine PySem.W.callWith_K (h₀ := X.base) I.ok.mod.kin T.kC (thn (ha.run pos pins s σ H _ I h) fun us s1 ⟨vs, H1, I1, r1, hz, q1⟩ => ⟨I1.kIn, ?_⟩) hse hpl
  show wpAny _ _ (call (.ref C) us) _ _ _
  obtain ⟨hp, g, dr, tk, os⟩ := s1
  have up1 : hp.objs.size ≤ hp.objs.size + 1 := Nat.le_succ _
  have none1 : H1 (hp.objs.size + 1) = none := I1.hok.fresh up1
  have hq := q1 (hp.objs.size + 1) none1
  rw [List.append_nil] at hq
  have keep : ∀ b o, hp.get? b = some o → ((hp.push (PySem.W.kdv_tup us)).push (PySem.HandSPX.excO C hp.objs.size)).get? b = some o := fun b o z => Heap.get?_push_of_some _ (Heap.get?_push_of_some _ z)
  have there : ((hp.push (PySem.W.kdv_tup us)).push (PySem.HandSPX.excO C hp.objs.size)).get? (hp.objs.size + 1) = some (PySem.HandSPX.excO C hp.objs.size) := by heap_get
  have I2 : Inv X pins σ (upd H1 (hp.objs.size + 1) (exo (hp.objs.size + 1) C none)) ⟨(hp.push (PySem.W.kdv_tup us)).push (PySem.HandSPX.excO C hp.objs.size), g, dr, tk, os⟩ :=
    I1.laid (t' := tk) (a := hp.objs.size + 1) (o := exo (hp.objs.size + 1) C none) (h' := (hp.push (PySem.W.kdv_tup us)).push (PySem.HandSPX.excO C hp.objs.size)) keep up1 (exo_ok there)
  have r2 : Vals (V.ref (hp.objs.size + 1) :: vs) (Value.ref (hp.objs.size + 1) :: us) := .cons rfl r1
  have hl : (Value.ref (hp.objs.size + 1) :: us ++ []).length = ps.length := by
    have z := r2.length
    rw [F1.len _ _ _ _ hq] at z
    rw [List.append_nil]
    exact z.symm
  have few : us.length ≤ sizeLine := by
    rw [← Paired.length r1, sizeLine_eq]
    omega
  have b2 := hb _ (Value.ref (hp.objs.size + 1) :: us) I2.kIn hl
  rw [List.append_nil] at b2
  refine wpAny_call (PySem.HandSPX.call_own PySem.F.excBase_IndexError (fun Y => PySem.W.excTail_contains Y bm hbm) (I1.kIn _ _ hC) (PySem.W.looks_findIn I1.kIn iC) (fun self => PySem.W.bind_fn I1.kIn self tI) few
    (codeAny_mono (F1.run _ X.stack _ _ ⟨Value.ref (hp.objs.size + 1) :: us, []⟩ (Value.ref (hp.objs.size + 1) :: us) _ _ (fun _ _ _ => False) (hr.make C us []) (I2.env0.make C us []) b2 r2 hq) fun r s' z => ?_))
  match r, z with
  | .error er, z => exact (show False from z).elim
  | .ok (.ret u), ⟨v, H2, os2, bare2, un2, hok2, rv, ev, d, fs, ea, ed, hd1, q2⟩ =>
    subst ev
    obtain ⟨h2, g2, d2, t2, os'⟩ := s'
    exact ⟨rv, mk_end (raises_own T.exC T.tyC) I1 up1 keep un2 hok2 os2 bare2 ea ed hd1 q2⟩
end
section
variable {X : Cx} {cm : Cm} {E : XS} {pos p pos2 : Pos} {ks : Nat → Bool} {e : Expr} {es : List Expr}
theorem ds_raiseJ {c n : Str} {h : Env → Out (List D × Env)} (hc : X.calm = true) (tk : TakesG X E) (T : ExcJ X.prog X.w X.K X.mg X.base cm c n) (hr : Room 2 X.A) (ha : XA X cm E (e :: es) h) (hg : Gl X c := by rfl) (hdb : (c == ("__debug__" : Str)) = false := by decide)
    (hse : starEach (e :: es) X.env = (false, eval e X.env) :: starEach es X.env := by rfl) (hpl : (backTo pos2 (starEach es X.env)).any (·.1) = false := by rfl) :
    DS X cm E ks (.Raise (some (.Call (.Name c p) (e :: es) [] pos2)) none pos) (sRaiseF c [n] h) := by
  obtain ⟨ta, h1, h2⟩ := ha.ex
  obtain ⟨fI, fd, ps, iC, tI, F, hb⟩ := T.ex
  refine ⟨_, ps_raise hc tk (pmk_oeJ T.o iC tI F hr hb hg T.g h1 hdb hse hpl), fun W0 H σ r fps gd D hp => h2 W0 H σ r fps gd _ ?_⟩
  unfold sRaiseF at hp
  cases hh : h r with
  | bad => rw [hh] at hp; exact hp.elim
  | exn x r' =>
    rw [hh] at hp
    exact fun H' fps' dx g' fm xr => hp σ H' fps' dx g' fm (Keep.refl ks σ) xr
  | ok q =>
    rw [hh] at hp
    simp only [] at hp
    intro vs H1 f1 p1 g1 k1 n1 w1 m1
    split at hp
    · rename_i hl
      have one : vs.length = 1 := k1.len.trans hl.1
      match vs, one with
      | [v], _ =>
        refine ⟨by simp, fun a na => ⟨a, cm.cl c, v, by rfl, T.o, T.na, upd_same, fun dx ndx ne => ?_⟩⟩
        have nd1 : H1 dx = none := by rw [upd_ne ne] at ndx; exact ndx
        refine ⟨rfl, dx, [(n, v)], Hx_a, Hx_d ne, nd1, ?_⟩
        rw [Hx_end na ne]
        have ko := k1.open g1 w1 fun _ m => m
        have ex : Ex H1 (upd H1 dx (.xd [(n, v)])) := Ex.new nd1
        refine hp σ _ f1 (some dx) (g1.drop.ex ex) (m1.trans (Fram.of_ex (fps := f1) (fpv := []) ex fun a m => absurd m (List.not_mem_nil))) (Keep.refl ks σ) (.inr ⟨dx, [v], rfl, ?_, by simp, reps_rev (ko.ex ex)⟩)
        rw [upd_same]
        rfl
    · exact hp.elim
end
end DL

namespace DL
variable [Tbs]
open PySem L2
open PyProof.Rows (envOfC)
open LamX (CodeO TabB)
def wAs (K : PySem.W.Frag) (i : Nat) (Wout : WX) (D : Ends) : List (Value × TS) → WX
  | [] => Wout
  | (c, ts) :: l => fun cls d σ H => ∃ b, PySem.W.exmOne K cls c = some b ∧ (b = true → ∀ a, H a = none → ts { nx := fun σ' H' => D.nx (σ'.set i none) H', rt := fun _ _ => False, bk := fun _ _ => False, ct := fun _ _ => False } (σ.set i (some (.ref a))) (upd H a (ExK cls d a))) ∧ (b = false → wAs K i Wout D l cls d σ H)
inductive HdsAs (X : Cx) (n : Str) : List ExceptHandler → List (Value × TS) → Prop
  | nil : HdsAs X n [] []
  | cons {x : Str} {c : Value} {ts : TS} {b₀ : Stmt} {suite : List Stmt} {np pos' : Pos} {hds : List ExceptHandler} {l : List (Value × TS)} (hc : Names X x c) (hsu : ∀ (a : Addr) (pn : List (Addr × Obj)), PSs (X.suite a pn) (b₀ :: suite) ts) (r : HdsAs X n hds l) :
      HdsAs X n (.ExceptHandler (some (.Name x np)) (some n) (b₀ :: suite) pos' :: hds) ((c, ts) :: l)
section
variable {X : Cx} {pins : List (Addr × Obj)} {σ : St} {H : Hp} {s : Shared} {a : Addr} {q : Addr × Obj}
theorem unpin1 (I : Inv (X.suite a (q :: (X.pn ++ pins))) [] σ H s) (ok : X.Ok) : Inv (X.suite a (X.pn ++ pins)) [] σ H s :=
  ⟨ok.suite _ _, I.os, I.bare, I.base, I.loc, I.cell, I.free, I.freeC, fun p hp => I.pin p (by
    have hp : p ∈ (X.pn ++ pins) ++ [] := hp
    rw [List.append_nil] at hp
    exact List.mem_append_left _ (List.mem_cons_of_mem _ hp)), I.hok, I.len⟩
theorem out1 (I : Inv (X.suite a (X.pn ++ pins)) [] σ H s) (ok : X.Ok) : Inv X pins σ H s :=
  ⟨ok, I.os, I.bare, I.base, I.loc, I.cell, I.free, I.freeC, fun p hp => I.pin p (List.mem_append_left _ hp), I.hok, I.len⟩
end
theorem ps_tryAs {X : Cx} {n : Str} {i : Nat} {body : List Stmt} {h₀ : ExceptHandler} {hds : List ExceptHandler} {l : List (Value × TS)} {pos : Pos} {tb : WX → TS} {Wout : WX} (hs : X.stack = X.env :: X.outer) (hf : X.env.frame = some X.env.locals) (hex : X.ex = []) (hN : X.N.Nodup) (hi : X.N[i]? = some n) (hln : X.env.kindOf n = some .local) (tk : Takes X Wout)
    (hb : ∀ (W : WX) (pn : List (Addr × Obj)) (xe : Value → Shared → Prop), Takes (X.tr pn xe) W → PassesOwn (model X.prog X.w) X.A X.env xe → PSs (X.tr pn xe) body (tb W)) (hh : HdsAs X n (h₀ :: hds) l) :
    PS X (.Try body (h₀ :: hds) [] [] pos) (fun D σ H => tb (wAs X.K i Wout D l) D σ H) := by
  constructor
  intro pins s σ H D I h
  have ok := I.ok
  have fr : X.A.frames = some (X.env :: X.outer) := ok.frames.trans (congrArg some hs)
  apply wpAny_Try_except
  let M := model X.prog X.w
  let xe : Value → Shared → Prop := fun e s₁ => wpAny M X.A (noteFrame e X.env) (fun _ s₂ => wpAny M X.A (setFlight e none) (fun _ s₃ => wpAny M X.A (handleBy e X.env (h₀ :: hds)) (SP X pins D) X.xe s₃) X.xe s₂) X.xe s₁
  have catch_ : Takes (X.tr (X.pn ++ pins) xe) (wAs X.K i Wout D l) := by
    rintro u s' ⟨a, B, sI, pins', σ', H', cls, d, rfl, J', nb, up, sky, na, os, ag, wish⟩
    have J : Inv X pins σ' H' sI := J'.ofTry ok
    rw [show (X.tr (X.pn ++ pins) xe).stack = X.env :: X.outer from hs] at sky
    show wpAny M X.A (noteFrame (.ref a) X.env) _ _ _
    apply Sky.land Zc.steady fr hf sky
    intro h3 fl3 up3
    have J3 : Inv X pins σ' H' { s' with heap := h3 } := J.landed nb fl3.1 (up.trans up3) os ag
    obtain ⟨oe3, vs3, he3, hz3, hd3⟩ := fl3.there
    have nfr : a ∉ frs (X.env :: X.outer) := fun hm => by
      obtain ⟨_, o', e', hn'⟩ := fl3.2.2.1.mem hm
      rw [he3] at e'
      cases e'
      exact hn' _ hd3
    have nI : sI.heap.get? a = none := by
      cases q : sI.heap.get? a with
      | none => rfl
      | some o =>
        have z := nb a o q (by rw [hs]; exact nfr)
        rw [fl3.2.1] at z
        cases z
    have n0 : X.s_0.heap.get? a = none := by
      cases q : X.s_0.heap.get? a with
      | none => rfl
      | some o =>
        obtain ⟨o', z⟩ := J.base.there a o q (by rw [hex]; exact List.not_mem_nil)
        rw [nI] at z
        cases z
    have npn : ∀ p ∈ X.pn ++ pins, p.1 ≠ a := fun p hp z => by
      have q := (J.pin p hp).1
      rw [z, nI] at q
      cases q
    have nL : a ≠ X.env.locals := fun z => nfr (List.mem_filterMap.mpr ⟨X.env, List.mem_cons_self, by rw [hf, z]⟩)
    have nF : a ∉ X.fs := fun hm => by
      obtain ⟨e, he, q⟩ := List.mem_filterMap.mp hm
      exact nfr (List.mem_filterMap.mpr ⟨e, List.mem_cons_of_mem _ he, q⟩)
    have S3 := J3.suite he3 hd3 na nL nF
    have go : ∀ {hs' : List ExceptHandler} {l' : List (Value × TS)}, HdsAs X n hs' l' → wAs X.K i Wout D l' cls d σ' H' → wpAny M X.A (handleBy (.ref a) X.env hs') (SP X pins D) X.xe { s' with heap := h3 } := by
      intro hs' l' hk
      induction hk with
      | nil =>
        intro no
        apply wpAny_handleBy_nil
        obtain ⟨k1, k2, k3, oe, us, T, oT, ts', he, hz, hd, h1, hr⟩ := id fl3
        unfold PySem.passOn
        apply wpAny_bind
        apply wpAny_field he hd h1
        rw [if_neg (show ¬ ((Value.ref T == Value.none) = true) from by simp)]
        have fin : wpAny M X.A (setFlight (.ref a) X.env.frame) (fun _ s4 => wpAny M X.A (throw (.ref a) : Sem Flow) (SP X pins D) X.xe s4) X.xe { s' with heap := h3 } := by
          rw [hf]
          apply HandSPX.setFlight_upZ fl3
          intro h4 hh4 up4
          apply wpAny_throw
          exact tk _ _ ⟨a, B, sI, pins, σ', H', cls, d, rfl, J, nb, (up.trans up3).trans up4, .inr (.inr (by rw [hs]; exact hh4)), na, os, ag, no⟩
        first
          | exact wpAny_bind (wpAny_pure (wpAny_bind fin))
          | exact wpAny_bind fin
      | @cons x c ts b₀ suite np pos' hds2 l2 hc hsu r ih =>
        intro w
        obtain ⟨b, hb1, yes, no⟩ := w
        refine wpAny_handleBy_cons (codeAny_handlers_test ?_) (by intro z; cases z)
        have tyA : PySem.W.Looks M h3 (typeOf (.ref a)) cls := fun A Q E s k q => wpAny_typeOf_ref (k _ _ he3) (by rw [hz3.1]; exact q)
        have isA := PySem.W.exm_one (M := M) J3.kIn tyA hb1
        have cls_ : ∀ {Q E : Value → Shared → Prop}, Q c { s' with heap := h3 } → wpAny M (X.A.mark (some (.ref a))) (eval (.Name x np) X.env) Q E { s' with heap := h3 } := by
          intro Q E q
          rcases hc with ⟨hg, hdbg, hm | ⟨hm, hv, hnn⟩⟩
          · exact ld_glob (X := X.suite a ((a, oe3) :: (X.pn ++ pins))) S3 hg hm q hdbg
          · exact ld_blt (X := X.suite a ((a, oe3) :: (X.pn ++ pins))) S3 hg hm hv q hnn hdbg
        apply cls_
        apply isA.here
        match b, yes, no with
        | false, _, no =>
          show wpAny _ X.A (handleBy (.ref a) X.env hds2) _ _ _
          exact ih (no rfl)
        | true, yes, _ =>
          apply codeAny_handlers_suite_as
          apply HandSPX.lands_againZ fl3
          intro h4 fl4 up4
          have J4 : Inv X pins σ' H' { s' with heap := h4 } := J.landed nb fl4.1 ((up.trans up3).trans up4) os ag
          obtain ⟨oe4, vs4, he4, hz4, hd4⟩ := fl4.there
          have S4 := J4.suite he4 hd4 na nL nF
          refine store_ok (X := X.suite a ((a, oe4) :: (X.pn ++ pins))) (v := .ref a) S4 hN hi (.inl hln) rfl (fun s5 S5 => ?_) (.inr hln)
          have e5 := (S5.pin (a, oe4) (List.mem_append_left _ (List.mem_cons_self ..))).1
          have T5 := track (X := X.suite a (X.pn ++ pins)) (unpin1 S5 ok) e5 hz4 hd4 na nL n0 (fun p hp => npn p (by
            have hp : p ∈ (X.pn ++ pins) ++ [] := hp
            rw [List.append_nil] at hp
            exact hp))
          refine wpAny_mono ((hsu a (X.pn ++ pins)).run [] s5 _ _ _ T5 (yes rfl a na)) ?_ (fun _ _ z => z.elim)
          intro f s6 hsp
          match f, hsp with
          | .next, ⟨σ6, H6, S6, q6⟩ =>
            refine gone_ok (X := X.suite a (X.pn ++ pins)) S6 hN hi hln fun s7 S7 => ?_
            exact ⟨_, _, out1 S7 ok, q6⟩
          | .brk, ⟨_, _, _, q⟩ => exact q.elim
          | .cont, ⟨_, _, _, q⟩ => exact q.elim
          | .ret _, ⟨_, _, _, _, _, q⟩ => exact q.elim
    exact go hh wish
  refine wpAny_mono ((hb (wAs X.K i Wout D l) (X.pn ++ pins) xe catch_ PassesOwn.looking).run [] s σ H D (I.toTry _) h) ?_ (fun e s1 he => he)
  intro f s1 hsp
  match f, hsp with
  | .next, ⟨σ', H', J', q⟩ => exact wpAny_execs_nil ⟨σ', H', J'.ofTry ok, q⟩
  | .brk, ⟨σ', H', J', q⟩ => exact ⟨σ', H', J'.ofTry ok, q⟩
  | .cont, ⟨σ', H', J', q⟩ => exact ⟨σ', H', J'.ofTry ok, q⟩
  | .ret u, ⟨v, σ', H', J', r, q⟩ => exact ⟨v, σ', H', J'.ofTry ok, r, q⟩
end DL

namespace DL
variable [Tbs]
open PySem L2
open PyProof.Rows (envOfC)
open LamX (CodeO TabB)
def mPick (i : Nat) (g1 : FS) (x : Xc) : List ((Str → Option Bool) × FS) → Env → Out D
  | [], _ => .bad
  | (sub, gs) :: l, r => match sub x.cls with
    | some true => if i < r.length ∧ x.fs.length = x.ds.length then (match gs (r.set i (some (.exc x.cls x.fs x.ds))) with
      | .nx r2 => finS (g1 (r2.set i none))
      | _ => .bad) else .bad
    | some false => mPick i g1 x l r
    | none => .bad
def mKind2 (subs : List ((Str → Option Bool) × FS)) (N i : Nat) (g0 g1 : FS) (o : Out D) : Out D := match g0 (List.replicate N none) with
  | .nx r1 => if noV r1 = true then (match o with
    | .ok _ => finS (g1 r1)
    | .exn x _ => mPick i g1 x subs r1
    | .bad => .bad) else .bad
  | _ => .bad
inductive HdD (P : Program) (w : World) (K : PySem.W.Frag) (mg : Str → Option Value) (base : Heap) (cm : Cm) (N : List Str) (qual : Str) (sc : Scope) (g : Addr) (n : Str) (kk : Nat) : List ExceptHandler → List ((Str → Option Bool) × FS) → Prop
  | nil : HdD P w K mg base cm N qual sc g n kk [] []
  | cons {h : Str} {sub : Str → Option Bool} {gs : FS} {b₀ : Stmt} {suite : List Stmt} {np pos' : Pos} {hds : List ExceptHandler} {l : List ((Str → Option Bool) × FS)} (hg : sc.names.lookup h = some .globalImplicit) (hm : mg h = some (.ref (cm.cl h))) (hsub : ∀ c b, sub c = some b → PySem.W.exmOne K (.ref (cm.cl c)) (.ref (cm.cl h)) = some b) (hdb : (h == ("__debug__" : Str)) = false)
      (hD : ∀ (cdv : Value) (A : Around) (outer : List PySem.Env) (s : Shared) (H : Hp) (E : XK) (a : Addr) (pn : List (Addr × Obj)), RoomG kk (A.deeper (envOfC qual sc s.heap.objs.size g cdv)) → DSs ((cxB P w K mg base N qual sc g cdv A outer s H E).suite a pn) cm E0' k0 (b₀ :: suite) gs) (r : HdD P w K mg base cm N qual sc g n kk hds l) :
      HdD P w K mg base cm N qual sc g n kk (.ExceptHandler (some (.Name h np)) (some n) (b₀ :: suite) pos' :: hds) ((sub, gs) :: l)
theorem suiteTs {X : Addr → List (Addr × Obj) → Cx} {cm : Cm} {ss : List Stmt} {gs : FS} (h : ∀ a pn, DSs (X a pn) cm E0' k0 ss gs) : ∀ a pn, PSs (X a pn) ss (fun D σ H => ∃ W0 r fps, Good cm W0 H σ r fps ∧ SPost cm E0' W0 H σ fps k0 D (gs r)) := fun a pn => by
  obtain ⟨ts, h1, h2⟩ := (h a pn).ex
  exact ⟨fun pins s σ H D I ⟨W0, r, fps, gd, hp⟩ => h1.run pins s σ H D I (h2 W0 H σ r fps gd D hp)⟩
theorem HdD.go {P : Program} {w : World} {K : PySem.W.Frag} {mg : Str → Option Value} {base : Heap} {cm : Cm} {N : List Str} {qual : Str} {sc : Scope} {g : Addr} {n : Str} {kk : Nat} {hds : List ExceptHandler} {subs : List ((Str → Option Bool) × FS)} (hh : HdD P w K mg base cm N qual sc g n kk hds subs)
    (cdv : Value) (A : Around) (outer : List PySem.Env) (s : Shared) (H : Hp) (E : XK) (hr : RoomG kk (A.deeper (envOfC qual sc s.heap.objs.size g cdv))) : ∃ l, HdsAs (cxB P w K mg base N qual sc g cdv A outer s H E) n hds l ∧ ∀ (i : Nat) (g1 : FS) (Wout : WX) (Dn : Ends) (W : Addr → Prop) (H2 : Hp) (σ1 : St) (r1 : Env) (x : Xc) (dx : Option Addr) (QQ : D → Prop) (XX : Xc → Env → Prop),
      Good cm W H2 σ1 r1 (fun _ => []) → XRep cm (Wof W (fun _ => [])) H2 x dx → Post (mPick i g1 x subs r1) QQ XX → (∀ (r2 : Env) (σ2 : St) (H3 : Hp) (f2 : Fps), Good cm W H3 σ2 r2 f2 → Fram H2 (fun _ => []) H3 f2 [] → Post (finS (g1 r2)) QQ XX → Dn.nx σ2 H3) → wAs K i Wout Dn l (.ref (cm.cl x.cls)) dx σ1 H2 := by
  induction hh with
  | nil => exact ⟨[], .nil, fun i g1 Wout Dn W H2 σ1 r1 x dx QQ XX gd xr hp hn => hp.elim⟩
  | @cons h sub gs b₀ suite np pos' hds l hg hm hsub hdb hD r ih =>
    obtain ⟨l', q1, q2⟩ := ih
    have ps := suiteTs (X := fun a pn => (cxB P w K mg base N qual sc g cdv A outer s H E).suite a pn) fun a pn => hD cdv A outer s H E a pn hr
    refine ⟨(.ref (cm.cl h), _) :: l', .cons ⟨hg, hdb, .inl hm⟩ ps q1, fun i g1 Wout Dn W H2 σ1 r1 x dx QQ XX gd xr hp hn => ?_⟩
    unfold mPick at hp
    cases hb : sub x.cls with
    | none => rw [hb] at hp; exact hp.elim
    | some b =>
      rw [hb] at hp
      refine ⟨b, hsub _ _ hb, fun e a na => ?_, fun e => ?_⟩
      · subst e
        simp only [] at hp
        split at hp
        case isFalse => exact hp.elim
        rename_i hlen
        have e3 : Ex H2 (upd H2 a (ExK (.ref (cm.cl x.cls)) dx a)) := Ex.new na
        have rp := XRep.kept gd xr hlen.2 na
        have g4 := Good.put (fpv := []) (by rw [wp_nil]; exact gd.ex e3) (by rw [wp_nil]; exact rp) List.nodup_nil (fun _ m => nomatch m) i
        have nil1 : (fun j : Nat => if j = i then ([] : List Addr) else []) = fun _ => [] := by funext j; split <;> rfl
        rw [nil1] at g4
        refine ⟨W, _, _, g4, ?_⟩
        cases hgs : gs (r1.set i (some (.exc x.cls x.fs x.ds))) with
        | nx r2 =>
          rw [hgs] at hp
          intro σ3 H3 f3 g5 fm5 _
          have fr0 : Fram H2 (fun _ => []) H3 f3 [] := (Fram.of_ex (fps := fun _ => []) (fpv := []) e3 fun _ m => nomatch m).trans fm5
          refine hn _ _ _ _ (g5.clear i none) (fr0.less fun j b m => ?_) hp
          split at m
          · cases m
          · exact ⟨j, m⟩
        | rt d r2 => rw [hgs] at hp; exact hp.elim
        | bk r2 => rw [hgs] at hp; exact hp.elim
        | ct r2 => rw [hgs] at hp; exact hp.elim
        | exn y r2 => rw [hgs] at hp; exact hp.elim
        | bad => rw [hgs] at hp; exact hp.elim
      · subst e
        exact q2 i g1 Wout Dn W H2 σ1 r1 x dx QQ XX gd xr hp hn
theorem mk_kind2 {P : Program} {w : World} {K : PySem.W.Frag} {mg : Str → Option Value} {base : Heap} {cm : Cm} {x qual : Str} {st s0 : Stmt} {rest : List Stmt} {g : Addr} {fd : FuncData} {N : List Str} {kk : Nat} {g0 g1 : FS} {a n : Str} {i : Nat} {h₀ : ExceptHandler} {hds : List ExceptHandler} {subs : List ((Str → Option Bool) × FS)} {pos p1 p2 p3 : Pos}
    (hq : K = cm.K) (F : Fun K x qual st g fd) (S : FnScope N [a] (defScope st)) (hm : mg x = some (.ref g)) (hb : Binds K fd [a] []) (hB : defBody st = s0 :: .Try [.Expr (.Call (.Name a p1) [] [] p2) p3] (h₀ :: hds) [] [] pos :: rest)
    (hh : HdD P w K mg base cm N qual (defScope st) g n kk (h₀ :: hds) subs)
    (D0 : ∀ (cdv : Value) (A : Around) (outer : List PySem.Env) (s : Shared) (H : Hp) (E : XK), RoomG kk (A.deeper (envOfC qual (defScope st) s.heap.objs.size g cdv)) → DS (cxB P w K mg base N qual (defScope st) g cdv A outer s H E) cm (fun _ => E) k1 s0 g0)
    (D1 : ∀ (cdv : Value) (A : Around) (outer : List PySem.Env) (s : Shared) (H : Hp) (E : XK), RoomG kk (A.deeper (envOfC qual (defScope st) s.heap.objs.size g cdv)) → DSs (cxB P w K mg base N qual (defScope st) g cdv A outer s H E) cm (fun _ => E) k0 rest g1)
    (hN : N.Nodup := by decide +kernel) (ha : N[0]? = some a := by rfl) (hi : N[i]? = some n := by rfl) (hln : (defScope st).names.lookup n = some .local := by rfl) (hva : Vis (defScope st) a := by first | exact .inl rfl | exact .inr (.inl rfl))
    (hda : (a == ("__debug__" : Str)) = false := by decide) (hca : (a == ("__classdict__" : Str)) = false := by decide) (hsx : ∀ env : PySem.Env, swapsWith (.Call (.Name a p1) [] [] p2) none p3.line env = pure false := by intro _; rfl) :
    KindOk P w K mg base cm x (kk + 1) (mKind2 subs N.length i g0 g1) := by
  refine ⟨g, hm, F.kp, fun A outer s H f d q j tl o W Q E hk hr e0 wk acts hd htl hp => ?_⟩
  obtain ⟨oc, od, kV, doc, pm, an, cdv, ct, osl, rfl, lk, hcd⟩ := F.ex
  have kin : K.In s.heap := e0.mod.kin.keeps fun b o e => (e0.bs b o e).1
  have bt := hb s [.ref f] kin rfl
  refine LamX.run_ofS (N := N) (ps := [a]) (us := [.ref f]) (vs := [.ref f]) lk hcd S hr.rm e0 bt (.cons rfl .nil) rfl fun hr' => ?_
  have rG : RoomG (j + 1) (A.deeper (envOfC qual (defScope st) s.heap.objs.size g cdv)) := hr.down _
  have rk : RoomG kk (A.deeper (envOfC qual (defScope st) s.heap.objs.size g cdv)) := rG.mono (by omega)
  obtain ⟨ts0, a1, a2⟩ := (D0 cdv A outer s H E rk).ex
  obtain ⟨l, q1, q2⟩ := hh.go cdv A outer s H E rk
  have b1 := (D1 cdv A outer s H E rk).pss
  have hlN : 1 ≤ N.length := by
    have := ha
    cases N with
    | nil => cases this
    | cons _ _ => simp
  have ht := ps_tryAs (X := cxB P w K mg base N qual (defScope st) g cdv A outer s H E) (i := i) (Wout := fun cls dd _ H => E cls dd H) (pos := pos)
    (tb := fun Wx => tDrop fun σ H' Q' => σ[0]? = some (some (.ref f)) ∧ H' d = some (CodeO d q) ∧ tl (fun cls dd H2 => Wx cls dd σ H2) H' Q') rfl rfl rfl hN hi hln txB
    (fun Wx pn' xe t po => pss_one (ps_expr (acts N qual (defScope st) g cdv E 0 a pn' xe (fun σ cls dd H2 => Wx cls dd σ H2) p1 p2 ha hva hda hca rG t) (hsx _))) q1
  rw [hB]
  refine ⟨_, pss_cons a1 (pss_cons ht b1), ?_⟩
  have gd0 : Good cm W H (L2.start N [.ref f]) (List.replicate N.length none) (fun _ => []) := by
    refine ⟨by unfold L2.start; simp; omega, wk, fun i d h => ?_, fun _ => List.nodup_nil, fun _ _ _ m => (nomatch m), fun _ _ m => (nomatch m), fun _ _ m => (nomatch m)⟩
    rw [List.getElem?_replicate] at h
    split at h <;> cases h
  refine a2 W H _ _ (fun _ => []) gd0 _ ?_
  unfold mKind2 at hp
  cases hr0 : g0 (List.replicate N.length none) with
  | nx r1 =>
    rw [hr0] at hp
    dsimp only at hp
    split at hp
    case isFalse => exact hp.elim
    rename_i hno
    intro σ1 H1 f1 gd1 fm1 k1'
    have s0e : σ1[0]? = some (some (.ref f)) := (k1'.2 0 rfl).trans (by simp [L2.start])
    have e1 := ex_of_fram fm1
    refine ⟨s0e, e1.get d _ hd nTb, htl H1 e1 _ _ ?_⟩
    have gd : ∀ H2, Ex H1 H2 → Good cm W H2 σ1 r1 (fun _ => []) := fun H2 e2 => by
      refine ⟨gd1.len, (wk.ex e1).ex e2, fun i d h => ?_, fun _ => List.nodup_nil, fun _ _ _ m => (nomatch m), fun _ _ m => (nomatch m), fun _ _ m => (nomatch m)⟩
      cases noV_at hno h
      obtain ⟨v, q1, q2⟩ := gd1.sl i _ h
      refine ⟨v, q1, ?_⟩
      generalize f1 i = fp at q2
      cases q2
      exact .non
    have fr : ∀ H2, Ex H1 H2 → Fram H (fun _ => []) H2 (fun _ => []) [] := fun H2 e2 => Fram.of_ex (e1.trans e2) fun _ m => nomatch m
    cases o with
    | ok v =>
      intro v' H2 fp e2 _ _
      exact ⟨W, r1, _, gd H2 e2, fin_post (fr H2 e2) hp⟩
    | bad => exact hp.elim
    | exn xx rr =>
      dsimp only at hp
      intro H2 dx e2 xr
      refine q2 i g1 _ _ W H2 σ1 r1 xx dx _ _ (gd H2 e2) (xr.weak fun b z => z.resolve_right fun ⟨_, m⟩ => nomatch m) hp fun r2 σ2 H3 f2 g5 fm5 hfin => ?_
      exact ⟨W, r2, f2, g5, fin_post ((fr H2 e2).trans fm5) hfin⟩
  | rt d r' => rw [hr0] at hp; exact hp.elim
  | bk r' => rw [hr0] at hp; exact hp.elim
  | ct r' => rw [hr0] at hp; exact hp.elim
  | exn x r' => rw [hr0] at hp; exact hp.elim
  | bad => rw [hr0] at hp; exact hp.elim
end DL

namespace DL
variable [Tbs]
open PySem L2
section
variable {prog : Program} {w : World} {A : Around} {E : Value → Shared → Prop} {s : Shared}
theorem args_sumK (a b : Value) : argsOk "sum" ⟨[a], [(Str.ofString "start", b)]⟩ := by unfold argsOk; kernel_rfl
theorem call_treeK {id : String} {b : Builtin} {args : List Value} {kw : List (Str × Value)} {Q : Value → Shared → Prop} (hk : builtinKind id = none) (hp : plainId id = true) (hb : entryFor table id = some b) (ha : argsOk id ⟨args, kw⟩)
    (hc : wpAny (model prog w) A.in1 (b ⟨args, kw⟩) (fun fin s' => match fin with
      | .done f => (match (Except.ok f : Result) with | .ok (.ret v) => Q v s' | .ok _ => False | .error e => E e s')
      | .again c => c.quiet = true ∧ codeAny (model prog w) A c (fun r s'' => match r with | .ok (.ret v) => Q v s'' | .ok _ => False | .error e => E e s'') s') E s) :
    wpAny (model prog w) A (call (.builtin id) args kw) Q E s := by
  apply wpAny_call
  apply codeAny_call_builtin hp hb
  simp only [checkBuiltinCall, hk]
  cases sg : Manifest.signature? id with
  | none => exact wpAny_pure hc
  | some sig =>
    simp only [argsOk, sg] at ha
    have z : Bind.checkArgs id sig ⟨args, kw⟩ = pure () := ha
    show wpAny _ A.in1 (Bind.checkArgs id sig ⟨args, kw⟩) _ _ s
    rw [z]
    exact wpAny_pure hc
theorem sum_startG {l : Addr} {xs : Array (Int × Tok)} {tk0 : Tok} {Q : Value → Shared → Prop} (hh : A.handled = none) (hl : s.heap.IsList l (intItems xs))
    (h : ∀ h' tk t', (∀ b o, s.heap.get? b = some o → h'.get? b = some o) → Q (.int (preSum (numAt xs) xs.size) t') { s with heap := h', toks := tk }) :
    wpAny (model prog w) A (call (.builtin "sum") [.ref l] [(Str.ofString "start", .int 0 tk0)]) Q E s := by
  apply call_treeK F.kind_sum F.plain_sum F.entry_sum (args_sumK _ _)
  unfold Builtin.«sum»
  simp only [List.length_cons, List.length_nil]
  rw [if_neg (by decide)]
  apply wpAny_bind
  apply wpAny_of_eq (show Builtin.Builtins.bindParams "sum" ["start"] 0 ⟨[], [(Str.ofString "start", .int 0 tk0)]⟩ = pure [some (.int 0 tk0)] from by kernel_rfl)
  apply wpAny_bind
  apply iter_intList hl
  intro s2 e2 st low hlI
  subst e2
  have W := Walks.list (prog := prog) (w := w) (A := A.in1) hh _ l hlI (intItems xs)
  apply wpAny_bind
  apply wpAny_rule
  apply wpAny_bind
  apply wpAny_mkInt
  apply wpAny_bind
  apply wpAny_pure
  simp only [List.forIn_cons, List.forIn_nil]
  apply wpAny_bind
  apply wpAny_bind
  apply wpAny_bind
  refine wpAny_isInstance (T := "int") (b := false) (typeIs_int _ _ _) sub_int_str ?_
  rw [if_neg Bool.false_ne_true]
  apply wpAny_pure
  apply wpAny_bind
  apply wpAny_bind
  refine wpAny_isInstance (T := "int") (b := false) (typeIs_int _ _ _) sub_int_bytes ?_
  rw [if_neg Bool.false_ne_true]
  apply wpAny_pure
  apply wpAny_bind
  apply wpAny_bind
  refine wpAny_isInstance (T := "int") (b := false) (typeIs_int _ _ _) sub_int_bytearray ?_
  rw [if_neg Bool.false_ne_true]
  apply wpAny_pure
  apply wpAny_pure
  apply wpAny_bind
  refine wpAny_newObj_type ?_
  have nS : ∀ m : Nat, m = s.heap.objs.size + 1 → m ∉ [s.heap.objs.size, l] := fun m hm z => by
    have := low m z
    rw [show (s.heap.push ({ cls := .type "list_iterator", data := .fields #[.ref l, .int 0 0] } : Obj)).objs.size = s.heap.objs.size + 1 from Heap.size_push _ _] at this
    omega
  apply wpAny_pure
  refine ⟨plainId_quiet F.plain_sum_loop _, ?_⟩
  have sz : (s.heap.push ({ cls := .type "list_iterator", data := .fields #[.ref l, .int 0 0] } : Obj)).objs.size = s.heap.objs.size + 1 := Heap.size_push _ _
  refine codeAny_sum_loopG W (numAt xs) (fun _ _ => intItems_at) _ (nS _ sz) (intItems xs).size 0 _ s.toks 0 0 (Or.inl rfl) rfl (Nat.zero_le _) (W.frame _ _ _ st fun b m o q => Heap.get?_push_of_some _ q) (Heap.get?_push_size _ rfl) fun h' tk t' hk => ?_
  have z := h h' tk t' fun b o q => by
    have lt := Heap.lt_size q
    refine hk b o ?_ ?_ (Heap.get?_push_of_some _ (Heap.get?_push_of_some _ q))
    · intro m
      have : b = s.heap.objs.size := by simpa using m
      rw [this] at lt
      exact Nat.lt_irrefl _ lt
    · rw [sz]
      exact Nat.ne_of_lt (Nat.lt_succ_of_lt lt)
  simpa [intItems] using z
end
theorem cr_sumStart {X : Cx} (hc : X.calm = true) : CallRK X (.builtin "sum") [Str.ofString "start"] (fun vs zs H Q => ∃ (a : Addr) (ns : List Int), vs = [V.ref a] ∧ zs = [.int 0] ∧ SqL X.K H a (ns.map V.int) ∧ Q (.int ns.sum) H) := by
  intro pins s σ H vs zs us ws Q I r rz h
  obtain ⟨a, ns, rfl, rfl, hs, q⟩ := h
  obtain rfl := Vals.ref1 r
  obtain ⟨w1, rfl, t1, e1⟩ := vals1 rz
  subst e1
  obtain ⟨its, rv, hl, _⟩ := I.list hs
  obtain ⟨xs, e⟩ := rv.ints.allInts.items
  have hn : numsOf (intItems xs).toList = ns := by rw [← e]; exact rv.ints.numsOf
  have hl := hl.isList
  rw [e] at hl
  refine sum_startG (I.ok.hd hc) hl fun h' tk t' hk => ?_
  rw [nums_intItems] at hn
  refine ⟨.int _, H, I.kept hk, ⟨t', ?_⟩, q⟩
  rw [preSum_eq, List.take_of_length_le (by simp), hn]
section
variable {X : Cx} {cm : Cm} {E : XS} {b : Bool} {pos p p2 : Pos} {e : Expr} {fa : F} {j : Nat} {kp : Pos}
theorem de_sumS (hc : X.calm = true) (hg : Gl X "sum") (hm : X.mg "sum" = none) (ha : DE X cm E false e fa) (hv : bootBuiltins "sum" = some (.builtin "sum") := by decide +kernel)
    (he : starEach [e] X.env = (false, eval e X.env) :: starEach [] X.env := by rfl) (he2 : backTo pos (starEach [e] X.env) = (false, eval e X.env) :: backTo pos (starEach [] X.env) := by rfl) (hpl : (backTo pos (starEach [e] X.env)).any (·.1) = false := by rfl) :
    DE X cm E b (.Call (.Name "sum" p) [e] [⟨some "start", .Constant (.int 0) j p2, kp⟩] pos) (c1 gSum fa) := by
  obtain ⟨ta, h1, h2⟩ := ha.ex
  refine ⟨_, pe_callBK (cr_sumStart hc) hg hm hv (pa_cons h1 pa_nil he) (pk_cons pe_int pk_nil) (by decide) (by decide) he2 hpl, fun W H σ r w fr Q hp => h2 W H σ r w fr _ (hp.bind.mono (fun d q v H1 fp e1 r1 f1 => ?_) fun _ _ z => z)⟩
  cases (show fp = [] from f1)
  unfold gSum at q
  split at q
  · rename_i o xs
    split at q
    · rename_i ns hns
      generalize hf : ([] : List Addr) = fp at r1
      have fin : ∀ {a : Addr} {vs : List V}, SqL X.K H1 a vs → vs = ns.map V.int → ∃ (a' : Addr) (ns' : List Int), [V.ref a] = [V.ref a'] ∧ [V.int 0] = [V.int 0] ∧ SqL X.K H1 a' (ns'.map V.int) ∧ Q (.int ns'.sum) H1 := fun sq e => ⟨_, ns, rfl, rfl, e ▸ sq, q (.int ns.sum) H1 [] e1 (.int _) FpN.nil⟩
      cases r1 with
      | lstO h r => cases hf
      | lstF h nw r => exact fin (SqL.of h) (intsD_reps r hns)
    · exact q.elim
  · exact q.elim
def insI (x : Int) : List Int → List Int
  | [] => [x]
  | y :: ys => if x ≤ y then x :: y :: ys else y :: insI x ys
def srtI : List Int → List Int
  | [] => []
  | x :: xs => insI x (srtI xs)
theorem insI_perm (x : Int) : ∀ ys, (insI x ys).Perm (x :: ys)
  | [] => List.Perm.refl _
  | y :: ys => by
    unfold insI
    split
    · exact List.Perm.refl _
    · exact ((insI_perm x ys).cons y).trans (List.Perm.swap x y ys)
theorem srtI_perm : ∀ xs, (srtI xs).Perm xs
  | [] => List.Perm.refl _
  | x :: xs => (insI_perm x (srtI xs)).trans ((srtI_perm xs).cons x)
theorem insI_srt {x : Int} : ∀ {ys : List Int}, ys.Pairwise (· ≤ ·) → (insI x ys).Pairwise (· ≤ ·)
  | [], _ => by simp [insI]
  | y :: ys, h => by
    have hp := List.pairwise_cons.mp h
    unfold insI
    split
    · rename_i hle
      refine List.pairwise_cons.mpr ⟨fun z hz => ?_, h⟩
      rcases List.mem_cons.mp hz with rfl | hz
      · exact hle
      · exact Int.le_trans hle (hp.1 z hz)
    · refine List.pairwise_cons.mpr ⟨fun z hz => ?_, insI_srt hp.2⟩
      rcases List.mem_cons.mp ((insI_perm x ys).mem_iff.mp hz) with rfl | hz
      · omega
      · exact hp.1 z hz
theorem srtI_srt : ∀ xs, (srtI xs).Pairwise (· ≤ ·)
  | [] => List.Pairwise.nil
  | x :: xs => insI_srt (srtI_srt xs)
theorem perm_srtI {xs ys : List Int} (p : xs.Perm ys) (h : xs.Pairwise (· ≤ ·)) : xs = srtI ys :=
  (p.trans (srtI_perm ys).symm).eq_of_pairwise (le := fun a b => a ≤ b) (fun a b _ _ h1 h2 => Int.le_antisymm h1 h2) h (srtI_srt ys)
def gSrtI : D → Out D
  | .lst _ xs => match intsD xs with
    | some ns => .ok (.lst true ((srtI ns).map .int))
    | none => .bad
  | _ => .bad
theorem noEx_srtI : ∀ a x r, gSrtI a ≠ .exn x r := fun a x r h => by
  unfold gSrtI at h
  split at h
  · split at h <;> cases h
  · cases h
theorem reps_int {W : Addr → Prop} {H : Hp} : ∀ ns : List Int, Reps cm W H (ns.map V.int) (ns.map D.int) []
  | [] => .nil
  | n :: ns => .cons (fp := []) (.int n) (reps_int ns)
theorem ra_srtI {K : PySem.W.Frag} : RA cm true (rSortedI K) (g1 gSrtI) := fun W H vs ds w rs Q hp => by
  match ds, rs, hp with
  | [], _, hp => exact hp.elim
  | _ :: _ :: _, _, hp => exact hp.elim
  | [d], rs, hp =>
    generalize hf : ([] : List Addr) = fp at rs
    cases rs with
    | cons rx r0 =>
      obtain ⟨rfl, rfl⟩ := app_nil hf
      cases r0
      replace hp : Post (gSrtI d) (QP cm W true H Q) noX := hp
      unfold gSrtI at hp
      split at hp
      · rename_i o xs
        split at hp
        · rename_i ns hns
          generalize hf : ([] : List Addr) = fp at rx
          cases rx with
          | lstO h r => cases hf
          | lstF h nw r =>
            refine ⟨_, ns, rfl, by rw [← intsD_reps r hns]; exact SqL.of h, fun ns' q hperm hsrt hq => ?_⟩
            rw [perm_srtI hperm hsrt]
            have ex : Ex H (upd H q (.lst ((srtI ns).map V.int))) := Ex.new hq
            exact hp (.ref q) _ [q] ex (.lstO upd_same (reps_int _)) ⟨List.nodup_cons.mpr ⟨List.not_mem_nil, List.nodup_nil⟩, fun a m => by rw [List.mem_singleton.mp m]; exact hq⟩
        · exact hp.elim
      · exact hp.elim
end
end DL

namespace DL
variable [Tbs]
open PySem L2
section
variable {X : Cx} {cm : Cm} {E : XS} {pos p : Pos} {e : Expr} {es : List Expr}
theorem xe_blt {id : String} {x : Str} {rr : List V → Hp → VK → Prop} {g : List D → Out D} {fs : Env → Out (List D × Env)} (hc : CallR X (.builtin id) rr) (ho : RA cm true rr g) (hn : NoExA g) (hg : Gl X x) (hm : X.mg x = none) (hv : bootBuiltins x = some (.builtin id)) (ha : XA X cm E (e :: es) fs)
    (hnn : x ≠ "__name__" := by decide) (hdb : (x == ("__debug__" : Str)) = false := by decide) (he : starEach (e :: es) X.env = (false, eval e X.env) :: starEach es X.env := by rfl) (hpl : (backTo pos (starEach es X.env)).any (·.1) = false := by rfl) : XE X cm E (.Call (.Name x p) (e :: es) [] pos) (xC g fs) := by
  obtain ⟨ta, h1, h2⟩ := ha.ex
  refine ⟨_, pe_callB hc hg hm hv h1 hnn hdb he hpl, fun W0 H σ r fps gd Q hp => h2 W0 H σ r fps gd _ (hp.bind.mono (fun p q vs H1 f1 p1 g1 k1 n1 w1 m1 => ?_) fun _ _ z => z)⟩
  have ko := k1.open g1 w1 fun _ m => m
  show rr vs H1 Q
  refine ho (Wof W0 f1) H1 vs (frzs p.1) g1.drop.wof ko Q (opened (E := E) (r1 := p.2) g1 m1 ?_ (hn _))
  cases hgg : g (frzs p.1) with
  | ok d => rw [hgg] at q; exact q
  | exn x r => exact (hn _ _ _ hgg).elim
  | bad => rw [hgg] at q; exact q.elim
theorem xe_srtI {fs : Env → Out (List D × Env)} (hg : Gl X "sorted") (hm : X.mg "sorted" = none) (ha : XA X cm E [e] fs) (hv : bootBuiltins "sorted" = some (.builtin "sorted") := by decide +kernel) (he : starEach [e] X.env = (false, eval e X.env) :: starEach [] X.env := by rfl) (hpl : (backTo pos (starEach [] X.env)).any (·.1) = false := by rfl) : XE X cm E (.Call (.Name "sorted" p) [e] [] pos) (xC (g1 gSrtI) fs) :=
  xe_blt cr_sortedI ra_srtI (noEx_g1 noEx_srtI) hg hm hv ha (by decide) (by decide) he hpl
end
end DL

namespace DL
variable [Tbs]
open PySem L2
open PyProof.Rows (envOfC)
section
variable {X : Cx} {e a b : Expr} {es : List Expr} {ta tb te : TE} {t : TA} {pos p : Pos}
theorem petB {id : String} {x : Str} {r : List V → Hp → VK → Prop} (hc : CallR X (.builtin id) r) (hg : Gl X x) (hm : X.mg x = none) (hv : bootBuiltins x = some (.builtin id)) (ha : PAT X (e :: es) t) (hn : x ≠ "__name__" := by decide) (hdb : (x == ("__debug__" : Str)) = false := by decide)
    (he : starEach (e :: es) X.env = (false, eval e X.env) :: starEach es X.env := by rfl) (hpl : (backTo pos (starEach es X.env)).any (·.1) = false := by rfl) : PET X (.Call (.Name x p) (e :: es) [] pos) (tCB r t) := fun pins s σ H Q h0 I h =>
  wpAny_Call_Name_kw (ld_blt I hg hm hv (PyProof.Rows.callWith_builtin1 (thn (ha pos pins s σ H _ h0 I h) fun us s1 ⟨vs, H1, I1, r1, q1⟩ => hc pins s1 σ H1 vs us Q I1 r1 q1) he hpl) hn hdb)
theorem petIx {r : R2} (hr : IxR X r) (ha : PET X a ta) (hb : PE X b tb) (hs : PlainIx b) : PET X (.Subscript a b pos) (tOp r ta tb) := fun pins s σ H Q h0 I h =>
  PyProof.Rows.Subscript_ (thn (ha pins s σ H _ h0 I h) fun v s1 ⟨x, H1, I1, r1, q1⟩ => thn (hb.run pins s1 σ H1 _ I1 q1) fun u s2 ⟨y, H2, I2, r2, q2⟩ => hr a b pins s2 σ H2 x y v u Q I2 r1 r2 q2 (hs _ _))
theorem psstRet (he : PET X e te) : PSsT X [.Return (some e) pos] (tRet te) := fun pins s σ H D h0 I h =>
  wpAny_execs_cons (wpAny_Return_some (thn (he pins s σ H _ h0 I h) fun v s1 ⟨x, H1, I1, r1, q1⟩ => ⟨x, σ, H1, I1, r1, q1⟩))
theorem petRep {o : Expr} {to : TE} {y z : Str} {n1 n2 : Nat} {q1 q2 apos : Pos} (ho : PE X o to) (hyz : (y == z) = false) (hst : starEach [.Constant (.str y) n1 q1, .Constant (.str z) n2 q2] X.env = [(false, eval (.Constant (.str y) n1 q1) X.env), (false, eval (.Constant (.str z) n2 q2) X.env)] := by rfl)
    (hbase : attributeBase o "replace" X.env (eval o X.env) = eval o X.env := by rfl) (hline : (apos.endLine == pos.line) = true := by rfl) :
    PET X (.Call (.Attribute o "replace" apos) [.Constant (.str y) n1 q1, .Constant (.str z) n2 q2] [] pos) (fun σ H Q => to σ H fun v H1 => ∃ x, v = .str x ∧ x.length + (x.length + 1) * z.length ≤ 16777216 ∧ Q (.str (Txt.replace x y z)) H1) := by
  intro pins s σ H Q h0 I h
  refine PySem.Call_method2 hbase hst hline (wpAny_with_toks h0 (wpAny_mono (ho.run pins s σ H _ I h) (fun v s1 hv t1 => ?_) fun _ _ z _ => z))
  obtain ⟨v', H1, I1, r1, x, rfl, hb, q⟩ := hv
  obtain ⟨tx, rfl⟩ := r1
  refine ⟨"str", _, PySem.F.plainAttrs_str, PySem.F.slot_str_replace, PySem.F.type_str_replace, typeIs_str _ _ _, (fun _ e => nomatch e), Calls.callWith_builtin rfl (Calls.evalArgs_plain (Calls.spliced_cons ?_))⟩
  refine Calls.Constant_str (Calls.spliced_cons (Calls.Constant_str (Calls.spliced_nil ?_)))
  have n0 : s1.toks ≠ 0 := fun z => by rw [z] at t1; exact absurd t1 (by decide)
  exact PySem.SC.replace n0 (Nat.succ_ne_zero _) (Nat.ne_of_lt (Nat.lt_succ_self _)) hyz hb fun t' k => ⟨.str (Txt.replace x y z), H1, I1.tok k, ⟨t', rfl⟩, q⟩
end
section
variable {X : Cx} {elt tg iter : Expr} {scope : Scope} {own : List (Str × Nat)} {pos : Pos} {wi : TI} {g : TG} {te : TE} {tt : TT}
theorem petLc (hc : X.calm = true) (hN : X.N.Nodup) (hi : PI X tg iter wi) (ok : BlkOk X.N X.env.scope scope own)
    (hg : ∀ (s : Shared) (H : Hp) (C : Addr) (cl : List (Str × Addr)) (fp : List Addr), PG (X.blk s H scope (compEnvC scope cl C X.env) fp) tg g) (he : ∀ (s : Shared) (H : Hp) (C : Addr) (cl : List (Str × Addr)) (fp : List Addr), PET (X.blk s H scope (compEnvC scope cl C X.env) fp) elt te)
    (htt : ∀ σ H q, tt σ H q → q true H) (hs : ∀ x, foldedSetIterable iter X.env x = pure x := by intro _; rfl) : PET X (.ListComp elt [⟨tg, iter, [], 0⟩] scope pos) (tLc wi g tt te (own.map (·.2))) := by
  intro pins s σ H Q h0 I h
  have cap : ∀ y ∈ scope.names, y.2 = .free → ∃ u, X.env.cells.lookup y.1 = some u := fun y m e => (ok.free y m e).elim (fun k => I.ok.has _ (.inl k)) fun k => I.ok.has _ (.inr k)
  rw [eval_ListComp]
  refine wpAny_comprehension_free (use := none) rfl hs (closure_ok cap) ok.kind (fun y m e => by rw [ok.uniq y m, e]) ?_
  refine wpAny_with_toks h0 (wpAny_mono (hi.run pins s σ H _ I h) (fun xv sa ha ta => ?_) fun _ _ z _ => z)
  refine wpAny_with_toks ta (wpAny_mono ha (fun iv sb hb tb => ?_) fun _ _ z _ => z)
  obtain ⟨it, fp, tn, J, Hb, rfl, Ib, T, nb, fb, q⟩ := hb
  refine wpAny_newObj_type (newEnv_comp ?_) (by show 0 ≤ sizeLine; decide)
  have Dn : Hb sb.heap.objs.size = none := Ib.hok.fresh (Nat.le_refl _)
  obtain ⟨W, ⟨m0, w0⟩, turn⟩ := q _ Dn
  generalize eD : sb.heap.objs.size = L at Dn w0 turn
  generalize eC : ({ sb with heap := sb.heap.push { cls := .type "list", data := .seq ([] : List Value).toArray } } : Shared) = sc
  have hC : sc.heap = sb.heap.push { cls := .type "list", data := .seq ([] : List Value).toArray } := by rw [← eC]
  have tc0 : 1 ≤ sc.toks := by rw [← eC]; exact tb
  have Ic : Inv X pins σ (upd Hb L (.lst [])) sc := by
    rw [← eC]
    refine Ib.laid (t' := sb.toks) (fun b o e => Heap.get?_push_of_some _ e) (Nat.le_of_eq eD) ⟨Nat.zero_le _, [], 0, .nil, ?_⟩
    rw [← eD]
    exact Heap.get?_push_size _ rfl
  have small : ∀ b ∈ fp, b < sb.heap.objs.size := fun b m => let ⟨_, e, _⟩ := T.obj _ _ nb b m; Heap.lt_size e
  have fc : ∀ b ∈ fp, FpOk X pins (upd Hb L (.lst [])) b ∧ b < sc.heap.objs.size := fun b m => by
    have lt := small b m
    refine ⟨⟨?_, (fb b m).2⟩, by rw [hC, Heap.size_push]; exact Nat.lt_succ_of_lt lt⟩
    rw [upd_ne fun z => by rw [z, ← eD] at lt; exact Nat.lt_irrefl _ lt]
    exact (fb b m).1
  have tc : tn 0 sc.heap := T.keep _ _ _ nb fun b _ o e => by rw [hC]; exact Heap.get?_push_of_some _ e
  have Id := block_start Ic ok hN fc
  show codeAny _ _ (.compStart (.ListComp elt [⟨tg, iter, [], 0⟩] scope pos) 0 (.ref it) (.ref L) (compEnvC scope (cellsFrom (sc.heap.objs.size + 1) scope.names (cloFrom X.env.cells scope.names [])) sc.heap.objs.size X.env)) (compPost (model X.prog X.w) X.A X.xe none (EP X pins σ Q) (.ref L) sc.heap.objs.size) { sc with heap := pushCells (sc.heap.push { cls := .type "dict", data := .dict #[] }) scope.names }
  have pg := hg sc (upd Hb L (.lst [])) sc.heap.objs.size (cellsFrom (sc.heap.objs.size + 1) scope.names (cloFrom X.env.cells scope.names [])) fp
  have pe := he sc (upd Hb L (.lst [])) sc.heap.objs.size (cellsFrom (sc.heap.objs.size + 1) scope.names (cloFrom X.env.cells scope.names [])) fp
  have off : ∀ b ∈ fp, upd Hb L (.lst []) b = none := fun b m => (fc b m).1.1
  generalize eE : compEnvC scope (cellsFrom (sc.heap.objs.size + 1) scope.names (cloFrom X.env.cells scope.names [])) sc.heap.objs.size X.env = ce at Id pg pe ⊢
  have lE : ce.locals = sc.heap.objs.size := by rw [← eE]; rfl
  generalize eH : upd Hb L (.lst []) = Hc at Ic Id pg pe off fc w0
  generalize eS : ({ sc with heap := pushCells (sc.heap.push { cls := .type "dict", data := .dict #[] }) scope.names } : Shared) = sd at Id ⊢
  have td0 : 1 ≤ sd.toks := by rw [← eS]; exact tc0
  have td : tn 0 sd.heap := T.keep _ _ _ tc fun b _ o e => by rw [← eS]; exact pushCells_keeps _ _ _ _ (Heap.get?_push_of_some _ e)
  have fpk : ∀ {τ : St} {G : Hp} {u : Shared}, Inv (X.blk sc Hc scope ce fp) [] τ G u → (∀ b ∈ fp, G b = none) → ∀ b ∈ fp, FpOk (X.blk sc Hc scope ce fp) [] G b := fun {τ G u} K n b m =>
    ⟨n b m, (K.ok.exf b m).1, K.ok.exfs b m, .inl m, fun x y e => (K.ok.exf b m).2 x y e, fun q hq => nomatch (show q ∈ ([] : List (Addr × Obj)) from hq)⟩
  have go : codeAny (model X.prog X.w) X.A (.compLoop (.ListComp elt [⟨tg, iter, [], 0⟩] scope pos) 0 (.ref it) (.ref L) ce) (compPost (model X.prog X.w) X.A X.xe none (EP X pins σ Q) (.ref L) sc.heap.objs.size) sd := by
    refine compLoop_any (fun n u => ∃ i G, Inv (X.blk sc Hc scope ce fp) [] (wipe σ (own.map (·.2))) G u ∧ tn i u.heap ∧ (∀ b ∈ fp, G b = none) ∧ 1 ≤ u.toks ∧ W i n G) ?_ m0 ⟨0, Hc, Id, td, off, td0, w0⟩
    rintro n u ⟨i, G, K, ti, ni, tu, wi_⟩
    rcases turn i n G wi_ with ⟨stop, qq⟩ | ⟨more, Nx, hNx, step⟩
    · refine thnF (T.done (X.blk sc Hc scope ce fp) rfl rfl rfl hc i [] u _ G (fun _ _ => False) K (fpk K ni) ti stop) fun r u1 ⟨hr, K1⟩ => ?_
      subst hr
      have Iz : Inv X pins σ G u1 := Ic.call' (ch := fp) K1.os K1.base K1.hok K1.bare fun b m => ⟨(fc b m).1.2.2.2.1, (fc b m).1.2.1, (fc b m).1.2.2.2.2.1, (fc b m).1.2.2.2.2.2⟩
      have nC : G sc.heap.objs.size = none := by
        have z : G ce.locals = none := K1.free
        rw [lE] at z
        exact z
      obtain ⟨m, hn, _⟩ := K1.loc
      have hn : u1.heap.Ns ce.locals m := hn
      rw [lE] at hn
      obtain ⟨f0, f1, f2, f3, f4, f5⟩ := Ic.fpOk (Nat.le_refl _) nC
      exact ⟨m, hn, fun h2 sbu => ⟨.ref L, G, Iz.turned (t' := u1.toks) (fun b o hb e => (sbu.2 b hb).trans e) f0 f1 f3 f4 f5, rfl, qq⟩⟩
    · refine wpAny_with_toks tu (wpAny_mono (T.item (X.blk sc Hc scope ce fp) rfl rfl rfl hc i [] u _ G (fun _ _ => False) K (fpk K ni) ti more) (fun r u1 ⟨w, hr, h1⟩ t1 => ?_) fun _ _ z _ => z.elim)
      subst hr
      refine wpAny_with_toks t1 (wpAny_mono h1 (fun _ u2 ⟨x, G2, K2, r2, y2, nt2, n2⟩ t2 => ?_) fun _ _ z _ => z.elim)
      have K3 := K2.pinned (fpk K2 n2) (T.obj _ _ nt2)
      refine wpAny_with_toks t2 (wpAny_mono (pg.run _ u2 _ G2 x w _ K3 r2 (step x G2 y2)) (fun _ u3 ⟨τ, G3, K4, hτ, q3⟩ t3 => ?_) fun _ _ z _ => z.elim)
      refine wpAny_tests_nil ?_
      simp only [if_true]
      have q3 := htt _ _ _ q3
      simp only [if_true] at q3
      refine wpAny_with_toks t3 (wpAny_mono (pe _ u3 τ G3 _ t3 K4 q3) (fun z u4 ⟨yv, G4, K5, r5, acc, hD5, hz5, nx⟩ t4 => ?_) fun _ _ z _ => z.elim)
      refine wpAny_with_toks t4 (app_ok (X := X.blk sc Hc scope ce fp) K5 hD5 hz5 r5 fun u5 K6 t5 => ?_)
      obtain ⟨m', hm, w'⟩ := hNx _ nx
      have pin : ∀ b ∈ fp, ∀ o, u2.heap.get? b = some o → u5.heap.get? b = some o ∧ upd G4 L (.lst (acc ++ [yv])) b = none := fun b m o e =>
        have z := K6.pin (b, o) (List.mem_append_right _ (List.mem_append_right _ (mem_pinsAt m e)))
        ⟨z.1, z.2.1⟩
      have lw : (wipe σ (own.map (·.2))).length = τ.length := by rw [← hτ, wipe_length]
      refine ⟨m', hm, i + 1, _, (K6.unpinned (pins := [])).weak lw (fun j v e => ?_), T.keep _ _ _ nt2 fun b m o e => (pin b m o e).1, fun b m => ?_, t5, w'⟩
      · rw [← hτ] at e
        exact (wipe_some e).1
      · obtain ⟨o, e, _⟩ := T.obj _ _ nt2 b m
        exact (pin b m o e).2
  exact codeAny_compStart_list go (T.self X.A 0 _ _ _ td go)
end
theorem newEnvT {M : Model} {A : Around} {E : Value → Shared → Prop} {s : Shared} {sc : Scope} {a qual : Str} {u cdv : Value} {f : Addr} {Qf : PySem.Env → Shared → Prop} (hk : sc.kind = .function) (nc : ∀ y ∈ sc.names, y.2 ≠ .cell) (nf : ∀ n : Nat, cellsFrom n sc.names [] = []) (hl : sc.names.lookup a = some .local)
    (h : ∀ s1, 1 ≤ s1.toks → InCallC s s.heap.objs.size (bindL (envOfC qual sc s.heap.objs.size f cdv).kindOf ([a].zip [u]) fun _ => none) (cellsFrom (s.heap.objs.size + 1) sc.names []) (bindC (envOfC qual sc s.heap.objs.size f cdv).kindOf ([a].zip [u]) fun _ => none) s1 → Qf (envOfC qual sc s.heap.objs.size f cdv) s1) :
    wpAny M A (newFunctionEnv sc mainGlobals [] ([a].zip [u]) (qual ++ ".<locals>.") (some f) cdv none builtinsNs) Qf E s := by
  refine wpAny_newFunctionEnv nc (fun y hy => ?_) (fun h1 hns hsb => ?_) hk
  · have : y = (a, u) := by simpa using hy
    rw [this]
    exact hl
  have kp : ∀ b o, s.heap.get? b = some o → h1.get? b = some o := fun b o e => hsb.extBut b o (Nat.ne_of_lt (Heap.lt_size e)) (Heap.get?_push_of_some _ e)
  have envE : envOfC qual sc s.heap.objs.size f cdv = newEnv sc s.heap.objs.size mainGlobals [] (qual ++ ".<locals>.") (some f) cdv none builtinsNs := by
    unfold envOfC
    rw [nf]
    rfl
  have ka : (envOfC qual sc s.heap.objs.size f cdv).kindOf a = some .local := hl
  rw [← envE]
  refine h _ (Nat.le_add_left 1 _) ⟨⟨⟨h1, _, rfl⟩, ?_, kp, Nat.le_refl _⟩, fun n c e => ?_, ?_, fun n c e => ?_⟩
  · have same : (fun y : Str => List.lookup y ([a].zip [u]).reverse) = bindL (envOfC qual sc s.heap.objs.size f cdv).kindOf ([a].zip [u]) fun _ => none := by
      funext y
      show List.lookup y [(a, u)] = (if (envOfC qual sc s.heap.objs.size f cdv).kindOf a = some .local then fun y => if y = a then some u else none else fun _ => none) y
      rw [if_pos ka]
      by_cases h : y = a
      · simp [h]
      · have : (y == a) = false := by simpa using h
        simp [List.lookup, this, h]
    rw [← same]
    exact hns
  · rw [nf] at e; cases e
  · rw [nf]; exact List.Pairwise.nil
  · rw [nf] at e; cases e
theorem fnT_of {P : Program} {w : World} {K : PySem.W.Frag} {mg : Str → Option Value} {base : Heap} {x qual a : Str} {st : Stmt} {f : Addr} {fd : FuncData} {N : List Str} {k : Nat} {sp : Sp} (F : Fun K x qual st f fd) (S : FnScope N [a] (defScope st)) (nc : ∀ y ∈ (defScope st).names, y.2 ≠ .cell) (nf : ∀ n : Nat, cellsFrom n (defScope st).names [] = []) (hl : (defScope st).names.lookup a = some .local) (len : ∀ vs H Q E, sp vs H Q E → vs.length = [a].length)
    (hb : ∀ (cdv : Value) (A : Around) (outer : List PySem.Env) (s : Shared) (H : Hp) (vs : List V) (Q : VK) (E : XK), RoomG k (A.deeper (envOfC qual (defScope st) s.heap.objs.size f cdv)) → sp vs H Q E →
      ∃ t, PSsT (cxB P w K mg base N qual (defScope st) f cdv A outer s H E) (defBody st) t ∧ t { nx := fun _ H' => Q .non H', rt := Q } (L2.start N vs) H) : FnG P w K mg base (k + 1) f fd [a] sp := by
  obtain ⟨oc, od, kV, doc, pm, an, cdv, ct, osl, rfl, lk, hcd⟩ := F.ex
  refine ⟨len, fun A o s H ar us vs Q E hr e0 bd rv z => ?_⟩
  have keepB : ∀ a u, base.get? a = some u → s.heap.get? a = some u := fun a u h => (e0.bs a u h).1
  have kin := e0.mod.kin.keeps keepB
  have nol := e0.mod.nolimit.keeps keepB
  have hlen := len _ _ _ _ z
  match vs, us, hlen, rv with
  | [v], [u], _, rv =>
  apply codeAny_call_function hr.rm.depth (kin _ _ lk) rfl S.co S.gen rfl (PySem.W.codeRec_of kin hcd)
  apply bd
  refine newEnvT (qual := qual) S.kind nc nf hl fun s1 t1 x => ?_
  refine ⟨nol.keeps x.toInCall.keep, codeAny_func ?_⟩
  obtain ⟨t, ht, q⟩ := hb cdv A o s H [v] Q E (hr.down _) z
  have I := inv_start (CX := L2.CX P w) (E := E) S hr.rm.hd e0 rfl rv x
  refine wpAny_mono (ht [] s1 _ H _ t1 I q) ?_ fun _ _ h => h
  intro fl s' hs
  match fl, hs with
  | .ret u, ⟨v, σ', H', J, rv, q⟩ => exact ⟨v, H', J.os, J.bare, J.base, J.hok, rv, q⟩
  | .next, ⟨σ', H', J, q⟩ => exact ⟨V.non, H', J.os, J.bare, J.base, J.hok, rfl, q⟩
  | .brk, ⟨_, _, _, q⟩ => exact q.elim
  | .cont, ⟨_, _, _, q⟩ => exact q.elim
end DL

namespace DL
variable [Tbs]
open PySem L2
open PyProof.Rows (envOfC)
structure DET (X : Cx) (cm : Cm) (E : XS) (b : Bool) (e : Expr) (f : F) : Prop where
  ex : ∃ te, PET X e te ∧ ECon cm E b te f
structure DAT (X : Cx) (cm : Cm) (E : XS) (b : Bool) (es : List Expr) (f : Env → Out (List D)) : Prop where
  ex : ∃ ta, PAT X es ta ∧ ACon cm E b ta f
section
variable {X : Cx} {cm : Cm} {E : XS} {b : Bool} {e a c o tg elt iter : Expr} {f fa fb : F} {pos p : Pos}
theorem DET.pet (h : DET X cm E b e f) : PET X e (teOf cm E b f) := by
  obtain ⟨te, h1, h2⟩ := h.ex
  exact fun pins s σ H Q h0 I ⟨W, r, w, fr, hp⟩ => h1 pins s σ H Q h0 I (h2 W H σ r w fr Q hp)
theorem econ_fz {te : TE} (h : ECon cm E true te f) : ECon cm E b te (cFz f) := fun W H σ r w fr Q hp => h W H σ r w fr Q (hp.bind.mono (fun d q v H' fp ex rp fn => q v H' [] ex (rp.ofP.frz (fun _ z => z) fun a m => w.fresh (fn.2 a m)).toP FpN.nil) fun _ _ z => z)
theorem det_fz (h : DET X cm E true e f) : DET X cm E b e (cFz f) := by
  obtain ⟨te, h1, h2⟩ := h.ex
  exact ⟨te, h1, econ_fz h2⟩
theorem dat_one (h : DET X cm E false e f) (hs : starEach [e] X.env = (false, eval e X.env) :: starEach [] X.env := by rfl) : DAT X cm E false [e] (aCons f aNil) := by
  obtain ⟨te, h1, h2⟩ := h.ex
  refine ⟨_, pat_cons h1 pat_nil hs, fun W H σ r w fr Q hp => h2 W H σ r w fr _ (hp.bind.mono (fun d q v H1 fp e1 r1 f1 => ?_) fun _ _ z => z)⟩
  cases (show fp = [] from f1)
  exact q [v] H1 [] e1 (Reps.one r1) FpN.nil
theorem det_srt {fs : Env → Out (List D)} (hg : Gl X "sorted") (hm : X.mg "sorted" = none) (ha : DAT X cm E false [e] fs) (hv : bootBuiltins "sorted" = some (.builtin "sorted") := by decide +kernel) (he : starEach [e] X.env = (false, eval e X.env) :: starEach [] X.env := by rfl) (hpl : (backTo pos (starEach [] X.env)).any (·.1) = false := by rfl) : DET X cm E true (.Call (.Name "sorted" p) [e] [] pos) (cA (g1 gSrt) fs) := by
  obtain ⟨ta, h1, h2⟩ := ha.ex
  exact ⟨_, petB cr_sortedS hg hm hv h1 (by decide) (by decide) he hpl, conA ra_srt (noEx_g1 noEx_srt) h2⟩
theorem det_item (hk : X.K = cm.K) (ha : DET X cm E false a fa) (hb : DE X cm E false c fb) (hs : PlainIx c := by exact fun _ _ => rfl) : DET X cm E b (.Subscript a c pos) (c2 gIx fa fb) := by
  obtain ⟨ta, h1, h2⟩ := ha.ex
  obtain ⟨tb, h3, h4⟩ := hb.ex
  exact ⟨_, petIx ix_seq h1 h3 hs, con2 (o_ix hk) noEx_ix h2 h4⟩
theorem det_lc {own : List (Str × Nat)} {scope : Scope} {ts : List Nat} {it : Env → Out (List D)} {g : D → Env → Out Env} {el : F} (hc : X.calm = true) (hN : X.N.Nodup) (hi : DI X cm E tg iter it) (ok : BlkOk X.N X.env.scope scope own) (hts : own.map (·.2) = ts)
    (hg : ∀ (s : Shared) (H : Hp) (C : Addr) (cl : List (Str × Addr)) (fp : List Addr), DG (X.blk s H scope (compEnvC scope cl C X.env) fp) cm tg ts g) (he : ∀ (s : Shared) (H : Hp) (C : Addr) (cl : List (Str × Addr)) (fp : List Addr), DET (X.blk s H scope (compEnvC scope cl C X.env) fp) cm E0' true elt el)
    (hs : ∀ x, foldedSetIterable iter X.env x = pure x := by intro _; rfl) : DET X cm E true (.ListComp elt [⟨tg, iter, [], 0⟩] scope pos) (cLc it ts g tYes' el) := by
  obtain ⟨wi, i1, i2⟩ := hi.ex
  refine ⟨_, petLc (tt := ttOf cm E0' tYes') hc hN i1 ok (fun s H C cl fp => (hg s H C cl fp).pg) (fun s H C cl fp => (he s H C cl fp).pet) (fun σ H q ⟨W, r, w, fr, hp⟩ => hp H (Ex.refl H)) hs, ?_⟩
  rw [hts]
  exact lc_con i2
def repS (x y : Nat) (cs : List Nat) : List Nat := cs.map fun c => if c = x then y else c
def gRep (x y : Nat) : D → Out D
  | .str cs => if cs.length ≤ 1000 then .ok (.str (repS x y cs)) else .bad
  | _ => .bad
theorem repS_none {x y : Nat} : ∀ {cs : List Nat}, x ∉ cs → repS x y cs = cs
  | [], _ => rfl
  | c :: cs, h => by
    have h1 : c ≠ x := fun e => h (by simp [e])
    have h2 : repS x y cs = cs := repS_none fun m => h (by simp [m])
    show (if c = x then y else c) :: repS x y cs = c :: cs
    rw [if_neg h1, h2]
theorem repS_glue (x y : Nat) : ∀ ps : List Str, (∀ p ∈ ps, x ∉ p.cps.toList) → repS x y (Str.join ⟨#[x]⟩ ps).cps.toList = (Str.join ⟨#[y]⟩ ps).cps.toList
  | [], _ => rfl
  | [p], h => repS_none (h p (by simp))
  | p :: q :: r, h => by
    have tail := repS_glue x y (q :: r) fun s m => h s (by simp [m])
    have own := repS_none (y := y) (h p (by simp))
    have e1 : (Str.join ⟨#[x]⟩ (p :: q :: r)).cps.toList = p.cps.toList ++ [x] ++ (Str.join ⟨#[x]⟩ (q :: r)).cps.toList := by
      show (p ++ ⟨#[x]⟩ ++ Str.join ⟨#[x]⟩ (q :: r)).cps.toList = _
      simp only [Str.cps_append, Array.toList_append]
    have e2 : (Str.join ⟨#[y]⟩ (p :: q :: r)).cps.toList = p.cps.toList ++ [y] ++ (Str.join ⟨#[y]⟩ (q :: r)).cps.toList := by
      show (p ++ ⟨#[y]⟩ ++ Str.join ⟨#[y]⟩ (q :: r)).cps.toList = _
      simp only [Str.cps_append, Array.toList_append]
    rw [e1, e2, ← tail]
    unfold repS at own ⊢
    rw [List.map_append, List.map_append, own]
    simp
theorem rep_txt (x y : Nat) (cs : List Nat) : Txt.replace ⟨cs.toArray⟩ ⟨#[x]⟩ ⟨#[y]⟩ = ⟨(repS x y cs).toArray⟩ := by
  have h := repS_glue x y _ (StrLaws.split_free ⟨cs.toArray⟩ x)
  rw [StrLaws.join_split, ← StrLaws.replace_one] at h
  have h : repS x y cs = (Txt.replace ⟨cs.toArray⟩ ⟨#[x]⟩ ⟨#[y]⟩).cps.toList := by simpa using h
  rw [h]
theorem det_rep {x y n1 n2 : Nat} {q1 q2 apos : Pos} (ho : DE X cm E false o f) (hxy : x ≠ y) (hst : starEach [.Constant (.str ⟨#[x]⟩) n1 q1, .Constant (.str ⟨#[y]⟩) n2 q2] X.env = [(false, eval (.Constant (.str ⟨#[x]⟩) n1 q1) X.env), (false, eval (.Constant (.str ⟨#[y]⟩) n2 q2) X.env)] := by rfl)
    (hbase : attributeBase o "replace" X.env (eval o X.env) = eval o X.env := by rfl) (hline : (apos.endLine == pos.line) = true := by rfl) : DET X cm E b (.Call (.Attribute o "replace" apos) [.Constant (.str ⟨#[x]⟩) n1 q1, .Constant (.str ⟨#[y]⟩) n2 q2] [] pos) (c1 (gRep x y) f) := by
  obtain ⟨to, h1, h2⟩ := ho.ex
  refine ⟨_, petRep h1 ?_ hst hbase hline, fun W H σ r w fr Q hp => h2 W H σ r w fr _ (hp.bind.mono (fun d q v H1 fp e1 r1 f1 => ?_) fun _ _ z => z)⟩
  · apply beq_eq_false_iff_ne.mpr
    intro z
    injection z with z
    exact hxy (by simpa using z)
  · cases (show fp = [] from f1)
    unfold gRep at q
    split at q
    · rename_i cs
      split at q
      · rename_i hl
        cases r1
        refine ⟨_, rfl, ?_, ?_⟩
        · have e1 : (⟨cs.toArray⟩ : Str).length = cs.length := by simp [Str.length]
          have e2 : (⟨#[y]⟩ : Str).length = 1 := rfl
          rw [e1, e2]
          omega
        · rw [rep_txt]
          exact q (.str _) H1 [] e1 (.str _) FpN.nil
      · exact q.elim
    · exact q.elim
end
theorem mk_pureT {P : Program} {w : World} {K : PySem.W.Frag} {mg : Str → Option Value} {base : Heap} {cm : Cm} {x qual a : Str} {st : Stmt} {f : Addr} {fd : FuncData} {N : List Str} {k : Nat} {fe : F} {e : Expr} {rp : Pos} (Fu : Fun K x qual st f fd) (S : FnScope N [a] (defScope st)) (hm : mg x = some (.ref f)) (hb : Binds K fd [a] []) (nc : ∀ y ∈ (defScope st).names, y.2 ≠ .cell) (nf : ∀ n : Nat, cellsFrom n (defScope st).names [] = []) (hl : (defScope st).names.lookup a = some .local) (hB : defBody st = [.Return (some e) rp])
    (hbody : ∀ (cdv : Value) (A : Around) (outer : List PySem.Env) (s : Shared) (H : Hp) (E : XK), RoomG k (A.deeper (envOfC qual (defScope st) s.heap.objs.size f cdv)) → DET (cxB P w K mg base N qual (defScope st) f cdv A outer s H E) cm (fun _ => E) true e fe) :
    CallOk P w K mg base x (k + 1) [a] (spP cm 1 (runP 1 N.length (sRet (lift (List.range N.length) fe)))) := by
  refine ⟨f, fd, fnT_of Fu S nc nf hl (fun vs H Q E h => ?_) (fun cdv A outer s H vs Q E hr h => ?_), hm, Fu.kp, hb⟩
  · obtain ⟨W, ds, _, rp, hl, _⟩ := h
    rw [rp.len, hl]
    rfl
  · obtain ⟨W, ds, w, rp, hl, hp⟩ := h
    obtain ⟨te, h1, h2⟩ := (hbody cdv A outer s H E hr).ex
    rw [hB]
    refine ⟨_, psstRet h1, ?_⟩
    have g := good_start N w rp
    refine h2 (Wr W (fun _ => []) (List.range N.length)) H _ _ (g.wr (List.range N.length)) (g.view (List.range N.length)) _ ?_
    unfold runP at hp
    rw [if_pos hl, hl.symm] at hp
    unfold sRet lift at hp
    cases hf : fe (view (List.range N.length) (ds.map some ++ List.replicate (N.length - ds.length) none)) with
    | ok d =>
      rw [hf] at hp
      intro v H' fpv e1 r2 fn
      exact hp v H' fpv e1 (r2.move (fun a z => .inl (z.imp .inl id)) fun _ _ q _ _ => q) fn
    | exn x r' =>
      rw [hf] at hp
      exact fun H2 dx e2 xr => hp H2 dx e2 (xr.weak fun a z => .inl z)
    | bad => rw [hf] at hp; exact hp.elim
end DL

set_option maxHeartbeats 4000000
namespace DL
section
variable [Tbs]
open PySem L2
open PyProof.Rows (envOfC)
theorem fn_ioEL {P : Program} {w : World} {K : PySem.W.Frag} {mg : Str → Option Value} {base : Heap} {cm : Cm} {x qual q : Str} {st : Stmt} {dvs : List V} {f : Addr} {fd : FuncData} {N ps : List Str} {k : Nat} {g : FS} (F : FunE K x qual st dvs f fd) (S : FnScope N ps (defScope st)) (B : LamB mg base fd.code q)
    (hb : ∀ (cdv : Value) (A : Around) (outer : List PySem.Env) (s : Shared) (H : Hp) (E : XK), LamB mg base cdv q → RoomG k (A.deeper (envOfC qual (defScope st) s.heap.objs.size f cdv)) → DSs (cxB P w K mg base N qual (defScope st) f cdv A outer s H E) cm (fun _ => E) k1 (defBody st) g) :
    FnG P w K mg base (k + 1) f fd ps (spX cm ps.length (runX ps.length N.length g)) := by
  refine fnE_ofc F S (fun vs H Q E h => ?_) (fun cdv ec A outer s H vs Q E hr h => ?_)
  · obtain ⟨W0, v0, d0, fp, vs', ds', rfl, _, _, _, _, rp, hl, _⟩ := h
    rw [List.length_cons, rp.len, hl]
  · obtain ⟨W0, v0, d0, fp, vs', ds', rfl, w, nd, nw, rp0, rp, hl, hp⟩ := h
    obtain ⟨ts, h1, h2⟩ := (hb cdv A outer s H E (ec ▸ B) hr).ex
    have hvl := rp.len
    have gd : Good cm W0 H (L2.start N (v0 :: vs')) ((d0 :: ds').map some ++ List.replicate (N.length - (d0 :: ds').length) none) (fps0 fp) := by
      have hw : ∀ a, Wof W0 (fps0 fp) a → Wp W0 fp a := fun a z => by
        rcases z with z | ⟨j, m⟩
        · exact .inl z
        · by_cases hj : j = 0
          · subst hj; exact .inr m
          · rw [show fps0 fp j = [] from if_neg hj] at m; cases m
      have f0 : ∀ {j a}, a ∈ fps0 fp j → j = 0 ∧ a ∈ fp := fun {j a} m => by
        by_cases hj : j = 0
        · subst hj; exact ⟨rfl, m⟩
        · rw [show fps0 fp j = [] from if_neg hj] at m; cases m
      refine ⟨by unfold L2.start; simp [hvl], ⟨fun a z => w.1 a (.inl z), w.2⟩, fun i d h => ?_, fun i => ?_, fun i j a m m' => by rw [(f0 m).1, (f0 m').1], fun i a m => nw a (f0 m).2, fun i a m => w.1 a (.inr (f0 m).2)⟩
      · cases i with
        | zero =>
          simp at h
          subst h
          exact ⟨v0, by simp [L2.start], rp0.move (fun a z => .inl (hw a z)) fun _ _ q _ _ => q⟩
        | succ i =>
          rw [List.map_cons, List.cons_append, List.getElem?_cons_succ, List.getElem?_append] at h
          unfold L2.start
          rw [List.map_cons, List.cons_append, List.getElem?_cons_succ, List.getElem?_append]
          split at h
          · rename_i hi
            rw [List.length_map] at hi
            rw [List.getElem?_map] at h
            obtain ⟨d', q1, q2⟩ := Option.map_eq_some_iff.mp h
            cases q2
            obtain ⟨v, q3, q4⟩ := rp.at rfl q1
            refine ⟨v, ?_, ?_⟩
            · rw [if_pos (by rw [List.length_map, hvl]; exact hi), List.getElem?_map, q3]
              rfl
            · rw [show fps0 fp (i + 1) = [] from rfl]
              exact q4.move (fun a z => .inl (hw a z)) fun _ _ q _ _ => q
          · rw [List.getElem?_replicate] at h
            split at h <;> cases h
      · by_cases hi : i = 0
        · subst hi; exact nd
        · rw [show fps0 fp i = [] from if_neg hi]; exact List.nodup_nil
    refine ⟨ts, h1, h2 W0 H (L2.start N (v0 :: vs')) _ (fps0 fp) gd _ ?_⟩
    unfold runX at hp
    have hl' : (d0 :: ds').length = ps.length := hl
    rw [if_pos hl'] at hp
    rw [hl']
    have h0 : (L2.start N (v0 :: vs'))[0]? = some (some v0) := by simp [L2.start]
    have fin : ∀ {v : V} {d d1 : D} {σ' : St} {H' : Hp} {fps' : Fps} {fpv : List Addr} {r' : Env}, Good cm (Wp W0 fpv) H' σ' r' fps' → Rep cm (Wof (Wp W0 fpv) fps') H' v d fpv → fpv.Nodup → (∀ a ∈ fpv, ¬ W0 a) → Fram H (fps0 fp) H' fps' fpv → Keep k1 (L2.start N (v0 :: vs')) σ' → r'[0]? = some (some d1) → QIO cm W0 H fp v0 Q (d, d1) → Q v H' := by
      intro v d d1 σ' H' fps' fpv r' g' rp' nd' nw' fm k' hr0 hq
      obtain ⟨u, k1, k2⟩ := g'.sl 0 d1 hr0
      rw [k'.2 0 rfl, h0] at k1
      cases k1
      have sub : ∀ a, Wp W0 (fps' 0 ++ fpv) a → Wof (Wp W0 fpv) fps' a := fun a z => by
        rcases z with z | z
        · exact .inl (.inl z)
        · rcases List.mem_append.mp z with z | z
          · exact .inr ⟨0, z⟩
          · exact .inl (.inr z)
      refine hq v H' (fps' 0) fpv (k2.move (fun a z => .inl (sub a z)) fun _ _ q _ _ => q) (rp'.move (fun a z => .inl (sub a z)) fun _ _ q _ _ => q) (List.nodup_append.mpr ⟨g'.nd 0, nd', fun a m c m' z => g'.nw 0 a m (.inr (z ▸ m'))⟩) (fun a m => ?_) ⟨@Fram.keep _ _ _ _ _ _ fm, fun j a m => ?_, fm.oldv, fm.back, fm.tb⟩
      · rcases List.mem_append.mp m with m | m
        · exact fun z => g'.nw 0 a m (.inl z)
        · exact nw' a m
      · by_cases hj : j = 0
        · subst hj; exact fm.old 0 a m
        · rw [show fps0 (fps' 0) j = [] from if_neg hj] at m; cases m
    split at hp
    · rename_i r' hr'
      rw [hr']
      split at hp
      · rename_i d1 hd1
        exact fun σ' H' fps' g' fm k' => fin (v := .non) (fpv := []) (by rw [wp_nil]; exact g') .non List.nodup_nil (fun _ m => (nomatch m)) fm k' hd1 hp
      · exact hp.elim
    · rename_i d r' hr'
      rw [hr']
      split at hp
      · rename_i d1 hd1
        exact fun v σ' H' fps' fpv g' rp' nd' nw' fm k' => fin g' rp' nd' nw' fm k' hd1 hp
      · exact hp.elim
    · rename_i x r' hr'
      rw [hr']
      split at hp
      · rename_i d1 hd1
        intro σ' H' fps' dx g' fm k' xr
        obtain ⟨u, k1, k2⟩ := g'.sl 0 d1 hd1
        rw [k'.2 0 rfl, h0] at k1
        cases k1
        have sub : ∀ a, Wp W0 (fps' 0) a → Wof W0 fps' a := fun a z => z.imp id fun z => ⟨0, z⟩
        refine hp d1 H' (fps' 0) dx rfl (k2.move (fun a z => .inl (sub a z)) fun _ _ q _ _ => q) (g'.nd 0) (fun a m => g'.nw 0 a m) ⟨@Fram.keep _ _ _ _ _ _ fm, fun j a m => ?_, fm.oldv, fm.back, fm.tb⟩ (xr.weak sub)
        by_cases hj : j = 0
        · subst hj; exact fm.old 0 a m
        · rw [show fps0 (fps' 0) j = [] from if_neg hj] at m; cases m
      · exact hp.elim
    · exact hp.elim
theorem mk_ioL {P : Program} {w : World} {K : PySem.W.Frag} {mg : Str → Option Value} {base : Heap} {cm : Cm} {x qual q : Str} {st : Stmt} {f : Addr} {fd : FuncData} {N ps : List Str} {k : Nat} {g : FS} (Fu : Fun K x qual st f fd) (S : FnScope N ps (defScope st)) (B : LamB mg base fd.code q) (hm : mg x = some (.ref f)) (hb : Binds K fd ps [])
    (hbody : ∀ (cdv : Value) (A : Around) (outer : List PySem.Env) (s : Shared) (H : Hp) (E : XK), LamB mg base cdv q → RoomG k (A.deeper (envOfC qual (defScope st) s.heap.objs.size f cdv)) → DSs (cxB P w K mg base N qual (defScope st) f cdv A outer s H E) cm (fun _ => E) k1 (defBody st) g) :
    CallOk P w K mg base x (k + 1) ps (spX cm ps.length (runX ps.length N.length g)) := ⟨f, fd, fn_ioEL (toE Fu) S B hbody, hm, Fu.kp, hb⟩
end
end DL

namespace DL
open PySem L2
variable {X : Xc → Env → Prop}
abbrev XF : Xc → Env → Prop := fun _ _ => False
def WO' {α : Type} (X : Xc → Env → Prop) (o : Out α) (P : α → Prop) : Prop := match o with
  | .ok a => P a
  | .exn x r => X x r
  | .bad => False
def WS' (X : Xc → Env → Prop) (o : SO) (N : Env → Prop) (R : D → Env → Prop) : Prop := match o with
  | .nx r => N r
  | .rt d r => R d r
  | .exn x r => X x r
  | _ => False
def WB' (X : Xc → Env → Prop) (o : SO) (N : Env → Prop) (B : Env → Prop) (R : D → Env → Prop) : Prop := match o with
  | .nx r => N r
  | .ct r => N r
  | .bk r => B r
  | .rt d r => R d r
  | .exn x r => X x r
  | _ => False
@[simp] theorem WO_ok {α : Type} {a : α} {P : α → Prop} : WO' X (.ok a) P ↔ P a := Iff.rfl
@[simp] theorem WO_bad {α : Type} {P : α → Prop} : WO' X (.bad : Out α) P ↔ False := Iff.rfl
@[simp] theorem WO_exn {α : Type} {x : Xc} {r : Env} {P : α → Prop} : WO' X (.exn x r : Out α) P ↔ X x r := Iff.rfl
@[simp] theorem WO_bind {α β : Type} {o : Out α} {f : α → Out β} {P : β → Prop} : WO' X (o.bind f) P ↔ WO' X o fun a => WO' X (f a) P := by cases o <;> exact Iff.rfl
@[simp] theorem WO_safe {α : Type} {o : Out α} {P : α → Prop} : WO' X (safe o) P ↔ WO' XF o P := by cases o <;> exact Iff.rfl
theorem WO'.mono {α : Type} {o : Out α} {P P' : α → Prop} (h : WO' X o P) (k : ∀ a, P a → P' a) : WO' X o P' := by
  cases o with
  | ok a => exact k a h
  | _ => exact h
theorem WO'.ok {α : Type} {o : Out α} {P : α → Prop} (h : WO' XF o P) : ∃ a, o = .ok a ∧ P a := by
  cases o with
  | ok a => exact ⟨a, rfl, h⟩
  | _ => exact h.elim
theorem WO'.eq {α : Type} {o : Out α} {a : α} (h : WO' XF o fun x => x = a) : o = .ok a := by
  obtain ⟨b, h1, h2⟩ := WO'.ok h
  rw [h1, h2]
theorem WO.eq {α : Type} {o : Out α} {a : α} (h : WO' XF o fun x => x = a) : o = .ok a := WO'.eq h
theorem WO'.up {α : Type} {o : Out α} {P : α → Prop} (h : WO' XF o P) : WO' X o P := by
  cases o with
  | ok a => exact h
  | _ => exact h.elim
@[simp] theorem WS_nx {r : Env} {N : Env → Prop} {R : D → Env → Prop} : WS' X (.nx r) N R ↔ N r := Iff.rfl
@[simp] theorem WS_rt {d : D} {r : Env} {N : Env → Prop} {R : D → Env → Prop} : WS' X (.rt d r) N R ↔ R d r := Iff.rfl
@[simp] theorem WS_exn {x : Xc} {r : Env} {N : Env → Prop} {R : D → Env → Prop} : WS' X (.exn x r) N R ↔ X x r := Iff.rfl
@[simp] theorem WS_bad {N : Env → Prop} {R : D → Env → Prop} : WS' X .bad N R ↔ False := Iff.rfl
theorem WS'.mono {o : SO} {N N' : Env → Prop} {R R' : D → Env → Prop} (h : WS' X o N R) (h1 : ∀ r, N r → N' r) (h2 : ∀ d r, R d r → R' d r) : WS' X o N' R' := by
  cases o with
  | nx r => exact h1 r h
  | rt d r => exact h2 d r h
  | _ => exact h
section
variable {r : Env} {N : Env → Prop} {R : D → Env → Prop} {f g : FS} {fx : FX} {P : D × Env → Prop}
@[simp] theorem WS_seq : WS' X (sSeq f g r) N R ↔ WS' X (f r) (fun r1 => WS' X (g r1) N R) R := by
  unfold sSeq
  cases f r <;> exact Iff.rfl
@[simp] theorem WS_next : WS' X (sNext r) N R ↔ N r := Iff.rfl
@[simp] theorem WS_ret : WS' X (sRet fx r) N R ↔ WO' X (fx r) fun p => R p.1 p.2 := by
  unfold sRet
  cases fx r <;> exact Iff.rfl
@[simp] theorem WS_drop : WS' X (sDrop fx r) N R ↔ WO' X (fx r) fun p => N p.2 := by
  unfold sDrop
  cases fx r <;> exact Iff.rfl
@[simp] theorem WS_set {i : Nat} : WS' X (sSet i fx r) N R ↔ WO' X (fx r) fun p => i < p.2.length ∧ N (p.2.set i (some p.1)) := by
  unfold sSet
  cases fx r with
  | ok p =>
    show WS' X (if i < p.2.length then _ else _) N R ↔ _
    by_cases h : i < p.2.length
    · rw [if_pos h]; exact ⟨fun z => ⟨h, z⟩, fun z => z.2⟩
    · rw [if_neg h]; exact ⟨fun z => z.elim, fun z => h z.1⟩
  | _ => exact Iff.rfl
@[simp] theorem WS_if {t : Env → Out (Bool × Env)} : WS' X (sIf t f g r) N R ↔ WO' X (t r) fun p => if p.1 = true then WS' X (f p.2) N R else WS' X (g p.2) N R := by
  unfold sIf
  cases t r with
  | ok p =>
    show WS' X (if p.1 = true then _ else _) N R ↔ if p.1 = true then _ else _
    split <;> exact Iff.rfl
  | _ => exact Iff.rfl
@[simp] theorem WO_lift {ns : List Nat} {ff : F} : WO' X (lift ns ff r) P ↔ WO' (fun x _ => X x (if shrs x.ds = true then frzN ns r else r)) (ff (view ns r)) fun d => P (d, if shr d = true then frzN ns r else r) := by
  unfold lift
  cases ff (view ns r) <;> exact Iff.rfl
@[simp] theorem WO_liftT {ns : List Nat} {ff : Env → Out Bool} {P : Bool × Env → Prop} : WO' X (liftT ns ff r) P ↔ WO' (fun x _ => X x (if shrs x.ds = true then frzN ns r else r)) (ff (view ns r)) fun b => P (b, r) := by
  unfold liftT
  cases ff (view ns r) <;> exact Iff.rfl
@[simp] theorem WO_liftA {ns : List Nat} {ff : Env → Out (List D)} {P : List D × Env → Prop} : WO' X (liftA ns ff r) P ↔ WO' (fun x _ => X x (if shrs x.ds = true then frzN ns r else r)) (ff (view ns r)) fun ds => P (ds, if shrs ds = true then frzN ns r else r) := by
  unfold liftA
  cases ff (view ns r) <;> exact Iff.rfl
@[simp] theorem WO_liftI {ns : List Nat} {ff : Env → Out (List D)} {P : List D × Env → Prop} : WO' X (liftI ns ff r) P ↔ WO' (fun x _ => X x (if shrs x.ds = true then frzN ns r else r)) (ff (view ns r)) fun ds => P (ds, frzN ns r) := by
  unfold liftI
  cases ff (view ns r) <;> exact Iff.rfl
theorem WO_if {α : Type} {c : Prop} [Decidable c] {a b : Out α} {P : α → Prop} : WO' X (if c then a else b) P ↔ if c then WO' X a P else WO' X b P := by
  split <;> exact Iff.rfl
theorem WO_xIO {i n : Nat} {m : List D → Out (D × D)} {h : Env → Out (List D × Env)} {d : D} (hd : r[i]? = some (some d)) : WO' X (xIO i n m h r) P ↔ WO' X (h r) fun p => ∃ d0, p.2[i]? = some (some d0) ∧ p.1.length + 1 = n ∧ WO' (fun x r => ∃ d1, r = [some d1] ∧ X x (p.2.set i (some d1))) (m (d0 :: frzs p.1)) fun q => P (q.1, p.2.set i (some q.2)) := by
  unfold xIO
  rw [hd]
  show WO' X (Out.bind _ _) P ↔ _
  rw [WO_bind]
  have : ∀ p : List D × Env, WO' X (match p.2[i]? with
      | some (some d0) => if p.1.length + 1 = n then (match m (d0 :: frzs p.1) with
        | .ok q => .ok (q.1, p.2.set i (some q.2))
        | .exn x [some d1] => .exn x (p.2.set i (some d1))
        | _ => .bad) else .bad
      | _ => .bad : Out (D × Env)) P ↔ ∃ d0, p.2[i]? = some (some d0) ∧ p.1.length + 1 = n ∧ WO' (fun x r => ∃ d1, r = [some d1] ∧ X x (p.2.set i (some d1))) (m (d0 :: frzs p.1)) fun q => P (q.1, p.2.set i (some q.2)) := by
    intro p
    split
    · rename_i d0 h0
      by_cases hl : p.1.length + 1 = n
      · rw [if_pos hl]
        constructor
        · intro z
          refine ⟨d0, h0, hl, ?_⟩
          split at z
          · rename_i q hq; rw [hq]; exact z
          · rename_i x d1 hq; rw [hq]; exact ⟨d1, rfl, z⟩
          · exact z.elim
        · rintro ⟨d1, h1, _, z⟩
          rw [h0] at h1; cases h1
          split
          · rename_i q hq; rw [hq] at z; exact z
          · rename_i x d1 hq
            rw [hq] at z
            obtain ⟨d2, e, z⟩ := z
            cases e
            exact z
          · rename_i n1 n2
            cases hq : m (d0 :: frzs p.1) with
            | ok q => exact (n1 q hq).elim
            | exn x r' =>
              rw [hq] at z
              obtain ⟨d2, e, z⟩ := z
              exact (n2 x d2 (by rw [hq, e])).elim
            | bad => rw [hq] at z; exact z.elim
      · rw [if_neg hl]
        exact ⟨fun z => z.elim, fun ⟨_, _, z, _⟩ => hl z⟩
    · rename_i hno
      exact ⟨fun z => z.elim, fun ⟨d0, z, _⟩ => hno d0 z⟩
  exact ⟨fun z => z.mono fun p => (this p).mp, fun z => z.mono fun p => (this p).mpr⟩
theorem WO_runP {n N' : Nat} {g : FS} {ds : List D} {P : D → Prop} (hl : ds.length = n) : WO' X (runP n N' g ds) P ↔ WS' (fun x _ => X x []) (g (ds.map some ++ List.replicate (N' - n) none)) (fun _ => P .non) fun d _ => P d := by
  unfold runP
  rw [if_pos hl]
  cases hg : g (ds.map some ++ List.replicate (N' - n) none) <;> exact Iff.rfl
theorem WO_runX {n N' : Nat} {g : FS} {ds : List D} {P : D × D → Prop} (hl : ds.length = n) : WO' X (runX n N' g ds) P ↔ WS' (fun x r => ∃ d0, r[0]? = some (some d0) ∧ X x [some d0]) (g (ds.map some ++ List.replicate (N' - n) none)) (fun r => ∃ d0, r[0]? = some (some d0) ∧ P (.non, d0)) fun d r => ∃ d0, r[0]? = some (some d0) ∧ P (d, d0) := by
  unfold runX
  rw [if_pos hl]
  cases hg : g (ds.map some ++ List.replicate (N' - n) none) with
  | nx r =>
    show WO' X (match r[0]? with | some (some d0) => _ | _ => _) P ↔ ∃ d0, r[0]? = some (some d0) ∧ P (.non, d0)
    split
    · rename_i d0 h0; exact ⟨fun z => ⟨d0, h0, z⟩, fun ⟨d1, h1, z⟩ => by rw [h0] at h1; cases h1; exact z⟩
    · rename_i hno; exact ⟨fun z => z.elim, fun ⟨d0, z, _⟩ => hno d0 z⟩
  | rt d r =>
    show WO' X (match r[0]? with | some (some d0) => _ | _ => _) P ↔ ∃ d0, r[0]? = some (some d0) ∧ P (d, d0)
    split
    · rename_i d0 h0; exact ⟨fun z => ⟨d0, h0, z⟩, fun ⟨d1, h1, z⟩ => by rw [h0] at h1; cases h1; exact z⟩
    · rename_i hno; exact ⟨fun z => z.elim, fun ⟨d0, z, _⟩ => hno d0 z⟩
  | exn x r =>
    show WO' X (match r[0]? with | some (some d0) => _ | _ => _) P ↔ ∃ d0, r[0]? = some (some d0) ∧ X x [some d0]
    split
    · rename_i d0 h0; exact ⟨fun z => ⟨d0, h0, z⟩, fun ⟨d1, h1, z⟩ => by rw [h0] at h1; cases h1; exact z⟩
    · rename_i hno; exact ⟨fun z => z.elim, fun ⟨d0, z, _⟩ => hno d0 z⟩
  | _ => exact Iff.rfl
theorem WS_for {it : Env → Out (List D × Env)} {tg : D → Env → Out Env} {body : FS} : WS' X (sFor it tg body r) N R ↔ WO' X (it r) fun p => WS' X (forS tg body p.1 p.2) N R := by
  unfold sFor
  cases it r <;> exact Iff.rfl
theorem WS_forS {tg : D → Env → Out Env} {body : FS} (I : List D → Env → Prop) : ∀ (ds : List D) (r : Env), I ds r → (∀ d ds' r, I (d :: ds') r → WO' XF (tg d r) fun r1 => WB' X (body r1) (I ds') N R) → (∀ r, I [] r → N r) → WS' X (forS tg body ds r) N R
  | [], r, h, _, h2 => h2 r h
  | d :: ds, r, h, h1, h2 => by
    have := h1 d ds r h
    unfold forS
    cases ht : tg d r with
    | ok r1 =>
      rw [ht] at this
      have this : WB' X (body r1) (I ds) N R := this
      cases hb : body r1 with
      | nx r2 => rw [hb] at this; simp only [hb]; exact WS_forS I ds r2 this h1 h2
      | ct r2 => rw [hb] at this; simp only [hb]; exact WS_forS I ds r2 this h1 h2
      | bk r2 => rw [hb] at this; simp only [hb]; exact this
      | rt d' r2 => rw [hb] at this; simp only [hb]; exact this
      | exn x r2 => rw [hb] at this; simp only [hb]; exact this
      | bad => rw [hb] at this; exact this.elim
    | exn x r1 => rw [ht] at this; exact this.elim
    | bad => rw [ht] at this; exact this.elim
end
end DL

namespace DL
open PySem L2
variable {X : Xc → Env → Prop}
section
variable {r : Env} {P : D → Prop} {fa fb fc : F} {o : Option D} {d e : D} {i j : Int}
@[simp] theorem cV_zero : cV 0 (some d :: r) = .ok d := rfl
@[simp] theorem cV_succ {k : Nat} : cV (k + 1) (o :: r) = cV k r := rfl
@[simp] theorem cK_eq : cK d r = .ok d := rfl
@[simp] theorem c1_eq {g : D → Out D} : c1 g fa r = (fa r).bind g := rfl
@[simp] theorem c2_eq {g : D → D → Out D} : c2 g fa fb r = (fa r).bind fun a => (fb r).bind fun b => g a b := rfl
@[simp] theorem c2S_eq {g : D → D → Out D} : c2S g fa fb r = (fa r).bind fun a => if isStrB a = true then (fb r).bind fun b => g a b else .bad := rfl
@[simp] theorem c3_eq {g g' : D → D → Out D} : c3 g g' fa fb fc r = (fa r).bind fun a => (fb r).bind fun b => (g a b).bind fun z => (isB z).bind fun k => if k = true then (fc r).bind fun c => g' b c else .ok (.bl false) := rfl
@[simp] theorem cFz_eq : cFz fa r = (fa r).bind fun a => .ok (frz a) := rfl
@[simp] theorem aNil_eq : aNil r = .ok [] := rfl
@[simp] theorem aCons_eq {g : Env → Out (List D)} : aCons fa g r = (fa r).bind fun d => (g r).bind fun ds => .ok (d :: ds) := rfl
@[simp] theorem cA_eq {g : List D → Out D} {fs : Env → Out (List D)} : cA g fs r = (fs r).bind g := rfl
@[simp] theorem cLst_eq {g : Env → Out (List D)} : cLst g r = (g r).bind fun ds => if ds.length ≤ 1000 then .ok (.lst true ds) else .bad := rfl
@[simp] theorem cTup_eq {g : Env → Out (List D)} : cTup g r = (g r).bind fun ds => if ds.length ≤ 1000 then .ok (.tup ds) else .bad := rfl
@[simp] theorem isB_bl {b : Bool} : isB (.bl b) = .ok b := rfl
@[simp] theorem tB_eq : DL.tB fa r = (fa r).bind isB := rfl
@[simp] theorem tAnd_eq {f g : Env → Out Bool} : DL.tAnd f g r = (f r).bind fun b => if b = true then g r else .ok false := rfl
@[simp] theorem tOr_eq {f g : Env → Out Bool} : DL.tOr f g r = (f r).bind fun b => if b = true then .ok true else g r := rfl
@[simp] theorem tNot_eq {f : Env → Out Bool} : DL.tNot f r = (f r).bind fun b => .ok (!b) := rfl
@[simp] theorem cIf_eq {t : Env → Out Bool} : cIf t fa fb r = (t r).bind fun b => if b = true then fa r else fb r := rfl
@[simp] theorem cAnd_eq : cAnd fa fb r = (fa r).bind fun a => (isB a).bind fun b => if b = true then fb r else .ok (.bl false) := rfl
@[simp] theorem cOr_eq : cOr fa fb r = (fa r).bind fun a => (isB a).bind fun b => if b = true then .ok (.bl true) else fb r := rfl
@[simp] theorem cNot_eq : cNot fa r = (fa r).bind fun a => (isB a).bind fun b => .ok (.bl (!b)) := rfl
@[simp] theorem chk_eq {n : Nat} {m : List D → Out D} {ds : List D} : chk n m ds = if ds.length = n then m ds else .bad := rfl
@[simp] theorem g1_eq {g : D → Out D} : g1 g [d] = g d := rfl
@[simp] theorem bind_ok {α β : Type} {a : α} {f : α → Out β} : (Out.ok a).bind f = f a := rfl
@[simp] theorem xNil_eq : xNil r = .ok ([], r) := rfl
@[simp] theorem xCons_eq {f : FX} {h : Env → Out (List D × Env)} : xCons f h r = (f r).bind fun p => (h p.2).bind fun q => .ok (p.1 :: q.1, q.2) := rfl
@[simp] theorem xLst_eq {h : Env → Out (List D × Env)} : xLst h r = (h r).bind fun p => if p.1.length ≤ 1000 then .ok (.lst true p.1, p.2) else .bad := rfl
@[simp] theorem xTup_eq {h : Env → Out (List D × Env)} : xTup h r = (h r).bind fun p => if p.1.length ≤ 1000 then .ok (.tup p.1, p.2) else .bad := rfl
@[simp] theorem x2_eq {g : D → D → Out D} {f h : FX} : x2 g f h r = (f r).bind fun p => (h p.2).bind fun q => (g (frz p.1) (frz q.1)).bind fun d => .ok (d, q.2) := rfl
@[simp] theorem x2S_eq {g : D → D → Out D} {f h : FX} : x2S g f h r = (f r).bind fun p => if isStrB p.1 = true then (h p.2).bind fun q => (g (frz p.1) (frz q.1)).bind fun d => .ok (d, q.2) else .bad := rfl
@[simp] theorem xTB_eq {f : FX} : xTB f r = (f r).bind fun p => (isB p.1).bind fun k => .ok (k, p.2) := rfl
@[simp] theorem xAnd_eq {s t : Env → Out (Bool × Env)} : xAnd s t r = (s r).bind fun p => if p.1 = true then t p.2 else .ok (false, p.2) := rfl
@[simp] theorem xOr_eq {s t : Env → Out (Bool × Env)} : xOr s t r = (s r).bind fun p => if p.1 = true then .ok (true, p.2) else t p.2 := rfl
@[simp] theorem xNot_eq {s : Env → Out (Bool × Env)} : xNot s r = (s r).bind fun p => .ok (!p.1, p.2) := rfl
@[simp] theorem sN_eq {k : Nat} : sN k d r = if k < r.length then .ok (r.set k (some d)) else .bad := rfl
@[simp] theorem isStr_eq {cs : List Nat} : isStrB (.str cs) = true := rfl
@[simp] theorem frz_non : frz .non = .non := rfl
@[simp] theorem frz_any : frz .any = .any := rfl
@[simp] theorem frz_bl {b : Bool} : frz (.bl b) = .bl b := rfl
@[simp] theorem frz_int : frz (.int i) = .int i := rfl
@[simp] theorem frz_str {cs : List Nat} : frz (.str cs) = .str cs := rfl
@[simp] theorem frz_scr {ns : List Int} : frz (.scr ns) = .scr ns := rfl
@[simp] theorem frz_lst {b : Bool} {xs : List D} : frz (.lst b xs) = .lst false (frzs xs) := rfl
@[simp] theorem frz_tup {xs : List D} : frz (.tup xs) = .tup (frzs xs) := rfl
@[simp] theorem frz_dK {b : Bool} {ks : List Key} {xs : List D} : frz (.dK b ks xs) = .dK false ks (frzs xs) := rfl
@[simp] theorem frzs_nil : frzs [] = [] := rfl
@[simp] theorem frzs_cons {xs : List D} : frzs (d :: xs) = frz d :: frzs xs := rfl
@[simp] theorem shr_non : shr .non = false := rfl
@[simp] theorem shr_any : shr .any = false := rfl
@[simp] theorem shr_bl {b : Bool} : shr (.bl b) = false := rfl
@[simp] theorem shr_int : shr (.int i) = false := rfl
@[simp] theorem shr_str {cs : List Nat} : shr (.str cs) = false := rfl
@[simp] theorem shr_scr {ns : List Int} : shr (.scr ns) = false := rfl
@[simp] theorem shr_lst {b : Bool} {xs : List D} : shr (.lst b xs) = (!b || shrs xs) := rfl
@[simp] theorem shr_tup {xs : List D} : shr (.tup xs) = shrs xs := rfl
@[simp] theorem shr_dK {b : Bool} {ks : List Key} {xs : List D} : shr (.dK b ks xs) = (!b || shrs xs) := rfl
@[simp] theorem shrs_nil : shrs [] = false := rfl
@[simp] theorem shrs_cons {xs : List D} : shrs (d :: xs) = (shr d || shrs xs) := rfl
theorem frzs_strs (xs : List (List Nat)) : frzs (xs.map D.str) = xs.map D.str := by rw [frzs_map, List.map_map]; rfl
theorem frzs_ints (xs : List Int) : frzs (xs.map D.int) = xs.map D.int := by rw [frzs_map, List.map_map]; rfl
@[simp] theorem viewF_nil {p : Nat → Bool} {k : Nat} : viewF p k [] = [] := rfl
@[simp] theorem viewF_cons {p : Nat → Bool} {k : Nat} : viewF p k (o :: r) = (if p k = true then o.map frz else none) :: viewF p (k + 1) r := rfl
@[simp] theorem frzF_nil {p : Nat → Bool} {k : Nat} : frzF p k [] = [] := rfl
@[simp] theorem frzF_cons {p : Nat → Bool} {k : Nat} : frzF p k (o :: r) = (if p k = true then o.map frz else o) :: frzF p (k + 1) r := rfl
@[simp] theorem gAddI_eq : gI0 (fun i j => .int (i + j)) (.int i) (.int j) = .ok (.int (i + j)) := rfl
@[simp] theorem gI0_eq {g : Int → Int → D} : gI0 g (.int i) (.int j) = .ok (g i j) := rfl
@[simp] theorem WO_gI {C : Int → Int → Prop} [∀ i j, Decidable (C i j)] {g : Int → Int → D} : WO' X (gI C g (.int i) (.int j)) P ↔ C i j ∧ P (g i j) := by
  show WO' X (if C i j then _ else _) P ↔ _
  by_cases h : C i j
  · rw [if_pos h]; exact ⟨fun z => ⟨h, z⟩, fun z => z.2⟩
  · rw [if_neg h]; exact ⟨fun z => z.elim, fun z => h z.1⟩
@[simp] theorem WO_gAddS {u v : List Nat} : WO' X (gAddS (.str u) (.str v)) P ↔ u.length + v.length ≤ 1000000 ∧ P (.str (u ++ v)) := by
  show WO' X (if u.length + v.length ≤ 1000000 then _ else _) P ↔ _
  by_cases h : u.length + v.length ≤ 1000000
  · rw [if_pos h]; exact ⟨fun z => ⟨h, z⟩, fun z => z.2⟩
  · rw [if_neg h]; exact ⟨fun z => z.elim, fun z => h z.1⟩
@[simp] theorem WO_gMulS {u : List Nat} : WO' X (gMulS (.str u) (.int i)) P ↔ (u.length ≤ 1000 ∧ -1000 ≤ i ∧ i ≤ 1000) ∧ P (.str (List.replicate i.toNat u).flatten) := by
  show WO' X (if u.length ≤ 1000 ∧ -1000 ≤ i ∧ i ≤ 1000 then _ else _) P ↔ _
  by_cases h : u.length ≤ 1000 ∧ -1000 ≤ i ∧ i ≤ 1000
  · rw [if_pos h]; exact ⟨fun z => ⟨h, z⟩, fun z => z.2⟩
  · rw [if_neg h]; exact ⟨fun z => z.elim, fun z => h z.1⟩
@[simp] theorem WO_gEq : WO' X (gEq d e) P ↔ eqOk d e = true ∧ P (.bl (eqD d e)) := by
  unfold gEq
  by_cases h : eqOk d e = true
  · rw [if_pos h]; exact ⟨fun z => ⟨h, z⟩, fun z => z.2⟩
  · rw [if_neg h]; exact ⟨fun z => z.elim, fun z => h z.1⟩
@[simp] theorem WO_gNe : WO' X (gNe d e) P ↔ eqOk d e = true ∧ P (.bl (!eqD d e)) := by
  unfold gNe
  by_cases h : eqOk d e = true
  · rw [if_pos h]; exact ⟨fun z => ⟨h, z⟩, fun z => z.2⟩
  · rw [if_neg h]; exact ⟨fun z => z.elim, fun z => h z.1⟩
@[simp] theorem gInS_eq {neg : Bool} {c : Nat} {cs : List Nat} : gIn neg (.str [c]) (.str cs) = .ok (.bl (cs.contains c != neg)) := rfl
@[simp] theorem WO_gInL {neg b : Bool} {xs : List D} : WO' X (gIn neg d (.lst b xs)) P ↔ (plainD d && plainDs xs && dle 60 d) = true ∧ P (.bl (inD d xs != neg)) := by
  show WO' X (if _ then _ else _) P ↔ _
  by_cases h : (plainD d && plainDs xs && dle 60 d) = true
  · rw [if_pos h]; exact ⟨fun z => ⟨h, z⟩, fun z => z.2⟩
  · rw [if_neg h]; exact ⟨fun z => z.elim, fun z => h z.1⟩
@[simp] theorem WO_gInT {neg : Bool} {xs : List D} : WO' X (gIn neg d (.tup xs)) P ↔ (plainD d && plainDs xs && dle 60 d) = true ∧ P (.bl (inD d xs != neg)) := by
  show WO' X (if _ then _ else _) P ↔ _
  by_cases h : (plainD d && plainDs xs && dle 60 d) = true
  · rw [if_pos h]; exact ⟨fun z => ⟨h, z⟩, fun z => z.2⟩
  · rw [if_neg h]; exact ⟨fun z => z.elim, fun z => h z.1⟩
@[simp] theorem WO_ofO {α : Type} {o : Option α} {P : α → Prop} : WO' X (ofO o) P ↔ ∃ a, o = some a ∧ P a := by
  cases o with
  | none => exact ⟨fun z => z.elim, fun ⟨_, z, _⟩ => nomatch z⟩
  | some a => exact ⟨fun z => ⟨a, rfl, z⟩, fun ⟨b, e, z⟩ => by cases e; exact z⟩
@[simp] theorem gIxL_eq {b : Bool} {xs : List D} : gIx (.lst b xs) (.int i) = ofO (atI xs i) := rfl
@[simp] theorem gIxT_eq {xs : List D} : gIx (.tup xs) (.int i) = ofO (atI xs i) := rfl
@[simp] theorem gIxR_eq {ns : List Int} : gIx (.scr ns) (.int i) = ofO ((atI ns i).map fun n => .int n) := rfl
@[simp] theorem gIxS_eq {cs : List Nat} : gIx (.str cs) (.int i) = if cs.length ≤ 1000000 then ofO ((atI cs i).map fun c => .str [c]) else .bad := rfl
@[simp] theorem gLenS_eq {cs : List Nat} : gLen (.str cs) = if cs.length ≤ 1000000 then .ok (.int cs.length) else .bad := rfl
@[simp] theorem gLenL_eq {b : Bool} {xs : List D} : gLen (.lst b xs) = .ok (.int xs.length) := rfl
@[simp] theorem gLenT_eq {xs : List D} : gLen (.tup xs) = .ok (.int xs.length) := rfl
@[simp] theorem gLenR_eq {ns : List Int} : gLen (.scr ns) = .ok (.int ns.length) := rfl
theorem atI_pos {α : Type} {xs : List α} (h0 : 0 ≤ i) (h1 : i < xs.length) : atI xs i = xs[i.toNat]? := by
  unfold atI ixN
  rw [if_pos h0, if_pos h1]
  rfl
theorem WO_at {α : Type} {xs : List α} (h0 : 0 ≤ i) (h1 : i < xs.length) : ∃ a, atI xs i = some a ∧ a ∈ xs := by
  rw [atI_pos h0 h1]
  have : i.toNat < xs.length := by omega
  exact ⟨xs[i.toNat], by simp [this], List.getElem_mem _⟩
end
end DL

namespace DL
open PySem L2
variable {X : Xc → Env → Prop}
section
variable {r : Env} {P : D → Prop} {N : Env → Prop} {R : D → Env → Prop} {fa fb fc : F} {o : Option D} {d e x y : D} {i j : Int} {xs : List D}
@[simp] theorem WS_put {i : Nat} {f fk : FX} : WS' X (sPut i f fk r) N R ↔ WO' X (f r) fun p => ∃ d, p.2[i]? = some (some d) ∧ WO' X (fk p.2) fun q => ∃ k ds j, q.1 = .int k ∧ q.2[i]? = some (some (.lst true ds)) ∧ ixN ds.length k = some j ∧ N (q.2.set i (some (.lst true (ds.set j (frz p.1))))) := by
  unfold sPut
  cases f r with
  | ok p =>
    show WS' X (match p.2[i]? with | some (some _) => _ | _ => _) N R ↔ ∃ d, p.2[i]? = some (some d) ∧ _
    split
    · rename_i d0 h0
      cases hk : fk p.2 with
      | ok q =>
        have key : ∀ (q1 : D) (q2 : Env), WS' X (match q1, q2[i]? with
          | .int k, some (some (.lst true ds)) => (match ixN ds.length k with
            | some j => .nx (q2.set i (some (.lst true (ds.set j (frz p.1)))))
            | none => .bad)
          | _, _ => .bad : SO) N R ↔ ∃ k ds j, q1 = .int k ∧ q2[i]? = some (some (.lst true ds)) ∧ ixN ds.length k = some j ∧ N (q2.set i (some (.lst true (ds.set j (frz p.1))))) := by
          intro q1 q2
          generalize hq : q2[i]? = o
          split
          · rename_i k ds
            constructor
            · intro z
              split at z
              · rename_i j hj; exact ⟨k, ds, j, rfl, rfl, hj, z⟩
              · exact z.elim
            · rintro ⟨k', ds', j, f1, f2, f3, z⟩
              cases f1
              cases f2
              rw [f3]; exact z
          · rename_i hno
            exact ⟨fun z => z.elim, fun ⟨k', ds', j, f1, f2, f3, z⟩ => (hno k' ds' f1 f2).elim⟩
        exact ⟨fun z => ⟨d0, h0, (key q.1 q.2).mp z⟩, fun ⟨_, _, z⟩ => (key q.1 q.2).mpr z⟩
      | exn _ _ => exact ⟨fun z => ⟨d0, h0, z⟩, fun ⟨_, _, z⟩ => z⟩
      | bad => exact ⟨fun z => z.elim, fun ⟨_, _, z⟩ => z.elim⟩
    · rename_i hno
      exact ⟨fun z => z.elim, fun ⟨d, z, _⟩ => (hno d z).elim⟩
  | exn _ _ => exact Iff.rfl
  | bad => exact Iff.rfl
theorem ixN_pos {n : Nat} (h0 : 0 ≤ i) (h1 : i < n) : ixN n i = some i.toNat := by
  unfold ixN
  rw [if_pos h0, if_pos h1]
@[simp] theorem atI_zero {α : Type} {x : α} {xs : List α} : atI (x :: xs) 0 = some x := by
  rw [atI_pos (by omega) (by rw [List.length_cons]; omega)]; rfl
@[simp] theorem atI_one {α : Type} {x y : α} {xs : List α} : atI (x :: y :: xs) 1 = some y := by
  rw [atI_pos (by omega) (by simp only [List.length_cons]; omega)]; rfl
@[simp] theorem atI_two {α : Type} {x y z : α} {xs : List α} : atI (x :: y :: z :: xs) 2 = some z := by
  rw [atI_pos (by omega) (by simp only [List.length_cons]; omega)]; rfl
@[simp] theorem ixN_zero {n : Nat} : ixN (n + 1) 0 = some 0 := by rw [ixN_pos (by omega) (by omega)]; rfl
@[simp] theorem ixN_one {n : Nat} : ixN (n + 2) 1 = some 1 := by rw [ixN_pos (by omega) (by omega)]; rfl
@[simp] theorem iL_eq : iL fa r = (fa r).bind fun d => match d with | .lst _ xs => .ok xs | _ => .bad := rfl
@[simp] theorem iT_eq : iT fa r = (fa r).bind fun d => match d with | .tup xs => .ok xs | _ => .bad := rfl
@[simp] theorem iS_eq : iS fa r = (fa r).bind fun d => match d with | .str cs => .ok (cs.map fun c => .str [c]) | _ => .bad := rfl
@[simp] theorem len_rng {lo : Int} {n : Nat} : (rng lo n).length = n := by unfold rng; simp
@[simp] theorem WO_iR1 {fs : Env → Out (List D)} {P : List D → Prop} : WO' X (iR1 fs r) P ↔ WO' X (fs r) fun ds => ∃ j, ds = [.int j] ∧ (-1000000 ≤ j ∧ j ≤ 1000000) ∧ P (rng 0 j.toNat) := by
  unfold iR1
  rw [WO_bind]
  have : ∀ ds : List D, WO' X (match ds with
    | [.int j] => if -1000000 ≤ j ∧ j ≤ 1000000 then .ok (rng 0 j.toNat) else .bad
    | _ => .bad : Out (List D)) P ↔ ∃ j, ds = [.int j] ∧ (-1000000 ≤ j ∧ j ≤ 1000000) ∧ P (rng 0 j.toNat) := by
    intro ds
    split
    · rename_i j
      by_cases h : -1000000 ≤ j ∧ j ≤ 1000000
      · rw [if_pos h]; exact ⟨fun z => ⟨j, rfl, h, z⟩, fun ⟨j', e, _, z⟩ => by cases e; exact z⟩
      · rw [if_neg h]; exact ⟨fun z => z.elim, fun ⟨j', e, h', z⟩ => by cases e; exact (h h').elim⟩
    · rename_i hno; exact ⟨fun z => z.elim, fun ⟨j, z, _⟩ => hno j z⟩
  exact ⟨fun z => z.mono fun p => (this p).mp, fun z => z.mono fun p => (this p).mpr⟩
@[simp] theorem WO_iR2 {fs : Env → Out (List D)} {P : List D → Prop} : WO' X (iR2 fs r) P ↔ WO' X (fs r) fun ds => ∃ i j, ds = [.int i, .int j] ∧ ((-1000000 ≤ i ∧ i ≤ 1000000) ∧ -1000000 ≤ j ∧ j ≤ 1000000) ∧ P (rng i (j - i).toNat) := by
  unfold iR2
  rw [WO_bind]
  have : ∀ ds : List D, WO' X (match ds with
    | [.int i, .int j] => if (-1000000 ≤ i ∧ i ≤ 1000000) ∧ -1000000 ≤ j ∧ j ≤ 1000000 then .ok (rng i (j - i).toNat) else .bad
    | _ => .bad : Out (List D)) P ↔ ∃ i j, ds = [.int i, .int j] ∧ ((-1000000 ≤ i ∧ i ≤ 1000000) ∧ -1000000 ≤ j ∧ j ≤ 1000000) ∧ P (rng i (j - i).toNat) := by
    intro ds
    split
    · rename_i i j
      by_cases h : (-1000000 ≤ i ∧ i ≤ 1000000) ∧ -1000000 ≤ j ∧ j ≤ 1000000
      · rw [if_pos h]; exact ⟨fun z => ⟨i, j, rfl, h, z⟩, fun ⟨i', j', e, _, z⟩ => by cases e; exact z⟩
      · rw [if_neg h]; exact ⟨fun z => z.elim, fun ⟨i', j', e, h', z⟩ => by cases e; exact (h h').elim⟩
    · rename_i hno; exact ⟨fun z => z.elim, fun ⟨i, j, z, _⟩ => hno i j z⟩
  exact ⟨fun z => z.mono fun p => (this p).mp, fun z => z.mono fun p => (this p).mpr⟩
@[simp] theorem WO_iXR1 {fs : Env → Out (List D × Env)} {P : List D × Env → Prop} : WO' X (iXR1 fs r) P ↔ WO' X (fs r) fun p => ∃ j, p.1 = [.int j] ∧ (-1000000 ≤ j ∧ j ≤ 1000000) ∧ P (rng 0 j.toNat, p.2) := by
  unfold iXR1
  rw [WO_bind]
  have : ∀ p : List D × Env, WO' X (match p.1 with
    | [.int j] => if -1000000 ≤ j ∧ j ≤ 1000000 then .ok (rng 0 j.toNat, p.2) else .bad
    | _ => .bad : Out (List D × Env)) P ↔ ∃ j, p.1 = [.int j] ∧ (-1000000 ≤ j ∧ j ≤ 1000000) ∧ P (rng 0 j.toNat, p.2) := by
    intro ⟨ds, r'⟩
    dsimp only
    split
    · rename_i j
      by_cases h : -1000000 ≤ j ∧ j ≤ 1000000
      · rw [if_pos h]; exact ⟨fun z => ⟨j, rfl, h, z⟩, fun ⟨j', e, _, z⟩ => by cases e; exact z⟩
      · rw [if_neg h]; exact ⟨fun z => z.elim, fun ⟨j', e, h', z⟩ => by cases e; exact (h h').elim⟩
    · rename_i hno; exact ⟨fun z => z.elim, fun ⟨j, z, _⟩ => hno j z⟩
  exact ⟨fun z => z.mono fun p => (this p).mp, fun z => z.mono fun p => (this p).mpr⟩
@[simp] theorem WO_iXR2 {fs : Env → Out (List D × Env)} {P : List D × Env → Prop} : WO' X (iXR2 fs r) P ↔ WO' X (fs r) fun p => ∃ i j, p.1 = [.int i, .int j] ∧ ((-1000000 ≤ i ∧ i ≤ 1000000) ∧ -1000000 ≤ j ∧ j ≤ 1000000) ∧ P (rng i (j - i).toNat, p.2) := by
  unfold iXR2
  rw [WO_bind]
  have : ∀ p : List D × Env, WO' X (match p.1 with
    | [.int i, .int j] => if (-1000000 ≤ i ∧ i ≤ 1000000) ∧ -1000000 ≤ j ∧ j ≤ 1000000 then .ok (rng i (j - i).toNat, p.2) else .bad
    | _ => .bad : Out (List D × Env)) P ↔ ∃ i j, p.1 = [.int i, .int j] ∧ ((-1000000 ≤ i ∧ i ≤ 1000000) ∧ -1000000 ≤ j ∧ j ≤ 1000000) ∧ P (rng i (j - i).toNat, p.2) := by
    intro ⟨ds, r'⟩
    dsimp only
    split
    · rename_i i j
      by_cases h : (-1000000 ≤ i ∧ i ≤ 1000000) ∧ -1000000 ≤ j ∧ j ≤ 1000000
      · rw [if_pos h]; exact ⟨fun z => ⟨i, j, rfl, h, z⟩, fun ⟨i', j', e, _, z⟩ => by cases e; exact z⟩
      · rw [if_neg h]; exact ⟨fun z => z.elim, fun ⟨i', j', e, h', z⟩ => by cases e; exact (h h').elim⟩
    · rename_i hno; exact ⟨fun z => z.elim, fun ⟨i, j, z, _⟩ => hno i j z⟩
  exact ⟨fun z => z.mono fun p => (this p).mp, fun z => z.mono fun p => (this p).mpr⟩
theorem WO_cLcM {α : Type} {it : Env → Out (List D)} {vs : List Nat} {g : D → Env → Out Env} {tt : Env → Out Bool} {el : F} (f : α → D) (k : α → D) (as : List α) (h : WO' XF (it r) fun ds => ds = as.map f) (hl : as.length ≤ 1000000) (h1 : ∀ a ∈ as, WO' XF (turn vs g tt el r (f a)) fun o => o = some (k a)) (hp : P (.lst true (as.map k))) : WO' X (cLc it vs g tt el r) P := by
  have e : it r = .ok (as.map f) := h.eq
  unfold cLc
  rw [e]
  show WO' X (if (as.map f).length ≤ 1000000 then _ else _) P
  rw [List.length_map, if_pos hl]
  have : ∀ as : List α, (∀ a ∈ as, turn vs g tt el r (f a) = .ok (some (k a))) → turns (turn vs g tt el r) (as.map f) = .ok (as.map k) := by
    intro as
    induction as with
    | nil => intro _; rfl
    | cons a as ih =>
      intro h1
      rw [List.map_cons, List.map_cons]
      unfold turns
      rw [h1 a (List.mem_cons_self ..), ih fun x hx => h1 x (List.mem_cons_of_mem _ hx)]
      rfl
  rw [this as fun a ha => (h1 a ha).eq]
  exact hp
theorem WO_cLcF {α : Type} {it : Env → Out (List D)} {vs : List Nat} {g : D → Env → Out Env} {tt : Env → Out Bool} {el : F} (f : α → D) (t : α → Bool) (k : α → D) (as : List α) (h : WO' XF (it r) fun ds => ds = as.map f) (hl : as.length ≤ 1000000) (h1 : ∀ a ∈ as, WO' XF (turn vs g tt el r (f a)) fun o => o = if t a = true then some (k a) else none) (hp : P (.lst true ((as.filter t).map k))) : WO' X (cLc it vs g tt el r) P := by
  have e : it r = .ok (as.map f) := h.eq
  unfold cLc
  rw [e]
  show WO' X (if (as.map f).length ≤ 1000000 then _ else _) P
  rw [List.length_map, if_pos hl]
  have : ∀ as : List α, (∀ a ∈ as, turn vs g tt el r (f a) = .ok (if t a = true then some (k a) else none)) → turns (turn vs g tt el r) (as.map f) = .ok ((as.filter t).map k) := by
    intro as
    induction as with
    | nil => intro _; rfl
    | cons a as ih =>
      intro h1
      rw [List.map_cons, List.filter_cons]
      unfold turns
      rw [h1 a (List.mem_cons_self ..), ih fun x hx => h1 x (List.mem_cons_of_mem _ hx)]
      by_cases ht : t a = true
      · simp [ht]
      · simp [ht]
  rw [this as fun a ha => (h1 a ha).eq]
  exact hp
@[simp] theorem turn_eq {vs : List Nat} {g : D → Env → Out Env} {tt : Env → Out Bool} {el : F} : turn vs g tt el r d = (g d (wipeE r vs)).bind fun r2 => (tt r2).bind fun b => if b = true then (el r2).bind fun y => .ok (some y) else .ok none := rfl
theorem WO_xturns {gg : D → Env → Out Env} {tt : Env → Out (Bool × Env)} {el : FX} (I : List D → List D → Env → Prop) : ∀ (ds acc : List D) (r : Env), I acc ds r → (∀ acc d ds r, I acc (d :: ds) r → WO' XF (gg d r) fun r1 => WO' XF (tt r1) fun q => if q.1 = true then WO' XF (el q.2) fun y => I (acc ++ [y.1]) ds y.2 else I acc ds q.2) → WO' XF (xturns gg tt el ds r) fun z => I (acc ++ z.1) [] z.2
  | [], acc, r, h, _ => by show I (acc ++ []) [] r; rw [List.append_nil]; exact h
  | d :: ds, acc, r, h, h1 => by
    unfold xturns
    rw [WO_bind]
    refine (h1 acc d ds r h).mono fun r1 z => ?_
    rw [WO_bind]
    refine z.mono fun q z => ?_
    by_cases hq : q.1 = true
    · rw [if_pos hq] at z ⊢
      rw [WO_bind]
      refine z.mono fun y z => ?_
      rw [WO_bind]
      refine (WO_xturns I ds _ _ z h1).mono fun w z => ?_
      show I (acc ++ (y.1 :: w.1)) [] w.2
      rw [List.append_cons]
      exact z
    · rw [if_neg hq] at z ⊢
      exact WO_xturns I ds _ _ z h1
theorem WO_xLc {it : Env → Out (List D × Env)} {vs : List Nat} {gg : D → Env → Out Env} {tt : Env → Out (Bool × Env)} {el : FX} {P : D × Env → Prop} (I : List D → List D → Env → Prop) (h0 : WO' X (it r) fun p => p.1.length ≤ 1000000 ∧ I [] p.1 p.2) (h1 : ∀ acc d ds r, I acc (d :: ds) r → WO' XF (gg d (wipeE r vs)) fun r1 => WO' XF (tt r1) fun q => if q.1 = true then WO' XF (el q.2) fun y => I (acc ++ [y.1]) ds y.2 else I acc ds q.2) (h2 : ∀ ys r, I ys [] r → P (.lst true ys, wipeE r vs)) : WO' X (xLc it vs gg tt el r) P := by
  unfold xLc
  rw [WO_bind]
  refine h0.mono fun p ⟨h3, h4⟩ => ?_
  rw [if_pos h3, WO_bind, WO_safe]
  refine (WO_xturns I _ _ _ h4 h1).mono fun z h5 => ?_
  rw [List.nil_append] at h5
  exact h2 _ _ h5
@[simp] theorem wipeE_nil : wipeE r [] = r := rfl
@[simp] theorem wipeE_cons {v : Nat} {vs : List Nat} : wipeE r (v :: vs) = (wipeE r vs).set v none := rfl
@[simp] theorem xYes_eq : xYes r = .ok (true, r) := rfl
@[simp] theorem tYes_eq : tYes' r = .ok true := rfl
@[simp] theorem cSl_eq {g : D → Option Int → Option Int → Out D} {l h : Env → Out (Option Int)} : cSl g fa l h r = (fa r).bind fun d => (l r).bind fun i => (h r).bind fun j => g d i j := rfl
@[simp] theorem oNone_eq : oNone r = .ok none := rfl
@[simp] theorem oSome_eq : oSome fa r = (fa r).bind fun d => (isI d).bind fun i => .ok (some i) := rfl
@[simp] theorem isI_eq : isI (.int i) = .ok i := rfl
@[simp] theorem gSlS_eq {cs : List Nat} {l h : Option Int} : gSlS (.str cs) l h = if cs.length ≤ 1000000 then .ok (.str (cut cs l h)) else .bad := rfl
@[simp] theorem gSlStr_eq {cs : List Nat} {l h : Option Int} : gSl (.str cs) l h = if cs.length ≤ 1000000 then .ok (.str (cut cs l h)) else .bad := rfl
@[simp] theorem gSlL_eq {b : Bool} {l h : Option Int} : gSl (.lst b xs) l h = .ok (.lst true (cut xs l h)) := rfl
@[simp] theorem strsD_map (xs : List (List Nat)) : strsD (xs.map D.str) = some xs := by
  induction xs with
  | nil => rfl
  | cons x xs ih => show (strsD (xs.map D.str)).map _ = _; rw [ih]; rfl
@[simp] theorem blsD_map (xs : List Bool) : blsD (xs.map D.bl) = some xs := by
  induction xs with
  | nil => rfl
  | cons x xs ih => show (blsD (xs.map D.bl)).map _ = _; rw [ih]; rfl
theorem joinL_nil (xs : List (List Nat)) : joinL [] xs = xs.flatten := by
  cases xs with
  | nil => rfl
  | cons x xs => show x ++ (xs.map fun y => [] ++ y).flatten = _; simp
theorem flat_ones (cs : List Nat) : (cs.map fun c => [c]).flatten = cs := by
  induction cs with
  | nil => rfl
  | cons c cs ih => show c :: (cs.map fun c => [c]).flatten = _; rw [ih]
theorem lenSum_ones (cs : List Nat) : lenSum (cs.map fun c => [c]) = cs.length := by
  induction cs with
  | nil => rfl
  | cons c cs ih => show 1 + lenSum (cs.map fun c => [c]) = _; rw [ih, List.length_cons]; omega
@[simp] theorem strsD_ones (cs : List Nat) : strsD (cs.map fun c => D.str [c]) = some (cs.map fun c => [c]) := by
  induction cs with
  | nil => rfl
  | cons x xs ih => show (strsD (xs.map fun c => D.str [c])).map _ = _; rw [ih]; rfl
@[simp] theorem frzs_ones (cs : List Nat) : frzs (cs.map fun c => D.str [c]) = cs.map fun c => D.str [c] := by
  rw [frzs_map, List.map_map]; rfl
@[simp] theorem frzs_bls (cs : List Bool) : frzs (cs.map D.bl) = cs.map D.bl := by
  rw [frzs_map, List.map_map]; rfl
@[simp] theorem WO_join0 {b : Bool} {cs : List Nat} : WO' X (gJoin (.str []) (.lst b (cs.map fun c => D.str [c]))) P ↔ cs.length ≤ 1000000 ∧ P (.str cs) := by
  show WO' X (match strsD (cs.map fun c => D.str [c]) with | some xs => _ | none => _) P ↔ _
  rw [strsD_ones]
  show WO' X (if lenSum (cs.map fun c => [c]) + _ * 0 ≤ 1000000 then .ok (.str (joinL [] (cs.map fun c => [c]))) else .bad) P ↔ _
  rw [lenSum_ones, joinL_nil, flat_ones, Nat.mul_zero, Nat.add_zero]
  by_cases h : cs.length ≤ 1000000
  · rw [if_pos h]; exact ⟨fun z => ⟨h, z⟩, fun z => z.2⟩
  · rw [if_neg h]; exact ⟨fun z => z.elim, fun z => h z.1⟩
@[simp] theorem WO_ifbad {α : Type} {c : Prop} [Decidable c] {o : Out α} {P : α → Prop} : WO' X (if c then o else .bad) P ↔ c ∧ WO' X o P := by
  by_cases h : c
  · rw [if_pos h]; exact ⟨fun z => ⟨h, z⟩, fun z => z.2⟩
  · rw [if_neg h]; exact ⟨fun z => z.elim, fun z => h z.1⟩
@[simp] theorem WO_ite_tt {α : Type} {c : Prop} [Decidable c] {o o' : Out α} {P : α → Prop} : WO' X (if c then o else o') P ↔ if c then WO' X o P else WO' X o' P := WO_if
@[simp] theorem gListL_eq {b : Bool} : gList (.lst b xs) = .ok (.lst true xs) := rfl
@[simp] theorem gListS_eq {cs : List Nat} : gList (.str cs) = if cs.length ≤ 1000000 then .ok (.lst true (cs.map fun c => .str [c])) else .bad := rfl
end
end DL

namespace DL
open PySem L2
variable {X : Xc → Env → Prop}
@[simp] theorem isi_int_non  : gIsi .int .non = .ok (.bl false) := rfl
@[simp] theorem isi_int_bl {b : Bool} : gIsi .int (.bl b) = .ok (.bl true) := rfl
@[simp] theorem isi_int_int {i : Int} : gIsi .int (.int i) = .ok (.bl true) := rfl
@[simp] theorem isi_int_str {cs : List Nat} : gIsi .int (.str cs) = .ok (.bl false) := rfl
@[simp] theorem isi_int_lst {b : Bool} {xs : List D} : gIsi .int (.lst b xs) = .ok (.bl false) := rfl
@[simp] theorem isi_int_tup {xs : List D} : gIsi .int (.tup xs) = .ok (.bl false) := rfl
@[simp] theorem isi_int_dK {b : Bool} {ks : List Key} {xs : List D} : gIsi .int (.dK b ks xs) = .ok (.bl false) := rfl
@[simp] theorem isi_int_obj {b : Bool} {c : Str} {ks : List Str} {xs : List D} : gIsi .int (.obj b c ks xs) = .ok (.bl false) := rfl
@[simp] theorem isi_bool_non  : gIsi .bool .non = .ok (.bl false) := rfl
@[simp] theorem isi_bool_bl {b : Bool} : gIsi .bool (.bl b) = .ok (.bl true) := rfl
@[simp] theorem isi_bool_int {i : Int} : gIsi .bool (.int i) = .ok (.bl false) := rfl
@[simp] theorem isi_bool_str {cs : List Nat} : gIsi .bool (.str cs) = .ok (.bl false) := rfl
@[simp] theorem isi_bool_lst {b : Bool} {xs : List D} : gIsi .bool (.lst b xs) = .ok (.bl false) := rfl
@[simp] theorem isi_bool_tup {xs : List D} : gIsi .bool (.tup xs) = .ok (.bl false) := rfl
@[simp] theorem isi_bool_dK {b : Bool} {ks : List Key} {xs : List D} : gIsi .bool (.dK b ks xs) = .ok (.bl false) := rfl
@[simp] theorem isi_bool_obj {b : Bool} {c : Str} {ks : List Str} {xs : List D} : gIsi .bool (.obj b c ks xs) = .ok (.bl false) := rfl
@[simp] theorem isi_str_non  : gIsi .str .non = .ok (.bl false) := rfl
@[simp] theorem isi_str_bl {b : Bool} : gIsi .str (.bl b) = .ok (.bl false) := rfl
@[simp] theorem isi_str_int {i : Int} : gIsi .str (.int i) = .ok (.bl false) := rfl
@[simp] theorem isi_str_str {cs : List Nat} : gIsi .str (.str cs) = .ok (.bl true) := rfl
@[simp] theorem isi_str_lst {b : Bool} {xs : List D} : gIsi .str (.lst b xs) = .ok (.bl false) := rfl
@[simp] theorem isi_str_tup {xs : List D} : gIsi .str (.tup xs) = .ok (.bl false) := rfl
@[simp] theorem isi_str_dK {b : Bool} {ks : List Key} {xs : List D} : gIsi .str (.dK b ks xs) = .ok (.bl false) := rfl
@[simp] theorem isi_str_obj {b : Bool} {c : Str} {ks : List Str} {xs : List D} : gIsi .str (.obj b c ks xs) = .ok (.bl false) := rfl
@[simp] theorem isi_list_non  : gIsi .list .non = .ok (.bl false) := rfl
@[simp] theorem isi_list_bl {b : Bool} : gIsi .list (.bl b) = .ok (.bl false) := rfl
@[simp] theorem isi_list_int {i : Int} : gIsi .list (.int i) = .ok (.bl false) := rfl
@[simp] theorem isi_list_str {cs : List Nat} : gIsi .list (.str cs) = .ok (.bl false) := rfl
@[simp] theorem isi_list_lst {b : Bool} {xs : List D} : gIsi .list (.lst b xs) = .ok (.bl true) := rfl
@[simp] theorem isi_list_tup {xs : List D} : gIsi .list (.tup xs) = .ok (.bl false) := rfl
@[simp] theorem isi_list_dK {b : Bool} {ks : List Key} {xs : List D} : gIsi .list (.dK b ks xs) = .ok (.bl false) := rfl
@[simp] theorem isi_list_obj {b : Bool} {c : Str} {ks : List Str} {xs : List D} : gIsi .list (.obj b c ks xs) = .ok (.bl false) := rfl
@[simp] theorem isi_tuple_non  : gIsi .tuple .non = .ok (.bl false) := rfl
@[simp] theorem isi_tuple_bl {b : Bool} : gIsi .tuple (.bl b) = .ok (.bl false) := rfl
@[simp] theorem isi_tuple_int {i : Int} : gIsi .tuple (.int i) = .ok (.bl false) := rfl
@[simp] theorem isi_tuple_str {cs : List Nat} : gIsi .tuple (.str cs) = .ok (.bl false) := rfl
@[simp] theorem isi_tuple_lst {b : Bool} {xs : List D} : gIsi .tuple (.lst b xs) = .ok (.bl false) := rfl
@[simp] theorem isi_tuple_tup {xs : List D} : gIsi .tuple (.tup xs) = .ok (.bl true) := rfl
@[simp] theorem isi_tuple_dK {b : Bool} {ks : List Key} {xs : List D} : gIsi .tuple (.dK b ks xs) = .ok (.bl false) := rfl
@[simp] theorem isi_tuple_obj {b : Bool} {c : Str} {ks : List Str} {xs : List D} : gIsi .tuple (.obj b c ks xs) = .ok (.bl false) := rfl
@[simp] theorem isi_dict_non  : gIsi .dict .non = .ok (.bl false) := rfl
@[simp] theorem isi_dict_bl {b : Bool} : gIsi .dict (.bl b) = .ok (.bl false) := rfl
@[simp] theorem isi_dict_int {i : Int} : gIsi .dict (.int i) = .ok (.bl false) := rfl
@[simp] theorem isi_dict_str {cs : List Nat} : gIsi .dict (.str cs) = .ok (.bl false) := rfl
@[simp] theorem isi_dict_lst {b : Bool} {xs : List D} : gIsi .dict (.lst b xs) = .ok (.bl false) := rfl
@[simp] theorem isi_dict_tup {xs : List D} : gIsi .dict (.tup xs) = .ok (.bl false) := rfl
@[simp] theorem isi_dict_dK {b : Bool} {ks : List Key} {xs : List D} : gIsi .dict (.dK b ks xs) = .ok (.bl true) := rfl
@[simp] theorem isi_dict_obj {b : Bool} {c : Str} {ks : List Str} {xs : List D} : gIsi .dict (.obj b c ks xs) = .ok (.bl false) := rfl
@[simp] theorem plain_non : plainD .non = true := rfl
@[simp] theorem plain_bl {b : Bool} : plainD (.bl b) = true := rfl
@[simp] theorem plain_int {i : Int} : plainD (.int i) = true := rfl
@[simp] theorem plain_str {cs : List Nat} : plainD (.str cs) = true := rfl
@[simp] theorem plain_lst {b : Bool} {xs : List D} : plainD (.lst b xs) = plainDs xs := rfl
@[simp] theorem plain_tup {xs : List D} : plainD (.tup xs) = plainDs xs := rfl
@[simp] theorem plains_nil : plainDs [] = true := rfl
@[simp] theorem plains_cons {x : D} {xs : List D} : plainDs (x :: xs) = (plainD x && plainDs xs) := rfl
@[simp] theorem plains_ones {cs : List Nat} : plainDs (cs.map fun c => D.str [c]) = true := by
  induction cs with
  | nil => rfl
  | cons c cs ih => exact ih
@[simp] theorem plains_strs {cs : List (List Nat)} : plainDs (cs.map D.str) = true := by
  induction cs with
  | nil => rfl
  | cons c cs ih => exact ih
@[simp] theorem plains_ints {cs : List Int} : plainDs (cs.map D.int) = true := by
  induction cs with
  | nil => rfl
  | cons c cs ih => exact ih
@[simp] theorem dle_non {n : Nat} : dle n .non = true := by cases n <;> rfl
@[simp] theorem dle_bl {n : Nat} {b : Bool} : dle n (.bl b) = true := by cases n <;> rfl
@[simp] theorem dle_int {n : Nat} {i : Int} : dle n (.int i) = true := by cases n <;> rfl
@[simp] theorem dle_str {n : Nat} {cs : List Nat} : dle n (.str cs) = true := by cases n <;> rfl
@[simp] theorem dle_lst60 {b : Bool} {xs : List D} : dle 60 (.lst b xs) = dles 59 xs := rfl
@[simp] theorem dle_tup60 {xs : List D} : dle 60 (.tup xs) = dles 59 xs := rfl
@[simp] theorem dle_lst59 {b : Bool} {xs : List D} : dle 59 (.lst b xs) = dles 58 xs := rfl
@[simp] theorem dle_tup59 {xs : List D} : dle 59 (.tup xs) = dles 58 xs := rfl
@[simp] theorem dle_lst58 {b : Bool} {xs : List D} : dle 58 (.lst b xs) = dles 57 xs := rfl
@[simp] theorem dle_tup58 {xs : List D} : dle 58 (.tup xs) = dles 57 xs := rfl
@[simp] theorem dles_nil {n : Nat} : dles n [] = true := by cases n <;> rfl
@[simp] theorem dles_cons {n : Nat} {x : D} {xs : List D} : dles n (x :: xs) = (dle n x && dles n xs) := by cases n <;> rfl
@[simp] theorem dles_ones {n : Nat} {cs : List Nat} : dles n (cs.map fun c => D.str [c]) = true := by
  induction cs with
  | nil => exact dles_nil
  | cons c cs ih => rw [List.map_cons, dles_cons, ih, dle_str]; rfl
@[simp] theorem dles_strs {n : Nat} {cs : List (List Nat)} : dles n (cs.map D.str) = true := by
  induction cs with
  | nil => exact dles_nil
  | cons c cs ih => rw [List.map_cons, dles_cons, ih, dle_str]; rfl
@[simp] theorem dles_ints {n : Nat} {cs : List Int} : dles n (cs.map D.int) = true := by
  induction cs with
  | nil => exact dles_nil
  | cons c cs ih => rw [List.map_cons, dles_cons, ih, dle_int]; rfl
@[simp] theorem eqs_n {xs : List D} : eqDs xs [] = xs.isEmpty := by cases xs <;> rfl
@[simp] theorem eqOk_eq {x y : D} : eqOk x y = (plainD x && plainD y && dle 60 x) := rfl
@[simp] theorem eqs_nil : eqDs [] [] = true := rfl
@[simp] theorem eqs_cons {x y : D} {xs ys : List D} : eqDs (x :: xs) (y :: ys) = (eqD x y && eqDs xs ys) := rfl
@[simp] theorem eqs_nc {x : D} {xs : List D} : eqDs [] (x :: xs) = false := rfl
@[simp] theorem eqs_cn {x : D} {xs : List D} : eqDs (x :: xs) [] = false := rfl
@[simp] theorem eqD_bb {a b : Bool} : eqD (.bl a) (.bl b) = (a == b) := rfl
@[simp] theorem eqD_bi {a : Bool} {j : Int} : eqD (.bl a) (.int j) = ((if a then 1 else 0) == j) := rfl
@[simp] theorem eqD_ib {a : Int} {b : Bool} : eqD (.int a) (.bl b) = (a == (if b then 1 else 0)) := rfl
@[simp] theorem eqD_ii {a b : Int} : eqD (.int a) (.int b) = (a == b) := rfl
@[simp] theorem eqD_ss {x y : List Nat} : eqD (.str x) (.str y) = (x == y) := rfl
@[simp] theorem eqD_ll {a b : Bool} {x y : List D} : eqD (.lst a x) (.lst b y) = eqDs x y := rfl
@[simp] theorem eqD_tt {x y : List D} : eqD (.tup x) (.tup y) = eqDs x y := rfl
@[simp] theorem inD_eq {x : D} {xs : List D} : inD x xs = xs.any fun y => eqD y x := rfl
section
variable {b b2 : Bool} {i i2 : Int} {cs cs2 : List Nat} {xs xs2 : List D}
@[simp] theorem eqD_nn : eqD .non .non = true := rfl
@[simp] theorem eqD_non_bl : eqD .non (.bl b2) = false := rfl
@[simp] theorem eqD_non_int : eqD .non (.int i2) = false := rfl
@[simp] theorem eqD_non_str : eqD .non (.str cs2) = false := rfl
@[simp] theorem eqD_non_lst : eqD .non (.lst b2 xs2) = false := rfl
@[simp] theorem eqD_non_tup : eqD .non (.tup xs2) = false := rfl
@[simp] theorem eqD_bl_non : eqD (.bl b) .non = false := rfl
@[simp] theorem eqD_bl_str : eqD (.bl b) (.str cs2) = false := rfl
@[simp] theorem eqD_bl_lst : eqD (.bl b) (.lst b2 xs2) = false := rfl
@[simp] theorem eqD_bl_tup : eqD (.bl b) (.tup xs2) = false := rfl
@[simp] theorem eqD_int_non : eqD (.int i) .non = false := rfl
@[simp] theorem eqD_int_str : eqD (.int i) (.str cs2) = false := rfl
@[simp] theorem eqD_int_lst : eqD (.int i) (.lst b2 xs2) = false := rfl
@[simp] theorem eqD_int_tup : eqD (.int i) (.tup xs2) = false := rfl
@[simp] theorem eqD_str_non : eqD (.str cs) .non = false := rfl
@[simp] theorem eqD_str_bl : eqD (.str cs) (.bl b2) = false := rfl
@[simp] theorem eqD_str_int : eqD (.str cs) (.int i2) = false := rfl
@[simp] theorem eqD_str_lst : eqD (.str cs) (.lst b2 xs2) = false := rfl
@[simp] theorem eqD_str_tup : eqD (.str cs) (.tup xs2) = false := rfl
@[simp] theorem eqD_lst_non : eqD (.lst b xs) .non = false := rfl
@[simp] theorem eqD_lst_bl : eqD (.lst b xs) (.bl b2) = false := rfl
@[simp] theorem eqD_lst_int : eqD (.lst b xs) (.int i2) = false := rfl
@[simp] theorem eqD_lst_str : eqD (.lst b xs) (.str cs2) = false := rfl
@[simp] theorem eqD_lst_tup : eqD (.lst b xs) (.tup xs2) = false := rfl
@[simp] theorem eqD_tup_non : eqD (.tup xs) .non = false := rfl
@[simp] theorem eqD_tup_bl : eqD (.tup xs) (.bl b2) = false := rfl
@[simp] theorem eqD_tup_int : eqD (.tup xs) (.int i2) = false := rfl
@[simp] theorem eqD_tup_str : eqD (.tup xs) (.str cs2) = false := rfl
@[simp] theorem eqD_tup_lst : eqD (.tup xs) (.lst b2 xs2) = false := rfl
@[simp] theorem gNeg_eq : gNeg (.int i) = .ok (.int (-i)) := rfl
@[simp] theorem gCat_eq : gCat (.lst b xs) (.lst b2 xs2) = if xs.length + xs2.length ≤ 1000000 then .ok (.lst true (xs ++ xs2)) else .bad := rfl
@[simp] theorem gMulL_eq : gMulL (.lst b xs) (.int i) = if xs.length ≤ 1000 ∧ -1000 ≤ i ∧ i ≤ 1000 then .ok (.lst true (List.replicate i.toNat xs).flatten) else .bad := rfl
@[simp] theorem gMulT_eq : gMulT (.tup xs) (.int i) = if xs ≠ [] ∧ xs.length ≤ 1000 ∧ 1 ≤ i ∧ i ≤ 1000 then .ok (.tup (List.replicate i.toNat xs).flatten) else .bad := by
  unfold gMulT
  by_cases h : xs ≠ [] ∧ xs.length ≤ 1000 ∧ 1 ≤ i ∧ i ≤ 1000
  · rw [if_pos h]; exact if_pos h
  · rw [if_neg h]; exact if_neg h
@[simp] theorem gMx_eq : gMx [.int i, .int i2] = .ok (.int (if i2 > i then i2 else i)) := rfl
@[simp] theorem gMn_eq : gMn [.int i, .int i2] = .ok (.int (if i2 < i then i2 else i)) := rfl
@[simp] theorem gIsN_bb {neg : Bool} : gIsN neg (.bl b) (.bl b2) = .ok (.bl ((b == b2) != neg)) := rfl
@[simp] theorem gIsN_nn {neg : Bool} : gIsN neg .non .non = .ok (.bl (true != neg)) := rfl
@[simp] theorem gIsN_bn {neg : Bool} : gIsN neg (.bl b) .non = .ok (.bl (false != neg)) := rfl
@[simp] theorem gIsN_in {neg : Bool} : gIsN neg (.int i) .non = .ok (.bl (false != neg)) := rfl
@[simp] theorem gIsN_sn {neg : Bool} : gIsN neg (.str cs) .non = .ok (.bl (false != neg)) := rfl
@[simp] theorem gIsN_ln {neg : Bool} : gIsN neg (.lst b xs) .non = .ok (.bl (false != neg)) := rfl
@[simp] theorem gIsN_tn {neg : Bool} : gIsN neg (.tup xs) .non = .ok (.bl (false != neg)) := rfl
theorem WO_any {P : D → Prop} {bs : List Bool} (e : xs = bs.map D.bl) : WO' X (gAny (.lst b xs)) P ↔ P (.bl (bs.any id)) := by
  subst e
  show WO' X (match blsD (bs.map D.bl) with | some xs => _ | none => _) P ↔ _
  rw [blsD_map]; exact Iff.rfl
@[simp] theorem sT_eq {r : Env} {n : Nat} {gs : List D → Env → Out Env} : sT n gs (.tup xs) r = if xs.length = n then gs xs r else .bad := rfl
@[simp] theorem sCons_eq {r : Env} {d : D} {g : D → Env → Out Env} {gs : List D → Env → Out Env} : sCons g gs (d :: xs) r = (g d r).bind fun r1 => gs xs r1 := rfl
@[simp] theorem sNil_eq {r : Env} : sNil [] r = .ok r := rfl
end
end DL

namespace DL
open PySem L2
variable {X : Xc → Env → Prop}
def WT' (X : Xc → Env → Prop) (o : SO) (N C B : Env → Prop) (R : D → Env → Prop) : Prop := match o with
  | .nx r => N r
  | .ct r => C r
  | .bk r => B r
  | .rt d r => R d r
  | .exn x r => X x r
  | .bad => False
section
variable {r : Env} {N C B : Env → Prop} {R : D → Env → Prop} {f g : FS} {fx : FX}
theorem WB_iff {o : SO} : WB' X o N B R ↔ WT' X o N N B R := by cases o <;> exact Iff.rfl
theorem WT_iff {o : SO} (h : ∀ r, o ≠ .ct r) (h2 : ∀ r, o ≠ .bk r) : WT' X o N C B R ↔ WS' X o N R := by
  cases o with
  | ct r => exact (h r rfl).elim
  | bk r => exact (h2 r rfl).elim
  | _ => exact Iff.rfl
@[simp] theorem WT_seq : WT' X (sSeq f g r) N C B R ↔ WT' X (f r) (fun r1 => WT' X (g r1) N C B R) C B R := by
  unfold sSeq
  cases f r <;> exact Iff.rfl
@[simp] theorem WT_next : WT' X (sNext r) N C B R ↔ N r := Iff.rfl
@[simp] theorem WT_brk : WT' X (sBreak r) N C B R ↔ B r := Iff.rfl
@[simp] theorem WT_cnt : WT' X (sCont r) N C B R ↔ C r := Iff.rfl
@[simp] theorem WT_ret : WT' X (sRet fx r) N C B R ↔ WO' X (fx r) fun p => R p.1 p.2 := by
  unfold sRet
  cases fx r <;> exact Iff.rfl
@[simp] theorem WT_drop : WT' X (sDrop fx r) N C B R ↔ WO' X (fx r) fun p => N p.2 := by
  unfold sDrop
  cases fx r <;> exact Iff.rfl
@[simp] theorem WT_set {i : Nat} : WT' X (sSet i fx r) N C B R ↔ WO' X (fx r) fun p => i < p.2.length ∧ N (p.2.set i (some p.1)) := by
  rw [WT_iff, WS_set]
  · intro r'; unfold sSet; split
    · split <;> exact fun z => nomatch z
    · exact fun z => nomatch z
    · exact fun z => nomatch z
  · intro r'; unfold sSet; split
    · split <;> exact fun z => nomatch z
    · exact fun z => nomatch z
    · exact fun z => nomatch z
@[simp] theorem WT_put {i : Nat} {fk : FX} : WT' X (sPut i fx fk r) N C B R ↔ WO' X (fx r) fun p => ∃ d, p.2[i]? = some (some d) ∧ WO' X (fk p.2) fun q => ∃ k ds j, q.1 = .int k ∧ q.2[i]? = some (some (.lst true ds)) ∧ ixN ds.length k = some j ∧ N (q.2.set i (some (.lst true (ds.set j (frz p.1))))) := by
  have key : (∀ r', sPut i fx fk r ≠ .ct r') ∧ ∀ r', sPut i fx fk r ≠ .bk r' := by
    constructor <;> (intro r'; unfold sPut; repeat' split) <;> exact fun z => nomatch z
  rw [WT_iff key.1 key.2, WS_put]
@[simp] theorem WT_if {t : Env → Out (Bool × Env)} : WT' X (sIf t f g r) N C B R ↔ WO' X (t r) fun p => if p.1 = true then WT' X (f p.2) N C B R else WT' X (g p.2) N C B R := by
  unfold sIf
  cases t r with
  | ok p =>
    show WT' X (if p.1 = true then _ else _) N C B R ↔ if p.1 = true then _ else _
    split <;> exact Iff.rfl
  | _ => exact Iff.rfl
@[simp] theorem WS_forNil {tg : D → Env → Out Env} {body : FS} : WS' X (forS tg body [] r) N R ↔ N r := Iff.rfl
@[simp] theorem WS_forCons {tg : D → Env → Out Env} {body : FS} {d : D} {ds : List D} : WS' X (forS tg body (d :: ds) r) N R ↔ WO' XF (tg d r) fun r1 => WT' X (body r1) (fun r2 => WS' X (forS tg body ds r2) N R) (fun r2 => WS' X (forS tg body ds r2) N R) N R := by
  rw [forS]
  cases tg d r with
  | ok r1 =>
    show WS' X (match body r1 with | .nx r2 => _ | .ct r2 => _ | .bk r2 => _ | o => o) N R ↔ WT' X (body r1) _ _ _ _
    cases body r1 <;> exact Iff.rfl
  | _ => exact Iff.rfl
theorem WT_for {it : Env → Out (List D × Env)} {tg : D → Env → Out Env} {body : FS} : WT' X (sFor it tg body r) N C B R ↔ WO' X (it r) fun p => WS' X (forS tg body p.1 p.2) N R := by
  rw [WT_iff, WS_for]
  all_goals
    intro r'
    have key : ∀ (ds : List D) (r : Env), (∀ r', forS tg body ds r ≠ .ct r') ∧ ∀ r', forS tg body ds r ≠ .bk r' := by
      intro ds
      induction ds with
      | nil => intro r; exact ⟨fun _ z => (nomatch z), fun _ z => (nomatch z)⟩
      | cons d ds ih =>
        intro r
        rw [forS]
        split
        · split
          · exact ih _
          · exact ih _
          · exact ⟨fun _ z => (nomatch z), fun _ z => (nomatch z)⟩
          · rename_i h1 h2 h3
            exact ⟨fun r' z => h2 r' z, fun r' z => h3 r' z⟩
        · exact ⟨fun _ z => (nomatch z), fun _ z => (nomatch z)⟩
    unfold sFor
    cases it r with
    | ok p => first | exact (key _ _).1 r' | exact (key _ _).2 r'
    | _ => exact fun z => nomatch z
theorem WS_forT {tg : D → Env → Out Env} {body : FS} (I : List D → Env → Prop) {ds : List D} (h : I ds r) (h1 : ∀ d ds' r, I (d :: ds') r → WO' XF (tg d r) fun r1 => WT' X (body r1) (I ds') (I ds') N R) (h2 : ∀ r, I [] r → N r) : WS' X (forS tg body ds r) N R :=
  WS_forS I ds r h (fun d ds' r hi => (h1 d ds' r hi).mono fun r1 z => WB_iff.mpr z) h2
end
end DL

namespace DL
open PySem L2
variable {X : Xc → Env → Prop}
section
theorem WS_par {r : Env} {N : Env → Prop} {R : D → Env → Prop} {i j : Nat} {h : Env → Out (List D × Env)} : WS' X (sPar i j h r) N R ↔ WO' X (h r) fun p => ∃ a b, p.1 = [a, b] ∧ (i < p.2.length ∧ j < p.2.length) ∧ N ((p.2.set i (some a)).set j (some b)) := by
  unfold sPar
  cases h r with
  | ok p =>
    obtain ⟨l, q⟩ := p
    show WS' X (match l with | [a, b] => _ | _ => _) N R ↔ _
    split
    · rename_i a b
      show WS' X (if _ then _ else _) N R ↔ ∃ a' b', [a, b] = [a', b'] ∧ _
      by_cases hl : i < q.length ∧ j < q.length
      · rw [if_pos hl]; exact ⟨fun z => ⟨a, b, rfl, hl, z⟩, fun ⟨_, _, e, _, z⟩ => by cases e; exact z⟩
      · rw [if_neg hl]; exact ⟨fun z => z.elim, fun ⟨_, _, _, z, _⟩ => hl z⟩
    · rename_i hno
      exact ⟨fun z => z.elim, fun ⟨a, b, e, _⟩ => hno a b e⟩
  | _ => exact Iff.rfl
variable {r : Env} {N : Env → Prop} {R : D → Env → Prop} {f : FX}
theorem WS_aug {i : Nat} {gg : D → D → Out D} {d0 : D} (h : r[i]? = some (some d0)) (hs : isSc d0 = true) : WS' X (sAug i gg f r) N R ↔ WO' X (f r) fun p => WO' XF (gg d0 (frz p.1)) fun d => i < p.2.length ∧ N (p.2.set i (some d)) := by
  unfold sAug
  rw [h]
  simp only [hs, if_true]
  cases f r with
  | ok p =>
    show WS' X (match gg d0 (frz p.1) with | .ok d => _ | _ => _) N R ↔ WO' XF (gg d0 (frz p.1)) _
    cases gg d0 (frz p.1) with
    | ok d =>
      show WS' X (if i < p.2.length then _ else _) N R ↔ _
      by_cases hl : i < p.2.length
      · rw [if_pos hl]; exact ⟨fun z => ⟨hl, z⟩, fun z => z.2⟩
      · rw [if_neg hl]; exact ⟨fun z => z.elim, fun z => hl z.1⟩
    | _ => exact Iff.rfl
  | _ => exact Iff.rfl
end
section
variable {r : Env} {N C B : Env → Prop} {R : D → Env → Prop} {f : FX} {P : List D → Prop}
theorem WT_aug {i : Nat} {gg : D → D → Out D} {d0 : D} (h : r[i]? = some (some d0)) (hs : isSc d0 = true) : WT' X (sAug i gg f r) N C B R ↔ WO' X (f r) fun p => WO' XF (gg d0 (frz p.1)) fun d => i < p.2.length ∧ N (p.2.set i (some d)) := by
  have key : (∀ r', sAug i gg f r ≠ .ct r') ∧ ∀ r', sAug i gg f r ≠ .bk r' := by
    constructor <;> (intro r'; unfold sAug; repeat' split) <;> exact fun z => nomatch z
  rw [WT_iff key.1 key.2, WS_aug h hs]
theorem WT_par {i j : Nat} {h : Env → Out (List D × Env)} : WT' X (sPar i j h r) N C B R ↔ WO' X (h r) fun p => ∃ a b, p.1 = [a, b] ∧ (i < p.2.length ∧ j < p.2.length) ∧ N ((p.2.set i (some a)).set j (some b)) := by
  have key : (∀ r', sPar i j h r ≠ .ct r') ∧ ∀ r', sPar i j h r ≠ .bk r' := by
    constructor <;> (intro r'; unfold sPar; repeat' split) <;> exact fun z => nomatch z
  rw [WT_iff key.1 key.2, WS_par]
@[simp] theorem WO_iZpSS {fs : Env → Out (List D)} {a b : List Nat} (h : fs r = .ok [.str a, .str b]) : WO' X (iZp fs r) P ↔ P ((a.zip b).map fun p => .tup [.str [p.1], .str [p.2]]) := by
  unfold iZp
  rw [h]
  show P _ ↔ _
  rw [List.zip_map, List.map_map]
  exact Iff.rfl
@[simp] theorem WO_iZpLL {fs : Env → Out (List D)} {o o' : Bool} {a b : List D} (h : fs r = .ok [.lst o a, .lst o' b]) : WO' X (iZp fs r) P ↔ P ((a.zip b).map fun p => .tup [p.1, p.2]) := by
  unfold iZp
  rw [h]
  exact Iff.rfl
@[simp] theorem WO_iEnS {fs : Env → Out (List D)} {a : List Nat} (h : fs r = .ok [.str a]) : WO' X (iEn fs r) P ↔ P (a.zipIdx.map fun p => .tup [.int (p.2 : Nat), .str [p.1]]) := by
  unfold iEn
  rw [h]
  show P (enumD _) ↔ _
  unfold enumD
  rw [List.zipIdx_map, List.map_map]
  exact Iff.rfl
@[simp] theorem WO_iEnL {fs : Env → Out (List D)} {o : Bool} {a : List D} (h : fs r = .ok [.lst o a]) : WO' X (iEn fs r) P ↔ P (a.zipIdx.map fun p => .tup [.int (p.2 : Nat), p.1]) := by
  unfold iEn
  rw [h]
  exact Iff.rfl
end
end DL

namespace DL
open PySem L2
variable {X : Xc → Env → Prop}
class Enc (α : Type) where
  enc : α → D
  dep : Nat
  frz_enc : ∀ a, frz (enc a) = enc a
  plain_enc : ∀ a, plainD (enc a) = true
  dle_enc : ∀ a n, dep ≤ n → dle n (enc a) = true
  eq_enc : ∀ a b, eqD (enc a) (enc b) = true ↔ a = b
open Enc (enc)
class EncN (α : Type) [Enc α] : Prop where
  ne : ∀ a : α, eqD (enc a) .non = false
  en : ∀ a : α, eqD .non (enc a) = false
  nn : ∀ a : α, enc a ≠ .non
class EncS (α : Type) [Enc α] : Prop where
  shr_enc : ∀ a : α, shr (enc a) = false
structure Tx where
  cs : List Nat
deriving DecidableEq
structure T3 (α β γ : Type) where
  a : α
  b : β
  c : γ
deriving DecidableEq
section
variable {α β γ : Type} [Enc α] [Enc β] [Enc γ]
@[simp] theorem frz_enc (a : α) : frz (enc a) = enc a := Enc.frz_enc a
@[simp] theorem plain_enc (a : α) : plainD (enc a) = true := Enc.plain_enc a
@[simp] theorem shr_enc [EncS α] (a : α) : shr (enc a) = false := EncS.shr_enc a
theorem dle_enc {a : α} {n : Nat} (h : Enc.dep α ≤ n) : dle n (enc a) = true := Enc.dle_enc a n h
@[simp] theorem eqD_enc [DecidableEq α] (a b : α) : eqD (enc a) (enc b) = decide (a = b) := by
  rw [Bool.eq_iff_iff, Enc.eq_enc]; simp
@[simp] theorem frzs_enc (xs : List α) : frzs (xs.map enc) = xs.map enc := by
  rw [frzs_map, List.map_map]; exact List.map_congr_left fun a _ => frz_enc a
@[simp] theorem plains_enc (xs : List α) : plainDs (xs.map enc) = true := by
  induction xs with
  | nil => rfl
  | cons x xs ih => simp [ih]
@[simp] theorem shrs_enc [EncS α] (xs : List α) : shrs (xs.map enc) = false := by
  induction xs with
  | nil => rfl
  | cons x xs ih => simp [ih]
theorem dles_enc {n : Nat} (h : Enc.dep α ≤ n) (xs : List α) : dles n (xs.map enc) = true := by
  induction xs with
  | nil => rfl
  | cons x xs ih =>
    show (dle n (enc x) && dles n (xs.map enc)) = true
    rw [ih, Enc.dle_enc x n h]; rfl
theorem eqDs_enc' : ∀ xs ys : List α, eqDs (xs.map enc) (ys.map enc) = true ↔ xs = ys
  | [], [] => by simp [eqDs]
  | [], _ :: _ => by simp [eqDs]
  | _ :: _, [] => by simp [eqDs]
  | x :: xs, y :: ys => by
    show (eqD (enc x) (enc y) && eqDs (xs.map enc) (ys.map enc)) = true ↔ _
    rw [Bool.and_eq_true, Enc.eq_enc, eqDs_enc' xs ys, List.cons.injEq]
@[simp] theorem eqDs_enc [DecidableEq α] (xs ys : List α) : eqDs (xs.map enc) (ys.map enc) = decide (xs = ys) := by
  rw [Bool.eq_iff_iff, eqDs_enc']; simp
instance : Enc Int := ⟨.int, 0, fun _ => rfl, fun _ => rfl, fun _ n _ => by cases n <;> rfl, fun a b => by simp [eqD]⟩
instance : Enc Nat := ⟨fun n => .int n, 0, fun _ => rfl, fun _ => rfl, fun _ n _ => by cases n <;> rfl, fun a b => by simp [eqD]; omega⟩
instance : Enc Bool := ⟨.bl, 0, fun _ => rfl, fun _ => rfl, fun _ n _ => by cases n <;> rfl, fun a b => by simp [eqD]⟩
instance : Enc Tx := ⟨fun t => .str t.cs, 0, fun _ => rfl, fun _ => rfl, fun _ n _ => by cases n <;> rfl, fun ⟨a⟩ ⟨b⟩ => by simp [eqD]⟩
instance : Enc (List α) := ⟨fun xs => .lst false (xs.map enc), Enc.dep α + 1, fun xs => by show D.lst false (frzs _) = _; rw [frzs_enc], plains_enc, fun xs n h => by
  match n, h with
  | n + 1, h => exact dles_enc (by omega) xs, fun a b => by show eqDs _ _ = true ↔ _; rw [eqDs_enc']⟩
instance : Enc (α × β) := ⟨fun p => .tup [enc p.1, enc p.2], max (Enc.dep α) (Enc.dep β) + 1, fun p => by simp, fun p => by simp, fun p n h => by
  match n, h with
  | n + 1, h =>
    show (dle n (enc p.1) && (dle n (enc p.2) && true)) = true
    rw [dle_enc (by omega), dle_enc (by omega)]; rfl, fun a b => by
  show (eqD (enc a.1) (enc b.1) && (eqD (enc a.2) (enc b.2) && true)) = true ↔ _
  rw [Bool.and_true, Bool.and_eq_true, Enc.eq_enc, Enc.eq_enc]
  constructor
  · rintro ⟨h1, h2⟩; exact Prod.ext h1 h2
  · rintro rfl; exact ⟨rfl, rfl⟩⟩
instance : Enc (T3 α β γ) := ⟨fun p => .tup [enc p.a, enc p.b, enc p.c], max (max (Enc.dep α) (Enc.dep β)) (Enc.dep γ) + 1, fun p => by simp, fun p => by simp, fun p n h => by
  match n, h with
  | n + 1, h =>
    show (dle n (enc p.a) && (dle n (enc p.b) && (dle n (enc p.c) && true))) = true
    rw [dle_enc (by omega), dle_enc (by omega), dle_enc (by omega)]; rfl, fun a b => by
  show (eqD (enc a.a) (enc b.a) && (eqD (enc a.b) (enc b.b) && (eqD (enc a.c) (enc b.c) && true))) = true ↔ _
  rw [Bool.and_true, Bool.and_eq_true, Bool.and_eq_true, Enc.eq_enc, Enc.eq_enc, Enc.eq_enc]
  constructor
  · rintro ⟨h1, h2, h3⟩; cases a; cases b; cases h1; cases h2; cases h3; rfl
  · rintro rfl; exact ⟨rfl, rfl, rfl⟩⟩
instance : EncN Int := ⟨fun _ => rfl, fun _ => rfl, fun _ h => nomatch h⟩
instance : EncN Nat := ⟨fun _ => rfl, fun _ => rfl, fun _ h => nomatch h⟩
instance : EncN Bool := ⟨fun _ => rfl, fun _ => rfl, fun _ h => nomatch h⟩
instance : EncN Tx := ⟨fun _ => rfl, fun _ => rfl, fun _ h => nomatch h⟩
instance : EncN (List α) := ⟨fun _ => rfl, fun _ => rfl, fun _ h => nomatch h⟩
instance : EncN (α × β) := ⟨fun _ => rfl, fun _ => rfl, fun _ h => nomatch h⟩
instance : EncN (T3 α β γ) := ⟨fun _ => rfl, fun _ => rfl, fun _ h => nomatch h⟩
instance : EncS Int := ⟨fun _ => rfl⟩
instance : EncS Nat := ⟨fun _ => rfl⟩
instance : EncS Bool := ⟨fun _ => rfl⟩
instance : EncS Tx := ⟨fun _ => rfl⟩
instance [EncS α] [EncS β] : EncS (α × β) := ⟨fun p => by show (shr (enc p.1) || (shr (enc p.2) || false)) = false; simp⟩
instance [EncS α] [EncS β] [EncS γ] : EncS (T3 α β γ) := ⟨fun p => by show (shr (enc p.a) || (shr (enc p.b) || (shr (enc p.c) || false))) = false; simp⟩
instance [EncN α] : Enc (Option α) := ⟨fun o => match o with | some a => enc a | none => .non, Enc.dep α, fun o => by cases o <;> simp, fun o => by cases o <;> simp, fun o n h => by
  cases o with
  | none => cases n <;> rfl
  | some a => exact dle_enc h, fun a b => by
  cases a <;> cases b
  · simp [eqD]
  · simp [EncN.en]
  · simp [EncN.ne]
  · simp [Enc.eq_enc]⟩
instance [EncN α] [EncS α] : EncS (Option α) := ⟨fun o => by
  cases o with
  | none => rfl
  | some a => exact shr_enc a⟩
@[simp] theorem enc_int (i : Int) : enc i = .int i := rfl
@[simp] theorem enc_nat (i : Nat) : enc i = .int i := rfl
@[simp] theorem enc_bl (i : Bool) : enc i = .bl i := rfl
@[simp] theorem enc_tx (i : Tx) : enc i = .str i.cs := rfl
@[simp] theorem enc_list (xs : List α) : enc xs = .lst false (xs.map enc) := rfl
@[simp] theorem enc_pair (p : α × β) : enc p = .tup [enc p.1, enc p.2] := rfl
@[simp] theorem enc_t3 (p : T3 α β γ) : enc p = .tup [enc p.a, enc p.b, enc p.c] := rfl
@[simp] theorem enc_none [EncN α] : enc (none : Option α) = .non := rfl
@[simp] theorem enc_some [EncN α] (a : α) : enc (some a) = enc a := rfl
@[simp] theorem enc_ne [EncN α] (a : α) : enc a ≠ .non := EncN.nn a
@[simp] theorem inD_enc [DecidableEq α] (a : α) (xs : List α) : inD (enc a) (xs.map enc) = decide (a ∈ xs) := by
  unfold inD
  rw [List.any_map, Bool.eq_iff_iff]
  simp
@[simp] theorem atI_enc (xs : List α) (i : Int) : atI (xs.map enc) i = (atI xs i).map enc := by
  unfold atI
  rw [List.length_map]
  cases ixN xs.length i <;> simp
end
end DL

namespace DL
open PySem L2 Enc
variable {X : Xc → Env → Prop}
section
variable {r : Env} {P : D → Prop} {α β : Type} [Enc α] [Enc β] {it : Env → Out (List D)} {vs : List Nat} {g : D → Env → Out Env} {tt : Env → Out Bool} {el : F}
@[simp] theorem dles_tx {n : Nat} (xs : List Tx) : dles n (xs.map enc) = true := dles_enc (Nat.zero_le _) xs
@[simp] theorem dles_nat {n : Nat} (xs : List Nat) : dles n (xs.map enc) = true := dles_enc (Nat.zero_le _) xs
@[simp] theorem dles_int {n : Nat} (xs : List Int) : dles n (xs.map enc) = true := dles_enc (Nat.zero_le _) xs
@[simp] theorem dles_bl {n : Nat} (xs : List Bool) : dles n (xs.map enc) = true := dles_enc (Nat.zero_le _) xs
end
end DL

namespace DL
open PySem L2
variable {X : Xc → Env → Prop}
section
variable {α β : Type} {P : D → Prop} {b : Bool}
@[simp] theorem frzs_map_f (f : α → D) (xs : List α) : frzs (xs.map f) = xs.map fun x => frz (f x) := by rw [frzs_map, List.map_map]; rfl
@[simp] theorem shrs_map_f (f : α → D) (xs : List α) : shrs (xs.map f) = xs.any fun x => shr (f x) := by rw [shrs_any, List.any_map]; rfl
theorem plainDs_all : ∀ xs : List D, plainDs xs = xs.all plainD
  | [] => rfl
  | x :: xs => by rw [plainDs, plainDs_all xs]; rfl
theorem dles_all (n : Nat) : ∀ xs : List D, dles n xs = xs.all (dle n)
  | [] => by cases n <;> rfl
  | x :: xs => by
    have : dles n (x :: xs) = (dle n x && dles n xs) := by cases n <;> rfl
    rw [this, dles_all n xs]; rfl
@[simp] theorem plainDs_map_f (f : α → D) (xs : List α) : plainDs (xs.map f) = xs.all fun x => plainD (f x) := by rw [plainDs_all, List.all_map]; rfl
@[simp] theorem dles_map_f (n : Nat) (f : α → D) (xs : List α) : dles n (xs.map f) = xs.all fun x => dle n (f x) := by rw [dles_all, List.all_map]; rfl
theorem blsD_f (f : α → Bool) (xs : List α) : blsD (xs.map fun x => .bl (f x)) = some (xs.map f) := by
  have := blsD_map (xs.map f)
  rw [List.map_map] at this
  exact this
@[simp] theorem gAll_f (f : α → Bool) (xs : List α) : gAll (.lst b (xs.map fun x => .bl (f x))) = .ok (.bl (xs.all f)) := by
  show (match blsD (xs.map fun x => .bl (f x)) with | some xs => Out.ok (D.bl (xs.all id)) | none => .bad) = _
  rw [blsD_f]
  show Out.ok (D.bl ((xs.map f).all id)) = _
  rw [List.all_map]; rfl
@[simp] theorem gAny_f (f : α → Bool) (xs : List α) : gAny (.lst b (xs.map fun x => .bl (f x))) = .ok (.bl (xs.any f)) := by
  show (match blsD (xs.map fun x => .bl (f x)) with | some xs => Out.ok (D.bl (xs.any id)) | none => .bad) = _
  rw [blsD_f]
  show Out.ok (D.bl ((xs.map f).any id)) = _
  rw [List.any_map]; rfl
@[simp] theorem WO_join_f (f : α → Nat) (xs : List α) : WO' X (gJoin (.str []) (.lst b (xs.map fun x => .str [f x]))) P ↔ xs.length ≤ 1000000 ∧ P (.str (xs.map f)) := by
  have := WO_join0 (X := X) (P := P) (b := b) (cs := xs.map f)
  rw [List.map_map, List.length_map] at this
  exact this
end
def zpD : List D → Out (List D) := fun ds => match ds with
  | [x, y] => match seqD x, seqD y with
    | some xs, some ys => .ok ((xs.zip ys).map fun p => .tup [p.1, p.2])
    | _, _ => .bad
  | _ => .bad
def enD : List D → Out (List D) := fun ds => match ds with
  | [x] => match seqD x with
    | some xs => .ok (enumD xs)
    | none => .bad
  | _ => .bad
section
variable {r : Env} {fs : Env → Out (List D)} {b b' : Bool}
@[simp] theorem iZp_eq : iZp fs r = (fs r).bind zpD := rfl
@[simp] theorem iEn_eq : iEn fs r = (fs r).bind enD := rfl
@[simp] theorem zpD_SS {a c : List Nat} : zpD [.str a, .str c] = .ok ((a.zip c).map fun p => .tup [.str [p.1], .str [p.2]]) := by
  show Out.ok _ = _
  rw [List.zip_map, List.map_map]; rfl
@[simp] theorem zpD_LL {a c : List D} : zpD [.lst b a, .lst b' c] = .ok ((a.zip c).map fun p => .tup [p.1, p.2]) := rfl
@[simp] theorem zpD_LS {a : List D} {c : List Nat} : zpD [.lst b a, .str c] = .ok ((a.zip c).map fun p => .tup [p.1, .str [p.2]]) := by
  show Out.ok _ = _
  rw [List.zip_map_right, List.map_map]; rfl
@[simp] theorem enD_S {a : List Nat} : enD [.str a] = .ok (a.zipIdx.map fun p => .tup [.int (p.2 : Nat), .str [p.1]]) := by
  show Out.ok (enumD _) = _
  unfold enumD
  rw [List.zipIdx_map, List.map_map]; rfl
@[simp] theorem enD_L {a : List D} : enD [.lst b a] = .ok (a.zipIdx.map fun p => .tup [.int (p.2 : Nat), p.1]) := rfl
@[simp] theorem enD_T {a : List D} : enD [.tup a] = .ok (a.zipIdx.map fun p => .tup [.int (p.2 : Nat), p.1]) := rfl
end
section
variable {r : Env} {N C B : Env → Prop} {R : D → Env → Prop} {f : FX} {i j : Nat}
@[simp] theorem WO_io {n : Nat} {m : List D → Out (D × D)} {h : Env → Out (List D × Env)} {P : D × Env → Prop} : WO' X (xIO i n m h r) P ↔ ∃ d, r[i]? = some (some d) ∧ WO' X (h r) fun p => ∃ d0, p.2[i]? = some (some d0) ∧ p.1.length + 1 = n ∧ WO' (fun x r => ∃ d1, r = [some d1] ∧ X x (p.2.set i (some d1))) (m (d0 :: frzs p.1)) fun q => P (q.1, p.2.set i (some q.2)) := by
  constructor
  · intro h
    have : ∃ d, r[i]? = some (some d) := by
      unfold xIO at h
      split at h
      · exact ⟨_, by assumption⟩
      · exact h.elim
    obtain ⟨d, hd⟩ := this
    exact ⟨d, hd, (WO_xIO hd).mp h⟩
  · rintro ⟨d, hd, h⟩
    exact (WO_xIO hd).mpr h
@[simp] theorem WT_augE {gg : D → D → Out D} : WT' X (sAug i gg f r) N C B R ↔ ∃ d0, r[i]? = some (some d0) ∧ isSc d0 = true ∧ WO' X (f r) fun p => WO' XF (gg d0 (frz p.1)) fun d => i < p.2.length ∧ N (p.2.set i (some d)) := by
  constructor
  · intro h
    have : ∃ d, r[i]? = some (some d) ∧ isSc d = true := by
      unfold sAug at h
      split at h
      · split at h
        · exact ⟨_, by assumption, by assumption⟩
        · exact h.elim
      · exact h.elim
    obtain ⟨d, hd, hs⟩ := this
    exact ⟨d, hd, hs, (WT_aug hd hs).mp h⟩
  · rintro ⟨d, hd, hs, h⟩
    exact (WT_aug hd hs).mpr h
@[simp] theorem WS_augE {gg : D → D → Out D} : WS' X (sAug i gg f r) N R ↔ ∃ d0, r[i]? = some (some d0) ∧ isSc d0 = true ∧ WO' X (f r) fun p => WO' XF (gg d0 (frz p.1)) fun d => i < p.2.length ∧ N (p.2.set i (some d)) := by
  constructor
  · intro h
    have : ∃ d, r[i]? = some (some d) ∧ isSc d = true := by
      unfold sAug at h
      split at h
      · split at h
        · exact ⟨_, by assumption, by assumption⟩
        · exact h.elim
      · exact h.elim
    obtain ⟨d, hd, hs⟩ := this
    exact ⟨d, hd, hs, (WS_aug hd hs).mp h⟩
  · rintro ⟨d, hd, hs, h⟩
    exact (WS_aug hd hs).mpr h
@[simp] theorem isSc_int {n : Int} : isSc (.int n) = true := rfl
@[simp] theorem isSc_str {n : List Nat} : isSc (.str n) = true := rfl
@[simp] theorem WS_forE {it : Env → Out (List D × Env)} {tg : D → Env → Out Env} {body : FS} : WS' X (sFor it tg body r) N R ↔ WO' X (it r) fun p => WS' X (forS tg body p.1 p.2) N R := WS_for
@[simp] theorem WT_forE {it : Env → Out (List D × Env)} {tg : D → Env → Out Env} {body : FS} : WT' X (sFor it tg body r) N C B R ↔ WO' X (it r) fun p => WS' X (forS tg body p.1 p.2) N R := WT_for
theorem for_of {α : Type} {tg : D → Env → Out Env} {body : FS} (e : α → D) (I : List α → Env → Prop) (as : List α) (h : I as r) (h1 : ∀ a as' r (K : Env → Prop), I (a :: as') r → (∀ r, I as' r → K r) → WO' XF (tg (e a) r) fun r1 => WT' X (body r1) K K N R) (h2 : ∀ r, I [] r → N r) : WS' X (forS tg body (as.map e) r) N R := by
  refine WS_forT (fun ds r => ∃ as', ds = as'.map e ∧ I as' r) ⟨as, rfl, h⟩ ?_ ?_
  · rintro d ds r ⟨as', hd, hi⟩
    match as', hd, hi with
    | a :: as', hd, hi =>
      simp only [List.map_cons, List.cons.injEq] at hd
      obtain ⟨rfl, rfl⟩ := hd
      exact h1 a as' r _ hi fun r z => ⟨as', rfl, z⟩
  · rintro r ⟨as', hd, hi⟩
    cases as' with
    | nil => exact h2 r hi
    | cons a b => cases hd
theorem rng_map (n : Nat) : rng 0 n = (List.range n).map fun k => D.int (k : Nat) := by
  unfold rng
  exact List.map_congr_left fun a _ => by simp
end
@[simp] theorem gIx_pick {x y : D} {b : Bool} {c : Prop} [Decidable c] : gIx (.lst b [x, y]) (.int (if c then 1 else 0)) = .ok (if c then y else x) := by
  split <;> rfl
theorem atI_k {α : Type} {xs : List α} {k : Nat} (h : k < xs.length) : atI xs (k : Int) = some xs[k] := by
  rw [atI_pos (by omega) (by omega)]; simp [h]
theorem len_two {α β : Type} (f g : α → β) : ∀ xs : List α, (xs.flatMap fun h => [f h, g h]).length = 2 * xs.length
  | [] => rfl
  | x :: xs => by
    rw [List.flatMap_cons, List.length_append, len_two f g xs]
    show 2 + 2 * xs.length = 2 * (xs.length + 1)
    omega
@[simp] theorem atI_pick {α : Type} {x y : α} {c : Prop} [Decidable c] : atI [x, y] (if c then 1 else 0) = some (if c then y else x) := by
  split <;> rfl
@[simp] theorem sum_const {α : Type} (n : Nat) : ∀ xs : List α, (xs.map fun _ => n).sum = n * xs.length
  | [] => rfl
  | x :: xs => by rw [List.map_cons, List.sum_cons, sum_const n xs, List.length_cons, Nat.mul_succ]; omega
@[simp] theorem frzs_app (xs ys : List D) : frzs (xs ++ ys) = frzs xs ++ frzs ys := by simp [frzs_map]
@[simp] theorem shrs_app (xs ys : List D) : shrs (xs ++ ys) = (shrs xs || shrs ys) := by simp [shrs_any]
@[simp] theorem plainDs_app (xs ys : List D) : plainDs (xs ++ ys) = (plainDs xs && plainDs ys) := by simp [plainDs_all]
@[simp] theorem dles_app (n : Nat) (xs ys : List D) : dles n (xs ++ ys) = (dles n xs && dles n ys) := by simp [dles_all]
@[simp] theorem gInt_int {i : Int} : gInt (.int i) = .ok (.int i) := rfl
@[simp] theorem gInt_bl {b : Bool} : gInt (.bl b) = .ok (.int (if b = true then 1 else 0)) := rfl
end DL

namespace DL
open PySem L2
variable {X : Xc → Env → Prop}
section
variable {r : Env} {N C B : Env → Prop} {R : D → Env → Prop} {f g : FS} {fx : FX} {i j : Nat}
@[simp] theorem XF_eq {x : Xc} : XF x r ↔ False := Iff.rfl
theorem WS_step (h : ∀ K : Env → Prop, (∀ r1, WS' X (g r1) N R → K r1) → WS' X (f r) K R) : WS' X (sSeq f g r) N R :=
  WS_seq.mpr (h _ fun _ z => z)
theorem WT_step (h : ∀ K : Env → Prop, (∀ r1, WT' X (g r1) N C B R → K r1) → WT' X (f r) K C B R) : WT' X (sSeq f g r) N C B R :=
  WT_seq.mpr (h _ fun _ z => z)
def twoD : List D → Out (D × D)
  | [a, b] => .ok (a, b)
  | _ => .bad
@[simp] theorem twoD_eq {a b : D} : twoD [a, b] = .ok (a, b) := rfl
theorem WO_two {P : D × D → Prop} {ds : List D} : WO' X (twoD ds) P ↔ ∃ a b, ds = [a, b] ∧ P (a, b) := by
  constructor
  · intro h
    match ds, h with
    | [a, b], h => exact ⟨a, b, rfl, h⟩
  · rintro ⟨a, b, rfl, h⟩; exact h
@[simp] theorem WS_parW {h : Env → Out (List D × Env)} : WS' X (sPar i j h r) N R ↔ WO' X (h r) fun p => WO' X (twoD p.1) fun ab => (i < p.2.length ∧ j < p.2.length) ∧ N ((p.2.set i (some ab.1)).set j (some ab.2)) := by
  rw [WS_par]
  constructor <;> refine fun z => z.mono fun p q => ?_
  · exact WO_two.mpr q
  · exact WO_two.mp q
@[simp] theorem WT_parW {h : Env → Out (List D × Env)} : WT' X (sPar i j h r) N C B R ↔ WO' X (h r) fun p => WO' X (twoD p.1) fun ab => (i < p.2.length ∧ j < p.2.length) ∧ N ((p.2.set i (some ab.1)).set j (some ab.2)) := by
  rw [WT_par]
  constructor <;> refine fun z => z.mono fun p q => ?_
  · exact WO_two.mpr q
  · exact WO_two.mp q
@[simp] theorem WO_xC {m : List D → Out D} {h : Env → Out (List D × Env)} {P : D × Env → Prop} : WO' X (xC m h r) P ↔ WO' X (h r) fun p => WO' (fun x _ => X x p.2) (m (frzs p.1)) fun d => P (d, p.2) := by
  unfold xC
  rw [WO_bind]
  constructor <;> refine fun z => z.mono fun p q => ?_
  · cases hm : m (frzs p.1) <;> rw [hm] at q <;> first | exact q | exact q.elim
  · cases hm : m (frzs p.1) <;> rw [hm] at q <;> first | exact q | exact q.elim
end
theorem cut_take {α : Type} (xs : List α) (k : Nat) : cut xs none (some (k : Int)) = xs.take k := by
  unfold cut
  rw [HT.sIx_nat]
  show (xs.drop 0).take (min k xs.length - 0) = _
  rw [List.drop_zero, Nat.sub_zero, ← List.take_take, List.take_length]
theorem cut_drop {α : Type} (xs : List α) (k : Nat) : cut xs (some (k : Int)) none = xs.drop k := by
  unfold cut
  rw [HT.sIx_nat]
  show (xs.drop (min k xs.length)).take (xs.length - min k xs.length) = _
  by_cases h : k ≤ xs.length
  · rw [Nat.min_eq_left h]
    exact List.take_of_length_le (by simp)
  · rw [Nat.min_eq_right (by omega), Nat.sub_self, List.take_zero, List.drop_eq_nil_of_le (by omega)]
theorem cut_one {α : Type} (xs : List α) : cut xs (some 1) none = xs.drop 1 := cut_drop xs 1
@[simp] theorem frz_obj {b : Bool} {c : Str} {fs : List Str} {xs : List D} : frz (.obj b c fs xs) = .obj false c fs (frzs xs) := by simp [frz]
@[simp] theorem frz_dT {b : Bool} {ks : List (List Key)} {xs : List D} : frz (.dT b ks xs) = .dT false ks (frzs xs) := by simp [frz]
@[simp] theorem shr_obj {b : Bool} {c : Str} {fs : List Str} {xs : List D} : shr (.obj b c fs xs) = (!b || shrs xs) := by simp [shr]
@[simp] theorem shr_dT {b : Bool} {ks : List (List Key)} {xs : List D} : shr (.dT b ks xs) = (!b || shrs xs) := by simp [shr]
section
variable {r : Env} {N C B : Env → Prop} {R : D → Env → Prop} {f : FX}
@[simp] theorem sT_tup {n : Nat} {g : List D → Env → Out Env} {ds : List D} : sT n g (.tup ds) r = if ds.length = n then g ds r else .bad := rfl
@[simp] theorem sCons_cons {g : D → Env → Out Env} {h : List D → Env → Out Env} {d : D} {ds : List D} : sCons g h (d :: ds) r = (g d r).bind fun r1 => h ds r1 := rfl
@[simp] theorem sNil_nil : sNil [] r = .ok r := rfl
@[simp] theorem WS_asg {gg : D → Env → Out Env} : WS' X (sAsg f gg r) N R ↔ WO' X (f r) fun p => WO' XF (gg (frz p.1) p.2) N := by
  unfold sAsg
  cases f r with
  | ok p =>
    show WS' X (match gg (frz p.1) p.2 with | .ok r' => .nx r' | _ => .bad) N R ↔ WO' XF (gg (frz p.1) p.2) N
    cases gg (frz p.1) p.2 <;> exact Iff.rfl
  | exn x r' => exact Iff.rfl
  | bad => exact Iff.rfl
@[simp] theorem WT_asg {gg : D → Env → Out Env} : WT' X (sAsg f gg r) N C B R ↔ WO' X (f r) fun p => WO' XF (gg (frz p.1) p.2) N := by
  unfold sAsg
  cases f r with
  | ok p =>
    show WT' X (match gg (frz p.1) p.2 with | .ok r' => .nx r' | _ => .bad) N C B R ↔ WO' XF (gg (frz p.1) p.2) N
    cases gg (frz p.1) p.2 <;> exact Iff.rfl
  | exn x r' => exact Iff.rfl
  | bad => exact Iff.rfl
end
end DL

namespace DL
open PySem L2
variable {X : Xc → Env → Prop}
section
variable {r : Env} {N C B : Env → Prop} {R : D → Env → Prop} {f : FX} {i : Nat} {P : D × Env → Prop}
@[simp] theorem WO_app : WO' X (sApp i f r) P ↔ ∃ ds0, r[i]? = some (some (.lst true ds0)) ∧ WO' X (f r) fun p => ∃ ds, p.2[i]? = some (some (.lst true ds)) ∧ ds.length < 1000000 ∧ P (.non, p.2.set i (some (.lst true (ds ++ [p.1])))) := by
  have key : ∀ p : D × Env, WO' X (match p.2[i]? with | some (some (.lst true ds)) => if ds.length < 1000000 then .ok (.non, p.2.set i (some (.lst true (ds ++ [p.1])))) else .bad | _ => .bad : Out (D × Env)) P ↔ ∃ ds, p.2[i]? = some (some (.lst true ds)) ∧ ds.length < 1000000 ∧ P (.non, p.2.set i (some (.lst true (ds ++ [p.1])))) := by
    intro p
    split
    · rename_i ds h
      by_cases hl : ds.length < 1000000
      · rw [if_pos hl]
        exact ⟨fun z => ⟨ds, h, hl, z⟩, fun ⟨ds', h', _, z⟩ => by rw [h] at h'; cases h'; exact z⟩
      · rw [if_neg hl]
        exact ⟨fun z => z.elim, fun ⟨ds', h', l, z⟩ => by rw [h] at h'; cases h'; exact hl l⟩
    · rename_i hno
      exact ⟨fun z => z.elim, fun ⟨ds, h, _⟩ => hno ds h⟩
  unfold sApp
  split
  · rename_i ds0 h0
    rw [WO_bind]
    constructor
    · intro z
      exact ⟨ds0, h0, z.mono fun p => (key p).mp⟩
    · rintro ⟨_, _, z⟩
      exact z.mono fun p => (key p).mpr
  · rename_i hno
    exact ⟨fun z => z.elim, fun ⟨ds, h, _⟩ => hno ds h⟩
theorem while_inv {t : Env → Out (Bool × Env)} {body : FS} (I : Nat → Env → Prop) (step : ∀ m r (K : Env → Prop), I m r → (∀ m' r', m' < m → I m' r' → K r') → WO' X (t r) fun p => if p.1 = true then WT' X (body p.2) K K N R else N p.2) :
    ∀ (fuel m : Nat) (r : Env), m < fuel → I m r → WS' X (whileS t body fuel r) N R
  | 0, m, r, h, _ => absurd h (Nat.not_lt_zero m)
  | fuel + 1, m, r, h, hi => by
    have := step m r (fun r' => ∃ m', m' < m ∧ I m' r') hi fun m' r' h1 h2 => ⟨m', h1, h2⟩
    unfold whileS
    cases ht : t r with
    | ok p =>
      rw [ht] at this
      show WS' X (if p.1 = true then _ else _) N R
      replace this : if p.1 = true then WT' X (body p.2) (fun r' => ∃ m', m' < m ∧ I m' r') (fun r' => ∃ m', m' < m ∧ I m' r') N R else N p.2 := this
      by_cases hp : p.1 = true
      · rw [if_pos hp] at this ⊢
        cases hb : body p.2 with
        | nx r2 =>
          rw [hb] at this
          obtain ⟨m', h1, h2⟩ := this
          exact while_inv I step fuel m' r2 (by omega) h2
        | ct r2 =>
          rw [hb] at this
          obtain ⟨m', h1, h2⟩ := this
          exact while_inv I step fuel m' r2 (by omega) h2
        | bk r2 => rw [hb] at this; exact this
        | rt d r2 => rw [hb] at this; exact this
        | exn x r2 => rw [hb] at this; exact this
        | bad => rw [hb] at this; exact this.elim
      · rw [if_neg hp] at this ⊢
        exact this
    | exn x r' => rw [ht] at this; exact this
    | bad => rw [ht] at this; exact this.elim
end
@[simp] theorem gRepr_ok {d : D} (h : reprOk d = true) : gRepr d = .ok (.str (reprL d)) := if_pos h
end DL

namespace DL
open PySem L2
variable {X : Xc → Env → Prop} {r : Env} {N C B : Env → Prop} {R : D → Env → Prop} {g : FS} {P : D → Prop}
@[simp] theorem WS_raise {c : Str} : WS' X (sRaise c r) N R ↔ X ⟨c, [], []⟩ r := Iff.rfl
@[simp] theorem WT_raise {c : Str} : WT' X (sRaise c r) N C B R ↔ X ⟨c, [], []⟩ r := Iff.rfl
def XH (X : Xc → Env → Prop) (sub : Str → Option Bool) (i j : Nat) (N : Env → Prop) : Xc → Env → Prop := fun x r' => match sub x.cls with
  | some true => (i < r'.length ∧ j < r'.length ∧ x.fs.length = x.ds.length) ∧ N (((r'.set i none).set j (some (.exc x.cls x.fs x.ds))).set i none)
  | some false => X x r'
  | none => False
@[simp] theorem WS_try {sub : Str → Option Bool} {i j : Nat} : WS' X (sTry sub i j g r) N R ↔ WS' (XH X sub i j N) (g r) N R := by
  unfold sTry
  cases g r with
  | exn x r' =>
    show WS' X (match sub x.cls with | some true => _ | some false => _ | none => _) N R ↔ XH X sub i j N x r'
    unfold XH
    cases sub x.cls with
    | none => exact Iff.rfl
    | some b =>
      cases b with
      | false => exact Iff.rfl
      | true =>
        show WS' X (if _ then _ else _) N R ↔ _
        split
        · rename_i h; exact ⟨fun z => ⟨h, z⟩, fun z => z.2⟩
        · rename_i h; exact ⟨fun z => z.elim, fun z => h z.1⟩
  | _ => exact Iff.rfl
@[simp] theorem WT_try {sub : Str → Option Bool} {i j : Nat} : WT' X (sTry sub i j g r) N C B R ↔ WT' (XH X sub i j N) (g r) N C B R := by
  unfold sTry
  cases g r with
  | exn x r' =>
    show WT' X (match sub x.cls with | some true => _ | some false => _ | none => _) N C B R ↔ XH X sub i j N x r'
    unfold XH
    cases sub x.cls with
    | none => exact Iff.rfl
    | some b =>
      cases b with
      | false => exact Iff.rfl
      | true =>
        show WT' X (if _ then _ else _) N C B R ↔ _
        split
        · rename_i h; exact ⟨fun z => ⟨h, z⟩, fun z => z.2⟩
        · rename_i h; exact ⟨fun z => z.elim, fun z => h z.1⟩
  | _ => exact Iff.rfl
@[simp] theorem gIsX_exc {kit : Str → Option Bool} {c : Str} {fs : List Str} {xs : List D} : gIsX kit (.exc c fs xs) = match kit c with | some b => .ok (.bl b) | none => .bad := rfl
@[simp] theorem gNewL_lst {xs : List D} : gNewL (.lst true xs) = .ok .non := rfl
@[simp] theorem WO_cAppN {fa fb : F} : WO' X (cAppN fa fb r) P ↔ WO' X (fa r) fun d => ∃ ds, d = .lst true ds ∧ ds.length < 1000000 ∧ WO' X (fb r) fun _ => P .non := by
  unfold cAppN
  rw [WO_bind]
  constructor
  · intro h
    refine h.mono fun d q => ?_
    split at q
    · rename_i ds
      split at q
      · rename_i hl
        rw [WO_bind] at q
        exact ⟨ds, rfl, hl, q⟩
      · exact q.elim
    · exact q.elim
  · intro h
    refine h.mono fun d q => ?_
    obtain ⟨ds, rfl, hl, q⟩ := q
    show WO' X (if _ then _ else _) P
    rw [if_pos hl, WO_bind]
    exact q
@[simp] theorem shr_exc {c : Str} {fs : List Str} {xs : List D} : shr (.exc c fs xs) = shrs xs := rfl
@[simp] theorem frz_exc {c : Str} {fs : List Str} {xs : List D} : frz (.exc c fs xs) = .exc c fs (frzs xs) := rfl
end DL

namespace DL
open PySem L2
variable {X : Xc → Env → Prop} {r : Env} {N C B : Env → Prop} {R : D → Env → Prop} {g : FS} {P : D → Prop} {fx : FX} {fo : F} {fs : Env → Out (List D)}
@[simp] theorem WS_fld {i : Nat} {c f : Str} : WS' X (sFldS i c f fx r) N R ↔ WO' X (fx r) fun p => ∃ fs xs, p.2[i]? = some (some (.obj true c fs xs)) ∧ fs.length < 1000 ∧ N (p.2.set i (some (.obj true c (putN f fs) (putX f p.1 fs xs)))) := by
  unfold sFldS
  cases fx r with
  | ok p =>
    show WS' X (match p.2[i]? with | some (some (.obj true c' fs xs)) => _ | _ => _) N R ↔ _
    constructor
    · intro z
      split at z
      · rename_i c' fs xs h
        split at z
        · rename_i hc
          obtain ⟨rfl, hl⟩ := hc
          exact ⟨fs, xs, h, hl, z⟩
        · exact z.elim
      · exact z.elim
    · rintro ⟨fs, xs, h, hl, z⟩
      rw [h]
      show WS' X (if c = c ∧ fs.length < 1000 then _ else _) N R
      rw [if_pos ⟨rfl, hl⟩]
      exact z
  | _ => exact Iff.rfl
@[simp] theorem cMt_eq {c m : Str} {n : Nat} {mm : List D → Out D} {dd : List D} : cMt c m n mm dd fo fs r = (fo r).bind fun d => if isOb c m d = true then (fs r).bind fun ds => chk n mm (d :: (ds ++ dd)) else .bad := rfl
@[simp] theorem lenRng_eq {j : Int} : gLenR (.int j) = if 0 ≤ j ∧ j.toNat ≤ 1000000 then .ok (.int j) else .bad := rfl
@[simp] theorem gCnt_eq {cs : List Nat} {c : Nat} : gCnt (.str cs) (.str [c]) = .ok (.int (cs.count c : Nat)) := rfl
theorem intsD_map : ∀ ns : List Int, intsD (ns.map D.int) = some ns
  | [] => rfl
  | n :: ns => by show (intsD (ns.map D.int)).map _ = _; rw [intsD_map ns]; rfl
theorem gSum_map {b : Bool} (ns : List Int) : gSum (.lst b (ns.map D.int)) = .ok (.int ns.sum) := by
  show (match intsD (ns.map D.int) with | some ns => Out.ok (D.int ns.sum) | none => .bad) = _
  rw [intsD_map]
@[simp] theorem xMt_eq {c m : Str} {n : Nat} {mm : List D → Out D} {dd : List D} {f : FX} {h : Env → Out (List D × Env)} : xMt c m n mm dd f h r = (f r).bind fun p => if isOb c m p.1 = true then (h p.2).bind fun q => (match chk n mm (frz p.1 :: (frzs q.1 ++ dd)) with
  | .ok d => .ok (d, q.2)
  | .exn x _ => .exn x q.2
  | .bad => .bad) else .bad := rfl
@[simp] theorem sL_lst {n : Nat} {g : List D → Env → Out Env} {b : Bool} {ds : List D} : sL n g (.lst b ds) r = if ds.length = n then g ds r else .bad := rfl
end DL

namespace DL
open PySem L2
variable {X : Xc → Env → Prop} {r : Env} {N C B : Env → Prop} {R : D → Env → Prop} {P : D → Prop} {fa fb : F}
@[simp] theorem cCatN_eq : cCatN fa fb r = (fa r).bind fun x => (fb r).bind fun y => match x, y with
  | .lst true xs, .lst true ys => if xs.length + ys.length ≤ 1000000 then .ok (.lst true (xs ++ ys)) else .bad
  | _, _ => .bad := rfl
theorem gSrt_map {b : Bool} {xs : List (List Nat)} (h : xs.length < 64) : gSrt (.lst b (xs.map .str)) = .ok (.lst true ((srtT xs).map .str)) := by
  show (match strsD (xs.map D.str) with | some ys => if ys.length < 64 then Out.ok (D.lst true ((srtT ys).map D.str)) else .bad | none => .bad) = _
  rw [strsD_map]
  show (if xs.length < 64 then _ else _) = _
  rw [if_pos h]
theorem srtT_self {xs : List (List Nat)} (h : xs.Pairwise (· ≤ ·)) : srtT xs = xs := perm_sorted_eq (srtT_perm xs) (srtT_sorted xs) h
@[simp] theorem c2L_eq {g : D → D → Out D} : c2L g fa fb r = (fa r).bind fun a => if isLstB a = true then (fb r).bind fun b => g a b else .bad := rfl
@[simp] theorem isLst_eq {b : Bool} {xs : List D} : isLstB (.lst b xs) = true := rfl
end DL

namespace DL
open PySem L2
end DL

namespace DL
open PySem L2
variable {X : Xc → Env → Prop} {r : Env} {P : D → Prop} {fa fb : F}
@[simp] theorem cOrS_eq : cOrS fa fb r = (fa r).bind fun a => match a with
  | .str cs => if cs.length ≤ 1000000 then (if cs = [] then fb r else .ok (.str cs)) else .bad
  | _ => .bad := rfl
@[simp] theorem jNil_eq : jNil r = .ok [] := rfl
@[simp] theorem jCons_eq {g : Env → Out (List Nat)} : jCons fa g r = (fa r).bind fun d => match d with
  | .str cs => if cs.length ≤ 30000 then (g r).bind fun ds => .ok (cs ++ ds) else .bad
  | _ => .bad := rfl
@[simp] theorem cJn_eq {g : Env → Out (List Nat)} : cJn g r = (g r).bind fun cs => if cs.length ≤ 1000000 then .ok (.str cs) else .bad := rfl
@[simp] theorem gStr_str {cs : List Nat} : gStr (.str cs) = .ok (.str cs) := rfl
end DL

namespace DL
open PySem L2
variable {X : Xc → Env → Prop} {r : Env} {N C B : Env → Prop} {R : D → Env → Prop}
@[simp] theorem shr_dTf {ks : List (List Key)} {xs : List D} : shr (.dT false ks xs) = true := by rw [shr]; rfl
@[simp] theorem gRevL_eq {b : Bool} {xs : List D} : gRevL (.lst b xs) = .ok (.lst true xs.reverse) := rfl
end DL

namespace DL
open PySem L2
@[simp] theorem cLam_eq {m : Out D → Out D} {fb : F} {r : Env} : cLam m fb r = m (fb r) := rfl
end DL

namespace DL
open PySem L2
variable {X : Xc → Env → Prop} {r : Env} {N C B : Env → Prop} {R : D → Env → Prop} {f : FX} {Px : D × Env → Prop}
@[simp] theorem xFz_eq : xFz f r = (f r).bind fun p => .ok (frz p.1, p.2) := rfl
@[simp] theorem turnK_eq {vs : List Nat} {g : D → Env → Out Env} {tt : Env → Out Bool} {fk fv : F} {d : D} : turnK vs g tt fk fv r d = (g d (wipeE r vs)).bind fun r2 => (tt r2).bind fun b => if b = true then (fk r2).bind fun kd => (match kd with
    | .tup es => (match keysD es with
      | some k => (fv r2).bind fun y => .ok (some (k, y))
      | none => .bad)
    | _ => .bad) else .ok none := rfl
end DL

namespace DL
open PySem L2
variable {X : Xc → Env → Prop} {r : Env} {Px : D × Env → Prop}
end DL

namespace DL
open PySem L2
variable {X : Xc → Env → Prop} {r : Env} {N C B : Env → Prop} {R : D → Env → Prop} {Px : D × Env → Prop}
@[simp] theorem frz_dN {b : Bool} {ks : List NestedKey} {xs : List D} : frz (.dN b ks xs) = .dN false ks (frzs xs) := by simp [frz]
@[simp] theorem gLenN_eq {b : Bool} {ks : List NestedKey} {xs : List D} : gLenN (.dN b ks xs) = if ks.length ≤ 1000000 then .ok (.int ks.length) else .bad := rfl
end DL

namespace DL
open PySem L2
variable {X : Xc → Env → Prop} {r : Env} {N C B : Env → Prop} {R : D → Env → Prop} {Px : D × Env → Prop}
@[simp] theorem mixF_nil {p : Nat → Bool} {k : Nat} {r' : Env} : mixF p k [] r' = [] := by unfold mixF; rfl
@[simp] theorem mixF_cons {p : Nat → Bool} {k : Nat} {o o' : Option D} {r r' : Env} : mixF p k (o :: r) (o' :: r') = (if p k = true then o'.map unS else o) :: mixF p (k + 1) r r' := rfl
end DL

namespace DL
open PySem L2
variable {X : Xc → Env → Prop} {r : Env} {N C B : Env → Prop} {R : D → Env → Prop} {Px : D × Env → Prop}
@[simp] theorem gKG_eq {b : Bool} {ks : List Key} {xs : List D} {kd : D} {k : Key} {x : D} (h1 : keyD kd = some k) (h2 : getAK k ks xs = some x) : gKG (.dK b ks xs) kd = .ok x := by
  unfold gKG
  simp only [h1, h2]
end DL

namespace DL
open PySem L2
variable {X : Xc → Env → Prop} {r : Env} {f : FX} {N C B : Env → Prop} {R : D → Env → Prop} {Px : D × Env → Prop} {P : D → Prop}
@[simp] theorem gStr2_str {cs : List Nat} : gStr2 (.str cs) = .ok (.str cs) := rfl
@[simp] theorem gStr2_non : gStr2 .non = .ok (.str [78, 111, 110, 101]) := rfl
@[simp] theorem gLenK_eq {b : Bool} {ks : List Key} {xs : List D} : gLenK (.dK b ks xs) = .ok (.int ks.length) := rfl
@[simp] theorem WS_asgO {gg : D → Env → Out Env} : WS' X (sAsgO f gg r) N R ↔ WO' X (f r) fun p => WO' XF (gg p.1 p.2) N := by
  unfold sAsgO
  cases f r with
  | ok p =>
    show WS' X (match gg p.1 p.2 with | .ok r' => .nx r' | _ => .bad) N R ↔ WO' XF (gg p.1 p.2) N
    cases gg p.1 p.2 <;> exact Iff.rfl
  | exn x r' => exact Iff.rfl
  | bad => exact Iff.rfl
@[simp] theorem WT_asgO {gg : D → Env → Out Env} : WT' X (sAsgO f gg r) N C B R ↔ WO' X (f r) fun p => WO' XF (gg p.1 p.2) N := by
  unfold sAsgO
  cases f r with
  | ok p =>
    show WT' X (match gg p.1 p.2 with | .ok r' => .nx r' | _ => .bad) N C B R ↔ WO' XF (gg p.1 p.2) N
    cases gg p.1 p.2 <;> exact Iff.rfl
  | exn x r' => exact Iff.rfl
  | bad => exact Iff.rfl
end DL

namespace DL
open PySem L2
variable {X : Xc → Env → Prop} {r : Env} {f : FX} {N C B : Env → Prop} {R : D → Env → Prop} {Px : D × Env → Prop} {P : D → Prop}
@[simp] theorem WO_gSplit {cs : List Nat} {k : Nat} : WO' X (gSplit (.str cs) (.str [k])) P ↔ (cs.length ≤ 1000000 ∧ k < 256) ∧ P (.lst true ((TL.spl [k] 0 [] cs).map .str)) := by
  show WO' X (if cs.length ≤ 1000000 ∧ k < 256 then _ else _) P ↔ _
  by_cases h : cs.length ≤ 1000000 ∧ k < 256
  · rw [if_pos h]; exact ⟨fun z => ⟨h, z⟩, fun z => z.2⟩
  · rw [if_neg h]; exact ⟨fun z => z.elim, fun z => h z.1⟩
@[simp] theorem WO_gPart {cs : List Nat} {k : Nat} : WO' X (gPart (.str cs) (.str [k])) P ↔ cs.length ≤ 1000000 ∧ P (parD cs k) := by
  show WO' X (if cs.length ≤ 1000000 then _ else _) P ↔ _
  by_cases h : cs.length ≤ 1000000
  · rw [if_pos h]; exact ⟨fun z => ⟨h, z⟩, fun z => z.2⟩
  · rw [if_neg h]; exact ⟨fun z => z.elim, fun z => h z.1⟩
@[simp] theorem gStarts_eq {cs : List Nat} {k : Nat} : gStarts (.str cs) (.str [k]) = .ok (.bl (decide (cs.head? = some k))) := rfl
@[simp] theorem gIntS_int {i : Int} : gIntS (.int i) = .ok (.int i) := rfl
end DL

namespace DL
open PySem L2
variable {X : Xc → Env → Prop} {r : Env} {f : FX} {N C B : Env → Prop} {R : D → Env → Prop} {Px : D × Env → Prop} {P : D → Prop}
def zsD : List D → Out (List D) := fun ds => match ds with
  | [x, y] => match seqD x, seqD y with
    | some xs, some ys => if xs.length = ys.length then .ok ((xs.zip ys).map fun p => .tup [p.1, p.2]) else .bad
    | _, _ => .bad
  | _ => .bad
@[simp] theorem iZs_eq {fs : Env → Out (List D)} : iZs fs r = (fs r).bind zsD := rfl
end DL

namespace My
open PySem L2 DL

def top (i : Nat) : Stmt := PySem.Challenge.pw_everyhead_k07_heads_numbered.main.body.getD i (.Pass ⟨0, 0, 0, 0⟩)
structure Txt (w : World) (K : PySem.W.Frag) (mg : Str → Option Value) (cm : Cm) : Prop where
  hk : K = cm.K
  hC : CmOk cm
  n_len : mg "len" = none
  n_range : mg "range" = none
  n_isinstance : mg "isinstance" = none
  n_int : mg "int" = none
  n_bool : mg "bool" = none
  n_str : mg "str" = none
  n_all : mg "all" = none
  n_enumerate : mg "enumerate" = none
  n_list : mg "list" = none
  n_zip : mg "zip" = none
  n_sum : mg "sum" = none
  n_any : mg "any" = none
  n_repr : mg "repr" = none
  n_sorted : mg "sorted" = none
  n_max : mg "max" = none
  n_min : mg "min" = none
  n_IndexError : mg "IndexError" = none
  cJ_IndexError : PySem.W.findCls K (.type "IndexError") (.type "type") "__init__" = some (.val (.builtin "IndexError.__init__"))
  na_Heads_told : NoAttr K (cm.cl "Heads") "told"
  na_Heads_own_width : NoAttr K (cm.cl "Heads") "own_width"
  g_NoNumber : mg "NoNumber" = some (.ref (cm.cl "NoNumber"))
  em_NoHead_NoNumber : PySem.W.exmOne K (.ref (cm.cl "NoHead")) (.ref (cm.cl "NoNumber")) = some false
  em_NoNumber_NoNumber : PySem.W.exmOne K (.ref (cm.cl "NoNumber")) (.ref (cm.cl "NoNumber")) = some true
  ec_NoHead : ExcC K (cm.cl "NoHead")
  ki_NoHead_HeadError : PySem.W.kitOne K (.ref (cm.cl "NoHead")) (.ref (cm.cl "HeadError")) = some true
  ec_NoNumber : ExcC K (cm.cl "NoNumber")
  ki_NoNumber_HeadError : PySem.W.kitOne K (.ref (cm.cl "NoNumber")) (.ref (cm.cl "HeadError")) = some false
  g_HeadError : mg "HeadError" = some (.ref (cm.cl "HeadError"))
  ki_NoHead_IndexError : PySem.W.kitOne K (.ref (cm.cl "NoHead")) (.type "IndexError") = some false
  ki_NoNumber_IndexError : PySem.W.kitOne K (.ref (cm.cl "NoNumber")) (.type "IndexError") = some true
  xf_NoNumber : XfC K (cm.cl "NoNumber")
  na_NoNumber_number : PySem.W.findIn K (.ref (cm.cl "NoNumber")) "number" = some none
  g_NoHead : mg "NoHead" = some (.ref (cm.cl "NoHead"))
  em_NoHead_NoHead : PySem.W.exmOne K (.ref (cm.cl "NoHead")) (.ref (cm.cl "NoHead")) = some true
  em_NoNumber_NoHead : PySem.W.exmOne K (.ref (cm.cl "NoNumber")) (.ref (cm.cl "NoHead")) = some false
  ka_NoHead_NoPattern_NoPatterns : PySem.W.kitAny K (.ref (cm.cl "NoHead")) [(.ref (cm.cl "NoPattern")), (.ref (cm.cl "NoPatterns"))] = some false
  ka_NoNumber_NoPattern_NoPatterns : PySem.W.kitAny K (.ref (cm.cl "NoNumber")) [(.ref (cm.cl "NoPattern")), (.ref (cm.cl "NoPatterns"))] = some false
  g_NoPatterns : mg "NoPatterns" = some (.ref (cm.cl "NoPatterns"))
  g_NoPattern : mg "NoPattern" = some (.ref (cm.cl "NoPattern"))
  ki_NoHead_ValueError : PySem.W.kitOne K (.ref (cm.cl "NoHead")) (.type "ValueError") = some true
  ki_NoNumber_ValueError : PySem.W.kitOne K (.ref (cm.cl "NoNumber")) (.type "ValueError") = some false
  n_ValueError : mg "ValueError" = none
  ok_Heads : cm.ok "Heads"
  x_NoHead : ExcT K mg cm "NoHead"
  c_MOST_WIDTH : ∃ t, mg "MOST_WIDTH" = some (.int 16 t)
  c_STAR : ∃ t, mg "STAR" = some (.str ⟨[42].toArray⟩ t)
  c_WIDE : ∃ t, mg "WIDE" = some (.int 16 t)
abbrev s__law_cell_at : Stmt := top 25
abbrev N__law_cell_at : List Str := ["_law_script", "_law_k"]
theorem sc__law_cell_at : FnScope N__law_cell_at ["_law_script", "_law_k"] (defScope s__law_cell_at) := ⟨rfl, rfl, rfl, by decide +kernel, rfl, by decide +kernel, by decide +kernel⟩
def g__law_cell_at : FS :=
    (sSeq (sIf (liftT [0, 1] (tB (c2 gLt (cV 1) (cA (g1 gLen) (aCons (cV 0) aNil))))) (sRet (lift [0, 1] (c2 gIx (cV 0) (cV 1)))) sNext)
    (sRet (lift [] (cK (.int 0)))))
def m__law_cell_at : List D → Out D := runP 2 2 g__law_cell_at

abbrev s__law_pool : Stmt := top 26
abbrev N__law_pool : List Str := ["_law_script", "_law_k", "_law_cell", "_law_seed"]
theorem sc__law_pool : FnScope N__law_pool ["_law_script", "_law_k"] (defScope s__law_pool) := ⟨rfl, rfl, rfl, by decide +kernel, rfl, by decide +kernel, by decide +kernel⟩
def g__law_pool : FS :=
    (sSeq (sSet 2 (lift [0, 1] (cA (chk 2 m__law_cell_at) (aCons (cV 0) (aCons (cV 1) aNil)))))
    (sSeq (sSet 3 (lift [1, 2] (c2 gModI (c2 gMulI (c2 gAddI (c2 gAddI (c2 gModI (cV 2) (cK (.int 2147483629))) (c2 gMulI (c2 gMulI (cK (.int 7919)) (cV 1)) (cV 1))) (cK (.int 1))) (cK (.int 48271))) (cK (.int 2147483647)))))
    (sSeq (sIf (liftT [2] (tB (c2 gLt (cV 2) (c2 gPowI (cK (.int 10)) (cK (.int 18)))))) (sSet 2 (lift [] (cK (.int 0)))) sNext)
    (sRet (lift [2, 3] (cLst (aCons (cV 2) (aCons (c2 gModI (c2 gMulI (cV 3) (cV 3)) (cK (.int 2147483629))) aNil))))))))
def m__law_pool : List D → Out D := runP 2 4 g__law_pool

abbrev s__law_take : Stmt := top 27
abbrev N__law_take : List Str := ["_law_pool_here", "_law_many", "_law_found"]
theorem sc__law_take : FnScope N__law_take ["_law_pool_here", "_law_many"] (defScope s__law_take) := ⟨rfl, rfl, rfl, by decide +kernel, rfl, by decide +kernel, by decide +kernel⟩
def g__law_take : FS :=
    (sSeq (sIf (liftT [0] (tB (c2 gGt (c2 gIx (cV 0) (cK (.int 0))) (cK (.int 0))))) (sSeq (sSet 2 (lift [0, 1] (c2 gModI (c2 gIx (cV 0) (cK (.int 0))) (cV 1))))
    (sSeq (sPut 0 (lift [0, 1] (c2 gFdvI (c2 gIx (cV 0) (cK (.int 0))) (cV 1))) (lift [] (cK (.int 0))))
    (sRet (lift [2] (cV 2))))) sNext)
    (sSeq (sPut 0 (lift [0] (c2 gModI (c2 gAddI (c2 gMulI (c2 gIx (cV 0) (cK (.int 1))) (cK (.int 48271))) (cK (.int 11))) (cK (.int 2147483647)))) (lift [] (cK (.int 1))))
    (sRet (lift [0, 1] (c2 gModI (c2 gFdvI (c2 gModI (c2 gMulI (c2 gIx (cV 0) (cK (.int 1))) (c2 gIx (cV 0) (cK (.int 1)))) (cK (.int 2147483629))) (cK (.int 64))) (cV 1))))))
def m__law_take : List D → Out (D × D) := runX 2 3 g__law_take

abbrev s__law_text : Stmt := top 28
abbrev N__law_text : List Str := ["_law_pool_here", "_law_width", "_law_signs", "_law_turn"]
theorem sc__law_text : FnScope N__law_text ["_law_pool_here", "_law_width", "_law_signs"] (defScope s__law_text) := ⟨rfl, rfl, rfl, by decide +kernel, rfl, by decide +kernel, by decide +kernel⟩
def g__law_text : FS :=
    (sRet (x2S gJoin (lift [] (cK (.str []))) (xLc (iXR1 (liftA [1] (aCons (cV 1) aNil))) [3] (sN 3) xYes (x2 gIx (lift [2] (cV 2)) (xIO 0 2 m__law_take (liftA [2] (aCons (cA (g1 gLen) (aCons (cV 2) aNil)) aNil)))))))
def m__law_text : List D → Out (D × D) := runX 3 4 g__law_text

abbrev s__law_pattern : Stmt := top 32
abbrev N__law_pattern : List Str := ["_law_pool_here", "_law_width", "_law_signs"]
theorem sc__law_pattern : FnScope N__law_pattern ["_law_pool_here", "_law_width"] (defScope s__law_pattern) := ⟨rfl, rfl, rfl, by decide +kernel, rfl, by decide +kernel, by decide +kernel⟩
def g__law_pattern : FS :=
    (sSeq (sSet 2 (x2 gIx (lift [] (cLst (aCons (cK (.str [48, 49, 42])) (aCons (cK (.str [42, 42, 42, 48, 49])) (aCons (cK (.str [48, 42])) (aCons (cK (.str [49, 42])) aNil)))))) (xIO 0 2 m__law_take (liftA [] (aCons (cK (.int 4)) aNil)))))
    (sRet (xIO 0 3 m__law_text (liftA [1, 2] (aCons (cV 1) (aCons (cV 2) aNil))))))
def m__law_pattern : List D → Out (D × D) := runX 2 3 g__law_pattern

abbrev s__law_patterns : Stmt := top 35
abbrev N__law_patterns : List Str := ["_law_pool_here", "_law_width", "_law_turn"]
theorem sc__law_patterns : FnScope N__law_patterns ["_law_pool_here", "_law_width"] (defScope s__law_patterns) := ⟨rfl, rfl, rfl, by decide +kernel, rfl, by decide +kernel, by decide +kernel⟩
def g__law_patterns : FS :=
    (sRet (xLc (iXR1 (xCons (xIO 0 2 m__law_take (liftA [] (aCons (cK (.int 5)) aNil))) xNil)) [2] (sN 2) xYes (xIO 0 2 m__law_pattern (liftA [1] (aCons (cV 1) aNil)))))
def m__law_patterns : List D → Out (D × D) := runX 2 3 g__law_patterns

abbrev s__law_heads : Stmt := top 30
abbrev N__law_heads : List Str := ["_law_width", "_law_found", "_law_turn", "_law_longer", "_law_head"]
theorem sc__law_heads : FnScope N__law_heads ["_law_width"] (defScope s__law_heads) := ⟨rfl, rfl, rfl, by decide +kernel, rfl, by decide +kernel, by decide +kernel⟩
def g__law_heads : FS :=
    (sSeq (sSet 1 (lift [] (cLst (aCons (cK (.str [])) aNil))))
    (sSeq (sFor (iXR1 (liftA [0] (aCons (cV 0) aNil))) (sN 2) (sSeq (sSet 3 (lift [] (cLst aNil)))
    (sSeq (sFor (liftI [1] (iL (cV 1))) (sN 4) (sSet 3 (lift [3, 4] (c2 gCat (cV 3) (cFz (cLst (aCons (c2 gAddS (cV 4) (cK (.str [48]))) (aCons (c2 gAddS (cV 4) (cK (.str [49]))) aNil))))))))
    (sSet 1 (lift [3] (cV 3))))))
    (sRet (lift [1] (cV 1)))))
def m__law_heads : List D → Out D := runP 1 5 g__law_heads

abbrev s__law_fits : Stmt := top 29
abbrev N__law_fits : List Str := ["_law_pattern_here", "_law_head", "_law_k"]
theorem sc__law_fits : FnScope N__law_fits ["_law_pattern_here", "_law_head"] (defScope s__law_fits) := ⟨rfl, rfl, rfl, by decide +kernel, rfl, by decide +kernel, by decide +kernel⟩
def g__law_fits : FS :=
    (sRet (lift [0, 1, 2] (c2 gEq (cFz (cLc (iR1 (aCons (cA (g1 gLen) (aCons (cV 1) aNil)) aNil)) [2] (sN 2) (tB (c2 (gIn true) (c2 gIx (cV 0) (cV 2)) (cTup (aCons (cK (.str [42])) (aCons (c2 gIx (cV 1) (cV 2)) aNil))))) (cV 2))) (cFz (cLst aNil)))))
def m__law_fits : List D → Out D := runP 2 3 g__law_fits

abbrev s__law_of : Stmt := top 34
abbrev N__law_of : List Str := ["_law_width", "_law_patterns_here", "_law_head", "_law_one"]
theorem sc__law_of : FnScope N__law_of ["_law_width", "_law_patterns_here"] (defScope s__law_of) := ⟨rfl, rfl, rfl, by decide +kernel, rfl, by decide +kernel, by decide +kernel⟩
def g__law_of : FS :=
    (sRet (lift [0, 1, 2, 3] (cLc (iL (cFz (cA (chk 1 m__law_heads) (aCons (cV 0) aNil)))) [2] (sN 2) (tB (c2 gNe (cFz (cLc (iL (cV 1)) [3] (sN 3) (tB (cFz (cA (chk 2 m__law_fits) (aCons (cV 3) (aCons (cV 2) aNil))))) (cV 3))) (cFz (cLst aNil)))) (cV 2))))
def m__law_of : List D → Out D := runP 2 4 g__law_of

abbrev s_behind : Stmt := top 20
abbrev N_behind : List Str := ["noughts", "ones", "pattern"]
theorem sc_behind : FnScope N_behind ["noughts", "ones"] (defScope s_behind) := ⟨rfl, rfl, rfl, by decide +kernel, rfl, by decide +kernel, by decide +kernel⟩
def g_behind : FS :=
    (sSeq (sIf (liftT [0, 1] (tB (c2 gEq (cV 0) (cV 1)))) (sRet (lift [0, 2] (cLc (iL (cV 0)) [2] (sN 2) tYes' (c2 gAddS (cK (.str [42])) (cV 2))))) sNext)
    (sRet (lift [0, 1, 2] (c2 gCat (cFz (cLc (iL (cV 0)) [2] (sN 2) tYes' (c2 gAddS (cK (.str [48])) (cV 2)))) (cFz (cLc (iL (cV 1)) [2] (sN 2) tYes' (c2 gAddS (cK (.str [49])) (cV 2))))))))
def m_behind : List D → Out D := runP 2 3 g_behind

abbrev s_rests : Stmt := top 19
abbrev N_rests : List Str := ["patterns", "sign", "pattern"]
theorem sc_rests : FnScope N_rests ["patterns", "sign"] (defScope s_rests) := ⟨rfl, rfl, rfl, by decide +kernel, rfl, by decide +kernel, by decide +kernel⟩
def g_rests : FS :=
    (sRet (lift [0, 1, 2] (cLc (iL (cV 0)) [2] (sN 2) (tB (c2 (gIn false) (c2 gIx (cV 2) (cK (.int 0))) (cTup (aCons (cV 1) (aCons (cK (.str [42])) aNil))))) (cSl gSlS (cV 2) (oSome (cK (.int 1))) oNone))))
def m_rests : List D → Out D := runP 2 3 g_rests

abbrev s_told_patterns : Stmt := top 21
abbrev N_told_patterns : List Str := ["width", "patterns", "noughts", "ones", "low", "high"]
theorem sc_told_patterns : FnScope N_told_patterns ["width", "patterns"] (defScope s_told_patterns) := ⟨rfl, rfl, rfl, by decide +kernel, rfl, by decide +kernel, by decide +kernel⟩
def g_told_patterns (rec : List D → Out D) : FS :=
    (sSeq (sIf (liftT [0, 1] (tOr (tB (c2 gEq (cV 1) (cFz (cLst aNil)))) (tB (c2 (gIn false) (c2 gMulS (cK (.str [42])) (cV 0)) (cV 1))))) (sRet (lift [0, 1] (cSl gSl (cFz (cLst (aCons (c2 gMulS (cK (.str [42])) (cV 0)) aNil))) oNone (oSome (cA (g1 gLen) (aCons (cV 1) aNil)))))) sNext)
    (sSeq (sPar 4 5 (liftA [1] (aCons (cA (chk 2 m_rests) (aCons (cV 1) (aCons (cK (.str [48])) aNil))) (aCons (cA (chk 2 m_rests) (aCons (cV 1) (aCons (cK (.str [49])) aNil))) aNil))))
    (sSeq (sSet 2 (lift [0, 4] (cA (chk 2 rec) (aCons (c2 gSubI (cV 0) (cK (.int 1))) (aCons (cV 4) aNil)))))
    (sSeq (sSet 3 (lift [0, 2, 4, 5] (cIf (tB (c2 gEq (cV 5) (cV 4))) (cV 2) (cA (chk 2 rec) (aCons (c2 gSubI (cV 0) (cK (.int 1))) (aCons (cV 5) aNil))))))
    (sRet (lift [2, 3] (cA (chk 2 m_behind) (aCons (cV 2) (aCons (cV 3) aNil)))))))))
def r_told_patterns : Nat → List D → Out D
  | 0 => fun _ => .bad
  | n + 1 => runP 2 6 (g_told_patterns (r_told_patterns n))
def m_told_patterns : List D → Out D := r_told_patterns 20

abbrev s_is_whole : Stmt := top 11
abbrev N_is_whole : List Str := ["thing"]
theorem sc_is_whole : FnScope N_is_whole ["thing"] (defScope s_is_whole) := ⟨rfl, rfl, rfl, by decide +kernel, rfl, by decide +kernel, by decide +kernel⟩
def g_is_whole : FS :=
    (sRet (lift [0] (cAnd (c1 (gIsi .int) (cV 0)) (cNot (c1 (gIsi .bool) (cV 0))))))
def m_is_whole : List D → Out D := runP 1 1 g_is_whole

abbrev s_is_width : Stmt := top 12
abbrev N_is_width : List Str := ["thing"]
theorem sc_is_width : FnScope N_is_width ["thing"] (defScope s_is_width) := ⟨rfl, rfl, rfl, by decide +kernel, rfl, by decide +kernel, by decide +kernel⟩
def g_is_width : FS :=
    (sRet (lift [0] (cAnd (cFz (cA (chk 1 m_is_whole) (aCons (cV 0) aNil))) (c3 gLe gLe (cK (.int 1)) (cV 0) (cK (.int 16))))))
def m_is_width : List D → Out D := runP 1 1 g_is_width

abbrev s_is_of : Stmt := top 13
abbrev N_is_of : List Str := ["thing", "width", "signs", "sign"]
theorem sc_is_of : FnScope N_is_of ["thing", "width", "signs"] (defScope s_is_of) := ⟨rfl, rfl, rfl, by decide +kernel, rfl, by decide +kernel, by decide +kernel⟩
def g_is_of : FS :=
    (sRet (lift [0, 1, 2, 3] (cAnd (c1 (gIsi .str) (cV 0)) (cAnd (c2 gEq (cA (g1 gLen) (aCons (cV 0) aNil)) (cV 1)) (cA (g1 gAll) (aCons (cFz (cLc (iS (cV 0)) [3] (sN 3) tYes' (c2 (gIn false) (cV 3) (cV 2)))) aNil))))))
def m_is_of : List D → Out D := runP 3 4 g_is_of

abbrev s_is_pattern : Stmt := top 15
abbrev N_is_pattern : List Str := ["thing", "width"]
theorem sc_is_pattern : FnScope N_is_pattern ["thing", "width"] (defScope s_is_pattern) := ⟨rfl, rfl, rfl, by decide +kernel, rfl, by decide +kernel, by decide +kernel⟩
def g_is_pattern : FS :=
    (sRet (lift [0, 1] (cA (chk 3 m_is_of) (aCons (cV 0) (aCons (cV 1) (aCons (cK (.str [48, 49, 42])) aNil))))))
def m_is_pattern : List D → Out D := runP 2 2 g_is_pattern

abbrev s_Heads___init__ : Stmt := inClass (top 23) 0
abbrev N_Heads___init__ : List Str := ["self", "width", "patterns", "some", "number", "pattern"]
theorem sc_Heads___init__ : FnScope N_Heads___init__ ["self", "width", "patterns"] (defScope s_Heads___init__) := ⟨rfl, rfl, rfl, by decide +kernel, rfl, by decide +kernel, by decide +kernel⟩
def g_Heads___init__ : FS :=
    (sSeq (sIf (liftT [1] (tNot (tB (cFz (cA (chk 1 m_is_width) (aCons (cV 1) aNil)))))) (fun _ => .bad) sNext)
    (sSeq (sSet 3 (lift [2] (cIf (tB (c2 (gIsN false) (cV 2) (cK .non))) (cLst aNil) (cV 2))))
    (sSeq (sIf (liftT [3] (tNot (tB (c1 (gIsi .list) (cV 3))))) (fun _ => .bad) sNext)
    (sSeq (sFor (liftI [3] (iEn (aCons (cV 3) aNil))) (sT 2 (sCons (sN 4) (sCons (sN 5) sNil))) (sIf (liftT [1, 5] (tNot (tB (cFz (cA (chk 2 m_is_pattern) (aCons (cV 5) (aCons (cV 1) aNil))))))) (fun _ => .bad) sNext))
    (sSeq (sFldS 0 "Heads" "own_width" (lift [1] (cV 1)))
    (sFldS 0 "Heads" "told" (lift [1, 3] (cA (chk 2 m_told_patterns) (aCons (cV 1) (aCons (cV 3) aNil))))))))))
def m_Heads___init__ : List D → Out (D × D) := runX 3 6 g_Heads___init__

abbrev s__law_kind : Stmt := top 36
abbrev N__law_kind : List Str := ["_law_call", "_law_kept", "e"]
theorem sc__law_kind : FnScope N__law_kind ["_law_call"] (defScope s__law_kind) := ⟨rfl, rfl, rfl, by decide +kernel, rfl, by decide +kernel, by decide +kernel⟩
def gs0__law_kind : FS :=
    (sSeq (sSet 1 (lift [2] (cLst (aCons (cK (.str [110, 117, 109, 98, 101, 114])) (aCons (c1 (gXf "number" (kitL ["NoNumber"])) (cV 2)) aNil)))))
    (sIf (liftT [2] (tOr (tNot (tB (c1 (gIsX (tab [("NoNumber", true), ("NoHead", false)])) (cV 2)))) (tB (c1 (gIsX (tab [("NoNumber", false), ("NoHead", true)])) (cV 2))))) (sSet 1 (lift [] (cLst (aCons (cK (.str [111, 116, 104, 101, 114])) aNil)))) sNext))
def gs1__law_kind : FS :=
    (sSeq (sSet 1 (lift [] (cLst (aCons (cK (.str [104, 101, 97, 100])) aNil))))
    (sIf (liftT [2] (tOr (tNot (tB (c1 (gIsX (tab [("NoNumber", false), ("NoHead", true)])) (cV 2)))) (tB (c1 (gIsX (tab [("NoNumber", false), ("NoHead", false)])) (cV 2))))) (sSet 1 (lift [] (cLst (aCons (cK (.str [111, 116, 104, 101, 114])) aNil)))) sNext))
def g0__law_kind : FS := (sSet 1 (lift [] (cK .non)))
def g1__law_kind : FS :=
    (sRet (lift [1] (cV 1)))
def m__law_kind : Out D → Out D := mKind2 [((tab [("NoNumber", true), ("NoHead", false)]), gs0__law_kind), ((tab [("NoNumber", false), ("NoHead", true)]), gs1__law_kind)] 3 2 g0__law_kind g1__law_kind

abbrev s_many_of : Stmt := top 22
abbrev N_many_of : List Str := ["pattern"]
theorem sc_many_of : FnScope N_many_of ["pattern"] (defScope s_many_of) := ⟨rfl, rfl, rfl, by decide +kernel, rfl, by decide +kernel, by decide +kernel⟩
def g_many_of : FS :=
    (sRet (lift [0] (c2 gShlI (cK (.int 1)) (c2S gCnt (cV 0) (cK (.str [42]))))))
def m_many_of : List D → Out D := runP 1 1 g_many_of

abbrev s_fits : Stmt := top 16
abbrev N_fits : List Str := ["pattern", "head", "one", "sign"]
theorem sc_fits : FnScope N_fits ["pattern", "head"] (defScope s_fits) := ⟨rfl, rfl, rfl, by decide +kernel, rfl, by decide +kernel, by decide +kernel⟩
def g_fits : FS :=
    (sRet (lift [0, 1, 2, 3] (cA (g1 gAll) (aCons (cFz (cLc (iZp (aCons (cV 0) (aCons (cV 1) aNil))) [2, 3] (sT 2 (sCons (sN 2) (sCons (sN 3) sNil))) tYes' (cOr (c2 gEq (cV 2) (cK (.str [42]))) (c2 gEq (cV 2) (cV 3))))) aNil))))
def m_fits : List D → Out D := runP 2 4 g_fits

abbrev s_Heads_first_below : Stmt := inClass (top 23) 14
abbrev N_Heads_first_below : List Str := ["self", "beginning", "size", "one"]
theorem sc_Heads_first_below : FnScope N_Heads_first_below ["self", "beginning"] (defScope s_Heads_first_below) := ⟨rfl, rfl, rfl, by decide +kernel, rfl, by decide +kernel, by decide +kernel⟩
def g_Heads_first_below : FS :=
    (sSeq (sSet 2 (lift [1] (cA (g1 gLen) (aCons (cV 1) aNil))))
    (sRet (lift [0, 1, 2, 3] (cA (g1 gSum) (aCons (cFz (cLc (iL (c1 (gFld "Heads" "told") (cV 0))) [3] (sN 3) (tB (cFz (cA (chk 2 m_fits) (aCons (cSl gSlS (cV 3) oNone (oSome (cV 2))) (aCons (cV 1) aNil))))) (cA (chk 1 m_many_of) (aCons (cSl gSlS (cV 3) (oSome (cV 2)) oNone) aNil)))) aNil)))))
def m_Heads_first_below : List D → Out D := runP 2 4 g_Heads_first_below

abbrev s_Heads_how_many : Stmt := inClass (top 23) 13
abbrev N_Heads_how_many : List Str := ["self", "pattern"]
theorem sc_Heads_how_many : FnScope N_Heads_how_many ["self"] (defScope s_Heads_how_many) := ⟨rfl, rfl, rfl, by decide +kernel, rfl, by decide +kernel, by decide +kernel⟩
def g_Heads_how_many : FS :=
    (sRet (lift [0, 1] (cA (g1 gSum) (aCons (cFz (cLc (iL (c1 (gFld "Heads" "told") (cV 0))) [1] (sN 1) tYes' (cA (chk 1 m_many_of) (aCons (cV 1) aNil)))) aNil))))
def m_Heads_how_many : List D → Out D := runP 1 2 g_Heads_how_many

abbrev s_Heads___len__ : Stmt := inClass (top 23) 17
abbrev N_Heads___len__ : List Str := ["self"]
theorem sc_Heads___len__ : FnScope N_Heads___len__ ["self"] (defScope s_Heads___len__) := ⟨rfl, rfl, rfl, by decide +kernel, rfl, by decide +kernel, by decide +kernel⟩
def g_Heads___len__ : FS :=
    (sRet (lift [0] (c1 gLenR (cFz (cMt "Heads" "how_many" 1 m_Heads_how_many [] (cV 0) aNil)))))
def m_Heads___len__ : List D → Out D := runP 1 1 g_Heads___len__

abbrev s_Heads_head_at : Stmt := inClass (top 23) 15
abbrev N_Heads_head_at : List Str := ["self", "number", "found", "left", "many"]
theorem sc_Heads_head_at : FnScope N_Heads_head_at ["self", "number"] (defScope s_Heads_head_at) := ⟨rfl, rfl, rfl, by decide +kernel, rfl, by decide +kernel, by decide +kernel⟩
def g_Heads_head_at : FS :=
    (sSeq (sIf (liftT [0, 1] (tOr (tNot (tB (cFz (cA (chk 1 m_is_whole) (aCons (cV 1) aNil))))) (tNot (tB (c3 gLe gLt (cK (.int 0)) (cV 1) (cA (g1 (gLenO "Heads" m_Heads___len__)) (aCons (cV 0) aNil))))))) (sRaiseF "NoNumber" ["number"] (liftA [1] (aCons (cV 1) aNil))) sNext)
    (sSeq (sSet 2 (lift [] (cK (.str []))))
    (sSeq (sSet 3 (lift [1] (cV 1)))
    (sSeq (whileS (liftT [0, 2] (tB (c2 gLt (cA (g1 gLen) (aCons (cV 2) aNil)) (c1 (gFld "Heads" "own_width") (cV 0))))) (sSeq (sSet 4 (lift [0, 2] (cMt "Heads" "first_below" 2 m_Heads_first_below [] (cV 0) (aCons (c2 gAddS (cV 2) (cK (.str [48]))) aNil))))
    (sIf (liftT [3, 4] (tB (c2 gLt (cV 3) (cV 4)))) (sAug 2 gAddS (lift [] (cK (.str [48])))) (sSeq (sAug 3 gSubI (lift [4] (cV 4)))
    (sAug 2 gAddS (lift [] (cK (.str [49]))))))) 100000)
    (sRet (lift [2] (cV 2)))))))
def m_Heads_head_at : List D → Out D := runP 2 5 g_Heads_head_at

abbrev s_is_head : Stmt := top 14
abbrev N_is_head : List Str := ["thing", "width"]
theorem sc_is_head : FnScope N_is_head ["thing", "width"] (defScope s_is_head) := ⟨rfl, rfl, rfl, by decide +kernel, rfl, by decide +kernel, by decide +kernel⟩
def g_is_head : FS :=
    (sRet (lift [0, 1] (cA (chk 3 m_is_of) (aCons (cV 0) (aCons (cV 1) (aCons (cK (.str [48, 49])) aNil))))))
def m_is_head : List D → Out D := runP 2 2 g_is_head

abbrev s_Heads_holds : Stmt := inClass (top 23) 12
abbrev N_Heads_holds : List Str := ["self", "head", "pattern"]
theorem sc_Heads_holds : FnScope N_Heads_holds ["self", "head"] (defScope s_Heads_holds) := ⟨rfl, rfl, rfl, by decide +kernel, rfl, by decide +kernel, by decide +kernel⟩
def g_Heads_holds : FS :=
    (sSeq (sIf (liftT [0, 1] (tNot (tB (cFz (cA (chk 2 m_is_head) (aCons (cV 1) (aCons (c1 (gFld "Heads" "own_width") (cV 0)) aNil))))))) (sRaise "NoHead") sNext)
    (sRet (lift [0, 1, 2] (cA (g1 gAny) (aCons (cFz (cLc (iL (c1 (gFld "Heads" "told") (cV 0))) [2] (sN 2) tYes' (cA (chk 2 m_fits) (aCons (cV 2) (aCons (cV 1) aNil))))) aNil)))))
def m_Heads_holds : List D → Out D := runP 2 3 g_Heads_holds

abbrev s_Heads_number_of : Stmt := inClass (top 23) 16
abbrev N_Heads_number_of : List Str := ["self", "head", "ahead", "at", "sign"]
theorem sc_Heads_number_of : FnScope N_Heads_number_of ["self", "head"] (defScope s_Heads_number_of) := ⟨rfl, rfl, rfl, by decide +kernel, rfl, by decide +kernel, by decide +kernel⟩
def g_Heads_number_of : FS :=
    (sSeq (sIf (liftT [0, 1] (tNot (tB (cFz (cMt "Heads" "holds" 2 m_Heads_holds [] (cV 0) (aCons (cV 1) aNil)))))) (sRaise "NoHead") sNext)
    (sSeq (sSet 2 (lift [0, 1, 3, 4] (cLc (iEn (aCons (cV 1) aNil)) [3, 4] (sT 2 (sCons (sN 3) (sCons (sN 4) sNil))) (tB (c2 gEq (cV 4) (cK (.str [49])))) (cMt "Heads" "first_below" 2 m_Heads_first_below [] (cV 0) (aCons (c2 gAddS (cSl gSlS (cV 1) oNone (oSome (cV 3))) (cK (.str [48]))) aNil)))))
    (sRet (lift [2] (c1 gSum (cV 2))))))
def m_Heads_number_of : List D → Out D := runP 2 5 g_Heads_number_of

abbrev s__law_small : Stmt := top 37
abbrev N__law_small : List Str := ["_law_pool_here", "_law_width", "_law_patterns_here", "_law_some", "_law_found", "_law_odd", "_law_out", "_law_number", "_law_head"]
theorem sc__law_small : FnScope N__law_small ["_law_pool_here"] (defScope s__law_small) := ⟨rfl, rfl, rfl, by decide +kernel, rfl, by decide +kernel, by decide +kernel⟩
def g__law_small : FS :=
    (sSeq (sSet 1 (x2 gAddI (lift [] (cK (.int 1))) (xIO 0 2 m__law_take (liftA [] (aCons (cK (.int 6)) aNil)))))
    (sSeq (sSet 2 (xIO 0 2 m__law_patterns (liftA [1] (aCons (cV 1) aNil))))
    (sSeq (sSet 3 (lift [1, 2] (cA (chk 2 m__law_of) (aCons (cV 1) (aCons (cV 2) aNil)))))
    (sSeq (sSet 4 (lift [1, 2] (cA (mkO "Heads" 3 m_Heads___init__ []) (aCons (cV 1) (aCons (cV 2) aNil)))))
    (sSeq (sFor (liftI [3] (iEn (aCons (cV 3) aNil))) (sT 2 (sCons (sN 7) (sCons (sN 8) sNil))) (sIf (liftT [4, 7, 8] (tOr (tB (c2 gNe (cFz (cMt "Heads" "head_at" 2 m_Heads_head_at [] (cV 4) (aCons (cV 7) aNil))) (cV 8))) (tB (c2 gNe (cFz (cMt "Heads" "number_of" 2 m_Heads_number_of [] (cV 4) (aCons (cV 8) aNil))) (cV 7))))) (sRet (lift [] (cK (.bl false)))) sNext))
    (sSeq (sFor (liftI [3] (iL (cFz (cLst (aCons (cA (g1 gLen) (aCons (cV 3) aNil)) (aCons (c1 gNeg (cK (.int 1))) (aCons (cK (.bl true)) (aCons (cK .non) (aCons (cK (.str [48])) (aCons (cLst (aCons (cK (.int 0)) aNil)) (aCons (c2 gPowI (cK (.int 10)) (cK (.int 30))) aNil))))))))))) (sN 5) (sIf (liftT [4, 5] (tB (c2 gNe (cA (g1 gRepr) (aCons (cFz (cLam m__law_kind (cMt "Heads" "head_at" 2 m_Heads_head_at [] (cV 4) (aCons (cV 5) aNil)))) aNil)) (cA (g1 gRepr) (aCons (cFz (cLst (aCons (cK (.str [110, 117, 109, 98, 101, 114])) (aCons (cV 5) aNil)))) aNil))))) (sRet (lift [] (cK (.bl false)))) sNext))
    (sSeq (sSet 6 (lift [1, 3, 8] (cSl gSl (cFz (cLc (iL (cFz (cA (chk 1 m__law_heads) (aCons (cV 1) aNil)))) [8] (sN 8) (tB (c2 (gIn true) (cV 8) (cV 3))) (cV 8))) oNone (oSome (cK (.int 3))))))
    (sSeq (sFor (liftI [1, 6] (iL (cFz (c2 gCat (cV 6) (cFz (cLst (aCons (cK .non) (aCons (cK (.int 0)) (aCons (cK (.str [])) (aCons (c2 gMulS (cK (.str [48])) (c2 gAddI (cV 1) (cK (.int 1)))) (aCons (c2 gMulS (cK (.str [42])) (cV 1)) (aCons (c2 gMulL (cFz (cLst (aCons (cK (.str [48])) aNil))) (cV 1)) (aCons (c2 gMulS (cK (.str [50])) (cV 1)) aNil))))))))))))) (sN 5) (sIf (liftT [4, 5] (tB (c2 gNe (cFz (cLam m__law_kind (cMt "Heads" "number_of" 2 m_Heads_number_of [] (cV 4) (aCons (cV 5) aNil)))) (cFz (cLst (aCons (cK (.str [104, 101, 97, 100])) aNil)))))) (sRet (lift [] (cK (.bl false)))) sNext))
    (sSeq (sFor (liftI [1] (iL (cFz (cLst (aCons (cK .non) (aCons (cK (.int 0)) (aCons (cK (.str [])) (aCons (c2 gMulS (cK (.str [48])) (c2 gAddI (cV 1) (cK (.int 1)))) (aCons (c2 gMulS (cK (.str [42])) (cV 1)) (aCons (c2 gMulL (cFz (cLst (aCons (cK (.str [48])) aNil))) (cV 1)) aNil)))))))))) (sN 5) (sIf (liftT [4, 5] (tB (c2 gNe (cFz (cLam m__law_kind (cMt "Heads" "holds" 2 m_Heads_holds [] (cV 4) (aCons (cV 5) aNil)))) (cFz (cLst (aCons (cK (.str [104, 101, 97, 100])) aNil)))))) (sRet (lift [] (cK (.bl false)))) sNext))
    (sRet (lift [3, 4] (cOr (c2 gEq (cV 3) (cFz (cLst aNil))) (c2 gEq (cFz (cMt "Heads" "head_at" 2 m_Heads_head_at [.int 0] (cV 4) aNil)) (c2 gIx (cV 3) (cK (.int 0))))))))))))))))
def m__law_small : List D → Out (D × D) := runX 1 9 g__law_small

abbrev s__law_least : Stmt := top 39
abbrev N__law_least : List Str := ["_law_patterns_here", "_law_pattern_here"]
theorem sc__law_least : FnScope N__law_least ["_law_patterns_here"] (defScope s__law_least) := ⟨rfl, rfl, rfl, by decide +kernel, rfl, by decide +kernel, by decide +kernel⟩
def g__law_least : FS :=
    (sRet (lift (List.range 2) (c2 gIx (cFz (cA (g1 gSrt) (aCons (cFz (cLc (iL (cV 0)) [1] (sN 1) tYes' (c1 (gRep 42 48) (cV 1)))) aNil))) (cK (.int 0)))))
def m__law_least : List D → Out D := runP 1 2 g__law_least

abbrev s__law_great : Stmt := top 38
abbrev N__law_great : List Str := ["_law_pool_here", "_law_width", "_law_patterns_here", "_law_found", "_law_many", "_law_numbers", "_law_heads_here", "_law_first", "_law_number", "_law_head", "_law_turn", "_law_one"]
theorem sc__law_great : FnScope N__law_great ["_law_pool_here"] (defScope s__law_great) := ⟨rfl, rfl, rfl, by decide +kernel, rfl, by decide +kernel, by decide +kernel⟩
def g__law_great : FS :=
    (sSeq (sSet 1 (x2 gAddI (lift [] (cK (.int 7))) (xIO 0 2 m__law_take (liftA [] (aCons (cK (.int 10)) aNil)))))
    (sSeq (sSet 2 (xLc (iXR1 (xCons (x2 gAddI (lift [] (cK (.int 1))) (xIO 0 2 m__law_take (liftA [] (aCons (cK (.int 3)) aNil)))) xNil)) [10] (sN 10) xYes (xIO 0 3 m__law_text (xCons (lift [1] (cV 1)) (xCons (x2 gIx (lift [] (cLst (aCons (cK (.str [42, 42, 42, 48, 49])) (aCons (cK (.str [48, 49, 42])) aNil)))) (xIO 0 2 m__law_take (liftA [] (aCons (cK (.int 2)) aNil)))) xNil)))))
    (sSeq (sSet 3 (lift [1, 2] (cA (mkO "Heads" 3 m_Heads___init__ []) (aCons (cV 1) (aCons (cV 2) aNil)))))
    (sSeq (sSet 4 (lift [3] (cA (g1 (gLenO "Heads" m_Heads___len__)) (aCons (cV 3) aNil))))
    (sSeq (sSet 5 (xC (g1 gSrtI) (xCons (x2 gCat (xLc (iXR1 (liftA [] (aCons (cK (.int 4)) aNil))) [10] (sN 10) xYes (x2 gModI (xIO 0 2 m__law_take (liftA [] (aCons (c2 gPowI (cK (.int 10)) (cK (.int 6))) aNil))) (lift [4] (cV 4)))) (lift [4] (cLst (aCons (cK (.int 0)) (aCons (c2 gSubI (cV 4) (cK (.int 1))) aNil))))) xNil)))
    (sSeq (sSet 6 (lift [3, 5, 8] (cLc (iL (cV 5)) [8] (sN 8) tYes' (cMt "Heads" "head_at" 2 m_Heads_head_at [] (cV 3) (aCons (cV 8) aNil)))))
    (sSeq (sFor (liftI [5, 6] (iZp (aCons (cV 5) (aCons (cV 6) aNil)))) (sT 2 (sCons (sN 8) (sCons (sN 9) sNil))) (sIf (liftT [2, 3, 8, 9, 11] (tOr (tB (c2 gNe (cFz (cMt "Heads" "number_of" 2 m_Heads_number_of [] (cV 3) (aCons (cV 9) aNil))) (cV 8))) (tB (c2 gEq (cFz (cLc (iL (cV 2)) [11] (sN 11) (tB (cFz (cA (chk 2 m__law_fits) (aCons (cV 11) (aCons (cV 9) aNil))))) (cV 11))) (cFz (cLst aNil)))))) (sRet (lift [] (cK (.bl false)))) sNext))
    (sSeq (sIf (liftT [3, 4, 6] (tOr (tB (c2 gNe (cV 6) (cFz (cA (g1 gSrt) (aCons (cV 6) aNil))))) (tB (c2 gNe (cFz (cMt "Heads" "number_of" 2 m_Heads_number_of [] (cV 3) (aCons (c2 gIx (cV 6) (c1 gNeg (cK (.int 1)))) aNil))) (c2 gSubI (cV 4) (cK (.int 1))))))) (sRet (lift [] (cK (.bl false)))) sNext)
    (sSeq (sSet 7 (lift [2] (cA (chk 1 m__law_least) (aCons (cV 2) aNil))))
    (sRet (lift [6, 7] (c2 gEq (c2 gIx (cV 6) (cK (.int 0))) (cV 7)))))))))))))
def m__law_great : List D → Out (D × D) := runX 1 12 g__law_great

abbrev s_law : Stmt := top 40
abbrev N_law : List Str := ["_law_script", "_law_k", "_law_pool_here"]
theorem sc_law : FnScope N_law ["_law_script"] (defScope s_law) := ⟨rfl, rfl, rfl, by decide +kernel, rfl, by decide +kernel, by decide +kernel⟩
def g_law : FS :=
    (sSeq (sFor (iXR1 (liftA [0] (aCons (cA gMx (aCons (cK (.int 1)) (aCons (cA gMn (aCons (cA (g1 gLen) (aCons (cV 0) aNil)) (aCons (cK (.int 10)) aNil))) aNil))) aNil))) (sN 1) (sSeq (sSet 2 (lift [0, 1] (cA (chk 2 m__law_pool) (aCons (cV 0) (aCons (cV 1) aNil)))))
    (sIf (xOr (xNot (xTB (xIO 2 1 m__law_small xNil))) (xNot (xTB (xIO 2 1 m__law_great xNil)))) (sRet (lift [] (cK (.bl false)))) sNext)))
    (sRet (lift [] (cK (.bl true)))))
def m_law : List D → Out D := runP 1 3 g_law

section
variable [Tbs] {P : Program} {w : World} {K : PySem.W.Frag} {mg : Str → Option Value} {base : Heap} {cm : Cm}
abbrev s_FNoNumber : Stmt := inClass (top 4) 0
theorem sc_FNoNumber : FnScope ["self", "number"] ["self", "number"] (defScope s_FNoNumber) := ⟨rfl, rfl, rfl, by decide +kernel, rfl, by decide +kernel, by decide +kernel⟩
theorem fi_NoNumber (T : Txt w K mg cm) {f : Addr} {fd : FuncData} (Fu : Fun K "__init__" "NoNumber.__init__" s_FNoNumber f fd) : FnOk P w K mg base CXn 1 f fd ["self", "number"] (spJ K "number") :=
  fnJ1 (m := "no number of a head") Fu sc_FNoNumber fun cdv A outer s H E => pss_cons (ps_expr (pe_ieJ (by rfl) T.n_IndexError T.cJ_IndexError (pa_cons (pv 0) (pa_cons pe_str pa_nil)))) (pss_one (ps_osJ (pv 0) (pv 1)))
set_option maxHeartbeats 4000000 in
theorem ok__law_cell_at (T : Txt w K mg cm)  {f : Addr} {fd : FuncData} (Fu : Fun K "_law_cell_at" "_law_cell_at" s__law_cell_at f fd) (hm : mg "_law_cell_at" = some (.ref f)) (hb : Binds K fd ["_law_script", "_law_k"] []) : CallOk P w K mg base "_law_cell_at" 1 ["_law_script", "_law_k"] (spP cm 2 m__law_cell_at) :=
  mk_pure (k := 0) Fu sc__law_cell_at hm hb fun cdv A outer s H E hr =>
      (ds_cons (ds_if (xt_lift [0, 1] (dt_lt (de_var (pv 1)) (de_len T.hk (by rfl) T.n_len (da_cons (de_var (pv 0)) da_nil)))) (ds_one (ds_ret (xe_lift [0, 1] (de_item T.hk (de_var (pv 0)) (de_var (pv 1)))))) ds_nil)
      (ds_one (ds_ret (xe_lift [] de_int))))

set_option maxHeartbeats 4000000 in
theorem ok__law_pool (T : Txt w K mg cm) (C__law_cell_at : CallOk P w K mg base "_law_cell_at" 1 ["_law_script", "_law_k"] (spP cm 2 m__law_cell_at)) {f : Addr} {fd : FuncData} (Fu : Fun K "_law_pool" "_law_pool" s__law_pool f fd) (hm : mg "_law_pool" = some (.ref f)) (hb : Binds K fd ["_law_script", "_law_k"] []) : CallOk P w K mg base "_law_pool" 2 ["_law_script", "_law_k"] (spP cm 2 m__law_pool) :=
  mk_pure (k := 1) Fu sc__law_pool hm hb fun cdv A outer s H E hr =>
      (ds_cons (ds_set 2 sc__law_pool.nd (xe_lift [0, 1] (de_fn C__law_cell_at (hr.mono (by decide)) pxB (da_cons (de_var (pv 0)) (da_cons (de_var (pv 1)) da_nil)))))
      (ds_cons (ds_set 3 sc__law_pool.nd (xe_lift [1, 2] (de_modI (de_mulI (de_addI (de_addI (de_modI (de_var (pv 2)) de_int) (de_mulI (de_mulI de_int (de_var (pv 1))) (de_var (pv 1)))) de_int) de_int) de_int)))
      (ds_cons (ds_if (xt_lift [2] (dt_lt (de_var (pv 2)) (de_powI de_int de_int))) (ds_one (ds_set 2 sc__law_pool.nd (xe_lift [] de_int))) ds_nil)
      (ds_one (ds_ret (xe_lift [2, 3] (de_lst (da_cons (de_var (pv 2)) (da_cons (de_modI (de_mulI (de_var (pv 3)) (de_var (pv 3))) de_int) da_nil)))))))))

set_option maxHeartbeats 4000000 in
theorem ok__law_take (T : Txt w K mg cm)  {f : Addr} {fd : FuncData} (Fu : Fun K "_law_take" "_law_take" s__law_take f fd) (hm : mg "_law_take" = some (.ref f)) (hb : Binds K fd ["_law_pool_here", "_law_many"] []) : CallOk P w K mg base "_law_take" 1 ["_law_pool_here", "_law_many"] (spX cm 2 m__law_take) :=
  mk_io (k := 0) Fu sc__law_take hm hb fun cdv A outer s H E hr =>
      (ds_cons (ds_if (xt_lift [0] (dt_gt (de_item T.hk (de_var (pv 0)) de_int) de_int)) (ds_cons (ds_set 2 sc__law_take.nd (xe_lift [0, 1] (de_modI (de_item T.hk (de_var (pv 0)) de_int) (de_var (pv 1)))))
      (ds_cons (ds_put 0 (pv 0) (xe_lift [0, 1] (de_fdvI (de_item T.hk (de_var (pv 0)) de_int) (de_var (pv 1)))) (xe_lift [] de_int) (fun _ _ h1 h2 => ps_asg h1 (pg_sub (pv 0) h2 set_list)))
      (ds_one (ds_ret (xe_lift [2] (de_var (pv 2))))))) ds_nil)
      (ds_cons (ds_put 0 (pv 0) (xe_lift [0] (de_modI (de_addI (de_mulI (de_item T.hk (de_var (pv 0)) de_int) de_int) de_int) de_int)) (xe_lift [] de_int) (fun _ _ h1 h2 => ps_asg h1 (pg_sub (pv 0) h2 set_list)))
      (ds_one (ds_ret (xe_lift [0, 1] (de_modI (de_fdvI (de_modI (de_mulI (de_item T.hk (de_var (pv 0)) de_int) (de_item T.hk (de_var (pv 0)) de_int)) de_int) de_int) (de_var (pv 1))))))))

set_option maxHeartbeats 4000000 in
theorem ok__law_text (T : Txt w K mg cm) (C__law_take : CallOk P w K mg base "_law_take" 1 ["_law_pool_here", "_law_many"] (spX cm 2 m__law_take)) {f : Addr} {fd : FuncData} (Fu : Fun K "_law_text" "_law_text" s__law_text f fd) (hm : mg "_law_text" = some (.ref f)) (hb : Binds K fd ["_law_pool_here", "_law_width", "_law_signs"] []) : CallOk P w K mg base "_law_text" 2 ["_law_pool_here", "_law_width", "_law_signs"] (spX cm 3 m__law_text) :=
  mk_io (k := 1) Fu sc__law_text hm hb fun cdv A outer s H E hr =>
      (ds_one (ds_ret (xe_join (xe_lift [] (de_str [])) (xe_lc rfl sc__law_text.nd (xi_range1 (by rfl) T.n_range (xa_lift [1] (da_cons (de_var (pv 1)) da_nil))) (blkOk_by (own := [("_law_turn", 3)]) (N := N__law_text) (sc := defScope s__law_text) (by decide +kernel)) rfl (fun _ _ _ _ _ => (xg_name 3 sc__law_text.nd)) (fun _ _ _ _ _ => xts_nil) (fun _ _ _ _ _ => (xe_ix ix_seq (o_ix T.hk) noEx_ix (fun _ _ => rfl) (xe_lift [2] (de_var (pv 2))) (xe_fio 0 C__law_take (hr.mono (by decide)) pass_none (pv 0) (xa_lift [2] (da_cons (de_len T.hk (by rfl) T.n_len (da_cons (de_var (pv 2)) da_nil)) da_nil)))))))))

set_option maxHeartbeats 4000000 in
theorem ok__law_pattern (T : Txt w K mg cm) (C__law_text : CallOk P w K mg base "_law_text" 2 ["_law_pool_here", "_law_width", "_law_signs"] (spX cm 3 m__law_text)) (C__law_take : CallOk P w K mg base "_law_take" 1 ["_law_pool_here", "_law_many"] (spX cm 2 m__law_take)) {f : Addr} {fd : FuncData} (Fu : Fun K "_law_pattern" "_law_pattern" s__law_pattern f fd) (hm : mg "_law_pattern" = some (.ref f)) (hb : Binds K fd ["_law_pool_here", "_law_width"] []) : CallOk P w K mg base "_law_pattern" 3 ["_law_pool_here", "_law_width"] (spX cm 2 m__law_pattern) :=
  mk_io (k := 2) Fu sc__law_pattern hm hb fun cdv A outer s H E hr =>
      (ds_cons (ds_set 2 sc__law_pattern.nd (xe_ix ix_seq (o_ix T.hk) noEx_ix (fun _ _ => rfl) (xe_lift [] (de_lst (da_cons (de_str [48, 49, 42]) (da_cons (de_str [42, 42, 42, 48, 49]) (da_cons (de_str [48, 42]) (da_cons (de_str [49, 42]) da_nil)))))) (xe_fio 0 C__law_take (hr.mono (by decide)) pxB (pv 0) (xa_lift [] (da_cons de_int da_nil)))))
      (ds_one (ds_ret (xe_fio 0 C__law_text (hr.mono (by decide)) pxB (pv 0) (xa_lift [1, 2] (da_cons (de_var (pv 1)) (da_cons (de_var (pv 2)) da_nil)))))))

set_option maxHeartbeats 4000000 in
theorem ok__law_patterns (T : Txt w K mg cm) (C__law_pattern : CallOk P w K mg base "_law_pattern" 3 ["_law_pool_here", "_law_width"] (spX cm 2 m__law_pattern)) (C__law_take : CallOk P w K mg base "_law_take" 1 ["_law_pool_here", "_law_many"] (spX cm 2 m__law_take)) {f : Addr} {fd : FuncData} (Fu : Fun K "_law_patterns" "_law_patterns" s__law_patterns f fd) (hm : mg "_law_patterns" = some (.ref f)) (hb : Binds K fd ["_law_pool_here", "_law_width"] []) : CallOk P w K mg base "_law_patterns" 4 ["_law_pool_here", "_law_width"] (spX cm 2 m__law_patterns) :=
  mk_io (k := 3) Fu sc__law_patterns hm hb fun cdv A outer s H E hr =>
      (ds_one (ds_ret (xe_lc rfl sc__law_patterns.nd (xi_range1 (by rfl) T.n_range (xa_cons (xe_fio 0 C__law_take (hr.mono (by decide)) pxB (pv 0) (xa_lift [] (da_cons de_int da_nil))) xa_nil)) (blkOk_by (own := [("_law_turn", 2)]) (N := N__law_patterns) (sc := defScope s__law_patterns) (by decide +kernel)) rfl (fun _ _ _ _ _ => (xg_name 2 sc__law_patterns.nd)) (fun _ _ _ _ _ => xts_nil) (fun _ _ _ _ _ => (xe_fio 0 C__law_pattern (hr.mono (by decide)) pass_none (pv 0) (xa_lift [1] (da_cons (de_var (pv 1)) da_nil)))))))

set_option maxHeartbeats 4000000 in
theorem ok__law_heads (T : Txt w K mg cm)  {f : Addr} {fd : FuncData} (Fu : Fun K "_law_heads" "_law_heads" s__law_heads f fd) (hm : mg "_law_heads" = some (.ref f)) (hb : Binds K fd ["_law_width"] []) : CallOk P w K mg base "_law_heads" 1 ["_law_width"] (spP cm 1 m__law_heads) :=
  mk_pure (k := 0) Fu sc__law_heads hm hb fun cdv A outer s H E hr =>
      (ds_cons (ds_set 1 sc__law_heads.nd (xe_lift [] (de_lst (da_cons (de_str []) da_nil))))
      (ds_cons (ds_for poB rfl (xi_range1 (by rfl) T.n_range (xa_lift [0] (da_cons (de_var (pv 0)) da_nil))) (xg_name 2 sc__law_heads.nd) (ds_cons (ds_set 3 sc__law_heads.nd (xe_lift [] (de_lst da_nil)))
      (ds_cons (ds_for poB rfl (xi_lift [1] (di_list (de_var (pv 1)))) (xg_name 4 sc__law_heads.nd) (ds_one (ds_set 3 sc__law_heads.nd (xe_lift [3, 4] (de_cat (de_var (pv 3)) (de_fz (de_lst (da_cons (de_addS (de_var (pv 4)) (de_str [48])) (da_cons (de_addS (de_var (pv 4)) (de_str [49])) da_nil)))))))))
      (ds_one (ds_set 1 sc__law_heads.nd (xe_lift [3] (de_var (pv 3))))))))
      (ds_one (ds_ret (xe_lift [1] (de_var (pv 1)))))))

set_option maxHeartbeats 4000000 in
theorem ok__law_fits (T : Txt w K mg cm)  {f : Addr} {fd : FuncData} (Fu : Fun K "_law_fits" "_law_fits" s__law_fits f fd) (hm : mg "_law_fits" = some (.ref f)) (hb : Binds K fd ["_law_pattern_here", "_law_head"] []) : CallOk P w K mg base "_law_fits" 1 ["_law_pattern_here", "_law_head"] (spP cm 2 m__law_fits) :=
  mk_pure (k := 0) Fu sc__law_fits hm hb fun cdv A outer s H E hr =>
      (ds_one (ds_ret (xe_lift [0, 1, 2] (de_eq hr.units (de_fz (de_lc rfl sc__law_fits.nd (di_range1 (by rfl) T.n_range (da_cons (de_len T.hk (by rfl) T.n_len (da_cons (de_var (pv 1)) da_nil)) da_nil)) (blkOk_by (own := [("_law_k", 2)]) (N := N__law_fits) (sc := defScope s__law_fits) (by decide +kernel)) rfl (fun _ _ _ _ _ => (dg_name 2 sc__law_fits.nd)) (fun _ _ _ _ _ => (dts_one (dt_ni hr.units (de_item T.hk (de_var (pv 0)) (de_var (pv 2))) (de_tup (da_cons (de_str [42]) (da_cons (de_item T.hk (de_var (pv 1)) (de_var (pv 2))) da_nil)))))) (fun _ _ _ _ _ => (de_var (pv 2))))) (de_fz (de_lst da_nil))))))

set_option maxHeartbeats 4000000 in
theorem ok__law_of (T : Txt w K mg cm) (C__law_heads : CallOk P w K mg base "_law_heads" 1 ["_law_width"] (spP cm 1 m__law_heads)) (C__law_fits : CallOk P w K mg base "_law_fits" 1 ["_law_pattern_here", "_law_head"] (spP cm 2 m__law_fits)) {f : Addr} {fd : FuncData} (Fu : Fun K "_law_of" "_law_of" s__law_of f fd) (hm : mg "_law_of" = some (.ref f)) (hb : Binds K fd ["_law_width", "_law_patterns_here"] []) : CallOk P w K mg base "_law_of" 2 ["_law_width", "_law_patterns_here"] (spP cm 2 m__law_of) :=
  mk_pure (k := 1) Fu sc__law_of hm hb fun cdv A outer s H E hr =>
      (ds_one (ds_ret (xe_lift [0, 1, 2, 3] (de_lc rfl sc__law_of.nd (di_list (de_fz (de_fn C__law_heads (hr.mono (by decide)) pxB (da_cons (de_var (pv 0)) da_nil)))) (blkOk_by (own := [("_law_head", 2)]) (N := N__law_of) (sc := defScope s__law_of) (by decide +kernel)) rfl (fun _ _ _ _ _ => (dg_name 2 sc__law_of.nd)) (fun _ _ _ _ _ => (dts_one (dt_ne hr.units (de_fz (de_lc rfl sc__law_of.nd (di_list (de_var (pv 1))) (blkOk_by (own := [("_law_one", 3)]) (by kernel_rfl)) rfl (fun _ _ _ _ _ => (dg_name 3 sc__law_of.nd)) (fun _ _ _ _ _ => (dts_one (dt_B (de_fz (de_fn C__law_fits (hr.mono (by decide)) pass_none (da_cons (de_var (pv 3)) (da_cons (de_var (pv 2)) da_nil))))))) (fun _ _ _ _ _ => (de_var (pv 3))))) (de_fz (de_lst da_nil))))) (fun _ _ _ _ _ => (de_var (pv 2)))))))

set_option maxHeartbeats 4000000 in
theorem ok_behind (T : Txt w K mg cm)  {f : Addr} {fd : FuncData} (Fu : Fun K "behind" "behind" s_behind f fd) (hm : mg "behind" = some (.ref f)) (hb : Binds K fd ["noughts", "ones"] []) : CallOk P w K mg base "behind" 1 ["noughts", "ones"] (spP cm 2 m_behind) :=
  mk_pure (k := 0) Fu sc_behind hm hb fun cdv A outer s H E hr =>
      (ds_cons (ds_if (xt_lift [0, 1] (dt_eq hr.units (de_var (pv 0)) (de_var (pv 1)))) (ds_one (ds_ret (xe_lift [0, 2] (de_lc rfl sc_behind.nd (di_list (de_var (pv 0))) (blkOk_by (own := [("pattern", 2)]) (N := N_behind) (sc := defScope s_behind) (by decide +kernel)) rfl (fun _ _ _ _ _ => (dg_name 2 sc_behind.nd)) (fun _ _ _ _ _ => dts_nil) (fun _ _ _ _ _ => (de_addS (de_globS T.c_STAR) (de_var (pv 2)))))))) ds_nil)
      (ds_one (ds_ret (xe_lift [0, 1, 2] (de_cat (de_fz (de_lc rfl sc_behind.nd (di_list (de_var (pv 0))) (blkOk_by (own := [("pattern", 2)]) (N := N_behind) (sc := defScope s_behind) (by decide +kernel)) rfl (fun _ _ _ _ _ => (dg_name 2 sc_behind.nd)) (fun _ _ _ _ _ => dts_nil) (fun _ _ _ _ _ => (de_addS (de_str [48]) (de_var (pv 2)))))) (de_fz (de_lc rfl sc_behind.nd (di_list (de_var (pv 1))) (blkOk_by (own := [("pattern", 2)]) (N := N_behind) (sc := defScope s_behind) (by decide +kernel)) rfl (fun _ _ _ _ _ => (dg_name 2 sc_behind.nd)) (fun _ _ _ _ _ => dts_nil) (fun _ _ _ _ _ => (de_addS (de_str [49]) (de_var (pv 2)))))))))))

set_option maxHeartbeats 4000000 in
theorem ok_rests (T : Txt w K mg cm)  {f : Addr} {fd : FuncData} (Fu : Fun K "rests" "rests" s_rests f fd) (hm : mg "rests" = some (.ref f)) (hb : Binds K fd ["patterns", "sign"] []) : CallOk P w K mg base "rests" 1 ["patterns", "sign"] (spP cm 2 m_rests) :=
  mk_pure (k := 0) Fu sc_rests hm hb fun cdv A outer s H E hr =>
      (ds_one (ds_ret (xe_lift [0, 1, 2] (de_lc rfl sc_rests.nd (di_list (de_var (pv 0))) (blkOk_by (own := [("pattern", 2)]) (N := N_rests) (sc := defScope s_rests) (by decide +kernel)) rfl (fun _ _ _ _ _ => (dg_name 2 sc_rests.nd)) (fun _ _ _ _ _ => (dts_one (dt_in hr.units (de_item T.hk (de_var (pv 2)) de_int) (de_tup (da_cons (de_var (pv 1)) (da_cons (de_globS T.c_STAR) da_nil)))))) (fun _ _ _ _ _ => (de_slS (de_var (pv 2)) (do_some de_int) do_none))))))

set_option maxHeartbeats 4000000 in
theorem okr_told_patterns (T : Txt w K mg cm) (C_behind : CallOk P w K mg base "behind" 1 ["noughts", "ones"] (spP cm 2 m_behind)) (C_rests : CallOk P w K mg base "rests" 1 ["patterns", "sign"] (spP cm 2 m_rests)) {f : Addr} {fd : FuncData} (Fu : Fun K "told_patterns" "told_patterns" s_told_patterns f fd) (hm : mg "told_patterns" = some (.ref f)) (hb : Binds K fd ["width", "patterns"] []) : ∀ n : Nat, CallOk P w K mg base "told_patterns" (2 + n) ["width", "patterns"] (spP cm 2 (r_told_patterns n))
  | 0 => call_bad rfl hm Fu.kp hb
  | n + 1 => by
    have C_told_patterns := okr_told_patterns T C_behind C_rests Fu hm hb n
    exact mk_pure (k := 2 + n) Fu sc_told_patterns hm hb fun cdv A outer s H E hr =>
      (ds_cons (ds_if (xt_lift [0, 1] (DW.dt (dw_or (dt_eq hr.units (de_var (pv 1)) (de_fz (de_lst da_nil))) (dw_or1 (dt_in hr.units (de_mulS (de_globS T.c_STAR) (de_var (pv 0))) (de_var (pv 1))))))) (ds_one (ds_ret (xe_lift [0, 1] (de_sl (de_fz (de_lst (da_cons (de_mulS (de_globS T.c_STAR) (de_var (pv 0))) da_nil))) do_none (do_some (de_len T.hk (by rfl) T.n_len (da_cons (de_var (pv 1)) da_nil))))))) ds_nil)
      (ds_cons (ds_par 4 5 rfl sc_told_patterns.nd (xa_lift [1] (da_cons (de_fn C_rests (hr.mono (by omega)) pxB (da_cons (de_var (pv 1)) (da_cons (de_str [48]) da_nil))) (da_cons (de_fn C_rests (hr.mono (by omega)) pxB (da_cons (de_var (pv 1)) (da_cons (de_str [49]) da_nil))) da_nil))))
      (ds_cons (ds_set 2 sc_told_patterns.nd (xe_lift [0, 4] (de_fn C_told_patterns hr pxB (da_cons (de_subI (de_var (pv 0)) de_int) (da_cons (de_var (pv 4)) da_nil)))))
      (ds_cons (ds_set 3 sc_told_patterns.nd (xe_lift [0, 2, 4, 5] (de_if (dt_eq hr.units (de_var (pv 5)) (de_var (pv 4))) (de_var (pv 2)) (de_fn C_told_patterns hr pxB (da_cons (de_subI (de_var (pv 0)) de_int) (da_cons (de_var (pv 5)) da_nil))))))
      (ds_one (ds_ret (xe_lift [2, 3] (de_fn C_behind (hr.mono (by omega)) pxB (da_cons (de_var (pv 2)) (da_cons (de_var (pv 3)) da_nil))))))))))
theorem ok_told_patterns (T : Txt w K mg cm) (C_behind : CallOk P w K mg base "behind" 1 ["noughts", "ones"] (spP cm 2 m_behind)) (C_rests : CallOk P w K mg base "rests" 1 ["patterns", "sign"] (spP cm 2 m_rests)) {f : Addr} {fd : FuncData} (Fu : Fun K "told_patterns" "told_patterns" s_told_patterns f fd) (hm : mg "told_patterns" = some (.ref f)) (hb : Binds K fd ["width", "patterns"] []) : CallOk P w K mg base "told_patterns" 22 ["width", "patterns"] (spP cm 2 m_told_patterns) := okr_told_patterns T C_behind C_rests Fu hm hb 20

set_option maxHeartbeats 4000000 in
theorem ok_is_whole (T : Txt w K mg cm)  {f : Addr} {fd : FuncData} (Fu : Fun K "is_whole" "is_whole" s_is_whole f fd) (hm : mg "is_whole" = some (.ref f)) (hb : Binds K fd ["thing"] []) : CallOk P w K mg base "is_whole" 1 ["thing"] (spP cm 1 m_is_whole) :=
  mk_pure (k := 0) Fu sc_is_whole hm hb fun cdv A outer s H E hr =>
      (ds_one (ds_ret (xe_lift [0] (de_and (de_isi .int T.hk T.hC (by rfl) T.n_isinstance (by rfl) T.n_int (de_var (pv 0))) (de_one (de_not (de_isi .bool T.hk T.hC (by rfl) T.n_isinstance (by rfl) T.n_bool (de_var (pv 0)))))))))

set_option maxHeartbeats 4000000 in
theorem ok_is_width (T : Txt w K mg cm) (C_is_whole : CallOk P w K mg base "is_whole" 1 ["thing"] (spP cm 1 m_is_whole)) {f : Addr} {fd : FuncData} (Fu : Fun K "is_width" "is_width" s_is_width f fd) (hm : mg "is_width" = some (.ref f)) (hb : Binds K fd ["thing"] []) : CallOk P w K mg base "is_width" 2 ["thing"] (spP cm 1 m_is_width) :=
  mk_pure (k := 1) Fu sc_is_width hm hb fun cdv A outer s H E hr =>
      (ds_one (ds_ret (xe_lift [0] (de_and (de_fz (de_fn C_is_whole (hr.mono (by decide)) pxB (da_cons (de_var (pv 0)) da_nil))) (de_one (de_lele de_int (de_var (pv 0)) (de_globI T.c_MOST_WIDTH)))))))

set_option maxHeartbeats 4000000 in
theorem ok_is_of (T : Txt w K mg cm)  {f : Addr} {fd : FuncData} (Fu : Fun K "is_of" "is_of" s_is_of f fd) (hm : mg "is_of" = some (.ref f)) (hb : Binds K fd ["thing", "width", "signs"] []) : CallOk P w K mg base "is_of" 1 ["thing", "width", "signs"] (spP cm 3 m_is_of) :=
  mk_pure (k := 0) Fu sc_is_of hm hb fun cdv A outer s H E hr =>
      (ds_one (ds_ret (xe_lift [0, 1, 2, 3] (de_and (de_isi .str T.hk T.hC (by rfl) T.n_isinstance (by rfl) T.n_str (de_var (pv 0))) (de_and (de_eq hr.units (de_len T.hk (by rfl) T.n_len (da_cons (de_var (pv 0)) da_nil)) (de_var (pv 1))) (de_one (de_all rfl (by rfl) T.n_all (da_cons (de_fz (de_lc rfl sc_is_of.nd (di_str (de_var (pv 0))) (blkOk_by (own := [("sign", 3)]) (N := N_is_of) (sc := defScope s_is_of) (by decide +kernel)) rfl (fun _ _ _ _ _ => (dg_name 3 sc_is_of.nd)) (fun _ _ _ _ _ => dts_nil) (fun _ _ _ _ _ => (de_in hr.units (de_var (pv 3)) (de_var (pv 2)))))) da_nil))))))))

set_option maxHeartbeats 4000000 in
theorem ok_is_pattern (T : Txt w K mg cm) (C_is_of : CallOk P w K mg base "is_of" 1 ["thing", "width", "signs"] (spP cm 3 m_is_of)) {f : Addr} {fd : FuncData} (Fu : Fun K "is_pattern" "is_pattern" s_is_pattern f fd) (hm : mg "is_pattern" = some (.ref f)) (hb : Binds K fd ["thing", "width"] []) : CallOk P w K mg base "is_pattern" 2 ["thing", "width"] (spP cm 2 m_is_pattern) :=
  mk_pure (k := 1) Fu sc_is_pattern hm hb fun cdv A outer s H E hr =>
      (ds_one (ds_ret (xe_lift [0, 1] (de_fn C_is_of (hr.mono (by decide)) pxB (da_cons (de_var (pv 0)) (da_cons (de_var (pv 1)) (da_cons (de_str [48, 49, 42]) da_nil)))))))

set_option maxHeartbeats 4000000 in
theorem fn_Heads___init__ (T : Txt w K mg cm) (C_told_patterns : CallOk P w K mg base "told_patterns" 22 ["width", "patterns"] (spP cm 2 m_told_patterns)) (C_is_width : CallOk P w K mg base "is_width" 2 ["thing"] (spP cm 1 m_is_width)) (C_is_pattern : CallOk P w K mg base "is_pattern" 2 ["thing", "width"] (spP cm 2 m_is_pattern)) {f : Addr} {fd : FuncData} (Fu : FunE K "__init__" "Heads.__init__" s_Heads___init__ [V.int 16, V.non] f fd) : FnG P w K mg base 23 f fd ["self", "width", "patterns"] (spX cm 3 m_Heads___init__) :=
  fn_ioE (k := 22) Fu sc_Heads___init__ fun cdv A outer s H E hr =>
      (ds_cons (ds_if (xt_lift [1] (dt_not (dt_B (de_fz (de_fn C_is_width (hr.mono (by decide)) pxB (da_cons (de_var (pv 1)) da_nil)))))) (ds_one ds_never) ds_nil)
      (ds_cons (ds_set 3 sc_Heads___init__.nd (xe_lift [2] (de_if (dt_is (de_var (pv 2)) de_non) (de_lst da_nil) (de_var (pv 2)))))
      (ds_cons (ds_if (xt_lift [3] (dt_not (dt_B (de_isi .list T.hk T.hC (by rfl) T.n_isinstance (by rfl) T.n_list (de_var (pv 3)))))) (ds_one ds_never) ds_nil)
      (ds_cons (ds_for poB rfl (xi_lift [3] (di_enum T.hk (by rfl) T.n_enumerate (da_cons (de_var (pv 3)) da_nil))) (xg_tup rfl (xgs_cons (xg_name 4 sc_Heads___init__.nd) (xgs_cons (xg_name 5 sc_Heads___init__.nd) xgs_nil))) (ds_one (ds_if (xt_lift [1, 5] (dt_not (dt_B (de_fz (de_fn C_is_pattern (hr.mono (by decide)) pxB (da_cons (de_var (pv 5)) (da_cons (de_var (pv 1)) da_nil))))))) (ds_one ds_never) ds_nil)))
      (ds_cons (ds_fld 0 (cl := "Heads") T.hk T.hC T.na_Heads_own_width (pv 0) (xe_lift [1] (de_var (pv 1))))
      (ds_one (ds_fld 0 (cl := "Heads") T.hk T.hC T.na_Heads_told (pv 0) (xe_lift [1, 3] (de_fn C_told_patterns (hr.mono (by decide)) pxB (da_cons (de_var (pv 1)) (da_cons (de_var (pv 3)) da_nil)))))))))))

set_option maxHeartbeats 4000000 in
theorem ok__law_kind (T : Txt w K mg cm) {f : Addr} {fd : FuncData} (Fu : Fun K "_law_kind" "_law_kind" s__law_kind f fd) (hm : mg "_law_kind" = some (.ref f)) (hb : Binds K fd ["_law_call"] []) : KindOk P w K mg base cm "_law_kind" 1 m__law_kind :=
  mk_kind2 (kk := 0) (i := 2) T.hk Fu sc__law_kind hm hb rfl
      (.cons rfl T.g_NoNumber (tab_cons T.em_NoNumber_NoNumber (tab_cons T.em_NoHead_NoNumber tab_nil)) (by decide)
      (fun cdv A outer s H E a pn hr => (ds_cons (ds_set 1 sc__law_kind.nd (xe_lift [2] (de_lst (da_cons (de_str [110, 117, 109, 98, 101, 114]) (da_cons (de_xf (n := "number") (kit := kitL ["NoNumber"]) (kitL_cons ⟨T.xf_NoNumber, T.na_NoNumber_number⟩ kitL_nil) (de_var (pv 2))) da_nil)))))
      (ds_one (ds_if (xt_lift [2] (DW.dt (dw_or (dt_not (dt_B (de_isXb (kit := (tab [("NoNumber", true), ("NoHead", false)])) (by rfl) T.n_isinstance (by rfl) T.n_IndexError rfl (tab_cons ⟨T.ec_NoNumber, T.ki_NoNumber_IndexError⟩ (tab_cons ⟨T.ec_NoHead, T.ki_NoHead_IndexError⟩ tab_nil)) (de_var (pv 2))))) (dw_or1 (dt_B (de_isX (kit := (tab [("NoNumber", false), ("NoHead", true)])) (by rfl) T.n_isinstance (by rfl) T.g_HeadError (tab_cons ⟨T.ec_NoNumber, T.ki_NoNumber_HeadError⟩ (tab_cons ⟨T.ec_NoHead, T.ki_NoHead_HeadError⟩ tab_nil)) (de_var (pv 2)))))))) (ds_one (ds_set 1 sc__law_kind.nd (xe_lift [] (de_lst (da_cons (de_str [111, 116, 104, 101, 114]) da_nil))))) ds_nil)))) (.cons rfl T.g_NoHead (tab_cons T.em_NoNumber_NoHead (tab_cons T.em_NoHead_NoHead tab_nil)) (by decide)
      (fun cdv A outer s H E a pn hr => (ds_cons (ds_set 1 sc__law_kind.nd (xe_lift [] (de_lst (da_cons (de_str [104, 101, 97, 100]) da_nil))))
      (ds_one (ds_if (xt_lift [2] (DW.dt (dw_or (dt_not (dt_B (de_isXb (kit := (tab [("NoNumber", false), ("NoHead", true)])) (by rfl) T.n_isinstance (by rfl) T.n_ValueError rfl (tab_cons ⟨T.ec_NoNumber, T.ki_NoNumber_ValueError⟩ (tab_cons ⟨T.ec_NoHead, T.ki_NoHead_ValueError⟩ tab_nil)) (de_var (pv 2))))) (dw_or1 (dt_B (de_isXT (kit := (tab [("NoNumber", false), ("NoHead", false)])) (by rfl) T.n_isinstance (.own (by rfl) T.g_NoPattern (by decide) (.own (by rfl) T.g_NoPatterns (by decide) .nil rfl) rfl) (Nat.le_of_ble_eq_true rfl) (tab_cons ⟨T.ec_NoNumber, T.ka_NoNumber_NoPattern_NoPatterns⟩ (tab_cons ⟨T.ec_NoHead, T.ka_NoHead_NoPattern_NoPatterns⟩ tab_nil)) (de_var (pv 2)))))))) (ds_one (ds_set 1 sc__law_kind.nd (xe_lift [] (de_lst (da_cons (de_str [111, 116, 104, 101, 114]) da_nil))))) ds_nil)))) .nil))
      (fun cdv A outer s H E hr => (ds_set 1 sc__law_kind.nd (xe_lift [] de_non)))
      (fun cdv A outer s H E hr => (ds_one (ds_ret (xe_lift [1] (de_var (pv 1))))))

set_option maxHeartbeats 4000000 in
theorem ok_many_of (T : Txt w K mg cm)  {f : Addr} {fd : FuncData} (Fu : Fun K "many_of" "many_of" s_many_of f fd) (hm : mg "many_of" = some (.ref f)) (hb : Binds K fd ["pattern"] []) : CallOk P w K mg base "many_of" 1 ["pattern"] (spP cm 1 m_many_of) :=
  mk_pure (k := 0) Fu sc_many_of hm hb fun cdv A outer s H E hr =>
      (ds_one (ds_ret (xe_lift [0] (de_shlI de_int (de_cnt (de_var (pv 0)) (de_globS T.c_STAR))))))

set_option maxHeartbeats 4000000 in
theorem ok_fits (T : Txt w K mg cm)  {f : Addr} {fd : FuncData} (Fu : Fun K "fits" "fits" s_fits f fd) (hm : mg "fits" = some (.ref f)) (hb : Binds K fd ["pattern", "head"] []) : CallOk P w K mg base "fits" 1 ["pattern", "head"] (spP cm 2 m_fits) :=
  mk_pure (k := 0) Fu sc_fits hm hb fun cdv A outer s H E hr =>
      (ds_one (ds_ret (xe_lift [0, 1, 2, 3] (de_all rfl (by rfl) T.n_all (da_cons (de_fz (de_lc rfl sc_fits.nd (di_zip T.hk (by rfl) T.n_zip (da_cons (de_var (pv 0)) (da_cons (de_var (pv 1)) da_nil))) (blkOk_by (own := [("one", 2), ("sign", 3)]) (N := N_fits) (sc := defScope s_fits) (by decide +kernel)) rfl (fun _ _ _ _ _ => (dg_tup rfl (dgs_cons (dg_name 2 sc_fits.nd) (dgs_cons (dg_name 3 sc_fits.nd) dgs_nil)))) (fun _ _ _ _ _ => dts_nil) (fun _ _ _ _ _ => (de_or (de_eq hr.units (de_var (pv 2)) (de_globS T.c_STAR)) (de_one (de_eq hr.units (de_var (pv 2)) (de_var (pv 3)))))))) da_nil)))))

set_option maxHeartbeats 4000000 in
theorem fn_Heads_first_below (T : Txt w K mg cm) (C_many_of : CallOk P w K mg base "many_of" 1 ["pattern"] (spP cm 1 m_many_of)) (C_fits : CallOk P w K mg base "fits" 1 ["pattern", "head"] (spP cm 2 m_fits)) {f : Addr} {fd : FuncData} (Fu : FunE K "first_below" "Heads.first_below" s_Heads_first_below [] f fd) : FnG P w K mg base 2 f fd ["self", "beginning"] (spP cm 2 m_Heads_first_below) :=
  fn_pureE (k := 1) Fu sc_Heads_first_below fun cdv A outer s H E hr =>
      (ds_cons (ds_set 2 sc_Heads_first_below.nd (xe_lift [1] (de_len T.hk (by rfl) T.n_len (da_cons (de_var (pv 1)) da_nil))))
      (ds_one (ds_ret (xe_lift [0, 1, 2, 3] (de_sum rfl (by rfl) T.n_sum (da_cons (de_fz (de_lc rfl sc_Heads_first_below.nd (di_list (de_fld (cl := "Heads") T.hk T.hC T.na_Heads_told (de_var (pv 0)))) (blkOk_by (own := [("one", 3)]) (N := N_Heads_first_below) (sc := defScope s_Heads_first_below) (by decide +kernel)) rfl (fun _ _ _ _ _ => (dg_name 3 sc_Heads_first_below.nd)) (fun _ _ _ _ _ => (dts_one (dt_B (de_fz (de_fn C_fits (hr.mono (by decide)) pass_none (da_cons (de_slS (de_var (pv 3)) do_none (do_some (de_var (pv 2)))) (da_cons (de_var (pv 1)) da_nil))))))) (fun _ _ _ _ _ => (de_fn C_many_of (hr.mono (by decide)) pass_none (da_cons (de_slS (de_var (pv 3)) (do_some (de_var (pv 2))) do_none) da_nil))))) da_nil))))))

set_option maxHeartbeats 4000000 in
theorem fn_Heads_how_many (T : Txt w K mg cm) (C_many_of : CallOk P w K mg base "many_of" 1 ["pattern"] (spP cm 1 m_many_of)) {f : Addr} {fd : FuncData} (Fu : FunE K "how_many" "Heads.how_many" s_Heads_how_many [] f fd) : FnG P w K mg base 2 f fd ["self"] (spP cm 1 m_Heads_how_many) :=
  fn_pureE (k := 1) Fu sc_Heads_how_many fun cdv A outer s H E hr =>
      (ds_one (ds_ret (xe_lift [0, 1] (de_sum rfl (by rfl) T.n_sum (da_cons (de_fz (de_lc rfl sc_Heads_how_many.nd (di_list (de_fld (cl := "Heads") T.hk T.hC T.na_Heads_told (de_var (pv 0)))) (blkOk_by (own := [("pattern", 1)]) (N := N_Heads_how_many) (sc := defScope s_Heads_how_many) (by decide +kernel)) rfl (fun _ _ _ _ _ => (dg_name 1 sc_Heads_how_many.nd)) (fun _ _ _ _ _ => dts_nil) (fun _ _ _ _ _ => (de_fn C_many_of (hr.mono (by decide)) pass_none (da_cons (de_var (pv 1)) da_nil))))) da_nil)))))

set_option maxHeartbeats 4000000 in
theorem fn_Heads___len__ (T : Txt w K mg cm) (C_Heads_how_many : MethOk P w K mg base cm "Heads" "how_many" 2 ["self"] [] (spP cm 1 m_Heads_how_many)) {f : Addr} {fd : FuncData} (Fu : FunE K "__len__" "Heads.__len__" s_Heads___len__ [] f fd) : FnG P w K mg base 6 f fd ["self"] (spP cm 1 m_Heads___len__) :=
  fn_pureE (k := 5) Fu sc_Heads___len__ fun cdv A outer s H E hr =>
      (ds_one (ds_ret (xe_lift [0] (de_lenR (by rfl) T.n_len (by rfl) T.n_range (de_fz (de_meth0 T.hk T.hC T.ok_Heads C_Heads_how_many (hr.mono (by decide)) pxB (de_var (pv 0))))))))

set_option maxHeartbeats 4000000 in
theorem fn_Heads_head_at (T : Txt w K mg cm) (X_NoNumber : ExcJ P w K mg base cm "NoNumber" "number") (C_Heads_first_below : MethOk P w K mg base cm "Heads" "first_below" 2 ["self", "beginning"] [] (spP cm 2 m_Heads_first_below)) (C_is_whole : CallOk P w K mg base "is_whole" 1 ["thing"] (spP cm 1 m_is_whole)) (C_Heads___len__ : MethOk P w K mg base cm "Heads" "__len__" 6 ["self"] [] (spP cm 1 m_Heads___len__)) {f : Addr} {fd : FuncData} (Fu : FunE K "head_at" "Heads.head_at" s_Heads_head_at [V.int 0] f fd) : FnG P w K mg base 10 f fd ["self", "number"] (spP cm 2 m_Heads_head_at) :=
  fn_pureE (k := 9) Fu sc_Heads_head_at fun cdv A outer s H E hr =>
      (ds_cons (ds_if (xt_lift [0, 1] (DW.dt (dw_or (dt_not (dt_B (de_fz (de_fn C_is_whole (hr.mono (by decide)) pxB (da_cons (de_var (pv 1)) da_nil))))) (dw_or1 (dt_not (dt_lelt de_int (de_var (pv 1)) (de_lenO C_Heads___len__.spec (hr.mono (by decide)) (by rfl) T.n_len (da_cons (de_var (pv 0)) da_nil)))))))) (ds_one (ds_raiseJ rfl txB X_NoNumber (hr.mono (by decide)).rm (xa_lift [1] (da_cons (de_var (pv 1)) da_nil)))) ds_nil)
      (ds_cons (ds_set 2 sc_Heads_head_at.nd (xe_lift [] (de_str [])))
      (ds_cons (ds_set 3 sc_Heads_head_at.nd (xe_lift [1] (de_var (pv 1))))
      (ds_cons (ds_while 100000 poB (xt_lift [0, 2] (dt_lt (de_len T.hk (by rfl) T.n_len (da_cons (de_var (pv 2)) da_nil)) (de_fld (cl := "Heads") T.hk T.hC T.na_Heads_own_width (de_var (pv 0))))) (ds_cons (ds_set 4 sc_Heads_head_at.nd (xe_lift [0, 2] (de_meth T.hk T.hC T.ok_Heads C_Heads_first_below (hr.mono (by decide)) pxB (de_var (pv 0)) (da_cons (de_addS (de_var (pv 2)) (de_str [48])) da_nil))))
      (ds_one (ds_if (xt_lift [3, 4] (dt_lt (de_var (pv 3)) (de_var (pv 4)))) (ds_one (ds_aug 2 sc_Heads_head_at.nd in_addS o_addS noEx_addS (xe_lift [] (de_str [48])))) (ds_cons (ds_aug 3 sc_Heads_head_at.nd in_sub o_I0 noEx_I0 (xe_lift [4] (de_var (pv 4))))
      (ds_one (ds_aug 2 sc_Heads_head_at.nd in_addS o_addS noEx_addS (xe_lift [] (de_str [49])))))))))
      (ds_one (ds_ret (xe_lift [2] (de_var (pv 2)))))))))

set_option maxHeartbeats 4000000 in
theorem ok_is_head (T : Txt w K mg cm) (C_is_of : CallOk P w K mg base "is_of" 1 ["thing", "width", "signs"] (spP cm 3 m_is_of)) {f : Addr} {fd : FuncData} (Fu : Fun K "is_head" "is_head" s_is_head f fd) (hm : mg "is_head" = some (.ref f)) (hb : Binds K fd ["thing", "width"] []) : CallOk P w K mg base "is_head" 2 ["thing", "width"] (spP cm 2 m_is_head) :=
  mk_pure (k := 1) Fu sc_is_head hm hb fun cdv A outer s H E hr =>
      (ds_one (ds_ret (xe_lift [0, 1] (de_fn C_is_of (hr.mono (by decide)) pxB (da_cons (de_var (pv 0)) (da_cons (de_var (pv 1)) (da_cons (de_str [48, 49]) da_nil)))))))

set_option maxHeartbeats 4000000 in
theorem fn_Heads_holds (T : Txt w K mg cm) (C_is_head : CallOk P w K mg base "is_head" 2 ["thing", "width"] (spP cm 2 m_is_head)) (C_fits : CallOk P w K mg base "fits" 1 ["pattern", "head"] (spP cm 2 m_fits)) {f : Addr} {fd : FuncData} (Fu : FunE K "holds" "Heads.holds" s_Heads_holds [] f fd) : FnG P w K mg base 3 f fd ["self", "head"] (spP cm 2 m_Heads_holds) :=
  fn_pureE (k := 2) Fu sc_Heads_holds fun cdv A outer s H E hr =>
      (ds_cons (ds_if (xt_lift [0, 1] (dt_not (dt_B (de_fz (de_fn C_is_head (hr.mono (by decide)) pxB (da_cons (de_var (pv 1)) (da_cons (de_fld (cl := "Heads") T.hk T.hC T.na_Heads_own_width (de_var (pv 0))) da_nil))))))) (ds_one (ds_raise rfl txB T.x_NoHead)) ds_nil)
      (ds_one (ds_ret (xe_lift [0, 1, 2] (de_any rfl (by rfl) T.n_any (da_cons (de_fz (de_lc rfl sc_Heads_holds.nd (di_list (de_fld (cl := "Heads") T.hk T.hC T.na_Heads_told (de_var (pv 0)))) (blkOk_by (own := [("pattern", 2)]) (N := N_Heads_holds) (sc := defScope s_Heads_holds) (by decide +kernel)) rfl (fun _ _ _ _ _ => (dg_name 2 sc_Heads_holds.nd)) (fun _ _ _ _ _ => dts_nil) (fun _ _ _ _ _ => (de_fn C_fits (hr.mono (by decide)) pass_none (da_cons (de_var (pv 2)) (da_cons (de_var (pv 1)) da_nil)))))) da_nil))))))

set_option maxHeartbeats 4000000 in
theorem fn_Heads_number_of (T : Txt w K mg cm) (C_Heads_holds : MethOk P w K mg base cm "Heads" "holds" 3 ["self", "head"] [] (spP cm 2 m_Heads_holds)) (C_Heads_first_below : MethOk P w K mg base cm "Heads" "first_below" 2 ["self", "beginning"] [] (spP cm 2 m_Heads_first_below)) {f : Addr} {fd : FuncData} (Fu : FunE K "number_of" "Heads.number_of" s_Heads_number_of [] f fd) : FnG P w K mg base 7 f fd ["self", "head"] (spP cm 2 m_Heads_number_of) :=
  fn_pureE (k := 6) Fu sc_Heads_number_of fun cdv A outer s H E hr =>
      (ds_cons (ds_if (xt_lift [0, 1] (dt_not (dt_B (de_fz (de_meth T.hk T.hC T.ok_Heads C_Heads_holds (hr.mono (by decide)) pxB (de_var (pv 0)) (da_cons (de_var (pv 1)) da_nil)))))) (ds_one (ds_raise rfl txB T.x_NoHead)) ds_nil)
      (ds_cons (ds_setLcP 2 [0, 1, 3, 4] rfl sc_Heads_number_of.nd (di_enum T.hk (by rfl) T.n_enumerate (da_cons (de_var (pv 1)) da_nil)) (blkOk_by (own := [("at", 3), ("sign", 4)]) (N := N_Heads_number_of) (sc := defScope s_Heads_number_of) (by decide +kernel)) rfl (fun _ _ _ _ _ => (dg_tup rfl (dgs_cons (dg_name 3 sc_Heads_number_of.nd) (dgs_cons (dg_name 4 sc_Heads_number_of.nd) dgs_nil)))) (fun _ _ _ _ _ => (dts_one (dt_eq hr.units (de_var (pv 4)) (de_str [49])))) (fun _ _ _ _ _ => (de_meth T.hk T.hC T.ok_Heads C_Heads_first_below (hr.mono (by decide)) pass_none (de_var (pv 0)) (da_cons (de_addS (de_slS (de_var (pv 1)) do_none (do_some (de_var (pv 3)))) (de_str [48])) da_nil))) (sw_true rfl rfl rfl (by decide +kernel)))
      (ds_one (ds_ret (xe_lift [2] (de_sumS rfl (by rfl) T.n_sum (de_var (pv 2))))))))

set_option maxHeartbeats 4000000 in
theorem ok__law_small (T : Txt w K mg cm) (C__law_patterns : CallOk P w K mg base "_law_patterns" 4 ["_law_pool_here", "_law_width"] (spX cm 2 m__law_patterns)) (C__law_of : CallOk P w K mg base "_law_of" 2 ["_law_width", "_law_patterns_here"] (spP cm 2 m__law_of)) (C_Heads___init__ : MakeOk P w K mg base cm "Heads" 23 ["self", "width", "patterns"] [] (spX cm 3 m_Heads___init__)) (C__law_take : CallOk P w K mg base "_law_take" 1 ["_law_pool_here", "_law_many"] (spX cm 2 m__law_take)) (C__law_kind : KindOk P w K mg base cm "_law_kind" 1 m__law_kind) (C_Heads_head_at_d1 : MethOk P w K mg base cm "Heads" "head_at" 10 ["self", "number"] [.int 0] (spP cm 2 m_Heads_head_at)) (C_Heads_head_at : MethOk P w K mg base cm "Heads" "head_at" 10 ["self", "number"] [] (spP cm 2 m_Heads_head_at)) (C_Heads_number_of : MethOk P w K mg base cm "Heads" "number_of" 7 ["self", "head"] [] (spP cm 2 m_Heads_number_of)) (C__law_heads : CallOk P w K mg base "_law_heads" 1 ["_law_width"] (spP cm 1 m__law_heads)) (C_Heads_holds : MethOk P w K mg base cm "Heads" "holds" 3 ["self", "head"] [] (spP cm 2 m_Heads_holds)) {f : Addr} {fd : FuncData} (Fu : Fun K "_law_small" "_law_small" s__law_small f fd) (B : LamB mg base fd.code ("_law_small" ++ ".<locals>." ++ "<lambda>")) (hm : mg "_law_small" = some (.ref f)) (hb : Binds K fd ["_law_pool_here"] []) : CallOk P w K mg base "_law_small" 29 ["_law_pool_here"] (spX cm 1 m__law_small) :=
  mk_ioL (k := 28) Fu sc__law_small B hm hb fun cdv A outer s H E B hr =>
      (ds_cons (ds_set 1 sc__law_small.nd (xe_op op_add o_I0 noEx_I0 (xe_lift [] de_int) (xe_fio 0 C__law_take (hr.mono (by decide)) pxB (pv 0) (xa_lift [] (da_cons de_int da_nil)))))
      (ds_cons (ds_set 2 sc__law_small.nd (xe_fio 0 C__law_patterns (hr.mono (by decide)) pxB (pv 0) (xa_lift [1] (da_cons (de_var (pv 1)) da_nil))))
      (ds_cons (ds_set 3 sc__law_small.nd (xe_lift [1, 2] (de_fn C__law_of (hr.mono (by decide)) pxB (da_cons (de_var (pv 1)) (da_cons (de_var (pv 2)) da_nil)))))
      (ds_cons (ds_set 4 sc__law_small.nd (xe_lift [1, 2] (de_make T.ok_Heads C_Heads___init__ (hr.mono (by decide)) pxB (da_cons (de_var (pv 1)) (da_cons (de_var (pv 2)) da_nil)))))
      (ds_cons (ds_for poB rfl (xi_lift [3] (di_enum T.hk (by rfl) T.n_enumerate (da_cons (de_var (pv 3)) da_nil))) (xg_tup rfl (xgs_cons (xg_name 7 sc__law_small.nd) (xgs_cons (xg_name 8 sc__law_small.nd) xgs_nil))) (ds_one (ds_if (xt_lift [4, 7, 8] (DW.dt (dw_or (dt_ne hr.units (de_fz (de_meth T.hk T.hC T.ok_Heads C_Heads_head_at (hr.mono (by decide)) pxB (de_var (pv 4)) (da_cons (de_var (pv 7)) da_nil))) (de_var (pv 8))) (dw_or1 (dt_ne hr.units (de_fz (de_meth T.hk T.hC T.ok_Heads C_Heads_number_of (hr.mono (by decide)) pxB (de_var (pv 4)) (da_cons (de_var (pv 8)) da_nil))) (de_var (pv 7))))))) (ds_one (ds_ret (xe_lift [] de_bl))) ds_nil)))
      (ds_cons (ds_for poB rfl (xi_lift [3] (di_list (de_fz (de_lst (da_cons (de_len T.hk (by rfl) T.n_len (da_cons (de_var (pv 3)) da_nil)) (da_cons (de_neg de_int) (da_cons de_bl (da_cons de_non (da_cons (de_str [48]) (da_cons (de_lst (da_cons de_int da_nil)) (da_cons (de_powI de_int de_int) da_nil))))))))))) (xg_name 5 sc__law_small.nd) (ds_one (ds_if (xt_lift [4, 5] (dt_ne hr.units (de_repr hr.gd hr.units (by rfl) T.n_repr (da_cons (de_fz (de_lam 26 C__law_kind (hr.mono (by decide)) B pxB (LamX.lamS_by (by kernel_rfl)) (fun A outer s H E' f d hr => (de_meth T.hk T.hC T.ok_Heads C_Heads_head_at (hr.mono (by decide)) pxL (de_var (pv 4)) (da_cons (de_var (pv 5)) da_nil))))) da_nil)) (de_repr hr.gd hr.units (by rfl) T.n_repr (da_cons (de_fz (de_lst (da_cons (de_str [110, 117, 109, 98, 101, 114]) (da_cons (de_var (pv 5)) da_nil)))) da_nil)))) (ds_one (ds_ret (xe_lift [] de_bl))) ds_nil)))
      (ds_cons (ds_set 6 sc__law_small.nd (xe_lift [1, 3, 8] (de_sl (de_fz (de_lc rfl sc__law_small.nd (di_list (de_fz (de_fn C__law_heads (hr.mono (by decide)) pxB (da_cons (de_var (pv 1)) da_nil)))) (blkOk_by (own := [("_law_head", 8)]) (N := N__law_small) (sc := defScope s__law_small) (by decide +kernel)) rfl (fun _ _ _ _ _ => (dg_name 8 sc__law_small.nd)) (fun _ _ _ _ _ => (dts_one (dt_ni hr.units (de_var (pv 8)) (de_var (pv 3))))) (fun _ _ _ _ _ => (de_var (pv 8))))) do_none (do_some de_int))))
      (ds_cons (ds_for poB rfl (xi_lift [1, 6] (di_list (de_fz (de_cat (de_var (pv 6)) (de_fz (de_lst (da_cons de_non (da_cons de_int (da_cons (de_str []) (da_cons (de_mulS (de_str [48]) (de_addI (de_var (pv 1)) de_int)) (da_cons (de_mulS (de_str [42]) (de_var (pv 1))) (da_cons (de_mulL (de_fz (de_lst (da_cons (de_str [48]) da_nil))) (de_var (pv 1))) (da_cons (de_mulS (de_str [50]) (de_var (pv 1))) da_nil))))))))))))) (xg_name 5 sc__law_small.nd) (ds_one (ds_if (xt_lift [4, 5] (dt_ne hr.units (de_fz (de_lam 26 C__law_kind (hr.mono (by decide)) B pxB (LamX.lamS_by (by kernel_rfl)) (fun A outer s H E' f d hr => (de_meth T.hk T.hC T.ok_Heads C_Heads_number_of (hr.mono (by decide)) pxL (de_var (pv 4)) (da_cons (de_var (pv 5)) da_nil))))) (de_fz (de_lst (da_cons (de_str [104, 101, 97, 100]) da_nil))))) (ds_one (ds_ret (xe_lift [] de_bl))) ds_nil)))
      (ds_cons (ds_for poB rfl (xi_lift [1] (di_list (de_fz (de_lst (da_cons de_non (da_cons de_int (da_cons (de_str []) (da_cons (de_mulS (de_str [48]) (de_addI (de_var (pv 1)) de_int)) (da_cons (de_mulS (de_str [42]) (de_var (pv 1))) (da_cons (de_mulL (de_fz (de_lst (da_cons (de_str [48]) da_nil))) (de_var (pv 1))) da_nil)))))))))) (xg_name 5 sc__law_small.nd) (ds_one (ds_if (xt_lift [4, 5] (dt_ne hr.units (de_fz (de_lam 26 C__law_kind (hr.mono (by decide)) B pxB (LamX.lamS_by (by kernel_rfl)) (fun A outer s H E' f d hr => (de_meth T.hk T.hC T.ok_Heads C_Heads_holds (hr.mono (by decide)) pxL (de_var (pv 4)) (da_cons (de_var (pv 5)) da_nil))))) (de_fz (de_lst (da_cons (de_str [104, 101, 97, 100]) da_nil))))) (ds_one (ds_ret (xe_lift [] de_bl))) ds_nil)))
      (ds_one (ds_ret (xe_lift [3, 4] (de_or (de_eq hr.units (de_var (pv 3)) (de_fz (de_lst da_nil))) (de_one (de_eq hr.units (de_fz (de_meth0 T.hk T.hC T.ok_Heads C_Heads_head_at_d1 (hr.mono (by decide)) pxB (de_var (pv 4)))) (de_item T.hk (de_var (pv 3)) de_int))))))))))))))))

set_option maxHeartbeats 4000000 in
theorem ok__law_least (T : Txt w K mg cm) {f : Addr} {fd : FuncData} (Fu : Fun K "_law_least" "_law_least" s__law_least f fd) (hm : mg "_law_least" = some (.ref f)) (hb : Binds K fd ["_law_patterns_here"] []) : CallOk P w K mg base "_law_least" 1 ["_law_patterns_here"] (spP cm 1 m__law_least) :=
  mk_pureT (k := 0) Fu sc__law_least hm hb (by decide +kernel) (fun _ => rfl) rfl (by rfl) fun cdv A outer s H E hr =>
      (det_item T.hk (det_fz (det_srt (by rfl) T.n_sorted (dat_one (det_fz (det_lc rfl sc__law_least.nd (di_list (de_var (pv 0))) (blkOk_by (own := [("_law_pattern_here", 1)]) (N := N__law_least) (sc := defScope s__law_least) (by decide +kernel)) rfl (fun _ _ _ _ _ => (dg_name 1 sc__law_least.nd)) (fun _ _ _ _ _ => (det_rep (x := 42) (y := 48) (de_var (pv 1)) (by decide)))))))) de_int)

set_option maxHeartbeats 4000000 in
theorem ok__law_great (T : Txt w K mg cm) (C_Heads___init__ : MakeOk P w K mg base cm "Heads" 23 ["self", "width", "patterns"] [] (spX cm 3 m_Heads___init__)) (C_Heads___len__ : MethOk P w K mg base cm "Heads" "__len__" 6 ["self"] [] (spP cm 1 m_Heads___len__)) (C__law_least : CallOk P w K mg base "_law_least" 1 ["_law_patterns_here"] (spP cm 1 m__law_least)) (C__law_take : CallOk P w K mg base "_law_take" 1 ["_law_pool_here", "_law_many"] (spX cm 2 m__law_take)) (C__law_text : CallOk P w K mg base "_law_text" 2 ["_law_pool_here", "_law_width", "_law_signs"] (spX cm 3 m__law_text)) (C_Heads_head_at : MethOk P w K mg base cm "Heads" "head_at" 10 ["self", "number"] [] (spP cm 2 m_Heads_head_at)) (C_Heads_number_of : MethOk P w K mg base cm "Heads" "number_of" 7 ["self", "head"] [] (spP cm 2 m_Heads_number_of)) (C__law_fits : CallOk P w K mg base "_law_fits" 1 ["_law_pattern_here", "_law_head"] (spP cm 2 m__law_fits)) {f : Addr} {fd : FuncData} (Fu : Fun K "_law_great" "_law_great" s__law_great f fd) (hm : mg "_law_great" = some (.ref f)) (hb : Binds K fd ["_law_pool_here"] []) : CallOk P w K mg base "_law_great" 27 ["_law_pool_here"] (spX cm 1 m__law_great) :=
  mk_io (k := 26) Fu sc__law_great hm hb fun cdv A outer s H E hr =>
      (ds_cons (ds_set 1 sc__law_great.nd (xe_op op_add o_I0 noEx_I0 (xe_lift [] de_int) (xe_fio 0 C__law_take (hr.mono (by decide)) pxB (pv 0) (xa_lift [] (da_cons de_int da_nil)))))
      (ds_cons (ds_setLc 2 rfl sc__law_great.nd (xi_range1 (by rfl) T.n_range (xa_cons (xe_op op_add o_I0 noEx_I0 (xe_lift [] de_int) (xe_fio 0 C__law_take (hr.mono (by decide)) pxB (pv 0) (xa_lift [] (da_cons de_int da_nil)))) xa_nil)) (blkOk_by (own := [("_law_turn", 10)]) (N := N__law_great) (sc := defScope s__law_great) (by decide +kernel)) rfl (fun _ _ _ _ _ => (xg_name 10 sc__law_great.nd)) (fun _ _ _ _ _ => xts_nil) (fun _ _ _ _ _ => (xe_fio 0 C__law_text (hr.mono (by decide)) pass_none (pv 0) (xa_cons (xe_lift [1] (de_var (pv 1))) (xa_cons (xe_ix ix_seq (o_ix T.hk) noEx_ix (fun _ _ => rfl) (xe_lift [] (de_lst (da_cons (de_str [42, 42, 42, 48, 49]) (da_cons (de_str [48, 49, 42]) da_nil)))) (xe_fio 0 C__law_take (hr.mono (by decide)) pass_none (pv 0) (xa_lift [] (da_cons de_int da_nil)))) xa_nil)))) (sw_true rfl rfl rfl (by decide +kernel)))
      (ds_cons (ds_set 3 sc__law_great.nd (xe_lift [1, 2] (de_make T.ok_Heads C_Heads___init__ (hr.mono (by decide)) pxB (da_cons (de_var (pv 1)) (da_cons (de_var (pv 2)) da_nil)))))
      (ds_cons (ds_set 4 sc__law_great.nd (xe_lift [3] (de_lenO C_Heads___len__.spec (hr.mono (by decide)) (by rfl) T.n_len (da_cons (de_var (pv 3)) da_nil))))
      (ds_cons (ds_set 5 sc__law_great.nd (xe_srtI (by rfl) T.n_sorted (xa_cons (xe_op op_cat o_cat noEx_cat (xe_lc rfl sc__law_great.nd (xi_range1 (by rfl) T.n_range (xa_lift [] (da_cons de_int da_nil))) (blkOk_by (own := [("_law_turn", 10)]) (N := N__law_great) (sc := defScope s__law_great) (by decide +kernel)) rfl (fun _ _ _ _ _ => (xg_name 10 sc__law_great.nd)) (fun _ _ _ _ _ => xts_nil) (fun _ _ _ _ _ => (xe_op op_mod o_I noEx_I (xe_fio 0 C__law_take (hr.mono (by decide)) pass_none (pv 0) (xa_lift [] (da_cons (de_powI de_int de_int) da_nil))) (xe_lift [4] (de_var (pv 4)))))) (xe_lift [4] (de_lst (da_cons de_int (da_cons (de_subI (de_var (pv 4)) de_int) da_nil))))) xa_nil)))
      (ds_cons (ds_setLcP 6 [3, 5, 8] rfl sc__law_great.nd (di_list (de_var (pv 5))) (blkOk_by (own := [("_law_number", 8)]) (N := N__law_great) (sc := defScope s__law_great) (by decide +kernel)) rfl (fun _ _ _ _ _ => (dg_name 8 sc__law_great.nd)) (fun _ _ _ _ _ => dts_nil) (fun _ _ _ _ _ => (de_meth T.hk T.hC T.ok_Heads C_Heads_head_at (hr.mono (by decide)) pass_none (de_var (pv 3)) (da_cons (de_var (pv 8)) da_nil))) (sw_true rfl rfl rfl (by decide +kernel)))
      (ds_cons (ds_for poB rfl (xi_lift [5, 6] (di_zip T.hk (by rfl) T.n_zip (da_cons (de_var (pv 5)) (da_cons (de_var (pv 6)) da_nil)))) (xg_tup rfl (xgs_cons (xg_name 8 sc__law_great.nd) (xgs_cons (xg_name 9 sc__law_great.nd) xgs_nil))) (ds_one (ds_if (xt_lift [2, 3, 8, 9, 11] (DW.dt (dw_or (dt_ne hr.units (de_fz (de_meth T.hk T.hC T.ok_Heads C_Heads_number_of (hr.mono (by decide)) pxB (de_var (pv 3)) (da_cons (de_var (pv 9)) da_nil))) (de_var (pv 8))) (dw_or1 (dt_eq hr.units (de_fz (de_lc rfl sc__law_great.nd (di_list (de_var (pv 2))) (blkOk_by (own := [("_law_one", 11)]) (N := N__law_great) (sc := defScope s__law_great) (by decide +kernel)) rfl (fun _ _ _ _ _ => (dg_name 11 sc__law_great.nd)) (fun _ _ _ _ _ => (dts_one (dt_B (de_fz (de_fn C__law_fits (hr.mono (by decide)) pass_none (da_cons (de_var (pv 11)) (da_cons (de_var (pv 9)) da_nil))))))) (fun _ _ _ _ _ => (de_var (pv 11))))) (de_fz (de_lst da_nil))))))) (ds_one (ds_ret (xe_lift [] de_bl))) ds_nil)))
      (ds_cons (ds_if (xt_lift [3, 4, 6] (DW.dt (dw_or (dt_ne hr.units (de_var (pv 6)) (de_fz (de_srt (by rfl) T.n_sorted (da_cons (de_var (pv 6)) da_nil)))) (dw_or1 (dt_ne hr.units (de_fz (de_meth T.hk T.hC T.ok_Heads C_Heads_number_of (hr.mono (by decide)) pxB (de_var (pv 3)) (da_cons (de_item T.hk (de_var (pv 6)) (de_neg de_int)) da_nil))) (de_subI (de_var (pv 4)) de_int)))))) (ds_one (ds_ret (xe_lift [] de_bl))) ds_nil)
      (ds_cons (ds_set 7 sc__law_great.nd (xe_lift [2] (de_fn C__law_least (hr.mono (by decide)) pxB (da_cons (de_var (pv 2)) da_nil))))
      (ds_one (ds_ret (xe_lift [6, 7] (de_eq hr.units (de_item T.hk (de_var (pv 6)) de_int) (de_var (pv 7)))))))))))))))

set_option maxHeartbeats 4000000 in
theorem fn_law (T : Txt w K mg cm) (C__law_pool : CallOk P w K mg base "_law_pool" 2 ["_law_script", "_law_k"] (spP cm 2 m__law_pool)) (C__law_small : CallOk P w K mg base "_law_small" 29 ["_law_pool_here"] (spX cm 1 m__law_small)) (C__law_great : CallOk P w K mg base "_law_great" 27 ["_law_pool_here"] (spX cm 1 m__law_great)) {f : Addr} {fd : FuncData} (Fu : Fun K "law" "law" s_law f fd) : FnG P w K mg base 30 f fd ["_law_script"] (spP cm 1 m_law) :=
  fn_pure (k := 29) Fu sc_law fun cdv A outer s H E hr =>
      (ds_cons (ds_for poB rfl (xi_range1 (by rfl) T.n_range (xa_lift [0] (da_cons (de_max2 rfl (by rfl) T.n_max (da_cons de_int (da_cons (de_min2 rfl (by rfl) T.n_min (da_cons (de_len T.hk (by rfl) T.n_len (da_cons (de_var (pv 0)) da_nil)) (da_cons de_int da_nil))) da_nil))) da_nil))) (xg_name 1 sc_law.nd) (ds_cons (ds_set 2 sc_law.nd (xe_lift [0, 1] (de_fn C__law_pool (hr.mono (by decide)) pxB (da_cons (de_var (pv 0)) (da_cons (de_var (pv 1)) da_nil)))))
      (ds_one (ds_if (XW.xt (xw_or (xt_not (xt_B (xe_fio 2 C__law_small (hr.mono (by decide)) pxB (pv 2) xa_nil))) (xw_or1 (xt_not (xt_B (xe_fio 2 C__law_great (hr.mono (by decide)) pxB (pv 2) xa_nil)))))) (ds_one (ds_ret (xe_lift [] de_bl))) ds_nil))))
      (ds_one (ds_ret (xe_lift [] de_bl))))

end
end My

namespace My
open PySem L2 DL
variable {X : Xc → DL.Env → Prop}
def Pool (p : D) : Prop := ∃ a b : Int, p = .lst true [.int a, .int b] ∧ 0 ≤ b ∧ b < 2147483647
theorem Pool.shr {p : D} (h : Pool p) : DL.shr p = false := by
  obtain ⟨a, b, rfl, _⟩ := h; rfl
theorem cmul_l {i j : Int} (h0 : 0 ≤ i) (h : i < 4294967296) : CMul i j := .inl ⟨by omega, by omega⟩
theorem cmul_r {i j : Int} (h0 : 0 ≤ j) (h : j < 4294967296) : CMul i j := .inr ⟨by omega, by omega⟩
theorem cell_spec {ns : List Int} {k : Int} (hk : 0 ≤ k) {P : D → Prop} (h : ∀ c : Int, P (.int c)) : WO' X (m__law_cell_at [.scr ns, .int k]) P := by
  unfold m__law_cell_at
  rw [WO_runP (by rfl)]
  unfold g__law_cell_at
  simp
  by_cases hl : k < ns.length
  · simp only [hl, if_true]
    obtain ⟨a, h1, _⟩ := WO_at hk hl
    exact ⟨_, ⟨a, h1, rfl⟩, h a⟩
  · simp only [hl, if_false]
    exact h 0
theorem pool_spec {ns : List Int} {k : Int} (hk : 0 ≤ k) (hk' : k ≤ 100) {P : D → Prop} (h : ∀ p, Pool p → P p) : WO' X (m__law_pool [.scr ns, .int k]) P := by
  unfold m__law_pool
  rw [WO_runP (by rfl)]
  unfold g__law_pool
  simp
  refine cell_spec hk fun c => ?_
  simp
  generalize hs : (c % 2147483629 + 7919 * k * k + 1) * 48271 % 2147483647 = s
  have h0 : 0 ≤ s := by omega
  have h1 : s < 2147483647 := by omega
  have hm : CMul s s := cmul_l h0 (by omega)
  refine ⟨cmul_l (by omega) (by omega), cmul_r hk (by omega), cmul_r (by omega) (by omega), by decide, ?_⟩
  split
  · exact ⟨hm, h _ ⟨_, _, rfl, by omega, by omega⟩⟩
  · exact ⟨hm, h _ ⟨_, _, rfl, by omega, by omega⟩⟩
theorem take_spec {p : D} {n : Int} (hp : Pool p) (h0 : 0 < n) (h1 : n ≤ 1000000) {P : D × D → Prop} (h : ∀ (x : Nat) (q : D), (x : Int) < n → Pool q → P (.int x, q)) : WO' X (m__law_take [p, .int n]) P := by
  replace h : ∀ (x : Int) (q : D), 0 ≤ x → x < n → Pool q → P (.int x, q) := fun x q h0 h1 hq => by
    obtain ⟨k, rfl⟩ := Int.eq_ofNat_of_zero_le h0
    exact h k q h1 hq
  obtain ⟨a, b, rfl, hb0, hb1⟩ := hp
  unfold m__law_take
  rw [WO_runX (by rfl)]
  unfold g__law_take
  simp
  split
  · rename_i ha
    exact ⟨h0, ⟨by omega, by omega⟩, h _ _ (Int.emod_nonneg _ (by omega)) (Int.emod_lt_of_pos _ h0) ⟨_, _, rfl, hb0, hb1⟩⟩
  · generalize hs : (b * 48271 + 11) % 2147483647 = s
    have h2 : 0 ≤ s := by omega
    have h3 : s < 2147483647 := by omega
    exact ⟨cmul_l hb0 (by omega), cmul_l h2 (by omega), ⟨by omega, by omega⟩, h0, h _ _ (Int.emod_nonneg _ (by omega)) (Int.emod_lt_of_pos _ h0) ⟨_, _, rfl, h2, h3⟩⟩
theorem text_spec {p : D} {w : Int} {ss : List Nat} (hp : Pool p) (h0 : 0 ≤ w) (h1 : w ≤ 1000) (hs0 : 0 < ss.length) (hs1 : ss.length ≤ 1000) {P : D × D → Prop} (h : ∀ (cs : List Nat) (q : D), (cs.length : Int) = w → (∀ c ∈ cs, c ∈ ss) → Pool q → P (.str cs, q)) : WO' X (m__law_text [p, .int w, .str ss]) P := by
  unfold m__law_text
  rw [WO_runX (by rfl)]
  unfold g__law_text
  simp
  refine WO_xLc (fun acc ds r => ∃ (cs : List Nat) (q : D) (x : Option D), acc = cs.map (fun c => D.str [c]) ∧ (∀ c ∈ cs, c ∈ ss) ∧ (cs.length + ds.length : Int) = w ∧ Pool q ∧ r = [some q, some (.int w), some (.str ss), x]) ?_ ?_ ?_
  · simp
    exact ⟨⟨by omega, by omega⟩, by omega, by omega, hp⟩
  · rintro acc d ds r ⟨cs, q, x, rfl, hc, hl, hq, rfl⟩
    simp
    refine ⟨by omega, take_spec hq (by omega) (by omega) fun x q h3 hq' => ?_⟩
    simp
    obtain ⟨c, h4, h5⟩ := WO_at (Int.natCast_nonneg x) h3
    refine ⟨by omega, _, ⟨c, h4, rfl⟩, cs ++ [c], by simp, ?_, ?_, hq'⟩
    · intro c' hc'
      rcases List.mem_append.mp hc' with h6 | h6
      · exact hc _ h6
      · cases List.mem_singleton.mp h6; exact h5
    · simp at hl ⊢; omega
  · rintro ys r ⟨cs, q, x, rfl, hc, hl, hq, rfl⟩
    simp at hl ⊢
    exact ⟨by omega, h _ _ hl hc hq⟩
end My

namespace My
open PySem L2 DL
variable {X : Xc → DL.Env → Prop}
def fitsB (p h : List Nat) : Bool := (p.zip h).all fun x => x.1 == 42 || x.1 == x.2
theorem fits_eq {p h : List Nat} (hp : p.length ≤ 1000) : m_fits [.str p, .str h] = .ok (.bl (fitsB p h)) := by
  refine WO.eq ?_
  unfold m_fits
  rw [WO_runP (by rfl)]
  unfold g_fits
  simp
  refine WO_cLcM (fun x : Nat × Nat => .tup [.str [x.1], .str [x.2]]) (fun x => .bl (x.1 == 42 || x.1 == x.2)) (p.zip h) (by simp) (by simp; omega) ?_ ?_
  · rintro ⟨a, b⟩ hx
    simp
    split <;> simp [*]
  · simp [fitsB]
end My

namespace My
open PySem L2 DL
variable {X : Xc → DL.Env → Prop}
theorem lawfits_eq {p h : List Nat} (hl : h.length ≤ p.length) (hp : p.length ≤ 1000) : m__law_fits [.str p, .str h] = .ok (.bl (fitsB p h)) := by
  refine WO.eq ?_
  unfold m__law_fits
  rw [WO_runP (by rfl)]
  unfold g__law_fits
  simp
  refine WO_cLcF (fun k : Nat => .int k) (fun k => !(p.getD k 0 == 42 || p.getD k 0 == h.getD k 0)) (fun k => .int k) (List.range h.length) ?_ (by simp; omega) ?_ ?_
  · simp [rng_map]; omega
  · intro k hk
    simp at hk
    have h1 : k < p.length := by omega
    simp [atI_k hk, atI_k h1, h1, hk]
    refine ⟨by omega, by omega, ?_⟩
    by_cases e1 : 42 = p[k]
    · simp [e1.symm]
    · by_cases e2 : h[k] = p[k]
      · simp [e1, e2, Ne.symm e1]
      · simp [e1, e2, Ne.symm e1, Ne.symm e2]
  · simp
    rw [Bool.eq_iff_iff, List.isEmpty_iff, List.filter_eq_nil_iff]
    unfold fitsB
    rw [List.all_eq_true]
    simp only [List.mem_range]
    constructor
    · intro H x hx
      obtain ⟨k, hk, rfl⟩ := List.mem_iff_getElem.mp hx
      simp at hk
      have hkp : k < p.length := by omega
      have hkh : k < h.length := by omega
      have := H k hkh
      simp [hkp, hkh] at this
      simp
      by_cases e : p[k] = 42
      · exact .inl e
      · exact .inr (this e)
    · intro H k hk
      have hkp : k < p.length := by omega
      have := H (p[k], h[k]) (List.mem_iff_getElem.mpr ⟨k, by simp; omega, by simp⟩)
      simp [hk, hkp] at this ⊢
      rcases this with e | e
      · exact fun n => absurd e n
      · exact fun _ => e
def heads : Nat → List (List Nat)
  | 0 => [[]]
  | n + 1 => (heads n).flatMap fun h => [h ++ [48], h ++ [49]]
theorem heads_len : ∀ n, (heads n).length = 2 ^ n
  | 0 => rfl
  | n + 1 => by
    have := heads_len n
    show List.length (List.flatMap _ _) = _
    rw [len_two, this, Nat.pow_succ]; omega
theorem heads_each : ∀ n, ∀ h ∈ heads n, h.length = n ∧ ∀ c ∈ h, c = 48 ∨ c = 49
  | 0, h, hm => by cases List.mem_singleton.mp hm; simp
  | n + 1, h, hm => by
    simp [heads] at hm
    obtain ⟨g, hg, e⟩ := hm
    obtain ⟨h1, h2⟩ := heads_each n g hg
    rcases e with rfl | rfl
    · refine ⟨by simp [h1], fun c hc => ?_⟩
      rcases List.mem_append.mp hc with hc | hc
      · exact h2 c hc
      · simp at hc; exact .inl hc
    · refine ⟨by simp [h1], fun c hc => ?_⟩
      rcases List.mem_append.mp hc with hc | hc
      · exact h2 c hc
      · simp at hc; exact .inr hc
theorem heads_all : ∀ n (h : List Nat), h.length = n → (∀ c ∈ h, c = 48 ∨ c = 49) → h ∈ heads n
  | 0, h, hl, _ => by simp [heads]; exact List.length_eq_zero_iff.mp hl
  | n + 1, h, hl, hc => by
    have hne : h ≠ [] := by intro z; subst z; cases hl
    have e := List.dropLast_concat_getLast hne
    have := heads_all n h.dropLast (by simp [hl]) fun c m => hc c (List.dropLast_subset h m)
    simp [heads]
    refine ⟨_, this, ?_⟩
    rcases hc _ (List.getLast_mem hne) with z | z <;> rw [z] at e
    · exact .inl e.symm
    · exact .inr e.symm
theorem lawheads_eq {w : Nat} (hw : w ≤ 10) : m__law_heads [.int w] = .ok (.lst false ((heads w).map fun h => .str h)) := by
  refine WO.eq ?_
  unfold m__law_heads
  rw [WO_runP (by rfl)]
  unfold g__law_heads
  simp
  refine ⟨by omega, ?_⟩
  rw [rng_map]
  refine for_of _ (fun (ps : List Nat) r => ∃ (k : Nat) (b : Bool) (x y z : Option D), k + ps.length = w ∧ r = [some (.int w), some (.lst b ((heads k).map fun h => .str h)), x, y, z]) _ ?_ ?_ ?_
  · exact ⟨0, true, none, none, none, by simp, rfl⟩
  · rintro a ps r K ⟨k, b, x, y, z, hk, rfl⟩ hK
    simp at hk ⊢
    refine for_of _ (fun (ps : List (List Nat)) r => ∃ (ds : List (List Nat)) (z : Option D), heads k = ds ++ ps ∧ r = [some (.int w), some (.lst false ((heads k).map fun h => .str h)), some (.int a), some (.lst true ((ds.flatMap fun h => [h ++ [48], h ++ [49]]).map fun h => .str h)), z]) _ ?_ ?_ ?_
    · exact ⟨[], z, by simp, rfl⟩
    · rintro h ps' r K ⟨ds, z, he, rfl⟩ hK
      have h1 := heads_len k
      have h3 : 2 ^ k ≤ 2 ^ 10 := Nat.pow_le_pow_right (by decide) (by omega)
      have h2 : h.length = k := (heads_each k h (by rw [he]; simp)).1
      rw [he] at h1
      simp at h1 ⊢
      refine ⟨by omega, ?_, ?_⟩
      · omega
      · refine hK _ ⟨ds ++ [h], some (.str h), by simp [he], ?_⟩
        simp
    · rintro r ⟨ds, z, he, rfl⟩
      simp at he ⊢
      refine hK _ ⟨k + 1, false, some (.int a), some (.lst false ((heads (k + 1)).map fun h => .str h)), z, by omega, ?_⟩
      simp [heads, he]
  · rintro r ⟨k, b, x, y, z, hk, rfl⟩
    simp at hk ⊢
    subst hk; rfl
end My

namespace My
def IsP (p : List Nat) : Prop := ∀ c ∈ p, c = 48 ∨ c = 49 ∨ c = 42
def IsH (p : List Nat) : Prop := ∀ c ∈ p, c = 48 ∨ c = 49
theorem IsH.p {p : List Nat} (h : IsH p) : IsP p := fun c m => (h c m).elim .inl fun z => .inr (.inl z)
theorem fits_cons {a b : Nat} {p h : List Nat} : fitsB (a :: p) (b :: h) = ((a == 42 || a == b) && fitsB p h) := rfl
theorem fits_nil {h : List Nat} : fitsB [] h = true := by cases h <;> rfl
end My

namespace My
open PySem L2 DL
structure Rule where
  door : Option Nat
  pat : List Nat
  outs : List (Nat × List Nat)
deriving DecidableEq
structure Net where
  w : Nat
  sw : List (Nat × List Rule)
  ln : List ((Nat × Nat) × (Nat × Nat))
deriving DecidableEq
abbrev Pl := Nat × Nat
def eO : Option Nat → D
  | some n => .int n
  | none => .non
def ePl (p : Pl) : D := .tup [.int p.1, .int p.2]
def eOut (o : Nat × List Nat) : D := .tup [.int o.1, .str o.2]
def eRule (r : Rule) : D := .tup [eO r.door, .str r.pat, .lst false (r.outs.map eOut)]
def eSw (s : Nat × List Rule) : D := .tup [.int s.1, .lst false (s.2.map eRule)]
def eLn (l : Pl × Pl) : D := .tup [ePl l.1, ePl l.2]
def eNet (n : Net) : D := .tup [.int n.w, .lst false (n.sw.map eSw), .lst false (n.ln.map eLn)]
def eOPl : Option Pl → D
  | some p => ePl p
  | none => .non
@[simp] theorem frz_eO {o : Option Nat} : frz (eO o) = eO o := by cases o <;> rfl
@[simp] theorem frz_ePl {p : Pl} : frz (ePl p) = ePl p := rfl
@[simp] theorem frz_eOPl {p : Option Pl} : frz (eOPl p) = eOPl p := by cases p <;> rfl
@[simp] theorem frz_eOut {o : Nat × List Nat} : frz (eOut o) = eOut o := rfl
@[simp] theorem frz_eRule {r : Rule} : frz (eRule r) = eRule r := by simp [eRule]
@[simp] theorem frz_eSw {r : Nat × List Rule} : frz (eSw r) = eSw r := by simp [eSw]
@[simp] theorem frz_eLn {r : Pl × Pl} : frz (eLn r) = eLn r := by simp [eLn]
@[simp] theorem frz_eNet {r : Net} : frz (eNet r) = eNet r := by simp [eNet]
@[simp] theorem shr_eO {o : Option Nat} : shr (eO o) = false := by cases o <;> rfl
@[simp] theorem shr_ePl {p : Pl} : shr (ePl p) = false := rfl
@[simp] theorem shr_eOPl {p : Option Pl} : shr (eOPl p) = false := by cases p <;> rfl
@[simp] theorem shr_eOut {p : Nat × List Nat} : shr (eOut p) = false := rfl
@[simp] theorem shr_eRule {p : Rule} : shr (eRule p) = true := by simp [eRule]
@[simp] theorem shr_eSw {p : Nat × List Rule} : shr (eSw p) = true := by simp [eSw]
@[simp] theorem shr_eLn {p : Pl × Pl} : shr (eLn p) = false := by simp [eLn]
@[simp] theorem shr_eNet {p : Net} : shr (eNet p) = true := by simp [eNet]
@[simp] theorem plain_eO {o : Option Nat} : plainD (eO o) = true := by cases o <;> rfl
@[simp] theorem plain_ePl {p : Pl} : plainD (ePl p) = true := rfl
@[simp] theorem plain_eOPl {p : Option Pl} : plainD (eOPl p) = true := by cases p <;> rfl
@[simp] theorem plain_eOut {p : Nat × List Nat} : plainD (eOut p) = true := rfl
theorem plain_lst {b : Bool} {xs : List D} : plainD (.lst b xs) = plainDs xs := rfl
theorem plain_tup {xs : List D} : plainD (.tup xs) = plainDs xs := rfl
theorem plains_cons {x : D} {xs : List D} : plainDs (x :: xs) = (plainD x && plainDs xs) := rfl
theorem plains_nil : plainDs [] = true := rfl
@[simp] theorem plain_eRule {p : Rule} : plainD (eRule p) = true := by simp [eRule, plain_lst, plain_tup, plains_cons, plains_nil, plainD]
@[simp] theorem plain_eSw {p : Nat × List Rule} : plainD (eSw p) = true := by simp [eSw, plain_lst, plain_tup, plains_cons, plains_nil, plainD]
@[simp] theorem plain_eLn {p : Pl × Pl} : plainD (eLn p) = true := by simp [eLn, plain_lst, plain_tup, plains_cons, plains_nil, plainD]
@[simp] theorem plain_eNet {p : Net} : plainD (eNet p) = true := by simp [eNet, plain_lst, plain_tup, plains_cons, plains_nil, plainD]
theorem dle_lst {n : Nat} {b : Bool} {xs : List D} : dle (n + 1) (.lst b xs) = dles n xs := rfl
theorem dle_tup {n : Nat} {xs : List D} : dle (n + 1) (.tup xs) = dles n xs := rfl
theorem dles_cons {n : Nat} {x : D} {xs : List D} : dles n (x :: xs) = (dle n x && dles n xs) := by cases n <;> rfl
theorem dles_nil {n : Nat} : dles n [] = true := by cases n <;> rfl
@[simp] theorem dle_int {n : Nat} {i : Int} : dle n (.int i) = true := by cases n <;> rfl
@[simp] theorem dle_str {n : Nat} {i : List Nat} : dle n (.str i) = true := by cases n <;> rfl
@[simp] theorem dle_non {n : Nat} : dle n .non = true := by cases n <;> rfl
@[simp] theorem dle_bl {n : Nat} {i : Bool} : dle n (.bl i) = true := by cases n <;> rfl
@[simp] theorem dle_eO {n : Nat} {o : Option Nat} : dle n (eO o) = true := by cases o <;> simp [eO]
@[simp] theorem dle_ePl {n : Nat} {p : Pl} : dle (n + 1) (ePl p) = true := by simp [ePl, dle_tup, dles_cons, dles_nil]
@[simp] theorem dle_eOPl {n : Nat} {p : Option Pl} : dle (n + 1) (eOPl p) = true := by cases p <;> simp [eOPl]
@[simp] theorem dle_eOut {n : Nat} {p : Nat × List Nat} : dle (n + 1) (eOut p) = true := by simp [eOut, dle_tup, dles_cons, dles_nil]
@[simp] theorem dle_eRule {n : Nat} {p : Rule} : dle (n + 3) (eRule p) = true := by simp [eRule, dle_tup, dles_cons, dles_nil, dle_lst]
@[simp] theorem dle_eSw {n : Nat} {p : Nat × List Rule} : dle (n + 5) (eSw p) = true := by simp [eSw, dle_tup, dles_cons, dles_nil, dle_lst]
@[simp] theorem dle_eLn {n : Nat} {p : Pl × Pl} : dle (n + 2) (eLn p) = true := by simp [eLn, dle_tup, dles_cons, dles_nil]
@[simp] theorem dle_eNet {n : Nat} {p : Net} : dle (n + 7) (eNet p) = true := by simp [eNet, dle_tup, dles_cons, dles_nil, dle_lst]
@[simp] theorem eqD_ePl {p q : Pl} : eqD (ePl p) (ePl q) = decide (p = q) := by
  obtain ⟨a, b⟩ := p
  obtain ⟨c, d⟩ := q
  simp only [ePl, eqD, eqDs, Bool.and_true]
  rw [Bool.eq_iff_iff]
  simp
  omega
@[simp] theorem eqD_ePlN {p : Pl} : eqD (ePl p) .non = false := rfl
@[simp] theorem eqD_NePl {p : Pl} : eqD .non (ePl p) = false := rfl
@[simp] theorem eqD_eOPl {p q : Option Pl} : eqD (eOPl p) (eOPl q) = decide (p = q) := by cases p <;> cases q <;> simp [eOPl, eqD]
@[simp] theorem eqD_eO {p : Option Nat} {k : Nat} : eqD (eO p) (.int k) = decide (p = some k) := by
  cases p with
  | none => rfl
  | some n => simp [eO, eqD]; rw [Bool.eq_iff_iff]; simp; omega
@[simp] theorem eqD_Oe {p : Option Nat} {k : Nat} : eqD (.int k) (eO p) = decide (p = some k) := by
  cases p with
  | none => rfl
  | some n => simp [eO, eqD]; rw [Bool.eq_iff_iff]; simp; omega
@[simp] theorem eqD_eON {p : Option Nat} : eqD (eO p) .non = p.isNone := by cases p <;> rfl
@[simp] theorem eqD_NeO {p : Option Nat} : eqD .non (eO p) = p.isNone := by cases p <;> rfl
@[simp] theorem ix_net0 {n : Net} : gIx (eNet n) (.int 0) = .ok (.int n.w) := rfl
@[simp] theorem ix_net1 {n : Net} : gIx (eNet n) (.int 1) = .ok (.lst false (n.sw.map eSw)) := rfl
@[simp] theorem ix_net2 {n : Net} : gIx (eNet n) (.int 2) = .ok (.lst false (n.ln.map eLn)) := rfl
@[simp] theorem ix_pl0 {n : Pl} : gIx (ePl n) (.int 0) = .ok (.int n.1) := rfl
@[simp] theorem ix_pl1 {n : Pl} : gIx (ePl n) (.int 1) = .ok (.int n.2) := rfl
@[simp] theorem ix_sw0 {n : Nat × List Rule} : gIx (eSw n) (.int 0) = .ok (.int n.1) := rfl
@[simp] theorem ix_sw1 {n : Nat × List Rule} : gIx (eSw n) (.int 1) = .ok (.lst false (n.2.map eRule)) := rfl
@[simp] theorem ix_rule0 {n : Rule} : gIx (eRule n) (.int 0) = .ok (eO n.door) := rfl
@[simp] theorem ix_rule1 {n : Rule} : gIx (eRule n) (.int 1) = .ok (.str n.pat) := rfl
@[simp] theorem ix_rule2 {n : Rule} : gIx (eRule n) (.int 2) = .ok (.lst false (n.outs.map eOut)) := rfl
@[simp] theorem tg_ln {r : DL.Env} {g : List D → DL.Env → Out DL.Env} {l : Pl × Pl} : sT 2 g (eLn l) r = g [ePl l.1, ePl l.2] r := rfl
@[simp] theorem tg_out {r : DL.Env} {g : List D → DL.Env → Out DL.Env} {l : Nat × List Nat} : sT 2 g (eOut l) r = g [.int l.1, .str l.2] r := rfl
@[simp] theorem tg_sw {r : DL.Env} {g : List D → DL.Env → Out DL.Env} {l : Nat × List Rule} : sT 2 g (eSw l) r = g [.int l.1, .lst false (l.2.map eRule)] r := rfl
@[simp] theorem tg_rule {r : DL.Env} {g : List D → DL.Env → Out DL.Env} {l : Rule} : sT 3 g (eRule l) r = g [eO l.door, .str l.pat, .lst false (l.outs.map eOut)] r := rfl
@[simp] theorem tg_pl {r : DL.Env} {g : List D → DL.Env → Out DL.Env} {l : Pl} : sT 2 g (ePl l) r = g [.int l.1, .int l.2] r := rfl
@[simp] theorem tg_net {r : DL.Env} {g : List D → DL.Env → Out DL.Env} {n : Net} : sT 3 g (eNet n) r = g [.int n.w, .lst false (n.sw.map eSw), .lst false (n.ln.map eLn)] r := rfl
def eCome (c : Bool × Pl × List Nat) : D := .tup [.str (if c.1 = true then [105, 110] else [111, 117, 116]), ePl c.2.1, .str c.2.2]
@[simp] theorem frz_eCome {c : Bool × Pl × List Nat} : frz (eCome c) = eCome c := by simp [eCome]
@[simp] theorem shr_eCome {c : Bool × Pl × List Nat} : shr (eCome c) = false := by simp [eCome]
@[simp] theorem plain_eCome {c : Bool × Pl × List Nat} : plainD (eCome c) = true := by simp [eCome, plain_lst, plain_tup, plains_cons, plains_nil, plainD]
@[simp] theorem dle_eCome {n : Nat} {c : Bool × Pl × List Nat} : dle (n + 2) (eCome c) = true := by simp [eCome, dle_tup, dles_cons, dles_nil]
def doorsAt (n : Net) (k : Nat) : Nat := (n.sw.getD k (0, [])).1
def OkPl (n : Net) (p : Pl) : Prop := p.1 < n.sw.length ∧ p.2 < doorsAt n p.1
instance {n : Net} {p : Pl} : Decidable (OkPl n p) := inferInstanceAs (Decidable (_ ∧ _))
structure OkR (w d : Nat) (r : Rule) : Prop where
  door : ∀ k, r.door = some k → k < d
  pl : r.pat.length = w
  pp : IsP r.pat
  ol : r.outs.length ≤ 3
  od : ∀ o ∈ r.outs, o.1 < d ∧ o.2.length = w ∧ IsP o.2
def ltPl (p q : Pl) : Bool := decide (p.1 < q.1) || (decide (p.1 = q.1) && decide (p.2 < q.2))
def endsL (ls : List (Pl × Pl)) : List Pl := ls.flatMap fun l => [l.1, l.2]
structure OkN (n : Net) : Prop where
  w0 : 1 ≤ n.w
  w1 : n.w ≤ 16
  s0 : 1 ≤ n.sw.length
  s1 : n.sw.length ≤ 8
  d : ∀ s ∈ n.sw, 1 ≤ s.1 ∧ s.1 ≤ 6 ∧ s.2.length ≤ 20 ∧ ∀ r ∈ s.2, OkR n.w s.1 r
  l1 : n.ln.length ≤ 24
  lp : ∀ l ∈ n.ln, OkPl n l.1 ∧ OkPl n l.2
  lt : ∀ l ∈ n.ln, ltPl l.1 l.2 = true
  nd : (endsL n.ln).Nodup
theorem OkN.dle {n : Net} (h : OkN n) {k : Nat} : doorsAt n k ≤ 6 := by
  unfold doorsAt
  by_cases hk : k < n.sw.length
  · simp [hk]
    exact (h.d _ (List.getElem_mem hk)).2.1
  · simp [hk]
end My

namespace My
open PySem L2 DL
variable {X : Xc → DL.Env → Prop}
def isiOk : D → Bool
  | .scr _ => false
  | .dT false _ _ => false
  | .dN _ _ _ => false
  | .exc _ _ _ => false
  | .any => false
  | _ => true
def isWholeD : D → Bool
  | .int _ => true
  | _ => false
def belowD (d : D) (n : Int) : Bool := match d with
  | .int i => decide (0 ≤ i) && decide (i < n)
  | _ => false
theorem whole_eq {d : D} (h : isiOk (frz d) = true) : m_is_whole [d] = .ok (.bl (isWholeD d)) := by
  refine WO.eq ?_
  unfold m_is_whole
  rw [WO_runP (by rfl)]
  unfold g_is_whole
  cases d with
  | dT b ks xs => simp [isiOk] at h
  | _ => first | (simp [isWholeD]; done) | (simp [isiOk] at h)
end My

namespace My
open PySem L2 DL
variable {X : Xc → DL.Env → Prop}
def isOfB (d : D) (w : Int) (ss : List Nat) : Bool := match d with
  | .str cs => decide ((cs.length : Int) = w) && cs.all fun c => decide (c ∈ ss)
  | _ => false
def shortT (d : D) : Prop := ∀ cs, d = .str cs → cs.length ≤ 1000
theorem isOf_eq {d : D} {w : Int} {ss : List Nat} (hi : isiOk (frz d) = true) (hl : shortT d) : m_is_of [d, .int w, .str ss] = .ok (.bl (isOfB d w ss)) := by
  refine WO.eq ?_
  unfold m_is_of
  rw [WO_runP (by rfl)]
  unfold g_is_of
  cases d with
  | str cs =>
    have hl := hl cs rfl
    simp [isOfB]
    refine ⟨by omega, ?_⟩
    by_cases e : (cs.length : Int) = w
    · simp [e]
      refine WO_cLcM (fun c : Nat => .str [c]) (fun c => .bl (ss.contains c)) cs (by simp) (by omega) ?_ ?_
      · intro c hc
        simp
      · simp
    · simp [e]
  | dT b ks xs => simp [isiOk] at hi
  | _ => first | (simp [isOfB]; done) | (simp [isiOk] at hi)
theorem head_eq {d : D} {w : Int} (hi : isiOk (frz d) = true) (hl : shortT d) (hf : frz d = d) : m_is_head [d, .int w] = .ok (.bl (isOfB d w [48, 49])) := by
  refine WO.eq ?_
  unfold m_is_head
  rw [WO_runP (by rfl)]
  unfold g_is_head
  simp [hf, isOf_eq hi hl]
theorem pattern_eq {d : D} {w : Int} (hi : isiOk (frz d) = true) (hl : shortT d) (hf : frz d = d) : m_is_pattern [d, .int w] = .ok (.bl (isOfB d w [48, 49, 42])) := by
  refine WO.eq ?_
  unfold m_is_pattern
  rw [WO_runP (by rfl)]
  unfold g_is_pattern
  simp [hf, isOf_eq hi hl]
theorem isOf_head {h : List Nat} {w : Nat} (hl : h.length = w) (hh : IsH h) : isOfB (.str h) w [48, 49] = true := by
  simp [isOfB, hl]
  intro c hc
  exact hh c hc
theorem isOf_pat {h : List Nat} {w : Nat} (hl : h.length = w) (hh : IsP h) : isOfB (.str h) w [48, 49, 42] = true := by
  simp [isOfB, hl]
  intro c hc
  exact hh c hc
end My

namespace My
def semP (ps : List (List Nat)) (h : List Nat) : Bool := ps.any fun p => fitsB p h
def behindL (n o : List (List Nat)) : List (List Nat) := if n = o then n.map (42 :: ·) else n.map (48 :: ·) ++ o.map (49 :: ·)
def canon : Nat → (List Nat → Bool) → List (List Nat)
  | 0, S => if S [] = true then [[]] else []
  | w + 1, S => behindL (canon w fun h => S (48 :: h)) (canon w fun h => S (49 :: h))
theorem behind_mem {n o : List (List Nat)} {p : List Nat} (h : p ∈ behindL n o) : ∃ c q, p = c :: q ∧ (c = 48 ∨ c = 49 ∨ c = 42) ∧ (q ∈ n ∨ q ∈ o) := by
  unfold behindL at h
  split at h
  · obtain ⟨q, hq, rfl⟩ := List.mem_map.mp h
    exact ⟨42, q, rfl, by simp, .inl hq⟩
  · rcases List.mem_append.mp h with h | h <;> obtain ⟨q, hq, rfl⟩ := List.mem_map.mp h
    · exact ⟨48, q, rfl, by simp, .inl hq⟩
    · exact ⟨49, q, rfl, by simp, .inr hq⟩
theorem canon_isP : ∀ (w : Nat) (S : List Nat → Bool), ∀ p ∈ canon w S, p.length = w ∧ IsP p
  | 0, S, p, h => by
    unfold canon at h
    split at h
    · rw [List.mem_singleton.mp h]; exact ⟨rfl, fun c m => nomatch m⟩
    · cases h
  | w + 1, S, p, h => by
    obtain ⟨c, q, rfl, hc, hq⟩ := behind_mem h
    have : q.length = w ∧ IsP q := hq.elim (canon_isP w _ q) (canon_isP w _ q)
    refine ⟨by simp [this.1], fun d m => ?_⟩
    rcases List.mem_cons.mp m with rfl | m
    · exact hc
    · exact this.2 d m
theorem sem_map {c : Nat} {ps : List (List Nat)} {a : Nat} {h : List Nat} : semP (ps.map (c :: ·)) (a :: h) = ((c == 42 || c == a) && semP ps h) := by
  unfold semP
  rw [List.any_map]
  induction ps with
  | nil => simp
  | cons p ps ih =>
    rw [List.any_cons, List.any_cons, ih]
    show (fitsB (c :: p) (a :: h) || _) = _
    rw [fits_cons]
    cases (c == 42 || c == a) <;> simp
theorem sem_append {ps qs : List (List Nat)} {h : List Nat} : semP (ps ++ qs) h = (semP ps h || semP qs h) := by unfold semP; rw [List.any_append]
theorem sem_behind {n o : List (List Nat)} {a : Nat} {h : List Nat} (ha : a = 48 ∨ a = 49) : semP (behindL n o) (a :: h) = if a = 48 then semP n h else semP o h := by
  unfold behindL
  split
  · rename_i e
    subst e
    rw [sem_map]
    simp
  · rw [sem_append, sem_map, sem_map]
    rcases ha with rfl | rfl <;> simp
theorem canon_sem : ∀ (w : Nat) (S : List Nat → Bool) (h : List Nat), h.length = w → IsH h → semP (canon w S) h = S h
  | 0, S, h, hl, _ => by
    rw [List.length_eq_zero_iff.mp hl]
    unfold canon
    cases hs : S [] <;> simp [semP, fits_nil]
  | w + 1, S, [], hl, _ => nomatch hl
  | w + 1, S, a :: h, hl, hh => by
    have ha := hh a (by simp)
    have h1 : h.length = w := by simpa using hl
    have h2 : IsH h := fun c m => hh c (by simp [m])
    show semP (behindL _ _) (a :: h) = _
    rw [sem_behind ha]
    rcases ha with rfl | rfl
    · rw [if_pos rfl, canon_sem w _ h h1 h2]
    · rw [if_neg (by decide), canon_sem w _ h h1 h2]
theorem canon_congr : ∀ (w : Nat) {S T : List Nat → Bool}, (∀ h, h.length = w → IsH h → S h = T h) → canon w S = canon w T
  | 0, S, T, e => by unfold canon; rw [e [] rfl fun c m => nomatch m]
  | w + 1, S, T, e => by
    have k : ∀ a, a = 48 ∨ a = 49 → canon w (fun h => S (a :: h)) = canon w fun h => T (a :: h) := fun a ha => canon_congr w fun h hl hh => e (a :: h) (by simp [hl]) fun c m => by
      rcases List.mem_cons.mp m with rfl | m
      · exact ha
      · exact hh c m
    show behindL _ _ = behindL _ _
    rw [k 48 (.inl rfl), k 49 (.inr rfl)]
theorem canon_eq {w : Nat} {S T : List Nat → Bool} : canon w S = canon w T ↔ ∀ h, h.length = w → IsH h → S h = T h :=
  ⟨fun e h hl hh => by rw [← canon_sem w S h hl hh, e, canon_sem w T h hl hh], canon_congr w⟩
theorem canon_false (w : Nat) : canon w (fun _ => false) = [] := by
  induction w with
  | zero => rfl
  | succ w ih => show behindL (canon w fun _ => false) (canon w fun _ => false) = []; rw [ih]; rfl
theorem canon_true (w : Nat) : canon w (fun _ => true) = [List.replicate w 42] := by
  induction w with
  | zero => rfl
  | succ w ih => show behindL (canon w fun _ => true) (canon w fun _ => true) = _; rw [ih]; simp [behindL, List.replicate_succ]
theorem canon_nil {w : Nat} {S : List Nat → Bool} : canon w S = [] ↔ ∀ h, h.length = w → IsH h → S h = false := by
  rw [← canon_false w, canon_eq]
theorem canon_all {w : Nat} {S : List Nat → Bool} : canon w S = [List.replicate w 42] ↔ ∀ h, h.length = w → IsH h → S h = true := by
  rw [← canon_true w, canon_eq]
theorem fits_stars : ∀ (w : Nat) (h : List Nat), fitsB (List.replicate w 42) h = true
  | 0, h => fits_nil
  | w + 1, [] => rfl
  | w + 1, a :: h => by rw [List.replicate_succ, fits_cons, fits_stars w h]; rfl
def restsL (ps : List (List Nat)) (s : Nat) : List (List Nat) := (ps.filter fun p => decide (p.head? = some s) || decide (p.head? = some 42)).map List.tail
theorem sem_rests {s : Nat} {h : List Nat} : ∀ {ps : List (List Nat)}, (∀ p ∈ ps, p ≠ []) → semP (restsL ps s) h = semP ps (s :: h)
  | [], _ => rfl
  | [] :: ps, hp => absurd rfl (hp [] (by simp))
  | (a :: p) :: ps, hp => by
    have ih := sem_rests (s := s) (h := h) (ps := ps) fun q m => hp q (by simp [m])
    have e : semP ((a :: p) :: ps) (s :: h) = (((a == 42 || a == s) && fitsB p h) || semP ps (s :: h)) := rfl
    rw [e, ← ih]
    unfold restsL
    rw [List.filter_cons]
    by_cases h1 : a = s
    · subst h1; simp [semP]
    · by_cases h2 : a = 42
      · subst h2; simp [semP]
      · simp [h1, h2]
theorem rests_isP {w s : Nat} {ps : List (List Nat)} (h : ∀ p ∈ ps, p.length = w + 1 ∧ IsP p) : ∀ p ∈ restsL ps s, p.length = w ∧ IsP p := fun p m => by
  obtain ⟨q, hq, rfl⟩ := List.mem_map.mp m
  have := h q (List.mem_filter.mp hq).1
  exact ⟨by simp [this.1], fun c m => this.2 c (List.mem_of_mem_tail m)⟩
theorem behind_len (n o : List (List Nat)) : (behindL n o).length ≤ n.length + o.length := by
  unfold behindL
  split <;> simp
theorem canon_len : ∀ (w : Nat) (S : List Nat → Bool), (canon w S).length ≤ 2 ^ w
  | 0, S => by unfold canon; split <;> simp
  | w + 1, S => by
    have h1 := canon_len w fun h => S (48 :: h)
    have h2 := canon_len w fun h => S (49 :: h)
    have h3 := behind_len (canon w fun h => S (48 :: h)) (canon w fun h => S (49 :: h))
    show (behindL _ _).length ≤ _
    rw [Nat.pow_succ]
    omega
def cnt : Nat → (List Nat → Bool) → Nat
  | 0, S => if S [] = true then 1 else 0
  | w + 1, S => cnt w (fun h => S (48 :: h)) + cnt w fun h => S (49 :: h)
def manyP (ps : List (List Nat)) : Nat := (ps.map fun p => 2 ^ p.count 42).sum
theorem many_app (ps qs : List (List Nat)) : manyP (ps ++ qs) = manyP ps + manyP qs := by unfold manyP; rw [List.map_append, List.sum_append_nat]
theorem many_sign {c : Nat} (hc : c ≠ 42) (ps : List (List Nat)) : manyP (ps.map (c :: ·)) = manyP ps := by
  unfold manyP
  rw [List.map_map]
  congr 1
  exact List.map_congr_left fun p _ => by simp [List.count_cons, hc]
theorem many_star (ps : List (List Nat)) : manyP (ps.map (42 :: ·)) = manyP ps + manyP ps := by
  induction ps with
  | nil => rfl
  | cons p ps ih =>
    have e1 : manyP ((p :: ps).map (42 :: ·)) = 2 ^ (p.count 42 + 1) + manyP (ps.map (42 :: ·)) := by simp [manyP, List.count_cons]
    have e2 : manyP (p :: ps) = 2 ^ p.count 42 + manyP ps := by simp [manyP]
    rw [e1, e2, ih, Nat.pow_succ]
    omega
theorem canon_many : ∀ (w : Nat) (S : List Nat → Bool), manyP (canon w S) = cnt w S
  | 0, S => by unfold canon cnt; split <;> rfl
  | w + 1, S => by
    show manyP (behindL _ _) = cnt w _ + cnt w _
    rw [← canon_many w, ← canon_many w]
    unfold behindL
    split
    · rename_i e; rw [many_star, e]
    · rw [many_app, many_sign (by decide), many_sign (by decide)]
theorem cnt_le : ∀ (w : Nat) (S : List Nat → Bool), cnt w S ≤ 2 ^ w
  | 0, S => by unfold cnt; split <;> simp
  | w + 1, S => by
    have h1 := cnt_le w fun h => S (48 :: h)
    have h2 := cnt_le w fun h => S (49 :: h)
    simp only [cnt]
    rw [Nat.pow_succ]
    omega
end My

namespace My
open PySem L2 DL
variable {X : Xc → DL.Env → Prop}
theorem rests_eq {ps : List (List Nat)} {s : Nat} (h : ∀ p ∈ ps, p ≠ [] ∧ p.length ≤ 1000) (hl : ps.length ≤ 1000000) : m_rests [.lst false (ps.map .str), .str [s]] = .ok (.lst true ((restsL ps s).map .str)) := by
  refine WO.eq ?_
  unfold m_rests
  rw [WO_runP (by rfl)]
  unfold g_rests
  simp
  refine WO_cLcF D.str (fun p => decide (p.head? = some s) || decide (p.head? = some 42)) (fun p => .str p.tail) ps ?_ hl ?_ ?_
  · simp
  · intro p hp
    have := h p hp
    cases p with
    | nil => exact absurd rfl this.1
    | cons a p =>
      simp [cut_one]
      have h1 : p.length ≤ 999999 := by have := this.2; simp at this; omega
      refine ⟨h1, ?_⟩
      split
      · rename_i z; exact ⟨h1, z.imp Eq.symm Eq.symm⟩
      · rename_i z; exact ⟨fun e => z (.inl e.symm), fun e => z (.inr e.symm)⟩
  · simp [restsL]
theorem eqDs_strs' : ∀ xs ys : List (List Nat), (eqDs (xs.map D.str) (ys.map D.str) = true ↔ xs = ys)
  | [], [] => by simp
  | [], _ :: _ => by simp
  | _ :: _, [] => by simp
  | x :: xs, y :: ys => by
    have ih := eqDs_strs' xs ys
    simp only [List.map_cons, eqs_cons, eqD_ss, Bool.and_eq_true, ih, List.cons.injEq]
    simp
theorem eqDs_strs {xs ys : List (List Nat)} : eqDs (xs.map D.str) (ys.map D.str) = decide (xs = ys) := by
  rw [Bool.eq_iff_iff, eqDs_strs']
  simp
theorem behind_eq {n o : List (List Nat)} (h1 : ∀ p ∈ n, p.length ≤ 1000) (h2 : ∀ p ∈ o, p.length ≤ 1000) (l1 : n.length ≤ 100000) (l2 : o.length ≤ 100000) : m_behind [.lst false (n.map .str), .lst false (o.map .str)] = .ok (.lst true ((behindL n o).map .str)) := by
  refine WO.eq ?_
  unfold m_behind
  rw [WO_runP (by rfl)]
  unfold g_behind
  simp [eqDs_strs]
  by_cases e : n = o
  · subst e
    simp
    refine WO_cLcM D.str (fun p => .str (42 :: p)) n ?_ (by omega) ?_ ?_
    · simp
    · intro p hp
      have := h1 p hp
      simp
      omega
    · simp [behindL]
  · simp [e]
    refine WO_cLcM D.str (fun p => .str (48 :: p)) n ?_ (by omega) ?_ ?_
    · simp
    · intro p hp
      have := h1 p hp
      simp
      omega
    · simp
      refine WO_cLcM D.str (fun p => .str (49 :: p)) o ?_ (by omega) ?_ ?_
      · simp
      · intro p hp
        have := h2 p hp
        simp
        omega
      · simp [behindL, e]
        exact ⟨by omega, rfl⟩
theorem stars_flatH (w : Nat) : (List.replicate (w : Int).toNat [42]).flatten = List.replicate w 42 := by
  rw [show ((w : Int).toNat) = w from by omega]
  induction w with
  | zero => rfl
  | succ w ih => rw [List.replicate_succ, List.flatten_cons, ih]; rfl
theorem inD_strs {p : List Nat} {ps : List (List Nat)} : inD (.str p) (ps.map D.str) = decide (p ∈ ps) := by
  rw [inD_eq, List.any_map, Bool.eq_iff_iff]
  simp
theorem told_eq : ∀ (k w : Nat) (ps : List (List Nat)), w < k → w ≤ 16 → (∀ p ∈ ps, p.length = w ∧ IsP p) → ps.length ≤ 1000000 → r_told_patterns k [.int w, .lst false (ps.map .str)] = .ok (.lst true ((canon w (semP ps)).map .str))
  | 0, w, ps, h, _, _, _ => absurd h (Nat.not_lt_zero w)
  | k + 1, w, ps, hk, hw, hp, hl => by
    refine WO.eq ?_
    unfold r_told_patterns
    rw [WO_runP (by rfl)]
    unfold g_told_patterns
    with_reducible refine WS_step fun K hK => ?_
    simp [stars_flatH, eqDs_strs, inD_strs]
    have hf : frzs (ps.map D.str) = ps.map D.str := frzs_strs ps
    by_cases e0 : ps = []
    · subst e0
      rw [if_pos rfl]
      refine ⟨by omega, ?_⟩
      rw [show canon w (semP []) = [] from canon_nil.mpr fun h _ _ => rfl]
      exact cut_take [D.str (List.replicate w 42)] 0
    · rw [if_neg e0]
      refine ⟨by omega, ?_⟩
      by_cases e1 : List.replicate w 42 ∈ ps
      · rw [if_pos e1]
        refine ⟨by omega, ?_⟩
        rw [canon_all.mpr fun h hl hh => ?_, cut_take, List.take_of_length_le]
        · rfl
        · have := List.length_pos_iff.mpr e0
          simp
          omega
        · exact List.any_eq_true.mpr ⟨_, e1, fits_stars w h⟩
      · rw [if_neg e1]
        refine hK _ ?_
        clear hK
        match w, hw, hp, e1, hk with
        | 0, _, hp, e1, _ =>
          exfalso
          cases ps with
          | nil => exact e0 rfl
          | cons p ps =>
            have := (hp p (by simp)).1
            rw [List.length_eq_zero_iff.mp this] at e1
            exact e1 (by simp)
        | w + 1, hw, hp, e1, hk =>
        have hne : ∀ p ∈ ps, p ≠ [] ∧ p.length ≤ 1000 := fun p hm => by
          have := (hp p hm).1
          exact ⟨fun z => by rw [z] at this; simp at this, by omega⟩
        have hr : ∀ s, (restsL ps s).length ≤ 1000000 := fun s => by
          unfold restsL
          rw [List.length_map]
          exact Nat.le_trans (List.length_filter_le ..) hl
        have ec : ∀ s, s = 48 ∨ s = 49 → canon w (semP (restsL ps s)) = canon w fun h => semP ps (s :: h) := fun s hs => canon_congr w fun h _ _ => sem_rests fun p hm => (hne p hm).1
        have t0 := told_eq k w (restsL ps 48) (by omega) (by omega) (rests_isP hp) (hr 48)
        have t1 := told_eq k w (restsL ps 49) (by omega) (by omega) (rests_isP hp) (hr 49)
        rw [ec 48 (.inl rfl)] at t0
        rw [ec 49 (.inr rfl)] at t1
        have ew : ((w + 1 : Nat) : Int) - 1 = (w : Int) := by omega
        have cl : ∀ S, (canon w S).length ≤ 100000 := fun S => Nat.le_trans (canon_len w S) (Nat.le_trans (Nat.pow_le_pow_right (by omega) (show w ≤ 16 by omega)) (by decide))
        have cp : ∀ S, ∀ p ∈ canon w S, p.length ≤ 1000 := fun S p hm => by have := (canon_isP w S p hm).1; omega
        have bh := behind_eq (cp fun h => semP ps (48 :: h)) (cp fun h => semP ps (49 :: h)) (cl _) (cl _)
        with_reducible refine WS_step fun K hK => ?_
        rw [WS_par]
        simp [rests_eq hne hl]
        refine ⟨_, _, ⟨rfl, rfl⟩, hK _ ?_⟩
        clear hK
        with_reducible refine WS_step fun K hK => ?_
        simp
        have ew' : (w : Int) + 1 - 1 = (w : Int) := by omega
        simp [ew', t0]
        refine hK _ ?_
        clear hK
        with_reducible refine WS_step fun K hK => ?_
        simp [eqDs_strs]
        by_cases e2 : restsL ps 49 = restsL ps 48
        · have e3 : (canon w fun h => semP ps (49 :: h)) = canon w fun h => semP ps (48 :: h) := by rw [← ec 48 (.inl rfl), ← ec 49 (.inr rfl), e2]
          rw [e3] at bh
          simp [e2]
          refine hK _ ?_
          simp [bh]
          show List.map D.str (behindL _ _) = List.map D.str (behindL _ (canon w fun h => semP ps (49 :: h)))
          rw [e3]
        · simp [e2, ew', t1]
          refine hK _ ?_
          simp [bh]
          rfl
theorem told_m {w : Nat} {ps : List (List Nat)} (hw : w ≤ 16) (hp : ∀ p ∈ ps, p.length = w ∧ IsP p) (hl : ps.length ≤ 1000000) : m_told_patterns [.int w, .lst false (ps.map .str)] = .ok (.lst true ((canon w (semP ps)).map .str)) := told_eq 20 w ps (by omega) hw hp hl
end My

namespace My
open PySem L2 DL
variable {X : Xc → DL.Env → Prop}
abbrev FL : List Str := ["own_width", "told"]
def eS (ps : List (List Nat)) : D := .lst false (ps.map .str)
def eH (w : Nat) (S : List Nat → Bool) : D := .obj false "Heads" FL [.int w, .lst false ((canon w S).map .str)]
def eHn (w : Nat) (S : List Nat → Bool) : D := .obj true "Heads" FL [.int w, .lst true ((canon w S).map .str)]
@[simp] theorem frz_eH {w : Nat} {S : List Nat → Bool} : frz (eH w S) = eH w S := by simp [eH]
@[simp] theorem frz_eHn {w : Nat} {S : List Nat → Bool} : frz (eHn w S) = eH w S := by simp [eH, eHn]
@[simp] theorem shr_eH {w : Nat} {S : List Nat → Bool} : shr (eH w S) = true := by simp [eH]
@[simp] theorem shr_eHn {w : Nat} {S : List Nat → Bool} : shr (eHn w S) = false := by simp [eHn]
theorem ne_wt : ¬ (("told" : Str) = "own_width") := by decide +kernel
theorem ne_tw : ¬ (("own_width" : Str) = "told") := by decide +kernel
@[simp] theorem fld_w {w : Nat} {S : List Nat → Bool} : gFld "Heads" "own_width" (eH w S) = .ok (.int w) := by
  unfold gFld eH
  simp [getFD]
  rfl
@[simp] theorem fld_t {w : Nat} {S : List Nat → Bool} : gFld "Heads" "told" (eH w S) = .ok (.lst false ((canon w S).map .str)) := by
  unfold gFld eH
  simp [getFD, ne_wt]
  rfl
theorem ob_of {m : Str} {w : Nat} {S : List Nat → Bool} (h : (FL.all fun g => decide (m ≠ g)) = true) : isOb "Heads" m (eH w S) = true := by
  unfold isOb eH
  simp only [h, decide_true, Bool.and_self]
theorem ob_ofn {m : Str} {w : Nat} {S : List Nat → Bool} (h : (FL.all fun g => decide (m ≠ g)) = true) : isOb "Heads" m (eHn w S) = true := by
  unfold isOb eHn
  simp only [h, decide_true, Bool.and_self]
section
variable {w : Nat} {S : List Nat → Bool}
@[simp] theorem ob_width : isOb "Heads" "width" (eH w S) = true := ob_of (by decide +kernel)
@[simp] theorem obn_width : isOb "Heads" "width" (eHn w S) = true := ob_ofn (by decide +kernel)
@[simp] theorem ob_patterns : isOb "Heads" "patterns" (eH w S) = true := ob_of (by decide +kernel)
@[simp] theorem obn_patterns : isOb "Heads" "patterns" (eHn w S) = true := ob_ofn (by decide +kernel)
@[simp] theorem ob_look_at_other : isOb "Heads" "look_at_other" (eH w S) = true := ob_of (by decide +kernel)
@[simp] theorem obn_look_at_other : isOb "Heads" "look_at_other" (eHn w S) = true := ob_ofn (by decide +kernel)
@[simp] theorem ob_look_at_pattern : isOb "Heads" "look_at_pattern" (eH w S) = true := ob_of (by decide +kernel)
@[simp] theorem obn_look_at_pattern : isOb "Heads" "look_at_pattern" (eHn w S) = true := ob_ofn (by decide +kernel)
@[simp] theorem ob_either : isOb "Heads" "either" (eH w S) = true := ob_of (by decide +kernel)
@[simp] theorem obn_either : isOb "Heads" "either" (eHn w S) = true := ob_ofn (by decide +kernel)
@[simp] theorem ob_both : isOb "Heads" "both" (eH w S) = true := ob_of (by decide +kernel)
@[simp] theorem obn_both : isOb "Heads" "both" (eHn w S) = true := ob_ofn (by decide +kernel)
@[simp] theorem ob_less : isOb "Heads" "less" (eH w S) = true := ob_of (by decide +kernel)
@[simp] theorem obn_less : isOb "Heads" "less" (eHn w S) = true := ob_ofn (by decide +kernel)
@[simp] theorem ob_others : isOb "Heads" "others" (eH w S) = true := ob_of (by decide +kernel)
@[simp] theorem obn_others : isOb "Heads" "others" (eHn w S) = true := ob_ofn (by decide +kernel)
@[simp] theorem ob_put : isOb "Heads" "put" (eH w S) = true := ob_of (by decide +kernel)
@[simp] theorem obn_put : isOb "Heads" "put" (eHn w S) = true := ob_ofn (by decide +kernel)
@[simp] theorem ob_put_back : isOb "Heads" "put_back" (eH w S) = true := ob_of (by decide +kernel)
@[simp] theorem obn_put_back : isOb "Heads" "put_back" (eHn w S) = true := ob_ofn (by decide +kernel)
@[simp] theorem ob_is_within : isOb "Heads" "is_within" (eH w S) = true := ob_of (by decide +kernel)
@[simp] theorem obn_is_within : isOb "Heads" "is_within" (eHn w S) = true := ob_ofn (by decide +kernel)
@[simp] theorem ob_holds : isOb "Heads" "holds" (eH w S) = true := ob_of (by decide +kernel)
@[simp] theorem obn_holds : isOb "Heads" "holds" (eHn w S) = true := ob_ofn (by decide +kernel)
@[simp] theorem ob_how_many : isOb "Heads" "how_many" (eH w S) = true := ob_of (by decide +kernel)
@[simp] theorem obn_how_many : isOb "Heads" "how_many" (eHn w S) = true := ob_ofn (by decide +kernel)
@[simp] theorem ob_first_below : isOb "Heads" "first_below" (eH w S) = true := ob_of (by decide +kernel)
@[simp] theorem obn_first_below : isOb "Heads" "first_below" (eHn w S) = true := ob_ofn (by decide +kernel)
@[simp] theorem ob_head_at : isOb "Heads" "head_at" (eH w S) = true := ob_of (by decide +kernel)
@[simp] theorem obn_head_at : isOb "Heads" "head_at" (eHn w S) = true := ob_ofn (by decide +kernel)
@[simp] theorem ob_number_of : isOb "Heads" "number_of" (eH w S) = true := ob_of (by decide +kernel)
@[simp] theorem obn_number_of : isOb "Heads" "number_of" (eHn w S) = true := ob_ofn (by decide +kernel)
@[simp] theorem ob_len : isOb "Heads" "__len__" (eH w S) = true := ob_of (by decide +kernel)
@[simp] theorem obn_len : isOb "Heads" "__len__" (eHn w S) = true := ob_ofn (by decide +kernel)
@[simp] theorem ob_eq : isOb "Heads" "__eq__" (eH w S) = true := ob_of (by decide +kernel)
@[simp] theorem obn_eq : isOb "Heads" "__eq__" (eHn w S) = true := ob_ofn (by decide +kernel)
@[simp] theorem ob_str : isOb "Heads" "__str__" (eH w S) = true := ob_of (by decide +kernel)
@[simp] theorem obn_str : isOb "Heads" "__str__" (eHn w S) = true := ob_ofn (by decide +kernel)
@[simp] theorem ob_repr : isOb "Heads" "__repr__" (eH w S) = true := ob_of (by decide +kernel)
@[simp] theorem obn_repr : isOb "Heads" "__repr__" (eHn w S) = true := ob_ofn (by decide +kernel)
end
theorem iswidth_eq {i : Int} : m_is_width [.int i] = .ok (.bl (decide (1 ≤ i) && decide (i ≤ 16))) := by
  refine WO.eq ?_
  unfold m_is_width
  rw [WO_runP (by rfl)]
  unfold g_is_width
  simp [whole_eq (d := .int i) rfl, isWholeD]
  by_cases h : 1 ≤ i <;> simp [h]
theorem pat_ok {w : Nat} {p : List Nat} (hl : p.length = w) (hw : w ≤ 1000) (hp : IsP p) : m_is_pattern [.str p, .int w] = .ok (.bl true) := by
  rw [pattern_eq (d := .str p) rfl (fun cs e => by cases e; omega) rfl, isOf_pat hl hp]
theorem init_eq {w : Nat} {ps : List (List Nat)} (h1 : 1 ≤ w) (h2 : w ≤ 16) (hp : ∀ p ∈ ps, p.length = w ∧ IsP p) (hl : ps.length ≤ 1000000) : m_Heads___init__ [.obj true "Heads" [] [], .int w, .lst false (ps.map .str)] = .ok (.non, eHn w (semP ps)) := by
  refine WO.eq ?_
  unfold m_Heads___init__
  rw [WO_runX (by rfl)]
  unfold g_Heads___init__
  with_reducible refine WS_step fun K hK => ?_
  simp [iswidth_eq]
  refine ⟨by omega, hK _ ?_⟩
  clear hK
  with_reducible refine WS_step fun K hK => ?_
  simp
  refine hK _ ?_
  clear hK
  with_reducible refine WS_step fun K hK => ?_
  simp
  refine hK _ ?_
  clear hK
  with_reducible refine WS_step fun K hK => ?_
  rw [WS_for]
  simp
  have hz : ((ps.map fun x => D.str x).zipIdx.map fun q => D.tup [.int (q.2 : Nat), q.1]) = ps.zipIdx.map fun q => D.tup [.int (q.2 : Nat), .str q.1] := by
    rw [List.zipIdx_map, List.map_map]; rfl
  rw [hz]
  refine for_of (fun q : List Nat × Nat => D.tup [.int (q.2 : Nat), .str q.1]) (fun (qs : List (List Nat × Nat)) r => (∀ q ∈ qs, q.1 ∈ ps) ∧ ∃ o4 o5, r = [some (D.obj true "Heads" [] []), some (D.int w), some (D.lst false (ps.map fun x => D.str x)), some (D.lst false (ps.map fun x => D.str x)), o4, o5]) _ ⟨fun q hq => ?_, _, _, rfl⟩ ?_ ?_
  · exact (List.mem_zipIdx_iff_getElem?.mp hq) |> fun h => List.mem_of_getElem? h
  · rintro q qs r K2 ⟨hq, o4, o5, rfl⟩ hK2
    have := hp q.1 (hq q (by simp))
    simp [pat_ok this.1 (by omega) this.2]
    exact hK2 _ ⟨fun x hx => hq x (by simp [hx]), _, _, rfl⟩
  rintro r ⟨_, o4, o5, rfl⟩
  refine hK _ ?_
  clear hK
  with_reducible refine WS_step fun K hK => ?_
  simp
  refine ⟨[], [], ⟨rfl, rfl⟩, by decide, hK _ ?_⟩
  clear hK
  simp [told_m h2 hp hl]
  refine ⟨["own_width"], [.int w], ⟨rfl, rfl⟩, by decide, ?_⟩
  simp [putN, putX, ne_tw, eHn]
theorem mk_eq {w : Nat} {ps : List (List Nat)} (h1 : 1 ≤ w) (h2 : w ≤ 16) (hp : ∀ p ∈ ps, p.length = w ∧ IsP p) (hl : ps.length ≤ 1000000) : mkO "Heads" 3 m_Heads___init__ [] [.int w, .lst false (ps.map .str)] = .ok (eHn w (semP ps)) := by
  unfold mkO
  rw [if_pos (by rfl)]
  show (match m_Heads___init__ [.obj true "Heads" [] [], .int w, .lst false (ps.map .str)] with | .ok (.non, d) => Out.ok d | .exn x _ => .exn x [] | _ => .bad) = _
  rw [init_eq h1 h2 hp hl]
section
variable {w : Nat} {S T : List Nat → Bool}
theorem canon_small (h2 : w ≤ 16) : (canon w S).length ≤ 65536 := Nat.le_trans (canon_len w S) (Nat.le_trans (Nat.pow_le_pow_right (by omega) h2) (by decide))
theorem manyof_eq {p : List Nat} (h : p.length ≤ 1000) : m_many_of [.str p] = .ok (.int (2 ^ p.count 42 : Nat)) := by
  refine WO.eq ?_
  unfold m_many_of
  rw [WO_runP (by rfl)]
  unfold g_many_of
  have : p.count 42 ≤ p.length := List.count_le_length
  simp [gShlI, CPow]
  omega
theorem sum_cast {α : Type} (f : α → Nat) : ∀ ns : List α, (ns.map fun n => ((f n : Nat) : Int)).sum = ((ns.map f).sum : Nat)
  | [] => rfl
  | n :: ns => by rw [List.map_cons, List.map_cons, List.sum_cons, List.sum_cons, sum_cast f ns]; omega
theorem hd_ok {h : List Nat} (hl : h.length = w) (hw : w ≤ 1000) (hh : IsH h) : m_is_head [.str h, .int w] = .ok (.bl true) := by
  rw [head_eq (d := .str h) rfl (fun cs e => by cases e; omega) rfl, isOf_head hl hh]
theorem howmany_e (h2 : w ≤ 16) : m_Heads_how_many [eH w S] = .ok (.int (cnt w S)) := by
  refine WO.eq ?_
  unfold m_Heads_how_many
  rw [WO_runP (by rfl)]
  unfold g_Heads_how_many
  simp
  refine WO_cLcM D.str (fun p => .int (2 ^ p.count 42 : Nat)) (canon w S) (by simp) (by have := canon_small (S := S) h2; omega) ?_ ?_
  · intro p hp
    have := (canon_isP w S p hp).1
    simp [manyof_eq (p := p) (by omega)]
  · have e : (canon w S).map (fun p => D.int (2 ^ p.count 42 : Nat)) = ((canon w S).map fun p => ((2 ^ p.count 42 : Nat) : Int)).map D.int := by rw [List.map_map]; rfl
    rw [frz_lst, e, frzs_ints, gSum_map, sum_cast (fun p : List Nat => 2 ^ p.count 42), ← canon_many]
    rfl
theorem cnt_small (h2 : w ≤ 16) : cnt w S ≤ 65536 := Nat.le_trans (cnt_le w S) (Nat.le_trans (Nat.pow_le_pow_right (by omega) h2) (by decide))
theorem len_e (h2 : w ≤ 16) : m_Heads___len__ [eH w S] = .ok (.int (cnt w S)) := by
  refine WO.eq ?_
  unfold m_Heads___len__
  rw [WO_runP (by rfl)]
  unfold g_Heads___len__
  have := cnt_small (S := S) h2
  simp [howmany_e h2]
  omega
theorem len_o (h2 : w ≤ 16) : gLenO "Heads" m_Heads___len__ (eH w S) = .ok (.int (cnt w S)) := by
  have := cnt_small (S := S) h2
  unfold gLenO
  rw [if_pos ob_len, len_e h2]
  show (if _ then _ else _) = _
  rw [if_pos (by omega)]
@[simp] theorem gisc_eHF {w : Nat} {S : List Nat → Bool} : gIsC (tab [(Str.ofString "Heads", true), (Str.ofString "Flow", false)]) (eH w S) = .ok (.bl true) := by kernel_rfl
theorem holds_e {h : List Nat} (hl : h.length = w) (h2 : w ≤ 16) (hh : IsH h) : m_Heads_holds [eH w S, .str h] = .ok (.bl (S h)) := by
  refine WO.eq ?_
  unfold m_Heads_holds
  rw [WO_runP (by rfl)]
  unfold g_Heads_holds
  simp [hd_ok hl (by omega) hh]
  refine WO_cLcM D.str (fun p => .bl (fitsB p h)) (canon w S) (by simp) (by have := canon_small (S := S) h2; omega) ?_ ?_
  · intro p hp
    have := (canon_isP w S p hp).1
    simp [fits_eq (p := p) (h := h) (by omega)]
  · have e : (canon w S).map (fun p => D.bl (fitsB p h)) = ((canon w S).map fun p => fitsB p h).map D.bl := by rw [List.map_map]; rfl
    rw [frz_lst, e]
    have hf : frzs (((canon w S).map fun p => fitsB p h).map D.bl) = ((canon w S).map fun p => fitsB p h).map D.bl := by simp
    rw [hf, WO_any rfl, ← canon_sem w S h hl hh]
    simp [semP, List.any_map]
end
end My

namespace My
open PySem L2 DL
variable {X : Xc → DL.Env → Prop}
section
variable {w : Nat} {S : List Nat → Bool}
end
def FB (b : List Nat) (ps : List (List Nat)) : Nat := ((ps.filter fun p => fitsB (p.take b.length) b).map fun p => 2 ^ (p.drop b.length).count 42).sum
theorem FB_app (b : List Nat) (ps qs : List (List Nat)) : FB b (ps ++ qs) = FB b ps + FB b qs := by
  unfold FB
  rw [List.filter_append, List.map_append, List.sum_append_nat]
theorem FB_map (a c : Nat) (b : List Nat) (ps : List (List Nat)) : FB (a :: b) (ps.map (c :: ·)) = if c = 42 ∨ c = a then FB b ps else 0 := by
  induction ps with
  | nil => simp [FB]
  | cons p ps ih =>
    have e : ∀ (x : List Nat) (xs : List (List Nat)) (d : List Nat), FB d (x :: xs) = FB d [x] + FB d xs := fun x xs d => FB_app d [x] xs
    rw [List.map_cons, e, ih, e p ps b]
    have : FB (a :: b) [c :: p] = if c = 42 ∨ c = a then FB b [p] else 0 := by
      unfold FB
      rw [List.filter_cons, List.filter_cons]
      simp only [List.length_cons, List.take_succ_cons, List.drop_succ_cons, fits_cons, List.filter_nil]
      by_cases h1 : c = 42 ∨ c = a
      · have : (c == 42 || c == a) = true := by simpa using h1
        simp only [this, h1, Bool.true_and, if_true]
        split <;> simp
      · have : (c == 42 || c == a) = false := by simpa using h1
        simp [this, h1]
    rw [this]
    split <;> rfl
theorem FB_canon : ∀ (b : List Nat) (w : Nat) (S : List Nat → Bool), b.length ≤ w → IsH b → FB b (canon w S) = cnt (w - b.length) fun t => S (b ++ t)
  | [], w, S, _, _ => by
    rw [show cnt (w - ([] : List Nat).length) (fun t => S ([] ++ t)) = cnt w S from rfl, ← canon_many]
    unfold FB manyP
    have : (canon w S).filter (fun p => fitsB (p.take ([] : List Nat).length) []) = canon w S := List.filter_eq_self.mpr fun p _ => (show fitsB (List.take 0 p) [] = true by rw [List.take_zero]; rfl)
    rw [this]
    rfl
  | a :: b, 0, S, h, _ => nomatch h
  | a :: b, w + 1, S, h, hh => by
    have ha := hh a (by simp)
    have hb : IsH b := fun c m => hh c (by simp [m])
    have ih := fun c => FB_canon b w (fun t => S (c :: t)) (by simpa using h) hb
    have ew : w + 1 - (a :: b).length = w - b.length := by simp
    rw [ew]
    show FB (a :: b) (behindL _ _) = cnt (w - b.length) fun t => S (a :: (b ++ t))
    unfold behindL
    split
    · rename_i e
      rw [FB_map, if_pos (.inl rfl)]
      rcases ha with rfl | rfl
      · exact ih 48
      · rw [e]; exact ih 49
    · rw [FB_app, FB_map, FB_map]
      rcases ha with rfl | rfl
      · simp; exact ih 48
      · simp; exact ih 49
theorem below_e {w : Nat} {S : List Nat → Bool} {b : List Nat} (h2 : w ≤ 16) (hl : b.length ≤ w) (hb : IsH b) : m_Heads_first_below [eH w S, .str b] = .ok (.int (cnt (w - b.length) fun t => S (b ++ t))) := by
  refine WO.eq ?_
  unfold m_Heads_first_below
  rw [WO_runP (by rfl)]
  unfold g_Heads_first_below
  have hsm := canon_small (S := S) h2
  with_reducible refine WS_step fun K hK => ?_
  simp
  refine ⟨by omega, hK _ ?_⟩
  simp
  refine WO_cLcF D.str (fun p => fitsB (p.take b.length) b) (fun p => .int (2 ^ (p.drop b.length).count 42 : Nat)) (canon w S) (by simp) (by omega) ?_ ?_
  · intro p hp
    have := (canon_isP w S p hp).1
    have f1 := fits_eq (p := p.take b.length) (h := b) (by simp; omega)
    have f2 := manyof_eq (p := p.drop b.length) (by simp; omega)
    simp [cut_take, cut_drop, f1]
    refine ⟨by omega, ?_⟩
    intro hf
    rw [f2]
    exact ⟨by omega, hf, by simp⟩
  · have e : ((canon w S).filter fun p => fitsB (p.take b.length) b).map (fun p => D.int (2 ^ (p.drop b.length).count 42 : Nat)) = (((canon w S).filter fun p => fitsB (p.take b.length) b).map fun p => ((2 ^ (p.drop b.length).count 42 : Nat) : Int)).map D.int := by rw [List.map_map]; rfl
    rw [frz_lst, e, frzs_ints, gSum_map, sum_cast (fun p : List Nat => 2 ^ (p.drop b.length).count 42), ← FB_canon b w S hl hb]
    rfl
def rk : Nat → List Nat → (List Nat → Bool) → Nat
  | w + 1, a :: t, S => if a = 49 then cnt w (fun x => S (48 :: x)) + rk w t (fun x => S (49 :: x)) else rk w t fun x => S (48 :: x)
  | _, _, _ => 0
theorem rk_nil (w : Nat) (S : List Nat → Bool) : rk w [] S = 0 := by cases w <;> rfl
theorem rk_snoc : ∀ (w : Nat) (b : List Nat) (S : List Nat → Bool), b.length < w → IsH b → rk w (b ++ [48]) S = rk w b S ∧ rk w (b ++ [49]) S = rk w b S + cnt (w - (b.length + 1)) (fun t => S (b ++ [48] ++ t))
  | 0, b, S, h, _ => absurd h (Nat.not_lt_zero _)
  | w + 1, [], S, h, _ => by
    have e1 : rk (w + 1) [48] S = rk w [] (fun x => S (48 :: x)) := rfl
    have e2 : rk (w + 1) [49] S = cnt w (fun x => S (48 :: x)) + rk w [] (fun x => S (49 :: x)) := rfl
    rw [List.nil_append, List.nil_append, e1, e2, rk_nil, rk_nil, rk_nil]
    exact ⟨rfl, by simp⟩
  | w + 1, a :: b, S, h, hh => by
    have ha := hh a (by simp)
    have hb : IsH b := fun c m => hh c (by simp [m])
    have ih := fun c => rk_snoc w b (fun x => S (c :: x)) (by simpa using h) hb
    have ew : w + 1 - ((a :: b).length + 1) = w - (b.length + 1) := by simp
    rw [ew, List.cons_append, List.cons_append]
    rcases ha with rfl | rfl
    · have e1 : ∀ t, rk (w + 1) (48 :: t) S = rk w t fun x => S (48 :: x) := fun t => rfl
      rw [e1, e1, e1]
      exact ih 48
    · have e1 : ∀ t, rk (w + 1) (49 :: t) S = cnt w (fun x => S (48 :: x)) + rk w t fun x => S (49 :: x) := fun t => rfl
      rw [e1, e1, e1, (ih 49).1, (ih 49).2]
      exact ⟨rfl, by simp; omega⟩
theorem cnt_split {w : Nat} {S : List Nat → Bool} {b : List Nat} (h : b.length < w) : cnt (w - b.length) (fun t => S (b ++ t)) = cnt (w - (b.length + 1)) (fun t => S (b ++ [48] ++ t)) + cnt (w - (b.length + 1)) fun t => S (b ++ [49] ++ t) := by
  obtain ⟨k, hk⟩ : ∃ k, w - b.length = k + 1 := ⟨w - b.length - 1, by omega⟩
  have : w - (b.length + 1) = k := by omega
  rw [hk, this]
  simp only [cnt, List.append_assoc, List.cons_append, List.nil_append]
theorem headat_e {w : Nat} {S : List Nat → Bool} {k : Nat} (h1 : 1 ≤ w) (h2 : w ≤ 16) (hk : k < cnt w S) : ∃ h, m_Heads_head_at [eH w S, .int k] = .ok (.str h) ∧ h.length = w ∧ IsH h ∧ S h = true ∧ rk w h S = k := by
  have key : WO' XF (m_Heads_head_at [eH w S, .int k]) fun d => ∃ h, d = .str h ∧ h.length = w ∧ IsH h ∧ S h = true ∧ rk w h S = k := by
    unfold m_Heads_head_at
    rw [WO_runP (by rfl)]
    unfold g_Heads_head_at
    with_reducible refine WS_step fun K hK => ?_
    simp [whole_eq (d := .int (k : Int)) rfl, isWholeD, len_o h2]
    first | refine ⟨by omega, hK _ ?_⟩ | (rw [if_neg (by omega)]; refine hK _ ?_)
    clear hK
    with_reducible refine WS_step fun K hK => ?_
    simp
    refine hK _ ?_
    clear hK
    with_reducible refine WS_step fun K hK => ?_
    simp
    refine hK _ ?_
    clear hK
    with_reducible refine WS_step fun K hK => ?_
    refine while_inv (fun m r => ∃ (b : List Nat) (l : Nat) (o4 : Option D), m = w - b.length ∧ b.length ≤ w ∧ IsH b ∧ rk w b S + l = k ∧ l < cnt (w - b.length) (fun t => S (b ++ t)) ∧ r = [some (eH w S), some (.int k), some (.str b), some (.int l), o4]) ?_ 100000 w _ (by omega) ⟨[], k, none, by simp, by simp, (fun c m => nomatch m), by rw [rk_nil]; omega, by simpa using hk, rfl⟩
    rintro m r K2 ⟨b, l, o4, hm, hbl, hbh, hr, hlt, rfl⟩ hK2
    simp
    refine ⟨by omega, ?_⟩
    by_cases hbw : b.length < w
    · rw [if_pos hbw]
      have hb48 : IsH (b ++ [48]) := fun c m => by
        rcases List.mem_append.mp m with m | m
        · exact hbh c m
        · simp at m; exact .inl m
      have hb49 : IsH (b ++ [49]) := fun c m => by
        rcases List.mem_append.mp m with m | m
        · exact hbh c m
        · simp at m; exact .inr m
      have hsp := cnt_split (S := S) hbw
      have hsn := rk_snoc w b S hbw hbh
      have hbe := below_e (S := S) (b := b ++ [48]) h2 (by simp; omega) hb48
      rw [List.length_append, show ([48] : List Nat).length = 1 from rfl] at hbe
      refine ⟨by omega, ?_⟩
      rw [hbe]
      have hc0 : cnt (w - (b ++ [48]).length) (fun t => S (b ++ [48] ++ t)) = cnt (w - (b.length + 1)) (fun t => S (b ++ [48] ++ t)) := by simp
      generalize cnt (w - (b.length + 1)) (fun t => S (b ++ [48] ++ t)) = c0 at hsp hsn hc0 ⊢
      simp
      by_cases hlc : l < c0
      · rw [if_pos (by omega)]
        refine ⟨by omega, hK2 (w - (b ++ [48]).length) _ (by simp; omega) ⟨b ++ [48], l, _, rfl, by simp; omega, hb48, by rw [hsn.1]; exact hr, ?_, rfl⟩⟩
        rw [hc0]; exact hlc
      · rw [if_neg (by omega)]
        refine ⟨by omega, hK2 (w - (b ++ [49]).length) _ (by simp; omega) ⟨b ++ [49], l - c0, some (.int c0), rfl, by simp; omega, hb49, by rw [hsn.2]; omega, ?_, ?_⟩⟩
        · rw [List.length_append, show ([49] : List Nat).length = 1 from rfl]
          omega
        · have : (l : Int) - c0 = ((l - c0 : Nat) : Int) := by omega
          rw [this]
    · rw [if_neg hbw]
      refine hK _ ?_
      have hbe : b.length = w := by omega
      rw [hbe, Nat.sub_self] at hlt
      simp only [cnt, List.append_nil] at hlt
      simp
      by_cases hS : S b = true
      · rw [if_pos hS] at hlt
        exact ⟨hbe, hbh, hS, by omega⟩
      · rw [if_neg hS] at hlt
        omega
  obtain ⟨d, e, h, rfl, z⟩ := key.ok
  exact ⟨h, e, z⟩
end My

namespace My
open PySem L2 DL
variable {X : Xc → DL.Env → Prop}
end My

namespace My
open PySem L2 DL
variable {X : Xc → DL.Env → Prop}
theorem lt_app : ∀ {a b x y : List Nat}, a.length = b.length → a < b → a ++ x < b ++ y
  | [], [], _, _, _, h => absurd h (by simp)
  | [], _ :: _, _, _, hl, _ => nomatch hl
  | _ :: _, [], _, _, hl, _ => nomatch hl
  | c :: a, d :: b, x, y, hl, h => by
    rw [List.cons_append, List.cons_append]
    rw [List.cons_lt_cons_iff] at h ⊢
    rcases h with h | ⟨e, h⟩
    · exact .inl h
    · exact .inr ⟨e, lt_app (by simpa using hl) h⟩
theorem lt_app_same : ∀ (a : List Nat), a ++ [48] < a ++ [49]
  | [] => by decide
  | c :: a => by
    rw [List.cons_append, List.cons_append, List.cons_lt_cons_iff]
    exact .inr ⟨rfl, lt_app_same a⟩
theorem heads_sorted : ∀ n, (heads n).Pairwise (· < ·)
  | 0 => by simp [heads]
  | n + 1 => by
    have ih := heads_sorted n
    have hl : ∀ h ∈ heads n, h.length = n := fun h m => (heads_each n h m).1
    show ((heads n).flatMap fun h => [h ++ [48], h ++ [49]]).Pairwise (· < ·)
    generalize heads n = hs at ih hl
    induction hs with
    | nil => simp
    | cons h hs ih2 =>
      have p := List.pairwise_cons.mp ih
      rw [List.flatMap_cons, List.pairwise_append]
      refine ⟨by simp [lt_app_same], ih2 p.2 fun x m => hl x (by simp [m]), fun x hx y hy => ?_⟩
      obtain ⟨g, hg, hy⟩ := List.mem_flatMap.mp hy
      have hlt := p.1 g hg
      have hle : h.length = g.length := by rw [hl h (by simp), hl g (by simp [hg])]
      simp at hx hy
      rcases hx with rfl | rfl <;> rcases hy with rfl | rfl <;> exact lt_app hle hlt
theorem heads_le (n : Nat) (p : List Nat → Bool) : ((heads n).filter p).Pairwise (· ≤ ·) := ((heads_sorted n).sublist List.filter_sublist).imp fun h => List.le_of_lt h
end My

namespace My
open PySem L2 DL
variable {X : Xc → DL.Env → Prop}
theorem heads_cons : ∀ n, heads (n + 1) = (heads n).map (48 :: ·) ++ (heads n).map (49 :: ·)
  | 0 => rfl
  | n + 1 => by
    have ih := heads_cons n
    show (heads (n + 1)).flatMap _ = _
    conv => lhs; rw [ih]
    rw [List.flatMap_append, List.flatMap_map, List.flatMap_map]
    have e : ∀ c : Nat, (heads n).flatMap (fun a => [(c :: a) ++ [48], (c :: a) ++ [49]]) = (heads (n + 1)).map (c :: ·) := fun c => by
      show _ = List.map _ ((heads n).flatMap _)
      rw [List.map_flatMap]; rfl
    rw [e, e]
end My

namespace My
open PySem L2 DL
variable {X : Xc → DL.Env → Prop}
def hs (w : Nat) (S : List Nat → Bool) : List (List Nat) := (heads w).filter S
theorem hs_mem {w : Nat} {S : List Nat → Bool} {x : List Nat} : x ∈ hs w S ↔ x ∈ heads w ∧ S x = true := List.mem_filter
theorem lof_eq {w : Nat} {ps : List (List Nat)} (hw : w ≤ 10) (hp : ∀ p ∈ ps, p.length = w ∧ IsP p) (hl : ps.length ≤ 1000) : m__law_of [.int w, .lst false (ps.map .str)] = .ok (.lst true ((hs w (semP ps)).map .str)) := by
  refine WO.eq ?_
  unfold m__law_of
  rw [WO_runP (by rfl)]
  unfold g__law_of
  have hhl : (heads w).length ≤ 1024 := by rw [heads_len]; exact Nat.le_trans (Nat.pow_le_pow_right (by omega) hw) (by decide)
  simp
  refine WO_cLcF D.str (semP ps) D.str (heads w) ?_ (by omega) ?_ ?_
  · simp [lawheads_eq hw]
  · intro h hh
    have hhe := heads_each w h hh
    simp
    refine WO_cLcF D.str (fun p => fitsB p h) D.str ps ?_ (by omega) ?_ ?_
    · simp
    · intro p hm
      have := (hp p hm).1
      simp [lawfits_eq (p := p) (h := h) (by omega) (by omega)]
    · have e : semP ps h = true ↔ ps.filter (fun p => fitsB p h) ≠ [] := by
        unfold semP
        rw [List.any_eq_true, ne_eq, List.filter_eq_nil_iff]
        simp
      simp
      split
      · rename_i hz
        cases hS : semP ps h with
        | false => rfl
        | true =>
          exact absurd (List.filter_eq_nil_iff.mpr fun p hp => by simp [hz p hp]) (e.mp hS)
      · rename_i hz
        refine e.mpr fun z => hz fun p hp => ?_
        have := List.filter_eq_nil_iff.mp z p hp
        simpa using this
  · rfl
theorem lpattern_spec {p : D} {w : Nat} (hp : Pool p) (hw : w ≤ 1000) {P : D × D → Prop} (h : ∀ (cs : List Nat) (q : D), cs.length = w → IsP cs → Pool q → P (.str cs, q)) : WO' X (m__law_pattern [p, .int w]) P := by
  refine WO'.up ?_
  unfold m__law_pattern
  rw [WO_runX (by rfl)]
  unfold g__law_pattern
  with_reducible refine WS_step fun K hK => ?_
  simp
  refine take_spec hp (by omega) (by omega) fun x p h3 hp => ?_
  simp
  obtain ⟨a, e1, e2⟩ := WO_at (xs := [D.str [48, 49, 42], D.str [42, 42, 42, 48, 49], D.str [48, 42], D.str [49, 42]]) (i := (x : Int)) (by omega) (by simp; omega)
  obtain ⟨ss, rfl, hs0, hs1, hsP⟩ : ∃ ss, a = .str ss ∧ 0 < ss.length ∧ ss.length ≤ 1000 ∧ IsP ss := by
    simp at e2
    rcases e2 with rfl | rfl | rfl | rfl <;> exact ⟨_, rfl, by decide, by decide, by unfold IsP; decide⟩
  refine ⟨_, e1, hK _ ?_⟩
  clear hK
  simp
  refine text_spec hp (by omega) (by omega) hs0 hs1 fun cs q hcl hcs hq => ?_
  exact h _ _ (by omega) (fun c m => hsP c (hcs c m)) hq
theorem lpatterns_spec {p : D} {w : Nat} (hp : Pool p) (hw : w ≤ 1000) {P : D × D → Prop} (h : ∀ (ps : List (List Nat)) (q : D), ps.length ≤ 4 → (∀ x ∈ ps, x.length = w ∧ IsP x) → Pool q → P (.lst true (ps.map .str), q)) : WO' X (m__law_patterns [p, .int w]) P := by
  refine WO'.up ?_
  unfold m__law_patterns
  rw [WO_runX (by rfl)]
  unfold g__law_patterns
  simp
  refine WO_xLc (fun acc ds r => ∃ (q : D) (ps : List (List Nat)) (o3 : Option D), Pool q ∧ acc = ps.map .str ∧ (∀ x ∈ ps, x.length = w ∧ IsP x) ∧ ps.length + ds.length ≤ 4 ∧ r = [some q, some (.int w), o3]) ?_ ?_ ?_
  · simp
    refine take_spec hp (by omega) (by omega) fun x p h3 hp => ?_
    simp
    exact ⟨by omega, hp, by omega⟩
  · rintro acc d ds r ⟨q, ps, o3, hq, rfl, hps, hl4, rfl⟩
    simp
    refine lpattern_spec hq (by omega) fun cs q hcl hcs hq => ?_
    refine ⟨q, hq, ps ++ [cs], by simp, fun x hx => ?_, by simp at hl4 ⊢; omega, rfl⟩
    rcases List.mem_append.mp hx with hx | hx
    · exact hps x hx
    · simp at hx
      subst hx
      exact ⟨hcl, hcs⟩
  · rintro ys r ⟨q, ps, o3, hq, rfl, hps, hl4, rfl⟩
    simp
    exact h _ _ (by simpa using hl4) hps hq
end My

namespace My
open PySem L2 DL
theorem cells {ns : List Int} (m : Int) (hm : 1 ≤ m) (hm' : m ≤ 100) : ∀ x : Int, x = (if 1 < if m < (ns.length : Int) then m else (ns.length : Int) then if m < (ns.length : Int) then m else (ns.length : Int) else 1) → 1 ≤ x ∧ x ≤ 100 := by
  intro x hx
  subst hx
  split <;> split at * <;> omega
theorem eqDs_self_map {α : Type} {f : α → D} (h : ∀ a, eqD (f a) (f a) = true) : ∀ xs : List α, eqDs (xs.map f) (xs.map f) = true
  | [] => rfl
  | x :: xs => by
    show (eqD (f x) (f x) && eqDs (xs.map f) (xs.map f)) = true
    rw [h, eqDs_self_map h xs]; rfl
theorem eqD_lst {b c : Bool} {xs ys : List D} : eqD (.lst b xs) (.lst c ys) = eqDs xs ys := rfl
theorem atI_last {α : Type} {xs : List α} : atI xs (-1) = xs.getLast? := by
  unfold atI ixN
  rw [if_neg (by decide)]
  cases xs with
  | nil => simp
  | cons x xs =>
    rw [if_pos (by simp; omega), List.getLast?_eq_getElem?]
    show (x :: xs)[(-1 + ((x :: xs).length : Int)).toNat]? = _
    rw [show (-1 + ((x :: xs).length : Int)).toNat = (x :: xs).length - 1 by simp; omega]
end My

namespace My
open PySem L2 DL
variable {X : Xc → DL.Env → Prop}
@[simp] theorem WS_raiseF {c : Str} {ns : List Str} {h : DL.Env → Out (List D × DL.Env)} {r : DL.Env} {N : DL.Env → Prop} {R : D → DL.Env → Prop} : WS' X (sRaiseF c ns h r) N R ↔ WO' X (h r) fun p => (p.1.length = ns.length ∧ ns.length ≤ 10) ∧ X ⟨c, ns.reverse, (frzs p.1).reverse⟩ p.2 := by
  unfold sRaiseF
  cases h r with
  | ok p =>
    show WS' X (if _ then _ else _) N R ↔ _ ∧ _
    split
    · rename_i hc; exact ⟨fun h => ⟨hc, h⟩, fun h => h.2⟩
    · rename_i hc; exact ⟨False.elim, fun h => hc h.1⟩
  | exn x r' => exact Iff.rfl
  | bad => exact Iff.rfl
@[simp] theorem WT_raiseF {c : Str} {ns : List Str} {h : DL.Env → Out (List D × DL.Env)} {r : DL.Env} {N C B : DL.Env → Prop} {R : D → DL.Env → Prop} : WT' X (sRaiseF c ns h r) N C B R ↔ WO' X (h r) fun p => (p.1.length = ns.length ∧ ns.length ≤ 10) ∧ X ⟨c, ns.reverse, (frzs p.1).reverse⟩ p.2 := by
  unfold sRaiseF
  cases h r with
  | ok p =>
    show WT' X (if _ then _ else _) N C B R ↔ _ ∧ _
    split
    · rename_i hc; exact ⟨fun h => ⟨hc, h⟩, fun h => h.2⟩
    · rename_i hc; exact ⟨False.elim, fun h => hc h.1⟩
  | exn x r' => exact Iff.rfl
  | bad => exact Iff.rfl
theorem raise_of {α : Type} {o : Out α} {x : Xc} {r : DL.Env} (h : WO' (fun y s => y = x ∧ s = r) o fun _ => False) : o = .exn x r := by
  cases o with
  | ok a => exact h.elim
  | exn y s => obtain ⟨rfl, rfl⟩ := h; rfl
  | bad => exact h.elim
theorem drop_zip {α : Type} {xs : List α} {i : Nat} {a : α × Nat} {as : List (α × Nat)} (h : a :: as = xs.zipIdx.drop i) : xs[i]? = some a.1 ∧ a.2 = i ∧ as = xs.zipIdx.drop (i + 1) := by
  have hi : i < xs.zipIdx.length := by
    by_cases hi : i < xs.zipIdx.length
    · exact hi
    · rw [List.drop_eq_nil_of_le (by omega)] at h
      cases h
  rw [List.drop_eq_getElem_cons hi] at h
  injection h with h1 h2
  have hx : i < xs.length := by simpa using hi
  rw [List.getElem_zipIdx] at h1
  subst h1
  exact ⟨by simp [hx], by simp, h2⟩
theorem rais {α : Type} {o : Out α} {x : Xc} (h : WO' (fun y _ => y = x) o fun _ => False) : ∃ r, o = .exn x r := by
  cases o with
  | ok a => exact h.elim
  | exn y s => exact ⟨s, by rw [show y = x from h]⟩
  | bad => exact h.elim
end My

namespace My
open PySem L2 DL
theorem hs_cons (w : Nat) (S : List Nat → Bool) : hs (w + 1) S = (hs w fun t => S (48 :: t)).map (48 :: ·) ++ (hs w fun t => S (49 :: t)).map (49 :: ·) := by
  unfold hs
  rw [heads_cons, List.filter_append, List.filter_map, List.filter_map]
  rfl
theorem rk_hs : ∀ (w : Nat) (S : List Nat → Bool), (hs w S).map (fun h => rk w h S) = List.range (cnt w S)
  | 0, S => by
    unfold hs
    by_cases h : S [] = true
    · simp [heads, h, cnt, rk]
    · simp [heads, h, cnt]
  | w + 1, S => by
    have e0 := rk_hs w fun t => S (48 :: t)
    have e1 := rk_hs w fun t => S (49 :: t)
    rw [hs_cons, List.map_append, List.map_map, List.map_map]
    have c0 : ((fun h => rk (w + 1) h S) ∘ (48 :: ·)) = fun t => rk w t fun x => S (48 :: x) := rfl
    have c1 : ((fun h => rk (w + 1) h S) ∘ (49 :: ·)) = fun t => cnt w (fun x => S (48 :: x)) + rk w t fun x => S (49 :: x) := rfl
    rw [c0, c1, e0]
    have e2 : (hs w fun t => S (49 :: t)).map (fun t => cnt w (fun x => S (48 :: x)) + rk w t fun x => S (49 :: x)) = (List.range (cnt w fun t => S (49 :: t))).map (cnt w (fun x => S (48 :: x)) + ·) := by
      rw [← e1, List.map_map]
      rfl
    rw [e2, ← List.range_add]
    rfl
theorem hs_cnt (w : Nat) (S : List Nat → Bool) : (hs w S).length = cnt w S := by
  have := congrArg List.length (rk_hs w S)
  simpa using this
theorem rk_at {w : Nat} {S : List Nat → Bool} {i : Nat} (h : i < (hs w S).length) : rk w (hs w S)[i] S = i := by
  have e := rk_hs w S
  have h2 : i < ((hs w S).map fun h => rk w h S).length := by simpa using h
  have : ((hs w S).map fun h => rk w h S)[i] = (List.range (cnt w S))[i]'(by rw [← e]; exact h2) := by
    congr 1
  simpa using this
theorem hs_of {w : Nat} {S : List Nat → Bool} {h : List Nat} (hl : h.length = w) (hh : IsH h) (hS : S h = true) : h ∈ hs w S := hs_mem.mpr ⟨heads_all w h hl hh, hS⟩
theorem hs_rk {w : Nat} {S : List Nat → Bool} {h : List Nat} (m : h ∈ hs w S) : ∃ hr : rk w h S < (hs w S).length, (hs w S)[rk w h S] = h := by
  obtain ⟨i, hi, e⟩ := List.mem_iff_getElem.mp m
  have := rk_at hi
  rw [e] at this
  subst this
  exact ⟨hi, e⟩
theorem hs_sorted (w : Nat) (S : List Nat → Bool) : (hs w S).Pairwise (· ≤ ·) := heads_le w S
theorem hs_mono {w : Nat} {S : List Nat → Bool} {g h : List Nat} (mg : g ∈ hs w S) (mh : h ∈ hs w S) (hr : rk w g S ≤ rk w h S) : g ≤ h := by
  obtain ⟨h1, e1⟩ := hs_rk mg
  obtain ⟨h2, e2⟩ := hs_rk mh
  by_cases e : rk w g S = rk w h S
  · have : g = h := by
      rw [← e1, ← e2]
      congr 1
    rw [this]
    exact List.le_refl _
  · have := List.pairwise_iff_getElem.mp (hs_sorted w S) _ _ h1 h2 (by omega)
    rw [e1, e2] at this
    exact this
theorem headat_hs {w : Nat} {S : List Nat → Bool} {k : Nat} (h1 : 1 ≤ w) (h2 : w ≤ 16) (hk : k < (hs w S).length) : m_Heads_head_at [eH w S, .int k] = .ok (.str (hs w S)[k]) := by
  obtain ⟨h, e, hl, hh, hS, hr⟩ := headat_e (S := S) (k := k) h1 h2 (by rw [← hs_cnt]; exact hk)
  have m := hs_of hl hh hS
  obtain ⟨h1, e1⟩ := hs_rk m
  rw [e]
  subst hr
  rw [e1]
theorem rk_sum {w : Nat} {S : List Nat → Bool} {h : List Nat} (hh : IsH h) (hw : h.length ≤ w) : ((h.zipIdx.filter fun x => x.1 == 49).map fun x => cnt (w - (x.2 + 1)) fun t => S (h.take x.2 ++ [48] ++ t)).sum = rk w h S := by
  have key : ∀ k, k ≤ h.length → (((h.take k).zipIdx.filter fun x => x.1 == 49).map fun x => cnt (w - (x.2 + 1)) fun t => S (h.take x.2 ++ [48] ++ t)).sum = rk w (h.take k) S := by
    intro k
    induction k with
    | zero =>
      intro _
      rw [List.take_zero, rk_nil]
      rfl
    | succ k ih =>
      intro hk
      have ih := ih (by omega)
      have hlt : k < h.length := by omega
      have e : h.take (k + 1) = h.take k ++ [h[k]] := (List.take_append_getElem hlt).symm
      have hkl : (h.take k).length = k := by simp; omega
      have sn := rk_snoc w (h.take k) S (by rw [hkl]; omega) fun c m => hh c (List.mem_of_mem_take m)
      rw [hkl] at sn
      rw [e, List.zipIdx_append, List.filter_append, List.map_append, List.sum_append_nat, ih, hkl]
      rcases hh _ (List.getElem_mem hlt) with hc | hc
      · rw [hc, sn.1]
        simp
      · rw [hc, sn.2]
        simp
  have := key h.length (Nat.le_refl _)
  rwa [List.take_length] at this
theorem repS_len {x y : Nat} {p : List Nat} : (repS x y p).length = p.length := by unfold repS; simp
theorem repS_isH {p : List Nat} (h : IsP p) : IsH (repS 42 48 p) := fun c m => by
  unfold repS at m
  obtain ⟨a, ha, e⟩ := List.mem_map.mp m
  have := h a ha
  split at e <;> omega
theorem repS_fits : ∀ p : List Nat, fitsB p (repS 42 48 p) = true
  | [] => rfl
  | a :: p => by
    have ih := repS_fits p
    show fitsB (a :: p) ((if a = 42 then 48 else a) :: repS 42 48 p) = true
    rw [fits_cons, ih]
    by_cases h : a = 42 <;> simp [h]
theorem repS_le : ∀ (p h : List Nat), p.length = h.length → IsH h → fitsB p h = true → repS 42 48 p ≤ h
  | [], [], _, _, _ => List.le_refl _
  | a :: p, c :: h, hl, hh, hf => by
    rw [fits_cons] at hf
    have hf := (Bool.and_eq_true _ _).mp hf
    have ih := repS_le p h (by simpa using hl) (fun x m => hh x (List.mem_cons_of_mem _ m)) hf.2
    have hc := hh c (List.mem_cons_self ..)
    show (if a = 42 then 48 else a) :: repS 42 48 p ≤ c :: h
    rw [List.cons_le_cons_iff]
    have h1 := hf.1
    by_cases e : a = 42
    · rw [if_pos e]
      by_cases e2 : 48 = c
      · exact .inr ⟨e2, ih⟩
      · exact .inl (by omega)
    · rw [if_neg e]
      simp [e] at h1
      exact .inr ⟨h1, ih⟩
theorem least_eq {w : Nat} {ps : List (List Nat)} {h : List Nat} (hp : ∀ p ∈ ps, p.length = w ∧ IsP p) (hne : ps ≠ []) (m : h ∈ hs w (semP ps)) (h0 : rk w h (semP ps) = 0) : ∃ t, srtT (ps.map (repS 42 48)) = h :: t := by
  have hsrt := srtT_sorted (ps.map (repS 42 48))
  have hpm := srtT_perm (ps.map (repS 42 48))
  cases hx : srtT (ps.map (repS 42 48)) with
  | nil =>
    rw [hx] at hpm
    have := hpm.length_eq
    simp at this
    exact absurd (List.length_eq_zero_iff.mp (by omega)) hne
  | cons x t =>
    rw [hx] at hsrt hpm
    refine ⟨t, ?_⟩
    have hmin := (List.pairwise_cons.mp hsrt).1
    have hxm : x ∈ ps.map (repS 42 48) := hpm.mem_iff.mp (List.mem_cons_self ..)
    obtain ⟨p, hpp, rfl⟩ := List.mem_map.mp hxm
    have hpe := hp p hpp
    have mx : repS 42 48 p ∈ hs w (semP ps) := hs_of (by rw [repS_len]; exact hpe.1) (repS_isH hpe.2) (List.any_eq_true.mpr ⟨p, hpp, repS_fits p⟩)
    have le1 : h ≤ repS 42 48 p := hs_mono m mx (by omega)
    obtain ⟨m1, m2⟩ := hs_mem.mp m
    obtain ⟨q, hq, hf⟩ := List.any_eq_true.mp m2
    have hqe := hp q hq
    have hhe := heads_each w h m1
    have le2 : repS 42 48 q ≤ h := repS_le q h (by omega) hhe.2 hf
    have le3 : repS 42 48 p ≤ repS 42 48 q := by
      have : repS 42 48 q ∈ repS 42 48 p :: t := hpm.mem_iff.mpr (List.mem_map.mpr ⟨q, hq, rfl⟩)
      rcases List.mem_cons.mp this with e | z
      · rw [e]; exact List.le_refl _
      · exact hmin _ z
    rw [List.le_antisymm le1 (List.le_trans le3 le2)]
end My

namespace My
open PySem L2 DL
variable {X : Xc → DL.Env → Prop}
section
variable {w : Nat} {S : List Nat → Bool}
theorem number_e {h : List Nat} (hl : h.length = w) (h2 : w ≤ 16) (hh : IsH h) (hS : S h = true) : m_Heads_number_of [eH w S, .str h] = .ok (.int (rk w h S)) := by
  refine WO.eq ?_
  unfold m_Heads_number_of
  rw [WO_runP (by rfl)]
  unfold g_Heads_number_of
  with_reducible refine WS_step fun K hK => ?_
  simp [holds_e hl h2 hh, hS]
  refine hK _ ?_
  clear hK
  with_reducible refine WS_step fun K hK => ?_
  simp
  refine WO_cLcF (fun x : Nat × Nat => .tup [.int (x.2 : Nat), .str [x.1]]) (fun x => x.1 == 49) (fun x => .int (cnt (w - (x.2 + 1)) fun t => S (h.take x.2 ++ [48] ++ t) : Nat)) h.zipIdx (by simp) (by rw [List.length_zipIdx]; omega) ?_ ?_
  · rintro ⟨a, k⟩ hx
    have hk : k < h.length := by
      have := List.snd_lt_of_mem_zipIdx hx
      omega
    have hb : IsH (h.take k ++ [48]) := fun c m => by
      rcases List.mem_append.mp m with m | m
      · exact hh c (List.mem_of_mem_take m)
      · simp at m; exact .inl m
    have be := below_e (S := S) (b := h.take k ++ [48]) h2 (by simp; omega) hb
    have bl : (h.take k ++ [48]).length = k + 1 := by simp; omega
    rw [bl] at be
    simp [cut_take, be]
    omega
  · refine hK _ ?_
    clear hK
    have e := rk_sum (S := S) hh (show h.length ≤ w by omega)
    simp only [List.append_assoc, List.cons_append, List.nil_append] at e
    simp
    have e3 : ∀ (f : Nat × Nat → Nat) (xs : List (Nat × Nat)), gSum (.lst false (xs.map fun x => D.int (f x : Nat))) = .ok (.int ((xs.map f).sum : Nat)) := fun f xs => by
      rw [show (xs.map fun x => D.int (f x : Nat)) = (xs.map fun x => ((f x : Nat) : Int)).map D.int by rw [List.map_map]; rfl, gSum_map, sum_cast f]
    rw [e3 (fun x => cnt (w - (x.2 + 1)) fun t => S (h.take x.2 ++ 48 :: t)), e]
    rfl
abbrev xN (d : D) : Xc := ⟨"NoNumber", ["number"], [d]⟩
abbrev xH : Xc := ⟨"NoHead", [], []⟩
def noNum (n : Int) (d : D) : Prop := frz d = d ∧ isiOk d = true ∧ belowD d n = false
theorem headat_no {d : D} (h2 : w ≤ 16) (hd : noNum (cnt w S) d) : ∃ r, m_Heads_head_at [eH w S, d] = .exn (xN d) r := by
  obtain ⟨hf, hi, hb⟩ := hd
  refine rais ?_
  unfold m_Heads_head_at
  rw [WO_runP (by rfl)]
  unfold g_Heads_head_at
  have hw := whole_eq (d := d) (by rw [hf]; exact hi)
  with_reducible refine WS_step fun K hK => ?_
  simp [hf, hw]
  cases d with
  | int i =>
    simp [isWholeD, len_o h2]
    simp [belowD] at hb
    by_cases h0 : 0 ≤ i
    · have := hb h0
      simp [h0]
      omega
    · simp [h0]
  | _ => simp [isWholeD] at hf ⊢ <;> simp_all
def noHd (w : Nat) (d : D) : Prop := frz d = d ∧ isiOk d = true ∧ shortT d ∧ isOfB d w [48, 49] = false
theorem hd_no {d : D} (h : noHd w d) : m_is_head [d, .int w] = .ok (.bl false) := by
  obtain ⟨h1, h2, h3, h4⟩ := h
  rw [head_eq (by rw [h1]; exact h2) h3 h1, h4]
theorem holds_no {d : D} (hd : noHd w d) : m_Heads_holds [eH w S, d] = .exn xH [] := by
  refine raise_of ?_
  unfold m_Heads_holds
  rw [WO_runP (by rfl)]
  unfold g_Heads_holds
  simp [hd.1, hd_no hd]
theorem number_no {d : D} (hd : noHd w d) : ∃ r, m_Heads_number_of [eH w S, d] = .exn xH r := by
  refine rais ?_
  unfold m_Heads_number_of
  rw [WO_runP (by rfl)]
  unfold g_Heads_number_of
  simp [hd.1, holds_no hd]
theorem number_out {h : List Nat} (hl : h.length = w) (h2 : w ≤ 16) (hh : IsH h) (hS : S h = false) : ∃ r, m_Heads_number_of [eH w S, .str h] = .exn xH r := by
  refine rais ?_
  unfold m_Heads_number_of
  rw [WO_runP (by rfl)]
  unfold g_Heads_number_of
  simp [holds_e hl h2 hh, hS]
end
theorem kind_h {r : DL.Env} : m__law_kind (.exn xH r) = .ok (.lst false [.str [104, 101, 97, 100]]) := by kernel_rfl
abbrev nms : List Nat := [110, 117, 109, 98, 101, 114]
theorem kind_i {i : Int} {r : DL.Env} : m__law_kind (.exn (xN (.int i)) r) = .ok (.lst false [.str nms, .int i]) := by kernel_rfl
theorem kind_b {r : DL.Env} : m__law_kind (.exn (xN (.bl true)) r) = .ok (.lst false [.str nms, .bl true]) := by kernel_rfl
theorem kind_n {r : DL.Env} : m__law_kind (.exn (xN .non) r) = .ok (.lst false [.str nms, .non]) := by kernel_rfl
theorem kind_s {r : DL.Env} : m__law_kind (.exn (xN (.str [48])) r) = .ok (.lst false [.str nms, .str [48]]) := by kernel_rfl
theorem kind_l {r : DL.Env} : m__law_kind (.exn (xN (.lst false [.int 0])) r) = .ok (.lst false [.str nms, .lst false [.int 0]]) := by kernel_rfl
end My

namespace My
open PySem L2 DL
variable {X : Xc → DL.Env → Prop}
theorem hs_len6 {w : Nat} {S : List Nat → Bool} (hw : w ≤ 6) : (hs w S).length ≤ 64 := by
  have := List.length_filter_le S (heads w)
  rw [heads_len] at this
  have h2 := Nat.pow_le_pow_right (n := 2) (by omega) hw
  unfold hs
  omega
def oddH (w : Nat) : List D := [.non, .int 0, .str [], .str (List.replicate (w + 1) 48), .str (List.replicate w 42), .lst false (List.replicate w (.str [48])), .str (List.replicate w 50)]
theorem isOf_badH {w : Nat} {cs : List Nat} {c : Nat} (hm : c ∈ cs) (hc : c ≠ 48 ∧ c ≠ 49) : isOfB (.str cs) w [48, 49] = false := by
  simp only [isOfB]
  have : cs.all (fun c => decide (c ∈ [48, 49])) = false := by
    rw [List.all_eq_false]
    exact ⟨c, hm, by simp [hc]⟩
  rw [this, Bool.and_false]
theorem isOf_lenH {w : Nat} {cs : List Nat} (h : cs.length ≠ w) : isOfB (.str cs) w [48, 49] = false := by
  simp [isOfB]
  intro z
  omega
theorem oddH_no {w : Nat} (h1 : 1 ≤ w) (h2 : w ≤ 16) : ∀ d ∈ oddH w, noHd w d := by
  have hs : ∀ cs : List Nat, cs.length ≤ 1000 → isOfB (.str cs) w [48, 49] = false → noHd w (.str cs) := fun cs hl h => ⟨rfl, rfl, fun _ e => by cases e; exact hl, h⟩
  intro d hd
  unfold oddH at hd
  simp only [List.mem_cons, List.not_mem_nil, or_false] at hd
  rcases hd with rfl | rfl | rfl | rfl | rfl | rfl | rfl
  · exact ⟨rfl, rfl, fun _ e => (nomatch e), rfl⟩
  · exact ⟨rfl, rfl, fun _ e => (nomatch e), rfl⟩
  · exact hs _ (by simp) (isOf_lenH (by simp; omega))
  · exact hs _ (by simp; omega) (isOf_lenH (by simp))
  · exact hs _ (by simp; omega) (isOf_badH (c := 42) (by simp; omega) (by decide))
  · exact ⟨by simp [frzs_map], rfl, fun _ e => (nomatch e), rfl⟩
  · exact hs _ (by simp; omega) (isOf_badH (c := 50) (by simp; omega) (by decide))
theorem repr_i {i : Int} (h : i.natAbs < 10 ^ 40) : gRepr (.lst false [.str nms, .int i]) = .ok (.str (reprL (.lst false [.str nms, .int i]))) := gRepr_ok (by
  show (true && true && (true && (decide (i.natAbs < 10 ^ 40) && true)) && decide _) = true
  rw [decide_eq_true h]
  rfl)
theorem repr_b : gRepr (.lst false [.str nms, .bl true]) = .ok (.str (reprL (.lst false [.str nms, .bl true]))) := gRepr_ok (by kernel_rfl)
theorem repr_n : gRepr (.lst false [.str nms, .non]) = .ok (.str (reprL (.lst false [.str nms, .non]))) := gRepr_ok (by kernel_rfl)
theorem repr_s : gRepr (.lst false [.str nms, .str [48]]) = .ok (.str (reprL (.lst false [.str nms, .str [48]]))) := gRepr_ok (by kernel_rfl)
theorem repr_l : gRepr (.lst false [.str nms, .lst false [.int 0]]) = .ok (.str (reprL (.lst false [.str nms, .lst false [.int 0]]))) := gRepr_ok (by kernel_rfl)
set_option maxHeartbeats 4000000 in
theorem small_spec {p : D} (hp : Pool p) {P : D × D → Prop} (h : ∀ q, Pool q → P (.bl true, q)) : WO' X (m__law_small [p]) P := by
  refine WO'.up ?_
  unfold m__law_small
  rw [WO_runX (by rfl)]
  unfold g__law_small
  with_reducible refine WS_step fun K hK => ?_
  simp
  refine take_spec hp (by omega) (by omega) fun x p h3 hp => ?_
  obtain ⟨w, hw⟩ : ∃ w : Nat, (1 + x : Int) = w := ⟨1 + x, by omega⟩
  have h1 : 1 ≤ w := by omega
  have h2 : w ≤ 6 := by omega
  simp [hw]
  refine hK _ ?_
  clear hK
  with_reducible refine WS_step fun K hK => ?_
  simp
  refine lpatterns_spec hp (by omega) fun ps p hlp hps hp => ?_
  simp
  refine hK _ ?_
  clear hK
  have hmk := mk_eq (ps := ps) h1 (by omega) hps (by omega)
  have hof := lof_eq (ps := ps) (show w ≤ 10 by omega) hps (by omega)
  with_reducible refine WS_step fun K hK => ?_
  simp [hof]
  refine hK _ ?_
  clear hK
  with_reducible refine WS_step fun K hK => ?_
  simp [hmk]
  refine hK _ ?_
  clear hK
  generalize semP ps = S
  have hl := hs_len6 (S := S) h2
  with_reducible refine WS_step fun K hK => ?_
  rw [WS_for]
  simp
  refine for_of (fun q : D × Nat => D.tup [.int (q.2 : Nat), q.1]) (fun (as : List (D × Nat)) r => (∃ i, as = ((hs w S).map D.str).zipIdx.drop i) ∧ ∃ e4 o7 o8, (e4 = eHn w S ∨ e4 = eH w S) ∧ r = [some p, some (.int w), some (.lst true (ps.map .str)), some (.lst false ((hs w S).map .str)), some e4, none, none, o7, o8]) _ ⟨⟨0, by simp⟩, _, _, _, .inl rfl, rfl⟩ ?_ ?_
  · rintro a as r K2 ⟨⟨i, hi⟩, e4, o7, o8, h4, rfl⟩ hK2
    obtain ⟨e1, e2, e3⟩ := drop_zip hi
    have hil : i < (hs w S).length := by
      have := (List.getElem?_eq_some_iff.mp e1).1
      simpa using this
    have ea : a.1 = .str (hs w S)[i] := by
      rw [List.getElem?_eq_getElem (by simpa using hil)] at e1
      simpa using (Option.some.inj e1).symm
    have hat := headat_hs (S := S) h1 (by omega) hil
    have hm := List.getElem_mem hil
    have hmm := hs_mem.mp hm
    have he := heads_each w _ hmm.1
    have hnum := number_e (S := S) he.1 (by omega) he.2 hmm.2
    rw [rk_at hil] at hnum
    have hf4 : frz e4 = eH w S := by rcases h4 with rfl | rfl <;> simp
    simp [ea, e2, hf4, hat, hnum]
    exact hK2 _ ⟨⟨i + 1, e3⟩, _, _, _, h4, rfl⟩
  · rintro r ⟨⟨i, hi⟩, e4, o7, o8, h4, rfl⟩
    refine hK _ ?_
    clear hK
    have hf4 : frz e4 = eH w S := by rcases h4 with rfl | rfl <;> simp
    clear h4
    have hno : ∀ d, noNum ((hs w S).length : Nat) d → ∃ r, m_Heads_head_at [eH w S, d] = .exn (xN d) r := fun d hd => headat_no (by omega) (by rw [← hs_cnt]; exact hd)
    obtain ⟨r1, k1⟩ := hno (.int (hs w S).length) ⟨rfl, rfl, by simp [belowD]⟩
    obtain ⟨r2, k2⟩ := hno (.int (-1)) ⟨rfl, rfl, by simp [belowD]⟩
    obtain ⟨r3, k3⟩ := hno (.bl true) ⟨rfl, rfl, rfl⟩
    obtain ⟨r4, k4⟩ := hno .non ⟨rfl, rfl, rfl⟩
    obtain ⟨r5, k5⟩ := hno (.str [48]) ⟨rfl, rfl, rfl⟩
    obtain ⟨r6, k6⟩ := hno (.lst false [.int 0]) ⟨rfl, rfl, rfl⟩
    obtain ⟨r7, k7⟩ := hno (.int 1000000000000000000000000000000) ⟨rfl, rfl, by simp [belowD]; omega⟩
    clear hno
    with_reducible refine WS_step fun K hK => ?_
    have q1 := repr_i (i := ((hs w S).length : Nat)) (by omega)
    have q2 := repr_i (i := -1) (by decide)
    have q7 := repr_i (i := 1000000000000000000000000000000) (by decide)
    simp [k1, k2, k3, k4, k5, k6, k7, kind_i, kind_b, kind_n, kind_s, kind_l, hf4, eqD, CPow, q1, q2, q7, repr_b, repr_n, repr_s, repr_l, plainD, dle]
    refine hK _ ?_
    clear hK k1 k2 k3 k4 k5 k6 k7 q1 q2 q7
    have hhl : (heads w).length ≤ 1024 := by rw [heads_len]; exact Nat.le_trans (Nat.pow_le_pow_right (by omega) (show w ≤ 10 by omega)) (by decide)
    with_reducible refine WS_step fun K hK => ?_
    simp
    refine WO_cLcF D.str (fun h => !decide (h ∈ hs w S)) D.str (heads w) ?_ (by omega) ?_ ?_
    · simp [lawheads_eq (show w ≤ 10 by omega)]
    · intro h hh
      simp [-inD_eq, inD_strs]
    have c3 : ∀ xs : List D, cut xs none (some 3) = xs.take 3 := fun xs => cut_take xs 3
    simp [c3, ← List.map_take]
    have hout : ∀ x ∈ ((heads w).filter fun h => !decide (h ∈ hs w S)).take 3, x.length = w ∧ IsH x ∧ S x = false := fun x hx => by
      have hx := List.mem_filter.mp (List.mem_of_mem_take hx)
      have he := heads_each w x hx.1
      refine ⟨he.1, he.2, ?_⟩
      have := hx.2
      simp [hs_mem, hx.1] at this
      exact this
    have hol : (((heads w).filter fun h => !decide (h ∈ hs w S)).take 3).length ≤ 3 := by simp; omega
    generalize (((heads w).filter fun h => !decide (h ∈ hs w S)).take 3) = out at hout hol
    refine hK _ ?_
    clear hK
    have hnum : ∀ d ∈ out.map D.str ++ oddH w, frz d = d ∧ ∃ r, m_Heads_number_of [eH w S, d] = .exn xH r := fun d hd => by
      rcases List.mem_append.mp hd with hd | hd
      · obtain ⟨x, hx, rfl⟩ := List.mem_map.mp hd
        have := hout x hx
        exact ⟨rfl, number_out this.1 (by omega) this.2.1 this.2.2⟩
      · have := oddH_no h1 (show w ≤ 16 by omega) d hd
        exact ⟨this.1, number_no this⟩
    with_reducible refine WS_step fun K hK => ?_
    rw [WS_for]
    simp [hol]
    refine ⟨by omega, by omega, by omega, ?_⟩
    rw [show (out.map (fun x => D.str x) ++ [D.non, D.int 0, D.str [], D.str (List.replicate (w + 1) 48), D.str (List.replicate w 42), D.lst false (frzs (frzs (List.replicate w (D.str [48])))), D.str (List.replicate w 50)]) = (out.map D.str ++ oddH w).map (fun d => d) by simp [oddH, frzs_map]]
    refine for_of (fun d : D => d) (fun (ds : List D) r => (∀ d ∈ ds, frz d = d ∧ ∃ r, m_Heads_number_of [eH w S, d] = .exn xH r) ∧ ∃ o5, r = [some p, some (.int w), some (.lst true (ps.map .str)), some (.lst false ((hs w S).map .str)), some e4, some o5, some (.lst false (out.map .str)), o7, o8]) _ ⟨hnum, _, rfl⟩ ?_ ?_
    · rintro d ds r K2 ⟨hds, o5, rfl⟩ hK2
      obtain ⟨hfd, r1, hr1⟩ := hds d (List.mem_cons_self ..)
      simp [hf4, hfd, hr1, kind_h, eqD_lst, eqDs, eqD]
      exact hK2 _ ⟨fun d m => hds d (List.mem_cons_of_mem _ m), _, rfl⟩
    · rintro r ⟨_, o5, rfl⟩
      refine hK _ ?_
      clear hK
      have ho : ∀ d ∈ oddH w, m_Heads_holds [eH w S, d] = .exn xH [] := fun d hd => holds_no (oddH_no h1 (show w ≤ 16 by omega) d hd)
      simp only [oddH, List.forall_mem_cons] at ho
      obtain ⟨t1, t2, t3, t4, t5, t6, _⟩ := ho
      with_reducible refine WS_step fun K hK => ?_
      have hfz : frzs (List.replicate w (D.str [48])) = List.replicate w (D.str [48]) := by simp [frzs_map]
      simp [hf4, hfz, t1, t2, t3, t4, t5, t6, kind_h, eqD_lst, eqDs, eqD]
      refine ⟨by omega, by omega, hK _ ?_⟩
      clear hK
      by_cases hS : hs w S = []
      · simp [hf4, hS, eqD_lst, eqDs]
        exact h _ hp
      · have hpos : 0 < (hs w S).length := List.length_pos_iff.mpr hS
        have hat := headat_hs (S := S) h1 (show w ≤ 16 by omega) hpos
        generalize hs w S = hh at hS hpos hat ⊢
        cases hh with
        | nil => exact absurd rfl hS
        | cons a t =>
          have a0 : atI (D.str a :: t.map D.str) 0 = some (D.str a) := (atI_k (k := 0) (by simp)).trans rfl
          have hat : m_Heads_head_at [eH w S, .int 0] = .ok (.str a) := hat
          have en : eqD (.lst false (D.str a :: t.map D.str)) (.lst false []) = false := rfl
          have es : eqD (.str a) (.str a) = true := by simp [eqD]
          simp [hf4, en, es, hat, a0]
          exact h _ hp
end My

namespace My
open PySem L2 DL
variable {X : Xc → DL.Env → Prop}
theorem srtI_eq {b : Bool} {ns : List Int} : gSrtI (.lst b (ns.map .int)) = .ok (.lst true ((srtI ns).map .int)) := by
  unfold gSrtI
  simp only [intsD_map]
theorem rep_eq {x y : Nat} {cs : List Nat} (h : cs.length ≤ 1000) : gRep x y (.str cs) = .ok (.str (repS x y cs)) := if_pos h
theorem lleast_eq {w : Nat} {ps : List (List Nat)} {h : List Nat} (hw : w ≤ 16) (hp : ∀ p ∈ ps, p.length = w ∧ IsP p) (hne : ps ≠ []) (hl : ps.length ≤ 30) (m : h ∈ hs w (semP ps)) (h0 : rk w h (semP ps) = 0) : m__law_least [.lst false (ps.map .str)] = .ok (.str h) := by
  obtain ⟨t, ht⟩ := least_eq hp hne m h0
  refine WO.eq ?_
  unfold m__law_least
  rw [WO_runP (by rfl)]
  unfold g__law_least
  simp
  refine WO_cLcM D.str (fun p => .str (repS 42 48 p)) ps (by simp) (by omega) ?_ ?_
  · intro p hm
    have := (hp p hm).1
    simp [rep_eq (x := 42) (y := 48) (cs := p) (by omega)]
  · have hs := gSrt_map (b := false) (xs := ps.map (repS 42 48)) (by simp; omega)
    rw [List.map_map] at hs
    have hs' : gSrt (frz (D.lst true (ps.map fun p => D.str (repS 42 48 p)))) = .ok (.lst true ((h :: t).map .str)) := by
      rw [← ht, ← hs]
      simp [Function.comp_def]
    have a0 : atI (D.str h :: t.map D.str) 0 = some (D.str h) := (atI_k (k := 0) (by simp)).trans rfl
    rw [hs']
    simp [a0]
theorem nums {n : Nat} {ns : List Nat} (hn : 0 < n) (h : ∀ k ∈ ns, k < n) : ∃ ks : List Nat, srtI (ns.map (fun k : Nat => (k : Int)) ++ [0, (n : Int) - 1]) = ks.map (fun k : Nat => (k : Int)) ∧ (∀ k ∈ ks, k < n) ∧ ks.Pairwise (· ≤ ·) ∧ ks.length = ns.length + 2 ∧ ks.head? = some 0 ∧ ks.getLast? = some (n - 1) := by
  have e0 : ns.map (fun k : Nat => (k : Int)) ++ [0, (n : Int) - 1] = (ns ++ [0, n - 1]).map fun k : Nat => (k : Int) := by
    rw [List.map_append]
    simp
    omega
  rw [e0]
  have hp := srtI_perm ((ns ++ [0, n - 1]).map fun k : Nat => (k : Int))
  have hs := srtI_srt ((ns ++ [0, n - 1]).map fun k : Nat => (k : Int))
  have hm : ∀ i ∈ srtI ((ns ++ [0, n - 1]).map fun k : Nat => (k : Int)), ∃ k ∈ ns ++ [0, n - 1], (k : Int) = i := fun i hi => List.mem_map.mp (hp.mem_iff.mp hi)
  generalize srtI ((ns ++ [0, n - 1]).map fun k : Nat => (k : Int)) = is at hp hs hm
  have e1 : is = (is.map Int.toNat).map fun k : Nat => (k : Int) := by
    rw [List.map_map]
    conv => lhs; rw [← List.map_id is]
    refine List.map_congr_left fun i hi => ?_
    obtain ⟨k, _, rfl⟩ := hm i hi
    rfl
  have hb : ∀ k ∈ ns ++ [0, n - 1], k < n := fun k hk => by
    rcases List.mem_append.mp hk with hk | hk
    · exact h k hk
    · simp at hk
      omega
  have mk : ∀ k, k ∈ is.map Int.toNat ↔ k ∈ ns ++ [0, n - 1] := fun k => by
    constructor
    · intro m
      obtain ⟨i, hi, rfl⟩ := List.mem_map.mp m
      obtain ⟨k, hk, rfl⟩ := hm i hi
      exact hk
    · intro m
      exact List.mem_map.mpr ⟨(k : Int), hp.mem_iff.mpr (List.mem_map.mpr ⟨k, m, rfl⟩), rfl⟩
  have hsk : (is.map Int.toNat).Pairwise (· ≤ ·) := by
    rw [List.pairwise_map]
    exact hs.imp fun hab => by omega
  have hl : (is.map Int.toNat).length = ns.length + 2 := by
    have := hp.length_eq
    simpa using this
  generalize is.map Int.toNat = ks at e1 mk hsk hl
  refine ⟨ks, e1, fun k hk => hb k ((mk k).mp hk), hsk, hl, ?_, ?_⟩
  · cases ks with
    | nil => simp at hl
    | cons a t =>
      have h0 : 0 ∈ a :: t := (mk 0).mpr (by simp)
      rcases List.mem_cons.mp h0 with z | z
      · rw [← z]; rfl
      · have := (List.pairwise_cons.mp hsk).1 0 z
        have : a = 0 := by omega
        rw [this]; rfl
  · have hne : ks ≠ [] := by intro z; rw [z] at hl; simp at hl
    have ek := List.dropLast_concat_getLast hne
    rw [List.getLast?_eq_getLast hne]
    have h0 : n - 1 ∈ ks := (mk _).mpr (by simp)
    have h1 := hb _ ((mk _).mp (List.getLast_mem hne))
    have h2 : n - 1 ≤ ks.getLast hne := by
      generalize hg : ks.getLast hne = g at ek
      rw [← ek] at h0 hsk
      rcases List.mem_append.mp h0 with z | z
      · exact (List.pairwise_append.mp hsk).2.2 _ z _ (by simp)
      · simp at z
        omega
    congr 1
    omega
set_option maxHeartbeats 4000000 in
theorem great_spec {p : D} (hp : Pool p) {P : D × D → Prop} (h : ∀ q, Pool q → P (.bl true, q)) : WO' X (m__law_great [p]) P := by
  refine WO'.up ?_
  unfold m__law_great
  rw [WO_runX (by rfl)]
  unfold g__law_great
  with_reducible refine WS_step fun K hK => ?_
  simp
  refine take_spec hp (by omega) (by omega) fun x p h3 hp => ?_
  obtain ⟨w, hw⟩ : ∃ w : Nat, (7 + x : Int) = w := ⟨7 + x, by omega⟩
  have h1 : 1 ≤ w := by omega
  have h2 : w ≤ 16 := by omega
  simp [hw]
  refine hK _ ?_
  clear hK
  with_reducible refine WS_step fun K hK => ?_
  simp
  refine WO_xLc (fun acc ds r => ∃ (q : D) (ps : List (List Nat)) (o10 : Option D), Pool q ∧ acc = ps.map .str ∧ (∀ x ∈ ps, x.length = w ∧ IsP x) ∧ ps.length + ds.length ≤ 3 ∧ 1 ≤ ps.length + ds.length ∧ r = [some q, some (.int w), none, none, none, none, none, none, none, none, o10, none]) ?_ ?_ ?_
  · simp
    refine take_spec hp (by omega) (by omega) fun x p h3 hp => ?_
    simp
    exact ⟨by omega, by omega, p, hp, by omega, by omega, rfl⟩
  · rintro acc d ds r ⟨q, ps, o10, hq, rfl, hps, hl3, hl1, rfl⟩
    simp
    refine take_spec hq (by omega) (by omega) fun y q h4 hq => ?_
    obtain ⟨a, e1, e2⟩ := WO_at (xs := [D.str [42, 42, 42, 48, 49], D.str [48, 49, 42]]) (i := (y : Int)) (by omega) (by simp; omega)
    obtain ⟨ss, rfl, hs0, hs1, hsP⟩ : ∃ ss, a = .str ss ∧ 0 < ss.length ∧ ss.length ≤ 1000 ∧ IsP ss := by
      simp at e2
      rcases e2 with rfl | rfl <;> exact ⟨_, rfl, by decide, by decide, by unfold IsP; decide⟩
    simp [e1]
    refine text_spec hq (by omega) (by omega) hs0 hs1 fun cs q hcl hcs hq => ?_
    refine ⟨q, hq, ps ++ [cs], by simp, fun x hx => ?_, by simp at hl3 ⊢; omega, by simp at hl1 ⊢; omega, rfl⟩
    rcases List.mem_append.mp hx with hx | hx
    · exact hps x hx
    · simp at hx
      subst hx
      exact ⟨by omega, fun c m => hsP c (hcs c m)⟩
  · rintro ys r ⟨q, ps, o10, hq, rfl, hps, hl3, hl1, rfl⟩
    simp at hl1 hl3
    simp
    refine hK _ ?_
    clear hK
    have hmk := mk_eq (ps := ps) h1 (by omega) hps (by omega)
    have hne : ps ≠ [] := by intro z; subst z; simp at hl1
    have hleast := fun h m h0 => lleast_eq (h := h) h2 hps hne (by omega) m h0
    have hsem : ∀ h, semP ps h = true → ∃ p ∈ ps, fitsB p h = true := fun h e => List.any_eq_true.mp e
    obtain ⟨p0, hp0⟩ := List.exists_mem_of_ne_nil ps hne
    have hpos : 0 < (hs w (semP ps)).length := by
      have hpe := hps p0 hp0
      exact List.length_pos_iff.mpr (List.ne_nil_of_mem (hs_of (h := repS 42 48 p0) (by rw [repS_len]; exact hpe.1) (repS_isH hpe.2) (List.any_eq_true.mpr ⟨p0, hp0, repS_fits p0⟩)))
    have hcs := cnt_small (S := semP ps) h2
    with_reducible refine WS_step fun K hK => ?_
    simp [hmk]
    refine hK _ ?_
    clear hK
    with_reducible refine WS_step fun K hK => ?_
    generalize hS : semP ps = S at hleast hsem hpos hcs ⊢
    have hle := len_o (S := S) h2
    rw [← hs_cnt] at hle hcs
    generalize hn : (hs w S).length = n at hpos hcs hle
    simp [hle]
    refine hK _ ?_
    clear hK
    with_reducible refine WS_step fun K hK => ?_
    simp
    refine WO_xLc (fun acc ds r => ∃ (q : D) (ns : List Nat) (o10 : Option D), Pool q ∧ acc = ns.map (fun k : Nat => D.int k) ∧ (∀ k ∈ ns, k < n) ∧ ns.length + ds.length = 4 ∧ r = [some q, some (.int w), some (.lst true (ps.map .str)), some (eHn w S), some (.int n), none, none, none, none, none, o10, none]) ?_ ?_ ?_
    · simp
      exact hq
    · rintro acc d ds r ⟨q, ns, o10, hq, rfl, hns, hl4, rfl⟩
      simp [CPow]
      refine take_spec hq (by omega) (by omega) fun y q h4 hq => ?_
      simp
      refine ⟨by omega, q, hq, ns ++ [y % n], by simp, fun k hk => ?_, by simp at hl4 ⊢; omega, rfl⟩
      rcases List.mem_append.mp hk with hk | hk
      · exact hns k hk
      · simp at hk
        subst hk
        exact Nat.mod_lt _ hpos
    · rintro ys r ⟨q, ns, o10, hq, rfl, hns, hl4, rfl⟩
      obtain ⟨ks, eks, hks, hrise, hkl, hkh, hkt⟩ := nums hpos hns
      simp at hl4
      have ec : ns.map (fun k : Nat => D.int k) ++ [D.int 0, D.int ((n : Int) - 1)] = (ns.map (fun k : Nat => (k : Int)) ++ [0, (n : Int) - 1]).map D.int := by
        rw [List.map_append, List.map_map]; rfl
      simp [hl4]
      rw [ec, srtI_eq, eks]
      simp
      refine hK _ ?_
      clear hK
      obtain ⟨hd, hhd⟩ : ∃ hd : Nat → List Nat, ∀ k, hd k = (hs w S).getD k [] := ⟨_, fun _ => rfl⟩
      have hat : ∀ k ∈ ks, ∃ hkl : k < (hs w S).length, hd k = (hs w S)[k] := fun k hk => by
        have hkn := hks k hk
        have hkl : k < (hs w S).length := by omega
        exact ⟨hkl, by rw [hhd]; simp [hkl]⟩
      have ehd : ∀ k ∈ ks, m_Heads_head_at [eH w S, .int k] = .ok (.str (hd k)) := fun k hk => by
        obtain ⟨hkl, e⟩ := hat k hk
        rw [headat_hs h1 h2 hkl, e]
      have hnm : ∀ k ∈ ks, m_Heads_number_of [eH w S, .str (hd k)] = .ok (.int k) ∧ (hd k).length = w ∧ ∃ p ∈ ps, fitsB p (hd k) = true := fun k hk => by
        obtain ⟨hkl, e⟩ := hat k hk
        have hm := List.getElem_mem hkl
        have hmm := hs_mem.mp hm
        have he := heads_each w _ hmm.1
        have hnum := number_e (S := S) he.1 (by omega) he.2 hmm.2
        rw [rk_at hkl] at hnum
        rw [e]
        exact ⟨hnum, he.1, hsem _ hmm.2⟩
      have hup : (ks.map hd).Pairwise (· ≤ ·) := by
        rw [List.pairwise_map]
        refine hrise.imp_of_mem ?_
        intro a b ha hb hab
        obtain ⟨hal, ea⟩ := hat a ha
        obtain ⟨hbl, eb⟩ := hat b hb
        rw [ea, eb]
        refine hs_mono (List.getElem_mem hal) (List.getElem_mem hbl) ?_
        rw [rk_at hal, rk_at hbl]
        exact hab
      have hfst : hd 0 ∈ hs w S ∧ rk w (hd 0) S = 0 := by
        obtain ⟨hkl, e⟩ := hat 0 (List.mem_of_mem_head? hkh)
        rw [e]
        exact ⟨List.getElem_mem hkl, rk_at hkl⟩
      clear hat hhd
      have hleast := hleast _ hfst.1 hfst.2
      with_reducible refine WS_step fun K hK => ?_
      simp
      refine WO_cLcM (fun k : Nat => D.int k) (fun k => .str (hd k)) ks (by simp [Function.comp_def]) (by omega) ?_ ?_
      · intro k hk
        simp [ehd k hk]
      simp
      refine hK _ ?_
      clear hK
      with_reducible refine WS_step fun K hK => ?_
      rw [WS_for]
      simp
      rw [List.zip_map', List.map_map]
      refine for_of (fun k : Nat => D.tup [.int k, .str (hd k)]) (fun (js : List Nat) r => (∀ k ∈ js, k ∈ ks) ∧ ∃ b e3 o8 o9, (e3 = eHn w S ∨ e3 = eH w S) ∧ r = [some q, some (.int w), some (.lst b (ps.map .str)), some e3, some (.int n), some (.lst false (ks.map fun k : Nat => D.int k)), some (.lst false (ks.map fun k => D.str (hd k))), none, o8, o9, none, none]) _ ⟨fun _ m => m, _, _, _, _, .inl rfl, rfl⟩ ?_ ?_
      · rintro k js r K2 ⟨hjs, b, e3, o8, o9, h3, rfl⟩ hK2
        have hf3 : frz e3 = eH w S := by rcases h3 with rfl | rfl <;> simp
        obtain ⟨g1, g2, p1, hp1, g3⟩ := hnm k (hjs k (List.mem_cons_self ..))
        simp [hf3, g1]
        refine WO_cLcF D.str (fun p => fitsB p (hd k)) D.str ps (by simp) (by omega) ?_ ?_
        · intro p hm
          have := (hps p hm).1
          simp [lawfits_eq (p := p) (h := hd k) (by omega) (by omega)]
        · have ef : frz (D.lst true ((ps.filter fun p => fitsB p (hd k)).map D.str)) = .lst false ((ps.filter fun p => fitsB p (hd k)).map D.str) := by rw [frz_lst, frzs_strs]
          have ee : eqD (.lst false ((ps.filter fun p => fitsB p (hd k)).map D.str)) (.lst false []) = false := by
            have : eqD (.lst false ((ps.filter fun p => fitsB p (hd k)).map D.str)) (.lst false []) = decide (ps.filter (fun p => fitsB p (hd k)) = []) := eqDs_strs (ys := [])
            rw [this, decide_eq_false_iff_not, List.filter_eq_nil_iff]
            exact fun z => z p1 hp1 g3
          rw [ef, ee]
          simp
          exact hK2 _ ⟨fun j m => hjs j (List.mem_cons_of_mem _ m), _, _, _, _, h3, rfl⟩
      · rintro r ⟨_, b, e3, o8, o9, h3, rfl⟩
        have hf3 : frz e3 = eH w S := by rcases h3 with rfl | rfl <;> simp
        refine hK _ ?_
        clear hK
        have hst : gSrt (.lst false (ks.map fun k => D.str (hd k))) = .ok (.lst true (ks.map fun k => D.str (hd k))) := by
          have := gSrt_map (b := false) (xs := ks.map hd) (by simp; omega)
          rw [srtT_self hup, List.map_map] at this
          exact this
        have hla : atI (ks.map fun k => D.str (hd k)) (-1) = some (D.str (hd (n - 1))) := by
          rw [atI_last, List.getLast?_map, hkt]
          rfl
        have hln := (hnm (n - 1) (List.mem_of_getLast? hkt)).1
        have hln2 : ((n - 1 : Nat) : Int) = (n : Int) - 1 := by omega
        rw [hln2] at hln
        have es : eqD (.lst false (ks.map fun k => D.str (hd k))) (.lst false (ks.map fun k => D.str (hd k))) = true := by
          rw [eqD_lst]
          exact eqDs_self_map (fun k => by simp [eqD]) ks
        have h00 : atI (ks.map fun k => D.str (hd k)) 0 = some (D.str (hd 0)) := by
          have : (ks.map fun k => D.str (hd k))[0]? = some (D.str (hd 0)) := by
            rw [List.getElem?_map, ← List.head?_eq_getElem?, hkh]
            rfl
          obtain ⟨h1, h2⟩ := List.getElem?_eq_some_iff.mp this
          exact (atI_k (k := 0) h1).trans (congrArg some h2)
        with_reducible refine WS_step fun K hK => ?_
        simp [hf3, hst, hla, hln, es]
        refine hK _ ?_
        clear hK
        with_reducible refine WS_step fun K hK => ?_
        have hleast' : m__law_least [.lst false (ps.map fun x => D.str x)] = .ok (.str (hd 0)) := hleast
        simp [hleast, hleast']
        refine hK _ ?_
        clear hK
        simp [h00, eqD]
        exact h _ hq
end My

namespace My
open PySem L2 DL
variable {X : Xc → DL.Env → Prop}
theorem law_holds (ns : List Int) (hn : ns.length ≤ 63) : m_law [.scr ns] = .ok (.bl true) := by
  refine WO.eq ?_
  unfold m_law
  rw [WO_runP (by rfl)]
  unfold g_law
  refine WS_step fun K0 hK0 => ?_
  simp
  have hj := cells (ns := ns) 10 (by omega) (by omega) _ rfl
  generalize hx : (if 1 < if 10 < (ns.length : Int) then 10 else (ns.length : Int) then if 10 < (ns.length : Int) then 10 else (ns.length : Int) else 1) = x at hj ⊢
  refine ⟨by omega, ?_⟩
  rw [rng_map]
  refine for_of _ (fun (ks : List Nat) r => (∀ k ∈ ks, k ≤ 100) ∧ ∃ o1 o2, r = [some (.scr ns), o1, o2]) _ ?_ ?_ ?_
  · refine ⟨fun k hk => ?_, _, _, rfl⟩
    simp at hk
    omega
  · rintro k ks r K ⟨hk, o1, o2, rfl⟩ hK
    have hk0 := hk k (List.mem_cons_self ..)
    simp only [sN_eq, List.length_cons, List.length_nil]
    rw [if_pos (by decide), WO_ok]
    with_reducible refine WT_step fun K1 hK1 => ?_
    simp
    refine pool_spec (by omega) (by omega) fun p hp => hK1 _ ?_
    clear hK1
    simp
    refine small_spec hp fun p hp => ?_
    simp
    refine great_spec hp fun p hp => ?_
    simp
    exact hK _ ⟨fun k m => hk k (List.mem_cons_of_mem _ m), _, _, rfl⟩
  · rintro r ⟨_, o1, o2, rfl⟩
    refine hK0 _ ?_
    simp
end My

namespace My
open PySem L2 DL
set_option maxHeartbeats 4000000 in
theorem all_mk {l : PySem.W.OpenLaw} (hlaw : ∀ ns : List Int, ns.length ≤ 63 → m_law [.scr ns] = .ok (.bl true)) {w : World} {K : PySem.W.Frag} {h : Heap} {mg : Str → Option Value} {fa : Addr} (X : K.In h) (G : h.Ns mainGlobals mg) (hfa : mg "law" = some (.ref fa))
    {a_Heads : Addr} (ag_Heads : PySem.W.nsIn K mainGlobals "Heads" = some (some (.ref a_Heads)))
    {a_NoNumber : Addr} (ag_NoNumber : PySem.W.nsIn K mainGlobals "NoNumber" = some (some (.ref a_NoNumber)))
    {a_NoHead : Addr} (ag_NoHead : PySem.W.nsIn K mainGlobals "NoHead" = some (some (.ref a_NoHead)))
    {a_HeadError : Addr} (ag_HeadError : PySem.W.nsIn K mainGlobals "HeadError" = some (some (.ref a_HeadError)))
    {a_NoPattern : Addr} (ag_NoPattern : PySem.W.nsIn K mainGlobals "NoPattern" = some (some (.ref a_NoPattern)))
    {a_NoPatterns : Addr} (ag_NoPatterns : PySem.W.nsIn K mainGlobals "NoPatterns" = some (some (.ref a_NoPatterns)))
    (oc1_Heads : PySem.W.plainGet K a_Heads Str.empty = true)
    (oc2_Heads : PySem.W.hasDictIn K a_Heads = true)
    (oc3_Heads : PySem.W.plainOver K a_Heads = true)
    (oc4_Heads : PySem.W.findIn K (.ref a_Heads) "__setattr__" = some (some (.builtin "object.__setattr__")))
    (oh1_Heads : PySem.W.findIn K (.ref a_Heads) "__class__" = some (some (.builtin "object.__class__")))
    (oh2_Heads : PySem.W.specialIn K (.builtin "object.__class__") "__get__" = some (some (.builtin "getset_descriptor.__get__")))
    (oh3_Heads : PySem.W.takesIn K (.builtin "object.__class__") = some true)
    (oh5_Heads : PySem.W.mroIn K a_Heads (.type "object") = some true)
    (ot_int_Heads : PySem.W.kitOne K (.ref a_Heads) (.type "int") = some false)
    (ot_bool_Heads : PySem.W.kitOne K (.ref a_Heads) (.type "bool") = some false)
    (ot_str_Heads : PySem.W.kitOne K (.ref a_Heads) (.type "str") = some false)
    (ot_list_Heads : PySem.W.kitOne K (.ref a_Heads) (.type "list") = some false)
    (ot_tuple_Heads : PySem.W.kitOne K (.ref a_Heads) (.type "tuple") = some false)
    (ot_dict_Heads : PySem.W.kitOne K (.ref a_Heads) (.type "dict") = some false)
    (mk_Heads : PySem.W.makesIn K a_Heads = true)
    (kc_Heads : PySem.W.keepIn K (.ref a_Heads) = true)
    {f__law_cell_at : Addr} {od__law_cell_at an__law_cell_at : Option Addr} {sl__law_cell_at : Array (Option Value)} {oc__law_cell_at kV__law_cell_at dc__law_cell_at pm__law_cell_at cd__law_cell_at ct__law_cell_at : Value}
    (a__law_cell_at : PySem.W.nsIn K mainGlobals "_law_cell_at" = some (some (.ref f__law_cell_at))) (l__law_cell_at : K.lookup f__law_cell_at = some ⟨oc__law_cell_at, od__law_cell_at, .func (PySem.W.fnOf "_law_cell_at" "_law_cell_at" (defArgs s__law_cell_at) (defBody s__law_cell_at) (defScope s__law_cell_at) .none kV__law_cell_at dc__law_cell_at pm__law_cell_at an__law_cell_at cd__law_cell_at ct__law_cell_at), sl__law_cell_at⟩) (c__law_cell_at : PySem.W.codeIn K cd__law_cell_at "_law_cell_at" = true) (k__law_cell_at : PySem.W.keepIn K (.ref f__law_cell_at) = true)
    {f__law_pool : Addr} {od__law_pool an__law_pool : Option Addr} {sl__law_pool : Array (Option Value)} {oc__law_pool kV__law_pool dc__law_pool pm__law_pool cd__law_pool ct__law_pool : Value}
    (a__law_pool : PySem.W.nsIn K mainGlobals "_law_pool" = some (some (.ref f__law_pool))) (l__law_pool : K.lookup f__law_pool = some ⟨oc__law_pool, od__law_pool, .func (PySem.W.fnOf "_law_pool" "_law_pool" (defArgs s__law_pool) (defBody s__law_pool) (defScope s__law_pool) .none kV__law_pool dc__law_pool pm__law_pool an__law_pool cd__law_pool ct__law_pool), sl__law_pool⟩) (c__law_pool : PySem.W.codeIn K cd__law_pool "_law_pool" = true) (k__law_pool : PySem.W.keepIn K (.ref f__law_pool) = true)
    {f__law_take : Addr} {od__law_take an__law_take : Option Addr} {sl__law_take : Array (Option Value)} {oc__law_take kV__law_take dc__law_take pm__law_take cd__law_take ct__law_take : Value}
    (a__law_take : PySem.W.nsIn K mainGlobals "_law_take" = some (some (.ref f__law_take))) (l__law_take : K.lookup f__law_take = some ⟨oc__law_take, od__law_take, .func (PySem.W.fnOf "_law_take" "_law_take" (defArgs s__law_take) (defBody s__law_take) (defScope s__law_take) .none kV__law_take dc__law_take pm__law_take an__law_take cd__law_take ct__law_take), sl__law_take⟩) (c__law_take : PySem.W.codeIn K cd__law_take "_law_take" = true) (k__law_take : PySem.W.keepIn K (.ref f__law_take) = true)
    {f__law_text : Addr} {od__law_text an__law_text : Option Addr} {sl__law_text : Array (Option Value)} {oc__law_text kV__law_text dc__law_text pm__law_text cd__law_text ct__law_text : Value}
    (a__law_text : PySem.W.nsIn K mainGlobals "_law_text" = some (some (.ref f__law_text))) (l__law_text : K.lookup f__law_text = some ⟨oc__law_text, od__law_text, .func (PySem.W.fnOf "_law_text" "_law_text" (defArgs s__law_text) (defBody s__law_text) (defScope s__law_text) .none kV__law_text dc__law_text pm__law_text an__law_text cd__law_text ct__law_text), sl__law_text⟩) (c__law_text : PySem.W.codeIn K cd__law_text "_law_text" = true) (k__law_text : PySem.W.keepIn K (.ref f__law_text) = true)
    {f__law_pattern : Addr} {od__law_pattern an__law_pattern : Option Addr} {sl__law_pattern : Array (Option Value)} {oc__law_pattern kV__law_pattern dc__law_pattern pm__law_pattern cd__law_pattern ct__law_pattern : Value}
    (a__law_pattern : PySem.W.nsIn K mainGlobals "_law_pattern" = some (some (.ref f__law_pattern))) (l__law_pattern : K.lookup f__law_pattern = some ⟨oc__law_pattern, od__law_pattern, .func (PySem.W.fnOf "_law_pattern" "_law_pattern" (defArgs s__law_pattern) (defBody s__law_pattern) (defScope s__law_pattern) .none kV__law_pattern dc__law_pattern pm__law_pattern an__law_pattern cd__law_pattern ct__law_pattern), sl__law_pattern⟩) (c__law_pattern : PySem.W.codeIn K cd__law_pattern "_law_pattern" = true) (k__law_pattern : PySem.W.keepIn K (.ref f__law_pattern) = true)
    {f__law_patterns : Addr} {od__law_patterns an__law_patterns : Option Addr} {sl__law_patterns : Array (Option Value)} {oc__law_patterns kV__law_patterns dc__law_patterns pm__law_patterns cd__law_patterns ct__law_patterns : Value}
    (a__law_patterns : PySem.W.nsIn K mainGlobals "_law_patterns" = some (some (.ref f__law_patterns))) (l__law_patterns : K.lookup f__law_patterns = some ⟨oc__law_patterns, od__law_patterns, .func (PySem.W.fnOf "_law_patterns" "_law_patterns" (defArgs s__law_patterns) (defBody s__law_patterns) (defScope s__law_patterns) .none kV__law_patterns dc__law_patterns pm__law_patterns an__law_patterns cd__law_patterns ct__law_patterns), sl__law_patterns⟩) (c__law_patterns : PySem.W.codeIn K cd__law_patterns "_law_patterns" = true) (k__law_patterns : PySem.W.keepIn K (.ref f__law_patterns) = true)
    {f__law_heads : Addr} {od__law_heads an__law_heads : Option Addr} {sl__law_heads : Array (Option Value)} {oc__law_heads kV__law_heads dc__law_heads pm__law_heads cd__law_heads ct__law_heads : Value}
    (a__law_heads : PySem.W.nsIn K mainGlobals "_law_heads" = some (some (.ref f__law_heads))) (l__law_heads : K.lookup f__law_heads = some ⟨oc__law_heads, od__law_heads, .func (PySem.W.fnOf "_law_heads" "_law_heads" (defArgs s__law_heads) (defBody s__law_heads) (defScope s__law_heads) .none kV__law_heads dc__law_heads pm__law_heads an__law_heads cd__law_heads ct__law_heads), sl__law_heads⟩) (c__law_heads : PySem.W.codeIn K cd__law_heads "_law_heads" = true) (k__law_heads : PySem.W.keepIn K (.ref f__law_heads) = true)
    {f__law_fits : Addr} {od__law_fits an__law_fits : Option Addr} {sl__law_fits : Array (Option Value)} {oc__law_fits kV__law_fits dc__law_fits pm__law_fits cd__law_fits ct__law_fits : Value}
    (a__law_fits : PySem.W.nsIn K mainGlobals "_law_fits" = some (some (.ref f__law_fits))) (l__law_fits : K.lookup f__law_fits = some ⟨oc__law_fits, od__law_fits, .func (PySem.W.fnOf "_law_fits" "_law_fits" (defArgs s__law_fits) (defBody s__law_fits) (defScope s__law_fits) .none kV__law_fits dc__law_fits pm__law_fits an__law_fits cd__law_fits ct__law_fits), sl__law_fits⟩) (c__law_fits : PySem.W.codeIn K cd__law_fits "_law_fits" = true) (k__law_fits : PySem.W.keepIn K (.ref f__law_fits) = true)
    {f__law_of : Addr} {od__law_of an__law_of : Option Addr} {sl__law_of : Array (Option Value)} {oc__law_of kV__law_of dc__law_of pm__law_of cd__law_of ct__law_of : Value}
    (a__law_of : PySem.W.nsIn K mainGlobals "_law_of" = some (some (.ref f__law_of))) (l__law_of : K.lookup f__law_of = some ⟨oc__law_of, od__law_of, .func (PySem.W.fnOf "_law_of" "_law_of" (defArgs s__law_of) (defBody s__law_of) (defScope s__law_of) .none kV__law_of dc__law_of pm__law_of an__law_of cd__law_of ct__law_of), sl__law_of⟩) (c__law_of : PySem.W.codeIn K cd__law_of "_law_of" = true) (k__law_of : PySem.W.keepIn K (.ref f__law_of) = true)
    {f_behind : Addr} {od_behind an_behind : Option Addr} {sl_behind : Array (Option Value)} {oc_behind kV_behind dc_behind pm_behind cd_behind ct_behind : Value}
    (a_behind : PySem.W.nsIn K mainGlobals "behind" = some (some (.ref f_behind))) (l_behind : K.lookup f_behind = some ⟨oc_behind, od_behind, .func (PySem.W.fnOf "behind" "behind" (defArgs s_behind) (defBody s_behind) (defScope s_behind) .none kV_behind dc_behind pm_behind an_behind cd_behind ct_behind), sl_behind⟩) (c_behind : PySem.W.codeIn K cd_behind "behind" = true) (k_behind : PySem.W.keepIn K (.ref f_behind) = true)
    {f_rests : Addr} {od_rests an_rests : Option Addr} {sl_rests : Array (Option Value)} {oc_rests kV_rests dc_rests pm_rests cd_rests ct_rests : Value}
    (a_rests : PySem.W.nsIn K mainGlobals "rests" = some (some (.ref f_rests))) (l_rests : K.lookup f_rests = some ⟨oc_rests, od_rests, .func (PySem.W.fnOf "rests" "rests" (defArgs s_rests) (defBody s_rests) (defScope s_rests) .none kV_rests dc_rests pm_rests an_rests cd_rests ct_rests), sl_rests⟩) (c_rests : PySem.W.codeIn K cd_rests "rests" = true) (k_rests : PySem.W.keepIn K (.ref f_rests) = true)
    {f_told_patterns : Addr} {od_told_patterns an_told_patterns : Option Addr} {sl_told_patterns : Array (Option Value)} {oc_told_patterns kV_told_patterns dc_told_patterns pm_told_patterns cd_told_patterns ct_told_patterns : Value}
    (a_told_patterns : PySem.W.nsIn K mainGlobals "told_patterns" = some (some (.ref f_told_patterns))) (l_told_patterns : K.lookup f_told_patterns = some ⟨oc_told_patterns, od_told_patterns, .func (PySem.W.fnOf "told_patterns" "told_patterns" (defArgs s_told_patterns) (defBody s_told_patterns) (defScope s_told_patterns) .none kV_told_patterns dc_told_patterns pm_told_patterns an_told_patterns cd_told_patterns ct_told_patterns), sl_told_patterns⟩) (c_told_patterns : PySem.W.codeIn K cd_told_patterns "told_patterns" = true) (k_told_patterns : PySem.W.keepIn K (.ref f_told_patterns) = true)
    {f_is_whole : Addr} {od_is_whole an_is_whole : Option Addr} {sl_is_whole : Array (Option Value)} {oc_is_whole kV_is_whole dc_is_whole pm_is_whole cd_is_whole ct_is_whole : Value}
    (a_is_whole : PySem.W.nsIn K mainGlobals "is_whole" = some (some (.ref f_is_whole))) (l_is_whole : K.lookup f_is_whole = some ⟨oc_is_whole, od_is_whole, .func (PySem.W.fnOf "is_whole" "is_whole" (defArgs s_is_whole) (defBody s_is_whole) (defScope s_is_whole) .none kV_is_whole dc_is_whole pm_is_whole an_is_whole cd_is_whole ct_is_whole), sl_is_whole⟩) (c_is_whole : PySem.W.codeIn K cd_is_whole "is_whole" = true) (k_is_whole : PySem.W.keepIn K (.ref f_is_whole) = true)
    {f_is_width : Addr} {od_is_width an_is_width : Option Addr} {sl_is_width : Array (Option Value)} {oc_is_width kV_is_width dc_is_width pm_is_width cd_is_width ct_is_width : Value}
    (a_is_width : PySem.W.nsIn K mainGlobals "is_width" = some (some (.ref f_is_width))) (l_is_width : K.lookup f_is_width = some ⟨oc_is_width, od_is_width, .func (PySem.W.fnOf "is_width" "is_width" (defArgs s_is_width) (defBody s_is_width) (defScope s_is_width) .none kV_is_width dc_is_width pm_is_width an_is_width cd_is_width ct_is_width), sl_is_width⟩) (c_is_width : PySem.W.codeIn K cd_is_width "is_width" = true) (k_is_width : PySem.W.keepIn K (.ref f_is_width) = true)
    {f_is_of : Addr} {od_is_of an_is_of : Option Addr} {sl_is_of : Array (Option Value)} {oc_is_of kV_is_of dc_is_of pm_is_of cd_is_of ct_is_of : Value}
    (a_is_of : PySem.W.nsIn K mainGlobals "is_of" = some (some (.ref f_is_of))) (l_is_of : K.lookup f_is_of = some ⟨oc_is_of, od_is_of, .func (PySem.W.fnOf "is_of" "is_of" (defArgs s_is_of) (defBody s_is_of) (defScope s_is_of) .none kV_is_of dc_is_of pm_is_of an_is_of cd_is_of ct_is_of), sl_is_of⟩) (c_is_of : PySem.W.codeIn K cd_is_of "is_of" = true) (k_is_of : PySem.W.keepIn K (.ref f_is_of) = true)
    {f_is_pattern : Addr} {od_is_pattern an_is_pattern : Option Addr} {sl_is_pattern : Array (Option Value)} {oc_is_pattern kV_is_pattern dc_is_pattern pm_is_pattern cd_is_pattern ct_is_pattern : Value}
    (a_is_pattern : PySem.W.nsIn K mainGlobals "is_pattern" = some (some (.ref f_is_pattern))) (l_is_pattern : K.lookup f_is_pattern = some ⟨oc_is_pattern, od_is_pattern, .func (PySem.W.fnOf "is_pattern" "is_pattern" (defArgs s_is_pattern) (defBody s_is_pattern) (defScope s_is_pattern) .none kV_is_pattern dc_is_pattern pm_is_pattern an_is_pattern cd_is_pattern ct_is_pattern), sl_is_pattern⟩) (c_is_pattern : PySem.W.codeIn K cd_is_pattern "is_pattern" = true) (k_is_pattern : PySem.W.keepIn K (.ref f_is_pattern) = true)
    {f_Heads___init__ : Addr} {od_Heads___init__ an_Heads___init__ : Option Addr} {sl_Heads___init__ : Array (Option Value)} {oc_Heads___init__ kV_Heads___init__ dc_Heads___init__ pm_Heads___init__ cd_Heads___init__ ct_Heads___init__ : Value}
    {T_Heads___init__ : Addr} {dT_Heads___init__ : Option Addr} {oT_Heads___init__ : Value} {slT_Heads___init__ : Array (Option Value)} {nT_Heads___init__ : Nat} {tk0_Heads___init__ : Tok}
    (a_Heads___init__ : PySem.W.findIn K (.ref a_Heads) "__init__" = some (some (.ref f_Heads___init__))) (i_Heads___init__ : PySem.W.isFn K (.ref f_Heads___init__) = true) (l_Heads___init__ : K.lookup f_Heads___init__ = some ⟨oc_Heads___init__, od_Heads___init__, .func (PySem.W.fnOf "__init__" "Heads.__init__" (defArgs s_Heads___init__) (defBody s_Heads___init__) (defScope s_Heads___init__) (.ref T_Heads___init__) kV_Heads___init__ dc_Heads___init__ pm_Heads___init__ an_Heads___init__ cd_Heads___init__ ct_Heads___init__), sl_Heads___init__⟩) (c_Heads___init__ : PySem.W.codeIn K cd_Heads___init__ "Heads.__init__" = true) (k_Heads___init__ : PySem.W.keepIn K (.ref f_Heads___init__) = true)
    (lT_Heads___init__ : K.lookup T_Heads___init__ = some ⟨oT_Heads___init__, dT_Heads___init__, .seq ([Value.int 16 tk0_Heads___init__, Value.none] : List Value).toArray nT_Heads___init__, slT_Heads___init__⟩)
    {f__law_kind : Addr} {od__law_kind an__law_kind : Option Addr} {sl__law_kind : Array (Option Value)} {oc__law_kind kV__law_kind dc__law_kind pm__law_kind cd__law_kind ct__law_kind : Value}
    (a__law_kind : PySem.W.nsIn K mainGlobals "_law_kind" = some (some (.ref f__law_kind))) (l__law_kind : K.lookup f__law_kind = some ⟨oc__law_kind, od__law_kind, .func (PySem.W.fnOf "_law_kind" "_law_kind" (defArgs s__law_kind) (defBody s__law_kind) (defScope s__law_kind) .none kV__law_kind dc__law_kind pm__law_kind an__law_kind cd__law_kind ct__law_kind), sl__law_kind⟩) (c__law_kind : PySem.W.codeIn K cd__law_kind "_law_kind" = true) (k__law_kind : PySem.W.keepIn K (.ref f__law_kind) = true)
    {f_many_of : Addr} {od_many_of an_many_of : Option Addr} {sl_many_of : Array (Option Value)} {oc_many_of kV_many_of dc_many_of pm_many_of cd_many_of ct_many_of : Value}
    (a_many_of : PySem.W.nsIn K mainGlobals "many_of" = some (some (.ref f_many_of))) (l_many_of : K.lookup f_many_of = some ⟨oc_many_of, od_many_of, .func (PySem.W.fnOf "many_of" "many_of" (defArgs s_many_of) (defBody s_many_of) (defScope s_many_of) .none kV_many_of dc_many_of pm_many_of an_many_of cd_many_of ct_many_of), sl_many_of⟩) (c_many_of : PySem.W.codeIn K cd_many_of "many_of" = true) (k_many_of : PySem.W.keepIn K (.ref f_many_of) = true)
    {f_fits : Addr} {od_fits an_fits : Option Addr} {sl_fits : Array (Option Value)} {oc_fits kV_fits dc_fits pm_fits cd_fits ct_fits : Value}
    (a_fits : PySem.W.nsIn K mainGlobals "fits" = some (some (.ref f_fits))) (l_fits : K.lookup f_fits = some ⟨oc_fits, od_fits, .func (PySem.W.fnOf "fits" "fits" (defArgs s_fits) (defBody s_fits) (defScope s_fits) .none kV_fits dc_fits pm_fits an_fits cd_fits ct_fits), sl_fits⟩) (c_fits : PySem.W.codeIn K cd_fits "fits" = true) (k_fits : PySem.W.keepIn K (.ref f_fits) = true)
    {f_Heads_first_below : Addr} {od_Heads_first_below an_Heads_first_below : Option Addr} {sl_Heads_first_below : Array (Option Value)} {oc_Heads_first_below kV_Heads_first_below dc_Heads_first_below pm_Heads_first_below cd_Heads_first_below ct_Heads_first_below : Value}
    (a_Heads_first_below : PySem.W.findIn K (.ref a_Heads) "first_below" = some (some (.ref f_Heads_first_below))) (i_Heads_first_below : PySem.W.isFn K (.ref f_Heads_first_below) = true) (l_Heads_first_below : K.lookup f_Heads_first_below = some ⟨oc_Heads_first_below, od_Heads_first_below, .func (PySem.W.fnOf "first_below" "Heads.first_below" (defArgs s_Heads_first_below) (defBody s_Heads_first_below) (defScope s_Heads_first_below) .none kV_Heads_first_below dc_Heads_first_below pm_Heads_first_below an_Heads_first_below cd_Heads_first_below ct_Heads_first_below), sl_Heads_first_below⟩) (c_Heads_first_below : PySem.W.codeIn K cd_Heads_first_below "Heads.first_below" = true) (k_Heads_first_below : PySem.W.keepIn K (.ref f_Heads_first_below) = true)
    {f_Heads_how_many : Addr} {od_Heads_how_many an_Heads_how_many : Option Addr} {sl_Heads_how_many : Array (Option Value)} {oc_Heads_how_many kV_Heads_how_many dc_Heads_how_many pm_Heads_how_many cd_Heads_how_many ct_Heads_how_many : Value}
    (a_Heads_how_many : PySem.W.findIn K (.ref a_Heads) "how_many" = some (some (.ref f_Heads_how_many))) (i_Heads_how_many : PySem.W.isFn K (.ref f_Heads_how_many) = true) (l_Heads_how_many : K.lookup f_Heads_how_many = some ⟨oc_Heads_how_many, od_Heads_how_many, .func (PySem.W.fnOf "how_many" "Heads.how_many" (defArgs s_Heads_how_many) (defBody s_Heads_how_many) (defScope s_Heads_how_many) .none kV_Heads_how_many dc_Heads_how_many pm_Heads_how_many an_Heads_how_many cd_Heads_how_many ct_Heads_how_many), sl_Heads_how_many⟩) (c_Heads_how_many : PySem.W.codeIn K cd_Heads_how_many "Heads.how_many" = true) (k_Heads_how_many : PySem.W.keepIn K (.ref f_Heads_how_many) = true)
    {f_Heads___len__ : Addr} {od_Heads___len__ an_Heads___len__ : Option Addr} {sl_Heads___len__ : Array (Option Value)} {oc_Heads___len__ kV_Heads___len__ dc_Heads___len__ pm_Heads___len__ cd_Heads___len__ ct_Heads___len__ : Value}
    (a_Heads___len__ : PySem.W.findIn K (.ref a_Heads) "__len__" = some (some (.ref f_Heads___len__))) (i_Heads___len__ : PySem.W.isFn K (.ref f_Heads___len__) = true) (l_Heads___len__ : K.lookup f_Heads___len__ = some ⟨oc_Heads___len__, od_Heads___len__, .func (PySem.W.fnOf "__len__" "Heads.__len__" (defArgs s_Heads___len__) (defBody s_Heads___len__) (defScope s_Heads___len__) .none kV_Heads___len__ dc_Heads___len__ pm_Heads___len__ an_Heads___len__ cd_Heads___len__ ct_Heads___len__), sl_Heads___len__⟩) (c_Heads___len__ : PySem.W.codeIn K cd_Heads___len__ "Heads.__len__" = true) (k_Heads___len__ : PySem.W.keepIn K (.ref f_Heads___len__) = true)
    {f_Heads_head_at : Addr} {od_Heads_head_at an_Heads_head_at : Option Addr} {sl_Heads_head_at : Array (Option Value)} {oc_Heads_head_at kV_Heads_head_at dc_Heads_head_at pm_Heads_head_at cd_Heads_head_at ct_Heads_head_at : Value}
    {T_Heads_head_at : Addr} {dT_Heads_head_at : Option Addr} {oT_Heads_head_at : Value} {slT_Heads_head_at : Array (Option Value)} {nT_Heads_head_at : Nat} {tk0_Heads_head_at : Tok}
    (a_Heads_head_at : PySem.W.findIn K (.ref a_Heads) "head_at" = some (some (.ref f_Heads_head_at))) (i_Heads_head_at : PySem.W.isFn K (.ref f_Heads_head_at) = true) (l_Heads_head_at : K.lookup f_Heads_head_at = some ⟨oc_Heads_head_at, od_Heads_head_at, .func (PySem.W.fnOf "head_at" "Heads.head_at" (defArgs s_Heads_head_at) (defBody s_Heads_head_at) (defScope s_Heads_head_at) (.ref T_Heads_head_at) kV_Heads_head_at dc_Heads_head_at pm_Heads_head_at an_Heads_head_at cd_Heads_head_at ct_Heads_head_at), sl_Heads_head_at⟩) (c_Heads_head_at : PySem.W.codeIn K cd_Heads_head_at "Heads.head_at" = true) (k_Heads_head_at : PySem.W.keepIn K (.ref f_Heads_head_at) = true)
    (lT_Heads_head_at : K.lookup T_Heads_head_at = some ⟨oT_Heads_head_at, dT_Heads_head_at, .seq ([Value.int 0 tk0_Heads_head_at] : List Value).toArray nT_Heads_head_at, slT_Heads_head_at⟩)
    {f_is_head : Addr} {od_is_head an_is_head : Option Addr} {sl_is_head : Array (Option Value)} {oc_is_head kV_is_head dc_is_head pm_is_head cd_is_head ct_is_head : Value}
    (a_is_head : PySem.W.nsIn K mainGlobals "is_head" = some (some (.ref f_is_head))) (l_is_head : K.lookup f_is_head = some ⟨oc_is_head, od_is_head, .func (PySem.W.fnOf "is_head" "is_head" (defArgs s_is_head) (defBody s_is_head) (defScope s_is_head) .none kV_is_head dc_is_head pm_is_head an_is_head cd_is_head ct_is_head), sl_is_head⟩) (c_is_head : PySem.W.codeIn K cd_is_head "is_head" = true) (k_is_head : PySem.W.keepIn K (.ref f_is_head) = true)
    {f_Heads_holds : Addr} {od_Heads_holds an_Heads_holds : Option Addr} {sl_Heads_holds : Array (Option Value)} {oc_Heads_holds kV_Heads_holds dc_Heads_holds pm_Heads_holds cd_Heads_holds ct_Heads_holds : Value}
    (a_Heads_holds : PySem.W.findIn K (.ref a_Heads) "holds" = some (some (.ref f_Heads_holds))) (i_Heads_holds : PySem.W.isFn K (.ref f_Heads_holds) = true) (l_Heads_holds : K.lookup f_Heads_holds = some ⟨oc_Heads_holds, od_Heads_holds, .func (PySem.W.fnOf "holds" "Heads.holds" (defArgs s_Heads_holds) (defBody s_Heads_holds) (defScope s_Heads_holds) .none kV_Heads_holds dc_Heads_holds pm_Heads_holds an_Heads_holds cd_Heads_holds ct_Heads_holds), sl_Heads_holds⟩) (c_Heads_holds : PySem.W.codeIn K cd_Heads_holds "Heads.holds" = true) (k_Heads_holds : PySem.W.keepIn K (.ref f_Heads_holds) = true)
    {f_Heads_number_of : Addr} {od_Heads_number_of an_Heads_number_of : Option Addr} {sl_Heads_number_of : Array (Option Value)} {oc_Heads_number_of kV_Heads_number_of dc_Heads_number_of pm_Heads_number_of cd_Heads_number_of ct_Heads_number_of : Value}
    (a_Heads_number_of : PySem.W.findIn K (.ref a_Heads) "number_of" = some (some (.ref f_Heads_number_of))) (i_Heads_number_of : PySem.W.isFn K (.ref f_Heads_number_of) = true) (l_Heads_number_of : K.lookup f_Heads_number_of = some ⟨oc_Heads_number_of, od_Heads_number_of, .func (PySem.W.fnOf "number_of" "Heads.number_of" (defArgs s_Heads_number_of) (defBody s_Heads_number_of) (defScope s_Heads_number_of) .none kV_Heads_number_of dc_Heads_number_of pm_Heads_number_of an_Heads_number_of cd_Heads_number_of ct_Heads_number_of), sl_Heads_number_of⟩) (c_Heads_number_of : PySem.W.codeIn K cd_Heads_number_of "Heads.number_of" = true) (k_Heads_number_of : PySem.W.keepIn K (.ref f_Heads_number_of) = true)
    {f__law_small : Addr} {od__law_small an__law_small : Option Addr} {sl__law_small : Array (Option Value)} {oc__law_small kV__law_small dc__law_small pm__law_small cd__law_small ct__law_small : Value}
    (a__law_small : PySem.W.nsIn K mainGlobals "_law_small" = some (some (.ref f__law_small))) (l__law_small : K.lookup f__law_small = some ⟨oc__law_small, od__law_small, .func (PySem.W.fnOf "_law_small" "_law_small" (defArgs s__law_small) (defBody s__law_small) (defScope s__law_small) .none kV__law_small dc__law_small pm__law_small an__law_small cd__law_small ct__law_small), sl__law_small⟩) (c__law_small : PySem.W.codeIn K cd__law_small "_law_small" = true) (k__law_small : PySem.W.keepIn K (.ref f__law_small) = true)
    {f__law_least : Addr} {od__law_least an__law_least : Option Addr} {sl__law_least : Array (Option Value)} {oc__law_least kV__law_least dc__law_least pm__law_least cd__law_least ct__law_least : Value}
    (a__law_least : PySem.W.nsIn K mainGlobals "_law_least" = some (some (.ref f__law_least))) (l__law_least : K.lookup f__law_least = some ⟨oc__law_least, od__law_least, .func (PySem.W.fnOf "_law_least" "_law_least" (defArgs s__law_least) (defBody s__law_least) (defScope s__law_least) .none kV__law_least dc__law_least pm__law_least an__law_least cd__law_least ct__law_least), sl__law_least⟩) (c__law_least : PySem.W.codeIn K cd__law_least "_law_least" = true) (k__law_least : PySem.W.keepIn K (.ref f__law_least) = true)
    {f__law_great : Addr} {od__law_great an__law_great : Option Addr} {sl__law_great : Array (Option Value)} {oc__law_great kV__law_great dc__law_great pm__law_great cd__law_great ct__law_great : Value}
    (a__law_great : PySem.W.nsIn K mainGlobals "_law_great" = some (some (.ref f__law_great))) (l__law_great : K.lookup f__law_great = some ⟨oc__law_great, od__law_great, .func (PySem.W.fnOf "_law_great" "_law_great" (defArgs s__law_great) (defBody s__law_great) (defScope s__law_great) .none kV__law_great dc__law_great pm__law_great an__law_great cd__law_great ct__law_great), sl__law_great⟩) (c__law_great : PySem.W.codeIn K cd__law_great "_law_great" = true) (k__law_great : PySem.W.keepIn K (.ref f__law_great) = true)
    {f_law : Addr} {od_law an_law : Option Addr} {sl_law : Array (Option Value)} {oc_law kV_law dc_law pm_law cd_law ct_law : Value}
    (a_law : PySem.W.nsIn K mainGlobals "law" = some (some (.ref f_law))) (l_law : K.lookup f_law = some ⟨oc_law, od_law, .func (PySem.W.fnOf "law" "law" (defArgs s_law) (defBody s_law) (defScope s_law) .none kV_law dc_law pm_law an_law cd_law ct_law), sl_law⟩) (c_law : PySem.W.codeIn K cd_law "law" = true) (k_law : PySem.W.keepIn K (.ref f_law) = true)
    {f_FNoNumber : Addr} {od_FNoNumber an_FNoNumber : Option Addr} {sl_FNoNumber : Array (Option Value)} {oc_FNoNumber kV_FNoNumber dc_FNoNumber pm_FNoNumber cd_FNoNumber ct_FNoNumber : Value}
    (a_FNoNumber : PySem.W.findIn K (.ref a_NoNumber) "__init__" = some (some (.ref f_FNoNumber))) (i_FNoNumber : PySem.W.typeIn K (.ref f_FNoNumber) = some (.type "function")) (l_FNoNumber : K.lookup f_FNoNumber = some ⟨oc_FNoNumber, od_FNoNumber, .func (PySem.W.fnOf "__init__" "NoNumber.__init__" (defArgs s_FNoNumber) (defBody s_FNoNumber) (defScope s_FNoNumber) .none kV_FNoNumber dc_FNoNumber pm_FNoNumber an_FNoNumber cd_FNoNumber ct_FNoNumber), sl_FNoNumber⟩) (c_FNoNumber : PySem.W.codeIn K cd_FNoNumber "NoNumber.__init__" = true) (k_FNoNumber : PySem.W.keepIn K (.ref f_FNoNumber) = true)
    (hox_NoNumber : oexJn K a_NoNumber = true)
    (hsa_NoNumber : PySem.W.findIn K (.ref a_NoNumber) "__setattr__" = some (some (.builtin "object.__setattr__")))
    (hex_NoNumber : PySem.W.subIn K (.ref a_NoNumber) (.type "BaseException") = some true)
    (hty_NoNumber : PySem.W.typeIn K (.ref a_NoNumber) = some (.type "type"))
    (hkc_NoNumber : PySem.W.keepIn K (.ref a_NoNumber) = true)
    (hnf0_NoNumber : PySem.W.findIn K (.ref a_NoNumber) "number" = some none)
    (z_len : PySem.W.nsIn K mainGlobals "len" = some none)
    (z_range : PySem.W.nsIn K mainGlobals "range" = some none)
    (z_isinstance : PySem.W.nsIn K mainGlobals "isinstance" = some none)
    (z_int : PySem.W.nsIn K mainGlobals "int" = some none)
    (z_bool : PySem.W.nsIn K mainGlobals "bool" = some none)
    (z_str : PySem.W.nsIn K mainGlobals "str" = some none)
    (z_all : PySem.W.nsIn K mainGlobals "all" = some none)
    (z_enumerate : PySem.W.nsIn K mainGlobals "enumerate" = some none)
    (z_list : PySem.W.nsIn K mainGlobals "list" = some none)
    (z_zip : PySem.W.nsIn K mainGlobals "zip" = some none)
    (z_sum : PySem.W.nsIn K mainGlobals "sum" = some none)
    (z_any : PySem.W.nsIn K mainGlobals "any" = some none)
    (z_repr : PySem.W.nsIn K mainGlobals "repr" = some none)
    (z_sorted : PySem.W.nsIn K mainGlobals "sorted" = some none)
    (z_max : PySem.W.nsIn K mainGlobals "max" = some none)
    (z_min : PySem.W.nsIn K mainGlobals "min" = some none)
    (z_IndexError : PySem.W.nsIn K mainGlobals "IndexError" = some none)
    (ciJ_IndexError : PySem.W.findCls K (.type "IndexError") (.type "type") "__init__" = some (.val (.builtin "IndexError.__init__")))
    (na_Heads_told : PySem.W.findIn K (.ref a_Heads) "told" = some none)
    (na_Heads_own_width : PySem.W.findIn K (.ref a_Heads) "own_width" = some none)
    (hem_NoHead_NoNumber : PySem.W.exmOne K (.ref a_NoHead) (.ref a_NoNumber) = some false)
    (hem_NoNumber_NoNumber : PySem.W.exmOne K (.ref a_NoNumber) (.ref a_NoNumber) = some true)
    (e1_NoHead : PySem.W.findIn K (.ref a_NoHead) "__getattribute__" = some (some (.builtin "BaseException.__getattribute__")))
    (e2_NoHead : PySem.W.findIn K (.ref a_NoHead) "__getattr__" = some none)
    (e3_NoHead : PySem.W.subIn K (.ref a_NoHead) (.type "BaseException") = some true)
    (e4_NoHead : PySem.W.hasDictIn K a_NoHead = true)
    (e5_NoHead : PySem.W.findIn K (.ref a_NoHead) "__class__" = some (some (.builtin "object.__class__")))
    (e6_NoHead : PySem.W.specialIn K (.builtin "object.__class__") "__get__" = some (some (.builtin "getset_descriptor.__get__")))
    (e7_NoHead : PySem.W.takesIn K (.builtin "object.__class__") = some true)
    (e8_NoHead : PySem.W.mroIn K a_NoHead (.type "object") = some true)
    (hki_NoHead_HeadError : PySem.W.kitOne K (.ref a_NoHead) (.ref a_HeadError) = some true)
    (e1_NoNumber : PySem.W.findIn K (.ref a_NoNumber) "__getattribute__" = some (some (.builtin "BaseException.__getattribute__")))
    (e2_NoNumber : PySem.W.findIn K (.ref a_NoNumber) "__getattr__" = some none)
    (e3_NoNumber : PySem.W.subIn K (.ref a_NoNumber) (.type "BaseException") = some true)
    (e4_NoNumber : PySem.W.hasDictIn K a_NoNumber = true)
    (e5_NoNumber : PySem.W.findIn K (.ref a_NoNumber) "__class__" = some (some (.builtin "object.__class__")))
    (e6_NoNumber : PySem.W.specialIn K (.builtin "object.__class__") "__get__" = some (some (.builtin "getset_descriptor.__get__")))
    (e7_NoNumber : PySem.W.takesIn K (.builtin "object.__class__") = some true)
    (e8_NoNumber : PySem.W.mroIn K a_NoNumber (.type "object") = some true)
    (hki_NoNumber_HeadError : PySem.W.kitOne K (.ref a_NoNumber) (.ref a_HeadError) = some false)
    (hki_NoHead_IndexError : PySem.W.kitOne K (.ref a_NoHead) (.type "IndexError") = some false)
    (hki_NoNumber_IndexError : PySem.W.kitOne K (.ref a_NoNumber) (.type "IndexError") = some true)
    (exf_NoNumber : xfB K a_NoNumber = true)
    (hna_NoNumber_number : PySem.W.findIn K (.ref a_NoNumber) "number" = some none)
    (hem_NoHead_NoHead : PySem.W.exmOne K (.ref a_NoHead) (.ref a_NoHead) = some true)
    (hem_NoNumber_NoHead : PySem.W.exmOne K (.ref a_NoNumber) (.ref a_NoHead) = some false)
    (hka_NoHead_NoPattern_NoPatterns : PySem.W.kitAny K (.ref a_NoHead) [(.ref a_NoPattern), (.ref a_NoPatterns)] = some false)
    (hka_NoNumber_NoPattern_NoPatterns : PySem.W.kitAny K (.ref a_NoNumber) [(.ref a_NoPattern), (.ref a_NoPatterns)] = some false)
    (hki_NoHead_ValueError : PySem.W.kitOne K (.ref a_NoHead) (.type "ValueError") = some true)
    (hki_NoNumber_ValueError : PySem.W.kitOne K (.ref a_NoNumber) (.type "ValueError") = some false)
    (z_ValueError : PySem.W.nsIn K mainGlobals "ValueError" = some none)
    (xx_NoHead : PySem.W.excIn K a_NoHead [.type "ValueError", .type "Exception", .type "BaseException", .type "object"] "ValueError.__new__" = true)
    (xk_NoHead : PySem.W.keepIn K (.ref a_NoHead) = true)
    (xb_NoHead : PySem.W.subIn K (.ref a_NoHead) (.type "BaseException") = some true)
    (xt_NoHead : PySem.W.typeIn K (.ref a_NoHead) = some (.type "type"))
    {t_MOST_WIDTH : Tok} (v_MOST_WIDTH : PySem.W.nsIn K mainGlobals "MOST_WIDTH" = some (some (.int 16 t_MOST_WIDTH)))
    {t_STAR : Tok} (v_STAR : PySem.W.nsIn K mainGlobals "STAR" = some (some (.str ⟨[42].toArray⟩ t_STAR)))
    {t_WIDE : Tok} (v_WIDE : PySem.W.nsIn K mainGlobals "WIDE" = some (some (.int 16 t_WIDE)))
    {tc__law_small tP__law_small : Addr} (tb__law_small : PySem.W.tabIn K "_law_small" = some (tc__law_small, tP__law_small)) (nt__law_small : K.lookup tP__law_small = none) (hcd__law_small : cd__law_small = .ref tc__law_small)
    : ∃ (cs : List (Str × Addr × Addr)) (fd : FuncData), (∀ p ∈ cs, p.1 ∈ (["_law_small"] : List Str) ∧ PySem.W.tabIn K p.1 = some p.2 ∧ K.lookup p.2.2 = none) ∧ (∀ (s : Shared) (v : Value), BindsTo s fd ⟨[v], []⟩ [("_law_script", v)]) ∧ ∀ base : Heap, K.In base → base.Ns mainGlobals mg → (∀ p ∈ cs, LamX.TabB base mg p.2.1 p.2.2) → FnG l.prog w K mg base 30 fa fd ["_law_script"] (spLawT K (cs.map (·.2.2))) := by
  have e := hfa.symm.trans (PySem.W.mg_of X G a_law)
  cases e
  have T : Txt w K mg ⟨K, clT [("Heads", a_Heads), ("NoNumber", a_NoNumber), ("NoHead", a_NoHead), ("HeadError", a_HeadError), ("NoPattern", a_NoPattern), ("NoPatterns", a_NoPatterns)], okT ["Heads"]⟩ := ⟨rfl, (okT_cons (ob_mk ⟨oc1_Heads, oc2_Heads, oc3_Heads, oc4_Heads⟩ oh1_Heads oh2_Heads oh3_Heads oh5_Heads ot_int_Heads ot_bool_Heads ot_str_Heads ot_list_Heads ot_tuple_Heads ot_dict_Heads) okT_nil), PySem.W.mg_none_of X G z_len, PySem.W.mg_none_of X G z_range, PySem.W.mg_none_of X G z_isinstance, PySem.W.mg_none_of X G z_int, PySem.W.mg_none_of X G z_bool, PySem.W.mg_none_of X G z_str, PySem.W.mg_none_of X G z_all, PySem.W.mg_none_of X G z_enumerate, PySem.W.mg_none_of X G z_list, PySem.W.mg_none_of X G z_zip, PySem.W.mg_none_of X G z_sum, PySem.W.mg_none_of X G z_any, PySem.W.mg_none_of X G z_repr, PySem.W.mg_none_of X G z_sorted, PySem.W.mg_none_of X G z_max, PySem.W.mg_none_of X G z_min, PySem.W.mg_none_of X G z_IndexError, ciJ_IndexError, na_Heads_told, na_Heads_own_width, PySem.W.mg_of X G ag_NoNumber, hem_NoHead_NoNumber, hem_NoNumber_NoNumber, ⟨e1_NoHead, e2_NoHead, e3_NoHead, e4_NoHead, e5_NoHead, e6_NoHead, e7_NoHead, e8_NoHead⟩, hki_NoHead_HeadError, ⟨e1_NoNumber, e2_NoNumber, e3_NoNumber, e4_NoNumber, e5_NoNumber, e6_NoNumber, e7_NoNumber, e8_NoNumber⟩, hki_NoNumber_HeadError, PySem.W.mg_of X G ag_HeadError, hki_NoHead_IndexError, hki_NoNumber_IndexError, xfB_ok exf_NoNumber, hna_NoNumber_number, PySem.W.mg_of X G ag_NoHead, hem_NoHead_NoHead, hem_NoNumber_NoHead, hka_NoHead_NoPattern_NoPatterns, hka_NoNumber_NoPattern_NoPatterns, PySem.W.mg_of X G ag_NoPatterns, PySem.W.mg_of X G ag_NoPattern, hki_NoHead_ValueError, hki_NoNumber_ValueError, PySem.W.mg_none_of X G z_ValueError, okT_mem rfl, ⟨PySem.W.mg_of X G ag_NoHead, xx_NoHead, xk_NoHead, xb_NoHead, xt_NoHead⟩, ⟨_, PySem.W.mg_of X G v_MOST_WIDTH⟩, ⟨_, PySem.W.mg_of X G v_STAR⟩, ⟨_, PySem.W.mg_of X G v_WIDE⟩⟩
  have F__law_cell_at := fun_mk (st := s__law_cell_at) l__law_cell_at c__law_cell_at k__law_cell_at
  have b__law_cell_at := F__law_cell_at.binds (ps := ["_law_script", "_law_k"]) fun _ _ _ _ _ _ us hl => match us, hl with | [_, _], _ => rfl
  have F__law_pool := fun_mk (st := s__law_pool) l__law_pool c__law_pool k__law_pool
  have b__law_pool := F__law_pool.binds (ps := ["_law_script", "_law_k"]) fun _ _ _ _ _ _ us hl => match us, hl with | [_, _], _ => rfl
  have F__law_take := fun_mk (st := s__law_take) l__law_take c__law_take k__law_take
  have b__law_take := F__law_take.binds (ps := ["_law_pool_here", "_law_many"]) fun _ _ _ _ _ _ us hl => match us, hl with | [_, _], _ => rfl
  have F__law_text := fun_mk (st := s__law_text) l__law_text c__law_text k__law_text
  have b__law_text := F__law_text.binds (ps := ["_law_pool_here", "_law_width", "_law_signs"]) fun _ _ _ _ _ _ us hl => match us, hl with | [_, _, _], _ => rfl
  have F__law_pattern := fun_mk (st := s__law_pattern) l__law_pattern c__law_pattern k__law_pattern
  have b__law_pattern := F__law_pattern.binds (ps := ["_law_pool_here", "_law_width"]) fun _ _ _ _ _ _ us hl => match us, hl with | [_, _], _ => rfl
  have F__law_patterns := fun_mk (st := s__law_patterns) l__law_patterns c__law_patterns k__law_patterns
  have b__law_patterns := F__law_patterns.binds (ps := ["_law_pool_here", "_law_width"]) fun _ _ _ _ _ _ us hl => match us, hl with | [_, _], _ => rfl
  have F__law_heads := fun_mk (st := s__law_heads) l__law_heads c__law_heads k__law_heads
  have b__law_heads := F__law_heads.binds (ps := ["_law_width"]) fun _ _ _ _ _ _ us hl => match us, hl with | [_], _ => rfl
  have F__law_fits := fun_mk (st := s__law_fits) l__law_fits c__law_fits k__law_fits
  have b__law_fits := F__law_fits.binds (ps := ["_law_pattern_here", "_law_head"]) fun _ _ _ _ _ _ us hl => match us, hl with | [_, _], _ => rfl
  have F__law_of := fun_mk (st := s__law_of) l__law_of c__law_of k__law_of
  have b__law_of := F__law_of.binds (ps := ["_law_width", "_law_patterns_here"]) fun _ _ _ _ _ _ us hl => match us, hl with | [_, _], _ => rfl
  have F_behind := fun_mk (st := s_behind) l_behind c_behind k_behind
  have b_behind := F_behind.binds (ps := ["noughts", "ones"]) fun _ _ _ _ _ _ us hl => match us, hl with | [_, _], _ => rfl
  have F_rests := fun_mk (st := s_rests) l_rests c_rests k_rests
  have b_rests := F_rests.binds (ps := ["patterns", "sign"]) fun _ _ _ _ _ _ us hl => match us, hl with | [_, _], _ => rfl
  have F_told_patterns := fun_mk (st := s_told_patterns) l_told_patterns c_told_patterns k_told_patterns
  have b_told_patterns := F_told_patterns.binds (ps := ["width", "patterns"]) fun _ _ _ _ _ _ us hl => match us, hl with | [_, _], _ => rfl
  have F_is_whole := fun_mk (st := s_is_whole) l_is_whole c_is_whole k_is_whole
  have b_is_whole := F_is_whole.binds (ps := ["thing"]) fun _ _ _ _ _ _ us hl => match us, hl with | [_], _ => rfl
  have F_is_width := fun_mk (st := s_is_width) l_is_width c_is_width k_is_width
  have b_is_width := F_is_width.binds (ps := ["thing"]) fun _ _ _ _ _ _ us hl => match us, hl with | [_], _ => rfl
  have F_is_of := fun_mk (st := s_is_of) l_is_of c_is_of k_is_of
  have b_is_of := F_is_of.binds (ps := ["thing", "width", "signs"]) fun _ _ _ _ _ _ us hl => match us, hl with | [_, _, _], _ => rfl
  have F_is_pattern := fun_mk (st := s_is_pattern) l_is_pattern c_is_pattern k_is_pattern
  have b_is_pattern := F_is_pattern.binds (ps := ["thing", "width"]) fun _ _ _ _ _ _ us hl => match us, hl with | [_, _], _ => rfl
  have F_Heads___init__ := funE_mk (st := s_Heads___init__) (dvs := [V.int 16, V.non]) l_Heads___init__ c_Heads___init__ k_Heads___init__ lT_Heads___init__ (.cons ⟨_, rfl⟩ (.cons rfl .nil)) (by simp)
  have b_Heads___init__ := binds_nil (F_Heads___init__.some (ps := ["self", "width", "patterns"]) 3 2 (by simp) rfl fun _ _ _ _ _ _ _ us its hl h2 => match us, hl, its, h2 with | [_, _, _], _, [_, _], _ => ⟨_, rfl, rfl⟩)
  have F__law_kind := fun_mk (st := s__law_kind) l__law_kind c__law_kind k__law_kind
  have b__law_kind := F__law_kind.binds (ps := ["_law_call"]) fun _ _ _ _ _ _ us hl => match us, hl with | [_], _ => rfl
  have F_many_of := fun_mk (st := s_many_of) l_many_of c_many_of k_many_of
  have b_many_of := F_many_of.binds (ps := ["pattern"]) fun _ _ _ _ _ _ us hl => match us, hl with | [_], _ => rfl
  have F_fits := fun_mk (st := s_fits) l_fits c_fits k_fits
  have b_fits := F_fits.binds (ps := ["pattern", "head"]) fun _ _ _ _ _ _ us hl => match us, hl with | [_, _], _ => rfl
  have F_Heads_first_below := fun_mk (st := s_Heads_first_below) l_Heads_first_below c_Heads_first_below k_Heads_first_below
  have b_Heads_first_below := F_Heads_first_below.binds (ps := ["self", "beginning"]) fun _ _ _ _ _ _ us hl => match us, hl with | [_, _], _ => rfl
  have F_Heads_how_many := fun_mk (st := s_Heads_how_many) l_Heads_how_many c_Heads_how_many k_Heads_how_many
  have b_Heads_how_many := F_Heads_how_many.binds (ps := ["self"]) fun _ _ _ _ _ _ us hl => match us, hl with | [_], _ => rfl
  have F_Heads___len__ := fun_mk (st := s_Heads___len__) l_Heads___len__ c_Heads___len__ k_Heads___len__
  have b_Heads___len__ := F_Heads___len__.binds (ps := ["self"]) fun _ _ _ _ _ _ us hl => match us, hl with | [_], _ => rfl
  have F_Heads_head_at := funE_mk (st := s_Heads_head_at) (dvs := [V.int 0]) l_Heads_head_at c_Heads_head_at k_Heads_head_at lT_Heads_head_at (.cons ⟨_, rfl⟩ .nil) (by simp)
  have b_Heads_head_at := binds_nil (F_Heads_head_at.some (ps := ["self", "number"]) 2 1 (by simp) rfl fun _ _ _ _ _ _ _ us its hl h2 => match us, hl, its, h2 with | [_, _], _, [_], _ => ⟨_, rfl, rfl⟩)
  have b1_Heads_head_at := F_Heads_head_at.some (ps := ["self", "number"]) 1 0 (by simp) rfl fun _ _ _ _ _ _ _ us its hl h2 => match us, hl, its, h2 with | [_], _, [_], _ => ⟨_, rfl, rfl⟩
  have F_is_head := fun_mk (st := s_is_head) l_is_head c_is_head k_is_head
  have b_is_head := F_is_head.binds (ps := ["thing", "width"]) fun _ _ _ _ _ _ us hl => match us, hl with | [_, _], _ => rfl
  have F_Heads_holds := fun_mk (st := s_Heads_holds) l_Heads_holds c_Heads_holds k_Heads_holds
  have b_Heads_holds := F_Heads_holds.binds (ps := ["self", "head"]) fun _ _ _ _ _ _ us hl => match us, hl with | [_, _], _ => rfl
  have F_Heads_number_of := fun_mk (st := s_Heads_number_of) l_Heads_number_of c_Heads_number_of k_Heads_number_of
  have b_Heads_number_of := F_Heads_number_of.binds (ps := ["self", "head"]) fun _ _ _ _ _ _ us hl => match us, hl with | [_, _], _ => rfl
  have F__law_small := fun_mk (st := s__law_small) l__law_small c__law_small k__law_small
  have b__law_small := F__law_small.binds (ps := ["_law_pool_here"]) fun _ _ _ _ _ _ us hl => match us, hl with | [_], _ => rfl
  have F__law_least := fun_mk (st := s__law_least) l__law_least c__law_least k__law_least
  have b__law_least := F__law_least.binds (ps := ["_law_patterns_here"]) fun _ _ _ _ _ _ us hl => match us, hl with | [_], _ => rfl
  have F__law_great := fun_mk (st := s__law_great) l__law_great c__law_great k__law_great
  have b__law_great := F__law_great.binds (ps := ["_law_pool_here"]) fun _ _ _ _ _ _ us hl => match us, hl with | [_], _ => rfl
  have F_law := fun_mk (st := s_law) l_law c_law k_law
  have F_FNoNumber := fun_mk (st := s_FNoNumber) l_FNoNumber c_FNoNumber k_FNoNumber
  have b_FNoNumber := F_FNoNumber.binds (ps := ["self", "number"]) fun _ _ _ _ _ _ us hl => match us, hl with | [_, _], _ => rfl
  refine ⟨[("_law_small", tc__law_small, tP__law_small)], PySem.W.fnOf "law" "law" (defArgs s_law) (defBody s_law) (defScope s_law) .none kV_law dc_law pm_law an_law cd_law ct_law, ?_, fun s v => .of_eq rfl, fun base _ _ TB => ?_⟩
  · intro p hp
    simp only [List.mem_cons, List.not_mem_nil, or_false] at hp
    rcases hp with rfl
    · exact ⟨by simp, tb__law_small, nt__law_small⟩
  letI : Tbs := { T := tbOf [("_law_small", tc__law_small, tP__law_small)] }
  have B__law_small := lamB_mk (mg := mg) (base := base) (cs := [("_law_small", tc__law_small, tP__law_small)]) (x := "_law_small") (c := tc__law_small) (P := tP__law_small) rfl (by simp) TB hcd__law_small (by
    intro p hp e
    simp only [List.mem_cons, List.not_mem_nil, or_false] at hp
    rcases hp with rfl
    · rfl)
  have X_NoNumber : ExcJ l.prog w K mg base ⟨K, clT [("Heads", a_Heads), ("NoNumber", a_NoNumber), ("NoHead", a_NoHead), ("HeadError", a_HeadError), ("NoPattern", a_NoPattern), ("NoPatterns", a_NoPatterns)], okT ["Heads"]⟩ "NoNumber" "number" := ⟨PySem.W.mg_of X G ag_NoNumber, ⟨oexJn_cls hox_NoNumber, hsa_NoNumber, hex_NoNumber, hty_NoNumber, hkc_NoNumber⟩, hnf0_NoNumber, ⟨f_FNoNumber, _, _, a_FNoNumber, i_FNoNumber, fi_NoNumber T F_FNoNumber, b_FNoNumber⟩⟩
  have C__law_cell_at := ok__law_cell_at (P := l.prog) (w := w) (base := base) T  F__law_cell_at (PySem.W.mg_of X G a__law_cell_at) b__law_cell_at
  have C__law_pool := ok__law_pool (P := l.prog) (w := w) (base := base) T C__law_cell_at F__law_pool (PySem.W.mg_of X G a__law_pool) b__law_pool
  have C__law_take := ok__law_take (P := l.prog) (w := w) (base := base) T  F__law_take (PySem.W.mg_of X G a__law_take) b__law_take
  have C__law_text := ok__law_text (P := l.prog) (w := w) (base := base) T C__law_take F__law_text (PySem.W.mg_of X G a__law_text) b__law_text
  have C__law_pattern := ok__law_pattern (P := l.prog) (w := w) (base := base) T C__law_text C__law_take F__law_pattern (PySem.W.mg_of X G a__law_pattern) b__law_pattern
  have C__law_patterns := ok__law_patterns (P := l.prog) (w := w) (base := base) T C__law_pattern C__law_take F__law_patterns (PySem.W.mg_of X G a__law_patterns) b__law_patterns
  have C__law_heads := ok__law_heads (P := l.prog) (w := w) (base := base) T  F__law_heads (PySem.W.mg_of X G a__law_heads) b__law_heads
  have C__law_fits := ok__law_fits (P := l.prog) (w := w) (base := base) T  F__law_fits (PySem.W.mg_of X G a__law_fits) b__law_fits
  have C__law_of := ok__law_of (P := l.prog) (w := w) (base := base) T C__law_heads C__law_fits F__law_of (PySem.W.mg_of X G a__law_of) b__law_of
  have C_behind := ok_behind (P := l.prog) (w := w) (base := base) T  F_behind (PySem.W.mg_of X G a_behind) b_behind
  have C_rests := ok_rests (P := l.prog) (w := w) (base := base) T  F_rests (PySem.W.mg_of X G a_rests) b_rests
  have C_told_patterns := ok_told_patterns (P := l.prog) (w := w) (base := base) T C_behind C_rests F_told_patterns (PySem.W.mg_of X G a_told_patterns) b_told_patterns
  have C_is_whole := ok_is_whole (P := l.prog) (w := w) (base := base) T  F_is_whole (PySem.W.mg_of X G a_is_whole) b_is_whole
  have C_is_width := ok_is_width (P := l.prog) (w := w) (base := base) T C_is_whole F_is_width (PySem.W.mg_of X G a_is_width) b_is_width
  have C_is_of := ok_is_of (P := l.prog) (w := w) (base := base) T  F_is_of (PySem.W.mg_of X G a_is_of) b_is_of
  have C_is_pattern := ok_is_pattern (P := l.prog) (w := w) (base := base) T C_is_of F_is_pattern (PySem.W.mg_of X G a_is_pattern) b_is_pattern
  have G_Heads___init__ := fn_Heads___init__ (P := l.prog) (w := w) (base := base) T C_told_patterns C_is_width C_is_pattern F_Heads___init__
  have C_Heads___init__ := mk_make (cm := ⟨K, clT [("Heads", a_Heads), ("NoNumber", a_NoNumber), ("NoHead", a_NoHead), ("HeadError", a_HeadError), ("NoPattern", a_NoPattern), ("NoPatterns", a_NoPatterns)], okT ["Heads"]⟩) (c := "Heads") G_Heads___init__ ⟨mk_Heads, a_Heads___init__, i_Heads___init__, kc_Heads⟩ (PySem.W.mg_of X G ag_Heads) b_Heads___init__
  have C__law_kind := ok__law_kind (P := l.prog) (w := w) (base := base) T  F__law_kind (PySem.W.mg_of X G a__law_kind) b__law_kind
  have C_many_of := ok_many_of (P := l.prog) (w := w) (base := base) T  F_many_of (PySem.W.mg_of X G a_many_of) b_many_of
  have C_fits := ok_fits (P := l.prog) (w := w) (base := base) T  F_fits (PySem.W.mg_of X G a_fits) b_fits
  have G_Heads_first_below := fn_Heads_first_below (P := l.prog) (w := w) (base := base) T C_many_of C_fits (toE F_Heads_first_below)
  have C_Heads_first_below := mk_meth (cm := ⟨K, clT [("Heads", a_Heads), ("NoNumber", a_NoNumber), ("NoHead", a_NoHead), ("HeadError", a_HeadError), ("NoPattern", a_NoPattern), ("NoPatterns", a_NoPatterns)], okT ["Heads"]⟩) (c := "Heads") (m := "first_below") G_Heads_first_below ⟨a_Heads_first_below, i_Heads_first_below, k_Heads_first_below⟩ b_Heads_first_below
  have G_Heads_how_many := fn_Heads_how_many (P := l.prog) (w := w) (base := base) T C_many_of (toE F_Heads_how_many)
  have C_Heads_how_many := mk_meth (cm := ⟨K, clT [("Heads", a_Heads), ("NoNumber", a_NoNumber), ("NoHead", a_NoHead), ("HeadError", a_HeadError), ("NoPattern", a_NoPattern), ("NoPatterns", a_NoPatterns)], okT ["Heads"]⟩) (c := "Heads") (m := "how_many") G_Heads_how_many ⟨a_Heads_how_many, i_Heads_how_many, k_Heads_how_many⟩ b_Heads_how_many
  have G_Heads___len__ := fn_Heads___len__ (P := l.prog) (w := w) (base := base) T C_Heads_how_many (toE F_Heads___len__)
  have C_Heads___len__ := mk_meth (cm := ⟨K, clT [("Heads", a_Heads), ("NoNumber", a_NoNumber), ("NoHead", a_NoHead), ("HeadError", a_HeadError), ("NoPattern", a_NoPattern), ("NoPatterns", a_NoPatterns)], okT ["Heads"]⟩) (c := "Heads") (m := "__len__") G_Heads___len__ ⟨a_Heads___len__, i_Heads___len__, k_Heads___len__⟩ b_Heads___len__
  have G_Heads_head_at := fn_Heads_head_at (P := l.prog) (w := w) (base := base) T X_NoNumber C_Heads_first_below C_is_whole C_Heads___len__ F_Heads_head_at
  have C_Heads_head_at := mk_meth (cm := ⟨K, clT [("Heads", a_Heads), ("NoNumber", a_NoNumber), ("NoHead", a_NoHead), ("HeadError", a_HeadError), ("NoPattern", a_NoPattern), ("NoPatterns", a_NoPatterns)], okT ["Heads"]⟩) (c := "Heads") (m := "head_at") G_Heads_head_at ⟨a_Heads_head_at, i_Heads_head_at, k_Heads_head_at⟩ b_Heads_head_at
  have C_Heads_head_at_d1 := mk_methD (cm := ⟨K, clT [("Heads", a_Heads), ("NoNumber", a_NoNumber), ("NoHead", a_NoHead), ("HeadError", a_HeadError), ("NoPattern", a_NoPattern), ("NoPatterns", a_NoPatterns)], okT ["Heads"]⟩) (c := "Heads") (m := "head_at") G_Heads_head_at ⟨a_Heads_head_at, i_Heads_head_at, k_Heads_head_at⟩ b1_Heads_head_at fun W H => ((.cons (fp := []) (.int _) .nil) : Reps _ W H [V.int 0] [.int 0] [])
  have C_is_head := ok_is_head (P := l.prog) (w := w) (base := base) T C_is_of F_is_head (PySem.W.mg_of X G a_is_head) b_is_head
  have G_Heads_holds := fn_Heads_holds (P := l.prog) (w := w) (base := base) T C_is_head C_fits (toE F_Heads_holds)
  have C_Heads_holds := mk_meth (cm := ⟨K, clT [("Heads", a_Heads), ("NoNumber", a_NoNumber), ("NoHead", a_NoHead), ("HeadError", a_HeadError), ("NoPattern", a_NoPattern), ("NoPatterns", a_NoPatterns)], okT ["Heads"]⟩) (c := "Heads") (m := "holds") G_Heads_holds ⟨a_Heads_holds, i_Heads_holds, k_Heads_holds⟩ b_Heads_holds
  have G_Heads_number_of := fn_Heads_number_of (P := l.prog) (w := w) (base := base) T C_Heads_holds C_Heads_first_below (toE F_Heads_number_of)
  have C_Heads_number_of := mk_meth (cm := ⟨K, clT [("Heads", a_Heads), ("NoNumber", a_NoNumber), ("NoHead", a_NoHead), ("HeadError", a_HeadError), ("NoPattern", a_NoPattern), ("NoPatterns", a_NoPatterns)], okT ["Heads"]⟩) (c := "Heads") (m := "number_of") G_Heads_number_of ⟨a_Heads_number_of, i_Heads_number_of, k_Heads_number_of⟩ b_Heads_number_of
  have C__law_small := ok__law_small (P := l.prog) (w := w) (base := base) T C__law_patterns C__law_of C_Heads___init__ C__law_take C__law_kind C_Heads_head_at_d1 C_Heads_head_at C_Heads_number_of C__law_heads C_Heads_holds F__law_small B__law_small (PySem.W.mg_of X G a__law_small) b__law_small
  have C__law_least := ok__law_least (P := l.prog) (w := w) (base := base) T  F__law_least (PySem.W.mg_of X G a__law_least) b__law_least
  have C__law_great := ok__law_great (P := l.prog) (w := w) (base := base) T C_Heads___init__ C_Heads___len__ C__law_least C__law_take C__law_text C_Heads_head_at C_Heads_number_of C__law_fits F__law_great (PySem.W.mg_of X G a__law_great) b__law_great
  exact (fn_law T C__law_pool C__law_small C__law_great F_law).imp (sp_lawT (cm := ⟨K, clT [("Heads", a_Heads), ("NoNumber", a_NoNumber), ("NoHead", a_NoHead), ("HeadError", a_HeadError), ("NoPattern", a_NoPattern), ("NoPatterns", a_NoPatterns)], okT ["Heads"]⟩) hlaw (fun p hp => by obtain ⟨q, h1, rfl⟩ := List.mem_map.mp hp; exact List.mem_map.mpr ⟨q, h1, rfl⟩))
end My
open PySem PySem.W PyProof.Rows
set_option maxRecDepth 100000 in
set_option maxHeartbeats 0 in
theorem PySem.Challenge.cw_everyhead_k07_heads_numbered_holds : PySem.Challenge.rw_everyhead_k07_heads_numbered.Holds := by
  w_on; o_law; k_head; (case hw => w_witness2)
  k_fill
  refine DL.walk_lawT (l := PySem.Challenge.rw_everyhead_k07_heads_numbered) (k := 30) (x := "_law_script") ["_law_small"] (by decide) rfl rfl (by decide +kernel) (fun w h Y => PySem.W.km_in_of Y) ?F
  case F =>
    intro w mg fa h KX G hmg
    refine' My.all_mk My.law_holds KX G hmg ?ag_Heads ?ag_NoNumber ?ag_NoHead ?ag_HeadError ?ag_NoPattern ?ag_NoPatterns ?oc1_Heads ?oc2_Heads ?oc3_Heads ?oc4_Heads ?oh1_Heads ?oh2_Heads ?oh3_Heads ?oh5_Heads ?ot_int_Heads ?ot_bool_Heads ?ot_str_Heads ?ot_list_Heads ?ot_tuple_Heads ?ot_dict_Heads ?mk_Heads ?kc_Heads ?a__law_cell_at ?l__law_cell_at ?c__law_cell_at ?k__law_cell_at ?a__law_pool ?l__law_pool ?c__law_pool ?k__law_pool ?a__law_take ?l__law_take ?c__law_take ?k__law_take ?a__law_text ?l__law_text ?c__law_text ?k__law_text ?a__law_pattern ?l__law_pattern ?c__law_pattern ?k__law_pattern ?a__law_patterns ?l__law_patterns ?c__law_patterns ?k__law_patterns ?a__law_heads ?l__law_heads ?c__law_heads ?k__law_heads ?a__law_fits ?l__law_fits ?c__law_fits ?k__law_fits ?a__law_of ?l__law_of ?c__law_of ?k__law_of ?a_behind ?l_behind ?c_behind ?k_behind ?a_rests ?l_rests ?c_rests ?k_rests ?a_told_patterns ?l_told_patterns ?c_told_patterns ?k_told_patterns ?a_is_whole ?l_is_whole ?c_is_whole ?k_is_whole ?a_is_width ?l_is_width ?c_is_width ?k_is_width ?a_is_of ?l_is_of ?c_is_of ?k_is_of ?a_is_pattern ?l_is_pattern ?c_is_pattern ?k_is_pattern ?a_Heads___init__ ?i_Heads___init__ ?l_Heads___init__ ?c_Heads___init__ ?k_Heads___init__ ?lT_Heads___init__ ?a__law_kind ?l__law_kind ?c__law_kind ?k__law_kind ?a_many_of ?l_many_of ?c_many_of ?k_many_of ?a_fits ?l_fits ?c_fits ?k_fits ?a_Heads_first_below ?i_Heads_first_below ?l_Heads_first_below ?c_Heads_first_below ?k_Heads_first_below ?a_Heads_how_many ?i_Heads_how_many ?l_Heads_how_many ?c_Heads_how_many ?k_Heads_how_many ?a_Heads___len__ ?i_Heads___len__ ?l_Heads___len__ ?c_Heads___len__ ?k_Heads___len__ ?a_Heads_head_at ?i_Heads_head_at ?l_Heads_head_at ?c_Heads_head_at ?k_Heads_head_at ?lT_Heads_head_at ?a_is_head ?l_is_head ?c_is_head ?k_is_head ?a_Heads_holds ?i_Heads_holds ?l_Heads_holds ?c_Heads_holds ?k_Heads_holds ?a_Heads_number_of ?i_Heads_number_of ?l_Heads_number_of ?c_Heads_number_of ?k_Heads_number_of ?a__law_small ?l__law_small ?c__law_small ?k__law_small ?a__law_least ?l__law_least ?c__law_least ?k__law_least ?a__law_great ?l__law_great ?c__law_great ?k__law_great ?a_law ?l_law ?c_law ?k_law ?a_FNoNumber ?i_FNoNumber ?l_FNoNumber ?c_FNoNumber ?k_FNoNumber ?hox_NoNumber ?hsa_NoNumber ?hex_NoNumber ?hty_NoNumber ?hkc_NoNumber ?hnf0_NoNumber ?z_len ?z_range ?z_isinstance ?z_int ?z_bool ?z_str ?z_all ?z_enumerate ?z_list ?z_zip ?z_sum ?z_any ?z_repr ?z_sorted ?z_max ?z_min ?z_IndexError ?ciJ_IndexError ?na_Heads_told ?na_Heads_own_width ?hem_NoHead_NoNumber ?hem_NoNumber_NoNumber ?e1_NoHead ?e2_NoHead ?e3_NoHead ?e4_NoHead ?e5_NoHead ?e6_NoHead ?e7_NoHead ?e8_NoHead ?hki_NoHead_HeadError ?e1_NoNumber ?e2_NoNumber ?e3_NoNumber ?e4_NoNumber ?e5_NoNumber ?e6_NoNumber ?e7_NoNumber ?e8_NoNumber ?hki_NoNumber_HeadError ?hki_NoHead_IndexError ?hki_NoNumber_IndexError ?exf_NoNumber ?hna_NoNumber_number ?hem_NoHead_NoHead ?hem_NoNumber_NoHead ?hka_NoHead_NoPattern_NoPatterns ?hka_NoNumber_NoPattern_NoPatterns ?hki_NoHead_ValueError ?hki_NoNumber_ValueError ?z_ValueError ?xx_NoHead ?xk_NoHead ?xb_NoHead ?xt_NoHead ?v_MOST_WIDTH ?v_STAR ?v_WIDE ?tb__law_small ?nt__law_small ?hcd__law_small
    (case ag_Heads => k_is)
    (case ag_NoNumber => k_is)
    (case ag_NoHead => k_is)
    (case ag_HeadError => k_is)
    (case ag_NoPattern => k_is)
    (case ag_NoPatterns => k_is)
    (case oc1_Heads => first | k_is | rfl | decide +kernel)
    (case oc2_Heads => first | k_is | rfl | decide +kernel)
    (case oc3_Heads => first | k_is | rfl | decide +kernel)
    (case oc4_Heads => first | k_is | rfl | decide +kernel)
    (case oh1_Heads => first | k_is | rfl | decide +kernel)
    (case oh2_Heads => first | k_is | rfl | decide +kernel)
    (case oh3_Heads => first | k_is | rfl | decide +kernel)
    (case oh5_Heads => first | k_is | rfl | decide +kernel)
    (case ot_int_Heads => first | k_is | rfl | decide +kernel)
    (case ot_bool_Heads => first | k_is | rfl | decide +kernel)
    (case ot_str_Heads => first | k_is | rfl | decide +kernel)
    (case ot_list_Heads => first | k_is | rfl | decide +kernel)
    (case ot_tuple_Heads => first | k_is | rfl | decide +kernel)
    (case ot_dict_Heads => first | k_is | rfl | decide +kernel)
    (case mk_Heads => first | k_is | rfl | decide +kernel)
    (case kc_Heads => first | k_is | rfl | decide +kernel)
    (case a__law_cell_at => k_is)
    (case l__law_cell_at => k_is)
    (case c__law_cell_at => k_is)
    (case k__law_cell_at => k_is)
    (case a__law_pool => k_is)
    (case l__law_pool => k_is)
    (case c__law_pool => k_is)
    (case k__law_pool => k_is)
    (case a__law_take => k_is)
    (case l__law_take => k_is)
    (case c__law_take => k_is)
    (case k__law_take => k_is)
    (case a__law_text => k_is)
    (case l__law_text => k_is)
    (case c__law_text => k_is)
    (case k__law_text => k_is)
    (case a__law_pattern => k_is)
    (case l__law_pattern => k_is)
    (case c__law_pattern => k_is)
    (case k__law_pattern => k_is)
    (case a__law_patterns => k_is)
    (case l__law_patterns => k_is)
    (case c__law_patterns => k_is)
    (case k__law_patterns => k_is)
    (case a__law_heads => k_is)
    (case l__law_heads => k_is)
    (case c__law_heads => k_is)
    (case k__law_heads => k_is)
    (case a__law_fits => k_is)
    (case l__law_fits => k_is)
    (case c__law_fits => k_is)
    (case k__law_fits => k_is)
    (case a__law_of => k_is)
    (case l__law_of => k_is)
    (case c__law_of => k_is)
    (case k__law_of => k_is)
    (case a_behind => k_is)
    (case l_behind => k_is)
    (case c_behind => k_is)
    (case k_behind => k_is)
    (case a_rests => k_is)
    (case l_rests => k_is)
    (case c_rests => k_is)
    (case k_rests => k_is)
    (case a_told_patterns => k_is)
    (case l_told_patterns => k_is)
    (case c_told_patterns => k_is)
    (case k_told_patterns => k_is)
    (case a_is_whole => k_is)
    (case l_is_whole => k_is)
    (case c_is_whole => k_is)
    (case k_is_whole => k_is)
    (case a_is_width => k_is)
    (case l_is_width => k_is)
    (case c_is_width => k_is)
    (case k_is_width => k_is)
    (case a_is_of => k_is)
    (case l_is_of => k_is)
    (case c_is_of => k_is)
    (case k_is_of => k_is)
    (case a_is_pattern => k_is)
    (case l_is_pattern => k_is)
    (case c_is_pattern => k_is)
    (case k_is_pattern => k_is)
    (case a_Heads___init__ => k_is)
    (case i_Heads___init__ => k_is)
    (case l_Heads___init__ => k_is)
    (case c_Heads___init__ => k_is)
    (case k_Heads___init__ => k_is)
    (case lT_Heads___init__ => k_is)
    (case a__law_kind => k_is)
    (case l__law_kind => k_is)
    (case c__law_kind => k_is)
    (case k__law_kind => k_is)
    (case a_many_of => k_is)
    (case l_many_of => k_is)
    (case c_many_of => k_is)
    (case k_many_of => k_is)
    (case a_fits => k_is)
    (case l_fits => k_is)
    (case c_fits => k_is)
    (case k_fits => k_is)
    (case a_Heads_first_below => k_is)
    (case i_Heads_first_below => k_is)
    (case l_Heads_first_below => k_is)
    (case c_Heads_first_below => k_is)
    (case k_Heads_first_below => k_is)
    (case a_Heads_how_many => k_is)
    (case i_Heads_how_many => k_is)
    (case l_Heads_how_many => k_is)
    (case c_Heads_how_many => k_is)
    (case k_Heads_how_many => k_is)
    (case a_Heads___len__ => k_is)
    (case i_Heads___len__ => k_is)
    (case l_Heads___len__ => k_is)
    (case c_Heads___len__ => k_is)
    (case k_Heads___len__ => k_is)
    (case a_Heads_head_at => k_is)
    (case i_Heads_head_at => k_is)
    (case l_Heads_head_at => k_is)
    (case c_Heads_head_at => k_is)
    (case k_Heads_head_at => k_is)
    (case lT_Heads_head_at => k_is)
    (case a_is_head => k_is)
    (case l_is_head => k_is)
    (case c_is_head => k_is)
    (case k_is_head => k_is)
    (case a_Heads_holds => k_is)
    (case i_Heads_holds => k_is)
    (case l_Heads_holds => k_is)
    (case c_Heads_holds => k_is)
    (case k_Heads_holds => k_is)
    (case a_Heads_number_of => k_is)
    (case i_Heads_number_of => k_is)
    (case l_Heads_number_of => k_is)
    (case c_Heads_number_of => k_is)
    (case k_Heads_number_of => k_is)
    (case a__law_small => k_is)
    (case l__law_small => k_is)
    (case c__law_small => k_is)
    (case k__law_small => k_is)
    (case a__law_least => k_is)
    (case l__law_least => k_is)
    (case c__law_least => k_is)
    (case k__law_least => k_is)
    (case a__law_great => k_is)
    (case l__law_great => k_is)
    (case c__law_great => k_is)
    (case k__law_great => k_is)
    (case a_law => k_is)
    (case l_law => k_is)
    (case c_law => k_is)
    (case k_law => k_is)
    (case a_FNoNumber => k_is)
    (case i_FNoNumber => k_is)
    (case l_FNoNumber => k_is)
    (case c_FNoNumber => k_is)
    (case k_FNoNumber => k_is)
    (case hox_NoNumber => first | k_is | rfl | decide +kernel)
    (case hsa_NoNumber => first | k_is | rfl | decide +kernel)
    (case hex_NoNumber => first | k_is | rfl | decide +kernel)
    (case hty_NoNumber => first | k_is | rfl | decide +kernel)
    (case hkc_NoNumber => first | k_is | rfl | decide +kernel)
    (case hnf0_NoNumber => first | k_is | rfl | decide +kernel)
    (case z_len => k_is)
    (case z_range => k_is)
    (case z_isinstance => k_is)
    (case z_int => k_is)
    (case z_bool => k_is)
    (case z_str => k_is)
    (case z_all => k_is)
    (case z_enumerate => k_is)
    (case z_list => k_is)
    (case z_zip => k_is)
    (case z_sum => k_is)
    (case z_any => k_is)
    (case z_repr => k_is)
    (case z_sorted => k_is)
    (case z_max => k_is)
    (case z_min => k_is)
    (case z_IndexError => k_is)
    (case ciJ_IndexError => first | k_is | rfl | decide +kernel)
    (case na_Heads_told => k_is)
    (case na_Heads_own_width => k_is)
    (case hem_NoHead_NoNumber => first | k_is | rfl | decide +kernel)
    (case hem_NoNumber_NoNumber => first | k_is | rfl | decide +kernel)
    (case e1_NoHead => first | k_is | rfl | decide +kernel)
    (case e2_NoHead => first | k_is | rfl | decide +kernel)
    (case e3_NoHead => first | k_is | rfl | decide +kernel)
    (case e4_NoHead => first | k_is | rfl | decide +kernel)
    (case e5_NoHead => first | k_is | rfl | decide +kernel)
    (case e6_NoHead => first | k_is | rfl | decide +kernel)
    (case e7_NoHead => first | k_is | rfl | decide +kernel)
    (case e8_NoHead => first | k_is | rfl | decide +kernel)
    (case hki_NoHead_HeadError => first | k_is | rfl | decide +kernel)
    (case e1_NoNumber => first | k_is | rfl | decide +kernel)
    (case e2_NoNumber => first | k_is | rfl | decide +kernel)
    (case e3_NoNumber => first | k_is | rfl | decide +kernel)
    (case e4_NoNumber => first | k_is | rfl | decide +kernel)
    (case e5_NoNumber => first | k_is | rfl | decide +kernel)
    (case e6_NoNumber => first | k_is | rfl | decide +kernel)
    (case e7_NoNumber => first | k_is | rfl | decide +kernel)
    (case e8_NoNumber => first | k_is | rfl | decide +kernel)
    (case hki_NoNumber_HeadError => first | k_is | rfl | decide +kernel)
    (case hki_NoHead_IndexError => first | k_is | rfl | decide +kernel)
    (case hki_NoNumber_IndexError => first | k_is | rfl | decide +kernel)
    (case exf_NoNumber => first | k_is | rfl | decide +kernel)
    (case hna_NoNumber_number => first | k_is | rfl | decide +kernel)
    (case hem_NoHead_NoHead => first | k_is | rfl | decide +kernel)
    (case hem_NoNumber_NoHead => first | k_is | rfl | decide +kernel)
    (case hka_NoHead_NoPattern_NoPatterns => first | k_is | rfl | decide +kernel)
    (case hka_NoNumber_NoPattern_NoPatterns => first | k_is | rfl | decide +kernel)
    (case hki_NoHead_ValueError => first | k_is | rfl | decide +kernel)
    (case hki_NoNumber_ValueError => first | k_is | rfl | decide +kernel)
    (case z_ValueError => k_is)
    (case xx_NoHead => k_exc)
    (case xk_NoHead => first | k_is | rfl | decide +kernel)
    (case xb_NoHead => first | k_is | rfl | decide +kernel)
    (case xt_NoHead => first | k_is | rfl | decide +kernel)
    (case v_MOST_WIDTH => k_is)
    (case v_STAR => k_is)
    (case v_WIDE => k_is)
    (case tb__law_small => first | k_is | rfl | decide +kernel)
    (case nt__law_small => first | k_is | rfl | decide +kernel)
    (case hcd__law_small => first | k_is | rfl | decide +kernel)
#print axioms PySem.Challenge.cw_everyhead_k07_heads_numbered_holds

